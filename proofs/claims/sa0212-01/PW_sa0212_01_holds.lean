import PyProof.Rows.All
import Wide.All
import OpenK.KCell
import OpenK.KWalk
import OpenK.KGet
import OpenK.KOps
import OpenK.KList
import OpenK.KMeth
import OpenK.KCls
import OpenK.KTop
import OpenK.Lit
import OpenK.KDescr
import OpenK.KMake
import OpenK.KCall
import OpenK.KFacts
import OpenK.Peek
import OpenK.KMore
import OpenK.KDict
import Wide.FinOn
import Open.Boot
import Open.FastT9
import PySem.Challenge.RW_sa0212_01

set_option Elab.async false
set_option maxRecDepth 100000
set_option maxHeartbeats 80000000
set_option linter.all false
section
open PySem PySem.W PyProof.Rows
namespace Mine
noncomputable abbrev pgL : List Stmt := PySem.Challenge.rw_sa0212_01.row.prog.main.body
noncomputable def nth : List Stmt → Nat → Stmt
 | s :: _, 0 => s
 | _ :: t, n+1 => nth t n
 | [], _ => .Pass ⟨0, 0, 0, 0⟩
noncomputable def pg (i : Nat) : Stmt := nth pgL i
noncomputable def firstF : List Stmt → Stmt
 | .FunctionDef a b c d e f g h i j :: _ => .FunctionDef a b c d e f g h i j
 | _ :: t => firstF t
 | [] => .Pass ⟨0, 0, 0, 0⟩
noncomputable def mt (i : Nat) : Stmt := match pg i with
 | .ClassDef _ _ _ b _ _ _ _ _ _ _ => firstF b
 | s => s
noncomputable abbrev st (s : String) (k : Nat) : Value := .str (.ofString s) k
noncomputable def fo (s : Stmt) (name qual md : String) (tok code : Nat) : Obj := { cls := .type "function", data := match s with
 | .FunctionDef _ ps body _ _ _ sc _ _ _ => .func { name := .ofString name, qualname := .ofString qual, params := ps, body := .stmts body, scope := sc, globals := 3, closure := [], defaults := .none, kwdefaults := .none, pyModule := st md tok, code := .ref code }
 | _ => .seq #[] }
noncomputable def co (vs : Array Value) : Obj := { cls := .type "code", data := .fields vs }
noncomputable def en (P : Params) (s : String) (k : Nat) (v : Value) : DictEntry := { hash := PySem.PyData.keyHash P (.ofString s), key := st s k, val := v }
noncomputable def di (es : Array DictEntry) (n : Nat) : Obj := { cls := .type "dict", data := .dict es n }
noncomputable def K : Params → Frag := fun P => [
 (3, di #[en P "__name__" 165 (st "law_sa0212_01" 594), en P "__doc__" 166 .none, en P "__package__" 167 .none, en P "__loader__" 168 (.builtin "__main__.__loader__#opaque"), en P "__spec__" 169 .none, en P "__annotations__" 170 (.ref 6), en P "__builtins__" 171 (.ref 4), en P "__file__" 173 (st "/claim/cut.py" 172), en P "__cached__" 174 .none, en P "F77Error" 217 (.ref 31), en P "LayoutFault" 233 (.ref 44), en P "RunFault" 249 (.ref 56), en P "INTEGER" 253 (.int 0 252), en P "DOUBLE" 255 (.int 2 254), en P "COMPLEX" 257 (.int 3 256), en P "CHARACTER" 259 (.int 5 258), en P "units_of" 266 (.ref 65), en P "unit_size" 276 (.ref 72), en P "extent" 286 (.ref 79), en P "element_place" 303 (.ref 86), en P "Space" 342 (.ref 103), en P "Layout" 374 (.ref 124), en P "is_text_thing" 381 (.ref 135), en P "size_of" 393 (.ref 142), en P "thing_of" 401 (.ref 149), en P "offset_in" 414 (.ref 156), en P "class_of" 424 (.ref 163), en P "join_points" 440 (.ref 170), en P "join_commons" 456 (.ref 177), en P "join_group" 474 (.ref 184), en P "block_roots" 486 (.ref 191), en P "block_sizes" 501 (.ref 198), en P "note_blocks" 513 (.ref 205), en P "take_units" 524 (.ref 212), en P "classes_of" 537 (.ref 219), en P "put_place" 550 (.ref 226), en P "lay_class" 556 (.ref 231), en P "lay_out" 576 (.ref 238), en P "lay_unit" 593 (.ref 245), en P "_law_names" 597 (st "ABCD" 596), en P "_law_rest" 652 (.ref 246), en P "_law_dole" 662 (.ref 253), en P "_law_item" 676 (.ref 260), en P "_law_group" 682 (.ref 265), en P "_law_unit" 688 (.ref 270), en P "_law_turned" 694 (.ref 275), en P "_law_laid" 709 (.ref 282), en P "_law_told" 715 (.ref 287), en P "law" 721 (.ref 292)] 49),
 (27, co #[(st "__init__" 201), (st "F77Error.__init__" 202), (st "/claim/cut.py" 203), (.int 4 0), (.int 2 0), (.int 0 0), (.int 0 0), (.int 3 0), (.ref 22), (.bool true), (.int 181 0), (.ref 23), .none, (.ref 24), (.ref 25), (.ref 26), (.int 206 0), (.int 4 0), (st "/claim/cut.py" 207)]),
 (28, fo (mt 1) "__init__" "F77Error.__init__" "f77.errors" 187 27),
 (30, di #[en P "__module__" 196 (st "f77.errors" 187), en P "__firstlineno__" 200 (.int 2 199), en P "__init__" 208 (.ref 28), en P "__static_attributes__" 210 (.ref 29), en P "__weakref__" 212 (.ref 32), en P "__doc__" 213 .none] 3),
 (31, { cls := PySem.Value.type "type", data := PySem.Data.cls { name := PySem.Str.ofString "F77Error", bases := [PySem.Value.type "Exception"], mro := [PySem.Value.ref 31, PySem.Value.type "Exception", PySem.Value.type "BaseException", PySem.Value.type "object"], ns := 30, qualname := PySem.Str.ofString "F77Error", subclasses := [PySem.Value.ref 44, PySem.Value.ref 56] }, slots := #[some (PySem.Value.ref 15), none, some (PySem.Value.str (PySem.Str.ofString "F77Error") 189), some (PySem.Value.str (PySem.Str.ofString "F77Error") 197), some (PySem.Value.builtin "Exception.__new__"), some (PySem.Value.bool true)] }),
 (43, di #[en P "__module__" 225 (st "f77.errors" 187), en P "__firstlineno__" 229 (.int 7 228), en P "__static_attributes__" 230 (.ref 42), en P "__doc__" 231 .none] 2),
 (44, { cls := PySem.Value.type "type", data := PySem.Data.cls { name := PySem.Str.ofString "LayoutFault", bases := [PySem.Value.ref 31], mro := [PySem.Value.ref 44, PySem.Value.ref 31, PySem.Value.type "Exception", PySem.Value.type "BaseException", PySem.Value.type "object"], ns := 43, qualname := PySem.Str.ofString "LayoutFault" }, slots := #[some (PySem.Value.ref 35), none, some (PySem.Value.str (PySem.Str.ofString "LayoutFault") 218), some (PySem.Value.str (PySem.Str.ofString "LayoutFault") 226), some (PySem.Value.builtin "Exception.__new__"), some (PySem.Value.bool true)] }),
 (55, di #[en P "__module__" 241 (st "f77.errors" 187), en P "__firstlineno__" 245 (.int 9 244), en P "__static_attributes__" 246 (.ref 54), en P "__doc__" 247 .none] 2),
 (56, { cls := PySem.Value.type "type", data := PySem.Data.cls { name := PySem.Str.ofString "RunFault", bases := [PySem.Value.ref 31], mro := [PySem.Value.ref 56, PySem.Value.ref 31, PySem.Value.type "Exception", PySem.Value.type "BaseException", PySem.Value.type "object"], ns := 55, qualname := PySem.Str.ofString "RunFault" }, slots := #[some (PySem.Value.ref 47), none, some (PySem.Value.str (PySem.Str.ofString "RunFault") 234), some (PySem.Value.str (PySem.Str.ofString "RunFault") 242), some (PySem.Value.builtin "Exception.__new__"), some (PySem.Value.bool true)] }),
 (64, co #[(st "units_of" 260), (st "units_of" 261), (st "/claim/cut.py" 262), (.int 16 0), (.int 1 0), (.int 0 0), (.int 0 0), (.int 3 0), (.ref 59), (.bool true), (.int 181 0), (.ref 60), .none, (.ref 61), (.ref 62), (.ref 63), (.int 264 0), (.int 16 0), (st "/claim/cut.py" 265)]),
 (65, fo (pg 9) "units_of" "units_of" "f77.kinds" 250 64),
 (71, co #[(st "unit_size" 269), (st "unit_size" 270), (st "/claim/cut.py" 271), (.int 23 0), (.int 2 0), (.int 0 0), (.int 0 0), (.int 3 0), (.ref 66), (.bool true), (.int 181 0), (.ref 67), .none, (.ref 68), (.ref 69), (.ref 70), (.int 274 0), (.int 23 0), (st "/claim/cut.py" 275)]),
 (72, fo (pg 11) "unit_size" "unit_size" "f77.memory" 267 71),
 (78, co #[(st "extent" 277), (st "extent" 278), (st "/claim/cut.py" 279), (.int 27 0), (.int 1 0), (.int 0 0), (.int 0 0), (.int 3 0), (.ref 73), (.bool true), (.int 181 0), (.ref 74), .none, (.ref 75), (.ref 76), (.ref 77), (.int 284 0), (.int 27 0), (st "/claim/cut.py" 285)]),
 (79, fo (pg 12) "extent" "extent" "f77.memory" 267 78),
 (85, co #[(st "element_place" 287), (st "element_place" 288), (st "/claim/cut.py" 289), (.int 34 0), (.int 2 0), (.int 0 0), (.int 0 0), (.int 3 0), (.ref 80), (.bool true), (.int 181 0), (.ref 81), .none, (.ref 82), (.ref 83), (.ref 84), (.int 301 0), (.int 34 0), (st "/claim/cut.py" 302)]),
 (86, fo (pg 13) "element_place" "element_place" "f77.memory" 267 85),
 (99, co #[(st "__init__" 318), (st "Space.__init__" 319), (st "/claim/cut.py" 320), (.int 51 0), (.int 6 0), (.int 0 0), (.int 0 0), (.int 3 0), (.ref 94), (.bool true), (.int 181 0), (.ref 95), .none, (.ref 96), (.ref 97), (.ref 98), (.int 327 0), (.int 51 0), (st "/claim/cut.py" 328)]),
 (100, fo (mt 15) "__init__" "Space.__init__" "f77.layout" 304 99),
 (102, di #[en P "__module__" 313 (st "f77.layout" 304), en P "__firstlineno__" 317 (.int 49 316), en P "__init__" 329 (.ref 100), en P "__static_attributes__" 335 (.ref 101), en P "__dict__" 337 (.ref 104), en P "__weakref__" 339 (.ref 105), en P "__doc__" 340 .none] 4),
 (103, { cls := PySem.Value.type "type", data := PySem.Data.cls { name := PySem.Str.ofString "Space", bases := [PySem.Value.type "object"], mro := [PySem.Value.ref 103, PySem.Value.type "object"], ns := 102, qualname := PySem.Str.ofString "Space" }, slots := #[none, none, some (PySem.Value.str (PySem.Str.ofString "Space") 306), some (PySem.Value.str (PySem.Str.ofString "Space") 314), some (PySem.Value.builtin "object.__new__"), some (PySem.Value.bool true)] }),
 (120, co #[(st "__init__" 355), (st "Layout.__init__" 356), (st "/claim/cut.py" 357), (.int 59 0), (.int 1 0), (.int 0 0), (.int 0 0), (.int 3 0), (.ref 115), (.bool true), (.int 181 0), (.ref 116), .none, (.ref 117), (.ref 118), (.ref 119), (.int 359 0), (.int 59 0), (st "/claim/cut.py" 360)]),
 (121, fo (mt 16) "__init__" "Layout.__init__" "f77.layout" 304 120),
 (123, di #[en P "__module__" 350 (st "f77.layout" 304), en P "__firstlineno__" 354 (.int 57 353), en P "__init__" 361 (.ref 121), en P "__static_attributes__" 367 (.ref 122), en P "__dict__" 369 (.ref 125), en P "__weakref__" 371 (.ref 126), en P "__doc__" 372 .none] 4),
 (124, { cls := PySem.Value.type "type", data := PySem.Data.cls { name := PySem.Str.ofString "Layout", bases := [PySem.Value.type "object"], mro := [PySem.Value.ref 124, PySem.Value.type "object"], ns := 123, qualname := PySem.Str.ofString "Layout" }, slots := #[none, none, some (PySem.Value.str (PySem.Str.ofString "Layout") 343), some (PySem.Value.str (PySem.Str.ofString "Layout") 351), some (PySem.Value.builtin "object.__new__"), some (PySem.Value.bool true)] }),
 (134, co #[(st "is_text_thing" 375), (st "is_text_thing" 376), (st "/claim/cut.py" 377), (.int 65 0), (.int 1 0), (.int 0 0), (.int 0 0), (.int 3 0), (.ref 129), (.bool true), (.int 181 0), (.ref 130), .none, (.ref 131), (.ref 132), (.ref 133), (.int 379 0), (.int 65 0), (st "/claim/cut.py" 380)]),
 (135, fo (pg 17) "is_text_thing" "is_text_thing" "f77.layout" 304 134),
 (141, co #[(st "size_of" 382), (st "size_of" 383), (st "/claim/cut.py" 384), (.int 67 0), (.int 1 0), (.int 0 0), (.int 0 0), (.int 3 0), (.ref 136), (.bool true), (.int 181 0), (.ref 137), .none, (.ref 138), (.ref 139), (.ref 140), (.int 391 0), (.int 67 0), (st "/claim/cut.py" 392)]),
 (142, fo (pg 18) "size_of" "size_of" "f77.layout" 304 141),
 (148, co #[(st "thing_of" 394), (st "thing_of" 395), (st "/claim/cut.py" 396), (.int 73 0), (.int 2 0), (.int 0 0), (.int 0 0), (.int 3 0), (.ref 143), (.bool true), (.int 181 0), (.ref 144), .none, (.ref 145), (.ref 146), (.ref 147), (.int 399 0), (.int 73 0), (st "/claim/cut.py" 400)]),
 (149, fo (pg 19) "thing_of" "thing_of" "f77.layout" 304 148),
 (155, co #[(st "offset_in" 402), (st "offset_in" 403), (st "/claim/cut.py" 404), (.int 77 0), (.int 3 0), (.int 0 0), (.int 0 0), (.int 3 0), (.ref 150), (.bool true), (.int 181 0), (.ref 151), .none, (.ref 152), (.ref 153), (.ref 154), (.int 412 0), (.int 77 0), (st "/claim/cut.py" 413)]),
 (156, fo (pg 20) "offset_in" "offset_in" "f77.layout" 304 155),
 (162, co #[(st "class_of" 415), (st "class_of" 416), (st "/claim/cut.py" 417), (.int 90 0), (.int 2 0), (.int 0 0), (.int 0 0), (.int 3 0), (.ref 157), (.bool true), (.int 181 0), (.ref 158), .none, (.ref 159), (.ref 160), (.ref 161), (.int 422 0), (.int 90 0), (st "/claim/cut.py" 423)]),
 (163, fo (pg 21) "class_of" "class_of" "f77.layout" 304 162),
 (169, co #[(st "join_points" 425), (st "join_points" 426), (st "/claim/cut.py" 427), (.int 96 0), (.int 5 0), (.int 0 0), (.int 0 0), (.int 3 0), (.ref 164), (.bool true), (.int 181 0), (.ref 165), .none, (.ref 166), (.ref 167), (.ref 168), (.int 438 0), (.int 96 0), (st "/claim/cut.py" 439)]),
 (170, fo (pg 22) "join_points" "join_points" "f77.layout" 304 169),
 (176, co #[(st "join_commons" 441), (st "join_commons" 442), (st "/claim/cut.py" 443), (.int 104 0), (.int 2 0), (.int 0 0), (.int 0 0), (.int 3 0), (.ref 171), (.bool true), (.int 181 0), (.ref 172), .none, (.ref 173), (.ref 174), (.ref 175), (.int 454 0), (.int 104 0), (st "/claim/cut.py" 455)]),
 (177, fo (pg 23) "join_commons" "join_commons" "f77.layout" 304 176),
 (183, co #[(st "join_group" 457), (st "join_group" 458), (st "/claim/cut.py" 459), (.int 120 0), (.int 3 0), (.int 0 0), (.int 0 0), (.int 3 0), (.ref 178), (.bool true), (.int 181 0), (.ref 179), .none, (.ref 180), (.ref 181), (.ref 182), (.int 472 0), (.int 120 0), (st "/claim/cut.py" 473)]),
 (184, fo (pg 24) "join_group" "join_group" "f77.layout" 304 183),
 (190, co #[(st "block_roots" 475), (st "block_roots" 476), (st "/claim/cut.py" 477), (.int 129 0), (.int 2 0), (.int 0 0), (.int 0 0), (.int 3 0), (.ref 185), (.bool true), (.int 181 0), (.ref 186), .none, (.ref 187), (.ref 188), (.ref 189), (.int 484 0), (.int 129 0), (st "/claim/cut.py" 485)]),
 (191, fo (pg 25) "block_roots" "block_roots" "f77.layout" 304 190),
 (197, co #[(st "block_sizes" 487), (st "block_sizes" 488), (st "/claim/cut.py" 489), (.int 137 0), (.int 3 0), (.int 0 0), (.int 0 0), (.int 3 0), (.ref 192), (.bool true), (.int 181 0), (.ref 193), .none, (.ref 194), (.ref 195), (.ref 196), (.int 499 0), (.int 137 0), (st "/claim/cut.py" 500)]),
 (198, fo (pg 26) "block_sizes" "block_sizes" "f77.layout" 304 197),
 (204, co #[(st "note_blocks" 502), (st "note_blocks" 503), (st "/claim/cut.py" 504), (.int 147 0), (.int 3 0), (.int 0 0), (.int 0 0), (.int 3 0), (.ref 199), (.bool true), (.int 181 0), (.ref 200), .none, (.ref 201), (.ref 202), (.ref 203), (.int 511 0), (.int 147 0), (st "/claim/cut.py" 512)]),
 (205, fo (pg 27) "note_blocks" "note_blocks" "f77.layout" 304 204),
 (211, co #[(st "take_units" 514), (st "take_units" 515), (st "/claim/cut.py" 516), (.int 158 0), (.int 4 0), (.int 0 0), (.int 0 0), (.int 3 0), (.ref 206), (.bool true), (.int 181 0), (.ref 207), .none, (.ref 208), (.ref 209), (.ref 210), (.int 522 0), (.int 158 0), (st "/claim/cut.py" 523)]),
 (212, fo (pg 28) "take_units" "take_units" "f77.layout" 304 211),
 (218, co #[(st "classes_of" 525), (st "classes_of" 526), (st "/claim/cut.py" 527), (.int 167 0), (.int 3 0), (.int 0 0), (.int 0 0), (.int 3 0), (.ref 213), (.bool true), (.int 181 0), (.ref 214), .none, (.ref 215), (.ref 216), (.ref 217), (.int 535 0), (.int 167 0), (st "/claim/cut.py" 536)]),
 (219, fo (pg 29) "classes_of" "classes_of" "f77.layout" 304 218),
 (225, co #[(st "put_place" 538), (st "put_place" 539), (st "/claim/cut.py" 540), (.int 176 0), (.int 4 0), (.int 0 0), (.int 0 0), (.int 3 0), (.ref 220), (.bool true), (.int 181 0), (.ref 221), .none, (.ref 222), (.ref 223), (.ref 224), (.int 548 0), (.int 176 0), (st "/claim/cut.py" 549)]),
 (226, fo (pg 30) "put_place" "put_place" "f77.layout" 304 225),
 (230, co #[(st "lay_class" 551), (st "lay_class" 552), (st "/claim/cut.py" 553), (.int 179 0), (.int 4 0), (.int 0 0), (.int 0 0), (.int 3 0), (.ref 227), (.bool true), (.int 181 0), (.ref 228), .none, .none, .none, (.ref 229), (.int 554 0), (.int 179 0), (st "/claim/cut.py" 555)]),
 (231, fo (pg 31) "lay_class" "lay_class" "f77.layout" 304 230),
 (237, co #[(st "lay_out" 557), (st "lay_out" 558), (st "/claim/cut.py" 559), (.int 188 0), (.int 2 0), (.int 0 0), (.int 0 0), (.int 3 0), (.ref 232), (.bool true), (.int 181 0), (.ref 233), .none, (.ref 234), (.ref 235), (.ref 236), (.int 574 0), (.int 188 0), (st "/claim/cut.py" 575)]),
 (238, fo (pg 32) "lay_out" "lay_out" "f77.layout" 304 237),
 (244, co #[(st "lay_unit" 577), (st "lay_unit" 578), (st "/claim/cut.py" 579), (.int 206 0), (.int 5 0), (.int 0 0), (.int 0 0), (.int 3 0), (.ref 239), (.bool true), (.int 181 0), (.ref 240), .none, (.ref 241), (.ref 242), (.ref 243), (.int 591 0), (.int 206 0), (st "/claim/cut.py" 592)]),
 (245, fo (pg 33) "lay_unit" "lay_unit" "f77.layout" 304 244),
 (246, { cls := PySem.Value.type "tuple", data := PySem.Data.seq #[PySem.Value.int 1 598, PySem.Value.int 0 599, PySem.Value.int 3 600, PySem.Value.int 1 601, PySem.Value.int 0 602, PySem.Value.int 0 603, PySem.Value.int 2 604, PySem.Value.int 2 605, PySem.Value.int 2 606, PySem.Value.int 0 607, PySem.Value.int 2 608, PySem.Value.int 0 609, PySem.Value.int 0 610, PySem.Value.int 0 611, PySem.Value.int 1 612, PySem.Value.int 0 613, PySem.Value.int 2 614, PySem.Value.int 1 615, PySem.Value.int 0 616, PySem.Value.int 1 617, PySem.Value.int 0 618, PySem.Value.int 1 619, PySem.Value.int 0 620, PySem.Value.int 0 621, PySem.Value.int 1 622, PySem.Value.int 2 623, PySem.Value.int 0 624, PySem.Value.int 0 625, PySem.Value.int 0 626, PySem.Value.int 2 627, PySem.Value.int 1 628, PySem.Value.int 0 629, PySem.Value.int 0 630, PySem.Value.int 1 631, PySem.Value.int 0 632, PySem.Value.int 3 633, PySem.Value.int 0 634, PySem.Value.int 0 635, PySem.Value.int 0 636, PySem.Value.int 2 637, PySem.Value.int 0 638, PySem.Value.int 0 639, PySem.Value.int 1 640, PySem.Value.int 0 641, PySem.Value.int 0 642, PySem.Value.int 0 643, PySem.Value.int 0 644, PySem.Value.int 1 645, PySem.Value.int 0 646, PySem.Value.int 0 647, PySem.Value.int 3 648, PySem.Value.int 0 649, PySem.Value.int 1 650, PySem.Value.int 0 651] }),
 (252, co #[(st "_law_dole" 653), (st "_law_dole" 654), (st "/claim/cut.py" 655), (.int 219 0), (.int 2 0), (.int 0 0), (.int 0 0), (.int 3 0), (.ref 247), (.bool true), (.int 181 0), (.ref 248), .none, (.ref 249), (.ref 250), (.ref 251), (.int 660 0), (.int 219 0), (st "/claim/cut.py" 661)]),
 (253, fo (pg 37) "_law_dole" "_law_dole" "law_sa0212_01" 594 252),
 (259, co #[(st "_law_item" 663), (st "_law_item" 664), (st "/claim/cut.py" 665), (.int 224 0), (.int 3 0), (.int 0 0), (.int 0 0), (.int 3 0), (.ref 254), (.bool true), (.int 181 0), (.ref 255), .none, (.ref 256), (.ref 257), (.ref 258), (.int 674 0), (.int 224 0), (st "/claim/cut.py" 675)]),
 (260, fo (pg 38) "_law_item" "_law_item" "law_sa0212_01" 594 259),
 (264, co #[(st "_law_group" 677), (st "_law_group" 678), (st "/claim/cut.py" 679), (.int 231 0), (.int 2 0), (.int 0 0), (.int 0 0), (.int 3 0), (.ref 261), (.bool true), (.int 181 0), (.ref 262), .none, .none, .none, (.ref 263), (.int 680 0), (.int 231 0), (st "/claim/cut.py" 681)]),
 (265, fo (pg 39) "_law_group" "_law_group" "law_sa0212_01" 594 264),
 (269, co #[(st "_law_unit" 683), (st "_law_unit" 684), (st "/claim/cut.py" 685), (.int 238 0), (.int 1 0), (.int 0 0), (.int 0 0), (.int 3 0), (.ref 266), (.bool true), (.int 181 0), (.ref 267), .none, .none, .none, (.ref 268), (.int 686 0), (.int 238 0), (st "/claim/cut.py" 687)]),
 (270, fo (pg 40) "_law_unit" "_law_unit" "law_sa0212_01" 594 269),
 (274, co #[(st "_law_turned" 689), (st "_law_turned" 690), (st "/claim/cut.py" 691), (.int 252 0), (.int 2 0), (.int 0 0), (.int 0 0), (.int 3 0), (.ref 271), (.bool true), (.int 181 0), (.ref 272), .none, .none, .none, (.ref 273), (.int 692 0), (.int 252 0), (st "/claim/cut.py" 693)]),
 (275, fo (pg 41) "_law_turned" "_law_turned" "law_sa0212_01" 594 274),
 (281, co #[(st "_law_laid" 695), (st "_law_laid" 696), (st "/claim/cut.py" 697), (.int 257 0), (.int 2 0), (.int 0 0), (.int 0 0), (.int 3 0), (.ref 276), (.bool true), (.int 181 0), (.ref 277), .none, (.ref 278), (.ref 279), (.ref 280), (.int 707 0), (.int 257 0), (st "/claim/cut.py" 708)]),
 (282, fo (pg 42) "_law_laid" "_law_laid" "law_sa0212_01" 594 281),
 (286, co #[(st "_law_told" 710), (st "_law_told" 711), (st "/claim/cut.py" 712), (.int 266 0), (.int 2 0), (.int 0 0), (.int 0 0), (.int 3 0), (.ref 283), (.bool true), (.int 181 0), (.ref 284), .none, .none, .none, (.ref 285), (.int 713 0), (.int 266 0), (st "/claim/cut.py" 714)]),
 (287, fo (pg 43) "_law_told" "_law_told" "law_sa0212_01" 594 286),
 (291, co #[(st "law" 716), (st "law" 717), (st "/claim/cut.py" 718), (.int 284 0), (.int 1 0), (.int 0 0), (.int 0 0), (.int 3 0), (.ref 288), (.bool true), (.int 181 0), (.ref 289), .none, .none, .none, (.ref 290), (.int 719 0), (.int 284 0), (st "/claim/cut.py" 720)]),
 (292, fo (pg 44) "law" "law" "law_sa0212_01" 594 291)]
end Mine
end
section
open PySem PySem.W PyProof.Rows
namespace Mine.Hd
noncomputable abbrev pr : Program := PySem.Challenge.rw_sa0212_01.row.prog
noncomputable def vw : Program := view pr [1, 2, 3, 5, 6, 7, 8, 9, 11, 12, 13, 15, 16, 17, 18, 19, 20, 21, 22, 23, 24, 25, 26, 27, 28, 29, 30, 31, 32, 33, 35, 36, 37, 38, 39, 40, 41, 42, 43, 44]
noncomputable abbrev hk : Hook := kHook Mine.K [3, 27, 28, 30, 31, 43, 44, 55, 56, 64, 65, 71, 72, 78, 79, 85, 86, 99, 100, 102, 103, 120, 121, 123, 124, 134, 135, 141, 142, 148, 149, 155, 156, 162, 163, 169, 170, 176, 177, 183, 184, 190, 191, 197, 198, 204, 205, 211, 212, 218, 219, 225, 226, 230, 231, 237, 238, 244, 245, 246, 252, 253, 259, 260, 264, 265, 269, 270, 274, 275, 281, 282, 286, 287, 291, 292] (fun _ => by kernel_rfl)
noncomputable abbrev Xt : Shared → Bool := fun s => xlAt vw [] s && recOk (RowW.records PySem.Challenge.rw_sa0212_01.row.toRowW) s
theorem of_run {R T S : _} (eR : @topRun = R) (eT : @treeTable = T) (eS : @openSeen = S) {p q : Program} {l m : List Str} {X : Shared → Bool} {N : Nat} {w : World} {s : Shared} {α : Type} {Y : Shared → α} {G : _}
  (h0 : (s.heap.isNs mainGlobals && s.gens.size == 0) = true)
  (h : (R T p w s.heap.objs.size (s.heap.nsMap mainGlobals "__annotations__") N s (topStub p)).map (fun r => (staticsOk (importedModules p.main.body) s.heap r.heap && namesBound p r.heap && gensDone r && laidKept s.heap r.heap, S q l m X true r, Y r)) = some (true, G)) :
  (topFrom treeTable p w N s).map (fun r => (openSeen q l m X true r, Y r)) = some G := by
 subst eR eT eS
 obtain ⟨r, e, v⟩ := Option.map_eq_some_iff.mp h
 injection v with v1 v2
 unfold topFrom
 rw [h0]
 dsimp only
 rw [e, Option.bind_some, v1]
 exact congrArg some v2
theorem of_good {R D P C W K L : _} (eR : @recsOf = R) (eD : @drecsOf = D) (eP : @plainsOf = P) (eC : @dclssOf = C) (eW : @wdefsOf = W) (eK : @wclssOf = K) (eL : @looseW = L) (q : Program) (l : List Str) {α : Type} {a : α} {X : Option _}
  (h : X = some (((⟨(R q).map fun d => some d.shape, true, [], true, true, true, 0⟩ : Seen), bltViewBooted, true, true, ((D q).map fun d => some d.1.shape, true), (P q (L q l)).map fun c => some c.withCmp.plainShape, (C q l).map fun c => some (c.plainShape, true), ((W q).map fun d => some d.1.shape, true), (K q l).map fun c => (wclsGood c, (some (c.plainShape, true) : Option (PlainShape × Bool)))), a)) : X = some (openGood q l, a) := by
 subst eR eD eP eC eW eK eL
 exact h
theorem hlB (w : World) (os : OsState) : (topFrom treeTable pr w 4564 ⟨boot_heap w.params, Array.mk [], boot_drawn, boot_toks, os⟩).map (fun s => (openSeen vw [] (importedModules pr.main.body) Xt true s, hk.obs s)) = some (openGood vw [], hk.val w) :=
 of_good PySem.W.Fast.te3399658132070893891 PySem.W.Fast.te3247288618530077131 PySem.W.Fast.te210736558901404530 PySem.W.Fast.te4354255287344443571 PySem.W.Fast.te694669760492028198 PySem.W.Fast.te1571739515156823405 PySem.W.Fast.te821141287760084731 _ _
 (of_run PySem.W.Fast.te14082659384304107361 PySem.W.Fast.te14364793385576792824 PySem.W.Fast.te4187177175401517315 (by kernel_rfl) (by kernel_rfl))
theorem sh_eq {s : Shared} {h : Heap} {g : Array GenState} {d : Drawn} {k : Nat} (e : (s.heap, s.gens, s.drawn, s.toks) = (h, g, d, k)) : s = ⟨h, g, d, k, s.os⟩ := by
 cases e
 rfl
theorem ends_of {p : Program} {w : World} {N : Nat} {α : Type} {f : Shared → α} {g : Option α} (b : (fencedOpening treeTable p w N).map (fun s => (s.heap, s.gens, s.drawn, s.toks)) = some (boot_heap w.params, Array.mk [], boot_drawn, boot_toks))
  (h : ∀ os, (topFrom treeTable p w N ⟨boot_heap w.params, Array.mk [], boot_drawn, boot_toks, os⟩).map f = g) : (openEnds treeTable p w N).map f = g := by
 obtain ⟨s, e, v⟩ := Option.map_eq_some_iff.mp b
 unfold openEnds
 rw [e]
 exact (congrArg (fun s => (topFrom treeTable p w N s).map f) (sh_eq v)).trans (h s.os)
theorem hl : LeftO pr vw [] Xt hk.obs hk.val 4564 := fun w =>
 ends_of (boot_open (by kernel_rfl) (by decide +kernel) (fun _ => by kernel_rfl) w) (hlB w)
theorem wsa : OpenLaw.wellSaid PySem.Challenge.rw_sa0212_01 = true := by
 unfold OpenLaw.wellSaid OpenRow.wellSaid OpenRow.partSaid looksOpen
 repeat' with_reducible refine look_both ?_ ?_
 all_goals decide +kernel
theorem tabs : pr.tablesWhole = true := by decide +kernel
theorem dOk : (defOf vw "law").isSome = true := by decide +kernel
noncomputable def dl : DefRec := ((defOf vw "law").get dOk).1
theorem dIs : defOf vw PySem.Challenge.rw_sa0212_01.row.name = some (dl, []) := by kernel_rfl
theorem dDef : pr.theDef PySem.Challenge.rw_sa0212_01.row.name = some (dl.params, dl.body, dl.scope) := by kernel_rfl
theorem dKw : kwWritten? dl.params.kwonlyargs dl.params.kw_defaults = some [] := by kernel_rfl
theorem dNm : dl.name = "law" := by kernel_rfl
theorem fa_of {mg : Str → Option Value} {a : Addr} (h : mg dl.name = some (.ref a)) (e : mg "law" = some (.ref 292)) : 292 = a := by
 rw [dNm] at h
 injection h.symm.trans e with h
 injection h with h
 exact h.symm
theorem okV : (chainsOk vw && opensWell pr && (frees PySem.Challenge.rw_sa0212_01.row.toRowW && PySem.Challenge.rw_sa0212_01.row.within.isEmpty)) = true := by decide +kernel
end Mine.Hd
end
section
open List renaming mem_map→w0b,mem_cons→w0c,set_cons_zero→w0d,set_cons_succ→w0e,map_cons→w0f,mem_append→w0g,mem_singleton→w0h,not_mem_nil→w0i,map_append→w0j,map_map→w0k,prefix_refl→w0m,map_nil→w0n,cons_append→w0o,length_nil→w0q,nil_append→w0r,length_cons→w0s,length_append→w0t,length_map→w0u,getElem?_eq_some_iff→w0v,nodup_append→w0w,mem_of_getElem?→w0z,getElem?_eq_getElem→w0A,length_singleton→w0B,getElem?_append_right→w0C,getElem?_append_left→w0D,mem_flatMap→w0F,mem_reverse→w0G,getElem?_map→w0H,mem_filter→w0I,nodup_cons→w0J,nodup_nil→w0L,append_nil→w0M,contains_iff_mem→w0N,size_toArray→w0O,find?_cons→w0P,sum_cons→w0Q,mem_append_left→w0R,mem_filterMap→w0T,filter_append→w0V,length_take→w0X,sum_append→w0Y,append_assoc→w0Z,map_reverse→w1a,contains_cons→w1c,length_range→w1e,length_filter_le→w1f,filter_eq_nil_iff→w1g,getElem?_set_ne→w1h,flatMap_cons→w1m,flatMap_append→w1n,mem_append_right→w1p,getElem?_set_self→w1q,getElem?_inj→w1r,set_set→w1v,filter_cons→w1w,map_flatMap→w1x,getElem?_take→w1z,any_cons→w1A,take_of_length_le→w1D,drop_eq_getElem_cons→w1F,map_congr_left→w1G,take_zero→w1K,getElem?_of_mem→w1L,filter_congr→w1M,map_take→w1N,mem_iff_getElem→w1O,take_sublist→w1P,map_inj_right→w1S,any_eq_true→w1T,getElem?_eq_none_iff→w1V,reverse_cons→w1W,all_cons→w1Y,getElem?_eq_none→w1Z,append_cons→w2a,take_append_drop→w2d,map_fst_zip→w2e,of_mem_zip→w2f,getElem?_zip_eq_some→w2g,range_succ_eq_map→w2i,filterMap_map→w2j,getElem_range→w2k,drop_of_length_le→w2n,length_zip→w2o,getElem?_range→w2p,foldl_cons→w2r,filter_nil→w2s,isEmpty_iff→w2t,exists_mem_of_ne_nil→w2u,perm_ext_iff_of_nodup→w2v,pairwise_iff_getElem→w2w,filter_append_perm→w2x,filter_filter→w2y,length_drop→w2z,length_pos_iff→w2A
open Option renaming join_some→w0a,map_some→w0x,map_eq_some_iff→w0E,isSome_iff_exists→w0K,bind_some→w0S,bind_eq_some_iff→w0W,isSome_some→w1k,isSome_none→w1l,isSome_map→w1o,getD_none→w2l
open Bool renaming false_eq_true→w0p,false_ne_true→w1i,not_true→w1j,and_eq_true→w1s,or_true→w1u,false_and→w1C,eq_false_iff→w1I,not_false→w1J,false_or→w1U,true_and→w1X,or_eq_true→w2b,not_eq_true→w2c
open Nat renaming le_refl→w0l,zero_add→w0y,ne_of_lt→w0U,ne_of_gt→w1b,lt_succ_self→w1d,zero_le→w1t,not_lt→w1y,le_trans→w1B,lt_or_ge→w1E,not_lt_zero→w1H,lt_trans→w1Q,lt_of_lt_of_le→w1R,lt_succ_of_lt→w2h,sub_eq_zero_of_le→w2m,lt_of_succ_lt_succ→w2q
open PySem PySem.Calls
set_option autoImplicit false
set_option tactic.hygienic false
namespace Mine
theorem cA2 {A B Q:Prop} (h:A∧B) (f:A→B→Q):Q:=f h.1 h.2
theorem cA3 {A B C Q:Prop} (h:A∧B∧C) (f:A→B→C→Q):Q:=f h.1 h.2.1 h.2.2
theorem cA4 {A B C D Q:Prop} (h:A∧B∧C∧D) (f:A→B→C→D→Q):Q:=f h.1 h.2.1 h.2.2.1 h.2.2.2
theorem cA5 {A B C D E Q:Prop} (h:A∧B∧C∧D∧E) (f:A→B→C→D→E→Q):Q:=f h.1 h.2.1 h.2.2.1 h.2.2.2.1 h.2.2.2.2
theorem cA6 {A B C D E F Q:Prop} (h:A∧B∧C∧D∧E∧F) (f:A→B→C→D→E→F→Q):Q:=f h.1 h.2.1 h.2.2.1 h.2.2.2.1 h.2.2.2.2.1 h.2.2.2.2.2
theorem cA7 {A B C D E F G Q:Prop} (h:A∧B∧C∧D∧E∧F∧G) (f:A→B→C→D→E→F→G→Q):Q:=f h.1 h.2.1 h.2.2.1 h.2.2.2.1 h.2.2.2.2.1 h.2.2.2.2.2.1 h.2.2.2.2.2.2
theorem cA8 {A B C D E F G H Q:Prop} (h:A∧B∧C∧D∧E∧F∧G∧H) (f:A→B→C→D→E→F→G→H→Q):Q:=f h.1 h.2.1 h.2.2.1 h.2.2.2.1 h.2.2.2.2.1 h.2.2.2.2.2.1 h.2.2.2.2.2.2.1 h.2.2.2.2.2.2.2
theorem cA10 {A B C D E F G H I J Q:Prop} (h:A∧B∧C∧D∧E∧F∧G∧H∧I∧J) (f:A→B→C→D→E→F→G→H→I→J→Q):Q:=f h.1 h.2.1 h.2.2.1 h.2.2.2.1 h.2.2.2.2.1 h.2.2.2.2.2.1 h.2.2.2.2.2.2.1 h.2.2.2.2.2.2.2.1 h.2.2.2.2.2.2.2.2.1 h.2.2.2.2.2.2.2.2.2
theorem cA12 {A B C D E F G H I J K L Q:Prop} (h:A∧B∧C∧D∧E∧F∧G∧H∧I∧J∧K∧L) (f:A→B→C→D→E→F→G→H→I→J→K→L→Q):Q:=f h.1 h.2.1 h.2.2.1 h.2.2.2.1 h.2.2.2.2.1 h.2.2.2.2.2.1 h.2.2.2.2.2.2.1 h.2.2.2.2.2.2.2.1 h.2.2.2.2.2.2.2.2.1 h.2.2.2.2.2.2.2.2.2.1 h.2.2.2.2.2.2.2.2.2.2.1 h.2.2.2.2.2.2.2.2.2.2.2
theorem cX1.{u0} {T0:Sort u0} {p:T0→Prop} {Q:Prop} (h:∃ x0,p x0) (f:∀ x0,p x0→Q):Q:=h.elim f
theorem cX2.{u0,u1} {T0:Sort u0} {T1:Sort u1} {p:T0→T1→Prop} {Q:Prop} (h:∃ x0 x1,p x0 x1) (f:∀ x0 x1,p x0 x1→Q):Q:=h.elim fun a y=>cX1 y (f a)
theorem cX3.{u0,u1,u2} {T0:Sort u0} {T1:Sort u1} {T2:Sort u2} {p:T0→T1→T2→Prop} {Q:Prop} (h:∃ x0 x1 x2,p x0 x1 x2) (f:∀ x0 x1 x2,p x0 x1 x2→Q):Q:=h.elim fun a y=>cX2 y (f a)
theorem cX4.{u0,u1,u2,u3} {T0:Sort u0} {T1:Sort u1} {T2:Sort u2} {T3:Sort u3} {p:T0→T1→T2→T3→Prop} {Q:Prop} (h:∃ x0 x1 x2 x3,p x0 x1 x2 x3) (f:∀ x0 x1 x2 x3,p x0 x1 x2 x3→Q):Q:=h.elim fun a y=>cX3 y (f a)
theorem cX5.{u0,u1,u2,u3,u4} {T0:Sort u0} {T1:Sort u1} {T2:Sort u2} {T3:Sort u3} {T4:Sort u4} {p:T0→T1→T2→T3→T4→Prop} {Q:Prop} (h:∃ x0 x1 x2 x3 x4,p x0 x1 x2 x3 x4) (f:∀ x0 x1 x2 x3 x4,p x0 x1 x2 x3 x4→Q):Q:=h.elim fun a y=>cX4 y (f a)
theorem cX6.{u0,u1,u2,u3,u4,u5} {T0:Sort u0} {T1:Sort u1} {T2:Sort u2} {T3:Sort u3} {T4:Sort u4} {T5:Sort u5} {p:T0→T1→T2→T3→T4→T5→Prop} {Q:Prop} (h:∃ x0 x1 x2 x3 x4 x5,p x0 x1 x2 x3 x4 x5) (f:∀ x0 x1 x2 x3 x4 x5,p x0 x1 x2 x3 x4 x5→Q):Q:=h.elim fun a y=>cX5 y (f a)
theorem cX8.{u0,u1,u2,u3,u4,u5,u6,u7} {T0:Sort u0} {T1:Sort u1} {T2:Sort u2} {T3:Sort u3} {T4:Sort u4} {T5:Sort u5} {T6:Sort u6} {T7:Sort u7} {p:T0→T1→T2→T3→T4→T5→T6→T7→Prop} {Q:Prop} (h:∃ x0 x1 x2 x3 x4 x5 x6 x7,p x0 x1 x2 x3 x4 x5 x6 x7) (f:∀ x0 x1 x2 x3 x4 x5 x6 x7,p x0 x1 x2 x3 x4 x5 x6 x7→Q):Q:=h.elim fun a y=>y.elim fun b y=>cX6 y (f a b)
theorem k1f {α:Type} {a b:α} {P:Prop} (h:some a = some b) (k:a = b→P):P:=k (Option.some.inj h)
theorem jOk {ε α:Type} {a b:α} {P:Prop} (h:(Except.ok a:Except ε α) = .ok b) (k:a = b→P):P:=k (Except.ok.inj h)
theorem k2X {α β:Type} {a c:α} {b d:β} {P:Prop} (h:(a,b) = (c,d)) (k:a = c→b = d→P):P:=k (Prod.mk.inj h).1 (Prod.mk.inj h).2
theorem kNS {α:Type} {a:α} {P:Prop} (h:none = some a):P:=nomatch h
theorem kSN {α:Type} {a:α} {P:Prop} (h:some a = none):P:=nomatch h
theorem kTF {P:Prop} (h:true = false):P:=nomatch h
theorem kFT {P:Prop} (h:false = true):P:=nomatch h
theorem kNC {α:Type} {a:α} {l:List α} {P:Prop} (h:[] = a :: l):P:=nomatch h
theorem kCN {α:Type} {a:α} {l:List α} {P:Prop} (h:a :: l = []):P:=nomatch h
theorem iX2.{u0,u1} {T0:Sort u0} {T1:Sort u1} {p:T0→T1→Prop} {x0:T0} {x1:T1} (h:p x0 x1):∃ x0 x1,p x0 x1:=⟨x0,x1,h⟩
theorem iX3.{u0,u1,u2} {T0:Sort u0} {T1:Sort u1} {T2:Sort u2} {p:T0→T1→T2→Prop} {x0:T0} {x1:T1} {x2:T2} (h:p x0 x1 x2):∃ x0 x1 x2,p x0 x1 x2:=⟨x0,x1,x2,h⟩
theorem iX4.{u0,u1,u2,u3} {T0:Sort u0} {T1:Sort u1} {T2:Sort u2} {T3:Sort u3} {p:T0→T1→T2→T3→Prop} {x0:T0} {x1:T1} {x2:T2} {x3:T3} (h:p x0 x1 x2 x3):∃ x0 x1 x2 x3,p x0 x1 x2 x3:=⟨x0,x1,x2,x3,h⟩
theorem iX5.{u0,u1,u2,u3,u4} {T0:Sort u0} {T1:Sort u1} {T2:Sort u2} {T3:Sort u3} {T4:Sort u4} {p:T0→T1→T2→T3→T4→Prop} {x0:T0} {x1:T1} {x2:T2} {x3:T3} {x4:T4} (h:p x0 x1 x2 x3 x4):∃ x0 x1 x2 x3 x4,p x0 x1 x2 x3 x4:=⟨x0,x1,x2,x3,x4,h⟩
theorem iX6.{u0,u1,u2,u3,u4,u5} {T0:Sort u0} {T1:Sort u1} {T2:Sort u2} {T3:Sort u3} {T4:Sort u4} {T5:Sort u5} {p:T0→T1→T2→T3→T4→T5→Prop} {x0:T0} {x1:T1} {x2:T2} {x3:T3} {x4:T4} {x5:T5} (h:p x0 x1 x2 x3 x4 x5):∃ x0 x1 x2 x3 x4 x5,p x0 x1 x2 x3 x4 x5:=⟨x0,x1,x2,x3,x4,x5,h⟩
theorem iX7.{u0,u1,u2,u3,u4,u5,u6} {T0:Sort u0} {T1:Sort u1} {T2:Sort u2} {T3:Sort u3} {T4:Sort u4} {T5:Sort u5} {T6:Sort u6} {p:T0→T1→T2→T3→T4→T5→T6→Prop} {x0:T0} {x1:T1} {x2:T2} {x3:T3} {x4:T4} {x5:T5} {x6:T6} (h:p x0 x1 x2 x3 x4 x5 x6):∃ x0 x1 x2 x3 x4 x5 x6,p x0 x1 x2 x3 x4 x5 x6:=⟨x0,x1,x2,x3,x4,x5,x6,h⟩
theorem iX8.{u0,u1,u2,u3,u4,u5,u6,u7} {T0:Sort u0} {T1:Sort u1} {T2:Sort u2} {T3:Sort u3} {T4:Sort u4} {T5:Sort u5} {T6:Sort u6} {T7:Sort u7} {p:T0→T1→T2→T3→T4→T5→T6→T7→Prop} {x0:T0} {x1:T1} {x2:T2} {x3:T3} {x4:T4} {x5:T5} {x6:T6} {x7:T7} (h:p x0 x1 x2 x3 x4 x5 x6 x7):∃ x0 x1 x2 x3 x4 x5 x6 x7,p x0 x1 x2 x3 x4 x5 x6 x7:=⟨x0,x1,x2,x3,x4,x5,x6,x7,h⟩
inductive V where
 | none
 | bool (b:Bool)
 | int (i:Int)
 | str (s:List Nat)
 | tup (vs:List V)
 | loc (n:Nat)
 | ext (a:Nat)
inductive O where
 | list (vs:List V)
 | dict (es:List (List Nat × V))
 | tdict (es:List (List (List Nat ⊕ Bool) × V))
 | inst (c:Nat) (d:Nat)
inductive Ex where
 | run
 | lay
noncomputable abbrev Hp:=List O
mutual
inductive VR (ρ:List Addr) (h:Heap):V→Value→Prop
 | none:VR ρ h .none .none
 | bool (b:Bool):VR ρ h (.bool b) (.bool b)
 | int (i:Int) (t:Tok):VR ρ h (.int i) (.int i t)
 | str (s:List Nat) (t:Tok):VR ρ h (.str s) (.str ⟨s.toArray⟩ t)
 | loc (n:Nat) (a:Addr):ρ[n]? = some a→VR ρ h (.loc n) (.ref a)
 | ext (a:Addr):VR ρ h (.ext a) (.ref a)
 | tup (vs:List V) (a:Addr) (items:List Value):h.IsTuple a items.toArray→VRs ρ h vs items→VR ρ h (.tup vs) (.ref a)
inductive VRs (ρ:List Addr) (h:Heap):List V→List Value→Prop
 | nil:VRs ρ h [] []
 | cons {V v Vs vs}:VR ρ h V v→VRs ρ h Vs vs→VRs ρ h (V :: Vs) (v :: vs)
end
section
variable {ρ:List Addr} {h:Heap} {P:Value→Prop} {v:Value}
@[elab_as_elim] theorem VR.eInt {i:Int} (x:VR ρ h (.int i) v) (k:∀ t,P (.int i t)):P v:=by cases x; exact k _
@[elab_as_elim] theorem VR.eStr {s:List Nat} (x:VR ρ h (.str s) v) (k:∀ t,P (.str ⟨s.toArray⟩ t)):P v:=by cases x; exact k _
@[elab_as_elim] theorem VR.eLoc {n:Nat} (x:VR ρ h (.loc n) v) (k:∀ a,ρ[n]? = some a→P (.ref a)):P v:=by cases x; exact k _ ‹_›
@[elab_as_elim] theorem VR.eTup {vs:List V} (x:VR ρ h (.tup vs) v) (k:∀ a items,h.IsTuple a items.toArray→VRs ρ h vs items→P (.ref a)):P v:=by cases x; exact k _ _ ‹_› ‹_›
end
section
variable {ρ:List Addr} {h:Heap} {P:List Value→Prop} {vs:List Value}
@[elab_as_elim] theorem VRs.eCons {W:V} {Ws:List V} (x:VRs ρ h (W :: Ws) vs) (k:∀ w ws,VR ρ h W w→VRs ρ h Ws ws→P (w :: ws)):P vs:=by cases x; exact k _ _ ‹_› ‹_›
end
section
variable {ρ:List Addr} {h:Heap} {P:Prop} {v:Value} {vs:List Value}
theorem VR.iInt {i:Int} (x:VR ρ h (.int i) v) (k:∀ t,v = .int i t→P):P:=by cases x; exact k _ rfl
theorem VR.iBool {b:Bool} (x:VR ρ h (.bool b) v) (k:v = .bool b→P):P:=by cases x; exact k rfl
theorem VR.iNone (x:VR ρ h .none v) (k:v = .none→P):P:=by cases x; exact k rfl
theorem VR.iStr {s:List Nat} (x:VR ρ h (.str s) v) (k:∀ t,v = .str ⟨s.toArray⟩ t→P):P:=by cases x; exact k _ rfl
theorem VR.iLoc {n:Nat} (x:VR ρ h (.loc n) v) (k:∀ a,v = .ref a→ρ[n]? = some a→P):P:=by cases x; exact k _ rfl ‹_›
theorem VR.iExt {a:Addr} (x:VR ρ h (.ext a) v) (k:v = .ref a→P):P:=by cases x; exact k rfl
theorem VR.iTup {ws:List V} (x:VR ρ h (.tup ws) v) (k:∀ a items,v = .ref a→h.IsTuple a items.toArray→VRs ρ h ws items→P):P:=by cases x; exact k _ _ rfl ‹_› ‹_›
theorem VRs.iNil (x:VRs ρ h [] vs) (k:vs = []→P):P:=by cases x; exact k rfl
theorem VRs.iCons {W:V} {Ws:List V} (x:VRs ρ h (W :: Ws) vs) (k:∀ w ws,vs = w :: ws→VR ρ h W w→VRs ρ h Ws ws→P):P:=by cases x; exact k _ _ rfl ‹_› ‹_›
end
noncomputable def k4z (o:Obj):Prop:=o.cls = .type "tuple"∧∃ l n,o.data = .seq l n
structure k1m (fs mods:List Addr) (ρ ρ':List Addr) (h h':Heap):Prop where
 pre:ρ <+: ρ'
 new:∀ a,a∈ρ'→a∈ρ∨h.get? a = none
 alive:∀ a o,h.get? a = some o→∃ o',h'.get? a = some o'
 tup:∀ a o,h.get? a = some o→k4z o→h'.get? a = some o
 keep:∀ a o,h.get? a = some o→a∉ρ→a∉mods→a∉fs→h'.get? a = some o
 frame:∀ a o,h.get? a = some o→a∉ρ→a∉mods→∃ sl,h'.get? a = some { o with slots:=sl }
theorem k1m.refl (fs mods ρ:List Addr) (h:Heap):k1m fs mods ρ ρ h h :=
 ⟨w0m _,fun Y x=>.inl x,fun Y o e=>⟨o,e⟩,fun Y Y e Y=>e,fun Y Y e Y Y Y=>e,fun Y o e Y Y=>⟨o.slots,e⟩⟩
theorem k1m.trans {fs mods ρ ρ₁ ρ₂:List Addr} {h h₁ h₂:Heap} (x:k1m fs mods ρ ρ₁ h h₁) (y:k1m fs mods ρ₁ ρ₂ h₁ h₂):k1m fs mods ρ ρ₂ h h₂ where
 pre:=x.pre.trans y.pre
 new:=fun a ha=>by
  refine Or.elim (y.new a ha) (fun q=>x.new a q) fun q=>.inr ?_
  cases e:h.get? a with
  | none=>rfl
  | some o=>exact cX1 (x.alive a o e) fun o' e'=>kNS (q.symm.trans e')
 alive:=fun a o e=>cX1 (x.alive a o e) fun o' e'=>y.alive a o' e'
 tup:=fun a o e c=>y.tup a o (x.tup a o e c) c
 keep:=fun a o e n1 n2 c=>y.keep a o (x.keep a o e n1 n2 c) (fun q=>Or.elim (x.new a q) n1 fun z=>kSN (e.symm.trans z)) n2 c
 frame:=fun a o e n1 n2=>cX1 (x.frame a o e n1 n2) fun sl e1=>cX1 (y.frame a _ e1 (fun q=>Or.elim (x.new a q) n1 fun z=>kSN (e.symm.trans z)) n2) fun sl' e2=>⟨sl',e2⟩
theorem k1m.none_of {fs mods ρ ρ':List Addr} {h h':Heap} (x:k1m fs mods ρ ρ' h h') {a:Addr} (e:h'.get? a = none):h.get? a = none:=by
 cases q:h.get? a with
 | none=>rfl
 | some o=>exact cX1 (x.alive a o q) fun o' e'=>kNS (e.symm.trans e')
theorem k1m.grow {fs mods ρ:List Addr} {h h':Heap} (k:∀ a o,h.get? a = some o→h'.get? a = some o):k1m fs mods ρ ρ h h' :=
 ⟨w0m _,fun Y x=>.inl x,fun a o e=>⟨o,k a o e⟩,fun a o e Y=>k a o e,fun a o e Y Y Y=>k a o e,fun a o e Y Y=>⟨o.slots,k a o e⟩⟩
theorem k1m.mods {fs mods mods' ρ ρ':List Addr} {h h':Heap} (x:k1m fs mods ρ ρ' h h') (k:∀ a∈mods,a∈mods'∨h.get? a = none):k1m fs mods' ρ ρ' h h' where
 pre:=x.pre
 new:=x.new
 alive:=x.alive
 tup:=x.tup
 keep:=fun a o e n1 n2 c=>x.keep a o e n1 (fun q=>(k a q).elim n2 fun z=>kSN (e.symm.trans z)) c
 frame:=fun a o e n1 n2=>x.frame a o e n1 (fun q=>(k a q).elim n2 fun z=>kSN (e.symm.trans z))
theorem k1m.frs {fs fs' mods ρ ρ':List Addr} {h h':Heap} (x:k1m fs mods ρ ρ' h h') (k:∀ a,a∈fs→a∈fs'∨h.get? a = none):k1m fs' mods ρ ρ' h h' where
 pre:=x.pre
 new:=x.new
 alive:=x.alive
 tup:=x.tup
 keep:=fun a o e n1 n2 c=>x.keep a o e n1 n2 (fun q=>(k a q).elim c fun z=>kSN (e.symm.trans z))
 frame:=x.frame
theorem VRs.ind {ρ:List Addr} {h:Heap} {P:List V→List Value→Prop} (n:P [] []) (c:∀ {V v Vs vs},VR ρ h V v→VRs ρ h Vs vs→P Vs vs→P (V :: Vs) (v :: vs)) {Vs:List V} {vs:List Value} (x:VRs ρ h Vs vs):P Vs vs :=
 VRs.rec (motive_1:=fun Y Y Y=>True) (motive_2:=fun Vs vs Y=>P Vs vs) trivial (fun Y=>trivial) (fun Y Y=>trivial) (fun Y Y=>trivial) (fun Y Y Y=>trivial) (fun Y=>trivial) (fun Y Y Y Y Y Y=>trivial) n (fun a b Y q=>c a b q) x
theorem VR.mono {ρ ρ':List Addr} {h h':Heap} (p:ρ <+: ρ') (k:∀ a o,h.get? a = some o→k4z o→h'.get? a = some o) {W:V} {v:Value} (x:VR ρ h W v):VR ρ' h' W v :=
 VR.rec (motive_1:=fun W v Y=>VR ρ' h' W v) (motive_2:=fun Vs vs Y=>VRs ρ' h' Vs vs) .none .bool .int .str
  (fun n a e=>.loc n a (cX1 p fun r q=>by rw [← q,w0D (w0v.mp e).1]; exact e)) .ext
  (fun vs a items ht Y q=>.tup vs a items (cX1 ht fun o z=>cA3 z fun ho hc w=>⟨o,k a o ho ⟨hc,_,w⟩,hc,w⟩) q) .nil (fun Y Y a b=>.cons a b) x
theorem VRs.mono {ρ ρ':List Addr} {h h':Heap} (p:ρ <+: ρ') (k:∀ a o,h.get? a = some o→k4z o→h'.get? a = some o) {Vs:List V} {vs:List Value} (x:VRs ρ h Vs vs):VRs ρ' h' Vs vs :=
 x.ind .nil fun a Y q=>.cons (a.mono p k) q
theorem VR.step {fs mods ρ ρ':List Addr} {h h':Heap} (s:k1m fs mods ρ ρ' h h') {V:V} {v:Value} (x:VR ρ h V v):VR ρ' h' V v:=x.mono s.pre s.tup
theorem VRs.step {fs mods ρ ρ':List Addr} {h h':Heap} (s:k1m fs mods ρ ρ' h h') {V:List V} {v:List Value} (x:VRs ρ h V v):VRs ρ' h' V v:=x.mono s.pre s.tup
theorem VRs.length {ρ:List Addr} {h:Heap} {Vs:List V} {vs:List Value} (x:VRs ρ h Vs vs):Vs.length = vs.length:=x.ind (P:=fun Vs vs=>Vs.length = vs.length) rfl fun Y Y q=>congrArg (· + 1) q
theorem VRs.get {ρ:List Addr} {h:Heap} {Vs:List V} {vs:List Value} (x:VRs ρ h Vs vs):∀ {i:Nat} {W:V},Vs[i]? = some W→∃ v,vs[i]? = some v∧VR ρ h W v :=
 x.ind (P:=fun Vs vs=>∀ {i:Nat} {W:V},Vs[i]? = some W→∃ v,vs[i]? = some v∧VR ρ h W v) (fun e=>kNS e) fun a Y q i W e=>by
  cases i with
  | zero=>exact ⟨_,rfl,k1f e fun z=>z ▸ a⟩
  | succ j=>exact q e
theorem VRs.append {ρ:List Addr} {h:Heap} {Vs:List V} {vs:List Value} (x:VRs ρ h Vs vs) {Ws ws} (y:VRs ρ h Ws ws):VRs ρ h (Vs ++ Ws) (vs ++ ws) :=
 x.ind (P:=fun Vs vs=>VRs ρ h (Vs ++ Ws) (vs ++ ws)) y fun a Y q=>.cons a q
structure Ctx where
 prog:Program
 w:World
 K:W.Frag
 base:Heap
 mg:Str→Option Value
 mb:Str→Option Value
 g:Array GenState
 d:Drawn
 os:OsState
 cls:Nat→Addr
 exc:Ex→Addr
structure Ctx.Ok (C:Ctx):Prop where
 inK:C.K.In C.base
 g:C.base.Ns mainGlobals C.mg
 b:C.base.Ns builtinsNs C.mb
 nolimit:C.base.NoLimit
 builtins:∀ x:Str,x≠"__name__"→C.mb x = bootBuiltins x
noncomputable abbrev Ctx.at (C:Ctx) (h:Heap) (t:Nat):Shared:=⟨h,C.g,C.d,t,C.os⟩
structure SB (prog:Program) (w:World) where
 knd:KeyKind prog w (Str ⊕ Bool)
 isS:∀ x v,knd.is (.inl x) v = Value.isStrOf x v
 isB:∀ b v,knd.is (.inr b) v = true↔v = .bool b
noncomputable def toK:List Nat ⊕ Bool→Str ⊕ Bool
 | .inl s=>.inl ⟨s.toArray⟩
 | .inr b=>.inr b
inductive k5d (ρ:List Addr) (h:Heap):List (List Nat × V)→List (Str × Value)→Prop
 | nil:k5d ρ h [] []
 | cons {k V v es kvs}:VR ρ h V v→k5d ρ h es kvs→k5d ρ h ((k,V) :: es) (((⟨k.toArray⟩:Str),v) :: kvs)
inductive k6o (ρ:List Addr) (h:Heap):List (List (List Nat ⊕ Bool) × V)→List (List (Str ⊕ Bool) × Addr × Value)→Prop
 | nil:k6o ρ h [] []
 | cons {k V a v es kvs}:VR ρ h V v→k6o ρ h es kvs→k6o ρ h ((k,V) :: es) ((k.map toK,a,v) :: kvs)
theorem k5d.mono {ρ ρ':List Addr} {h h':Heap} (p:ρ <+: ρ') (k:∀ a o,h.get? a = some o→k4z o→h'.get? a = some o) {es kvs} (x:k5d ρ h es kvs):k5d ρ' h' es kvs:=by
 induction x with
 | nil=>exact .nil
 | cons a _ ih=>exact .cons (a.mono p k) ih
theorem k6o.mono {ρ ρ':List Addr} {h h':Heap} (p:ρ <+: ρ') (k:∀ a o,h.get? a = some o→k4z o→h'.get? a = some o) {es kvs} (x:k6o ρ h es kvs):k6o ρ' h' es kvs:=by
 induction x with
 | nil=>exact .nil
 | cons a _ ih=>exact .cons (a.mono p k) ih
structure k1J extends Ctx where
 sb:SB prog w
noncomputable def OR (C:k1J) (ρ:List Addr) (h:Heap) (a:Addr):O→Prop
 | .list vs=>∃ items,h.PlainList a items.toArray∧VRs ρ h vs items
 | .dict es=>∃ kvs,h.DictAt (strKind C.prog C.w) a kvs kvs.length∧k5d ρ h es kvs
 | .tdict es=>∃ xs,h.DictOfH (tupleKind C.sb.knd) a xs∧k6o ρ h es xs
 | .inst c d=>∃ da,ρ[d]? = some da∧h.get? a = some (W.instObj (C.cls c) da)
structure HM (C:k1J) (ρ:List Addr) (H:Hp) (h:Heap):Prop where
 len:ρ.length = H.length
 nodup:ρ.Nodup
 obj:∀ (i:Nat) (a:Addr) (o:O),ρ[i]? = some a→H[i]? = some o→OR C ρ h a o
 fresh:∀ a,a∈ρ→C.base.get? a = none
 notSys:∀ a,a∈ρ→(a == sysModules) = false
theorem OR.there {C:k1J} {ρ:List Addr} {h:Heap} {a:Addr} {o:O} (x:OR C ρ h a o):∃ ob,h.get? a = some ob∧ob.cls≠.type "tuple"∧ob.cls≠.type "frame"∧ob.cls≠.type "cell":=by
 cases o with
 | list vs=>refine cX1 x fun items yA=>cA2 yA fun yB _=>cX1 yB fun n ho=>?_; clear x yA yB; exact ⟨_,ho,by simp,by simp,by simp⟩
 | dict es=>refine cX1 x fun kvs yA=>cA2 yA fun yB _=>cX2 yB fun o es yC=>cA3 yC fun ho hc _=>?_; clear x yA yB yC; exact ⟨o,ho,by rw [hc.1]; decide,by rw [hc.1]; decide,by rw [hc.1]; decide⟩
 | tdict es=>refine cX1 x fun kvs yA=>cA2 yA fun yB _=>cX3 yB fun o es ep yC=>cA3 yC fun ho hc _=>?_; clear x yA yB yC; exact ⟨o,ho,by rw [hc.1]; decide,by rw [hc.1]; decide,by rw [hc.1]; decide⟩
 | inst c d=>refine cX1 x fun da yA=>cA2 yA fun _ ho=>?_; clear x yA; exact ⟨_,ho,by simp,by simp,by simp⟩
theorem HM.there {C:k1J} {ρ:List Addr} {H:Hp} {h:Heap} (x:HM C ρ H h) {a:Addr} (ha:a∈ρ):∃ ob,h.get? a = some ob∧ob.cls≠.type "tuple"∧ob.cls≠.type "frame"∧ob.cls≠.type "cell":=by
 refine cX1 (w1O.mp ha) fun i yA=>cX1 yA fun hi e=>?_; clear yA
 have hi':i < H.length:=x.len ▸ hi
 exact (x.obj i a H[i] (by rw [w0A hi,e]) (w0A hi')).there
theorem k8l {K:Type} [DecidableEq K] {prog:Program} {w:World} {knd:KeyKind prog w K} {h h':Heap} (k:∀ a o,h.get? a = some o→k4z o→h'.get? a = some o)
  {ks:List K} {a:Addr} (x:IsTupleKey knd h ks a):IsTupleKey knd h' ks a:=by
 refine cX3 x fun o items n yA=>cA4 yA fun ho hc hd r=>?_; clear x yA
 exact ⟨o,items,n,k a o ho ⟨hc,items,n,hd⟩,hc,hd,r⟩
theorem OR.mono {C:k1J} {ρ ρ':List Addr} {h h':Heap} {a:Addr} {o:O} (p:ρ <+: ρ') (k:∀ a o,h.get? a = some o→k4z o→h'.get? a = some o) (e:∀ ob,h.get? a = some ob→h'.get? a = some ob)
  (x:OR C ρ h a o):OR C ρ' h' a o:=by
 cases o with
 | list vs=>refine cX1 x fun items yA=>cA2 yA fun yB hv=>cX1 yB fun n ho=>?_; clear x yA yB; exact ⟨items,⟨n,e _ ho⟩,hv.mono p k⟩
 | dict es=>refine cX1 x fun kvs yA=>cA2 yA fun yB hv=>cX2 yB fun o es yC=>cA2 yC fun ho r=>?_; clear x yA yB yC; exact ⟨kvs,⟨o,es,e o ho,r⟩,hv.mono p k⟩
 | tdict es =>
  refine cX1 x fun xs yA=>cA2 yA fun yB hv=>cX3 yB fun o es ep yC=>cA6 yC fun ho hc hd hl hi hn=>?_; clear x yA yB yC
  exact ⟨xs,⟨o,es,ep,e o ho,hc,hd,hl,fun x hx=>k8l k (hi x hx),hn⟩,hv.mono p k⟩
 | inst c d =>
  refine cX1 x fun da yA=>cA2 yA fun hd ho=>?_; clear x yA
  refine ⟨da,?_,e _ ho⟩
  refine cX1 p fun r yA=>?_; clear p; subst yA
  rw [w0D (w0v.mp hd).1]; exact hd
theorem HM.grow {C:k1J} {ρ:List Addr} {H:Hp} {h h':Heap} (x:HM C ρ H h) (k:∀ a o,h.get? a = some o→h'.get? a = some o):HM C ρ H h' :=
 ⟨x.len,x.nodup,fun i a o e1 e2=>(x.obj i a o e1 e2).mono (w0m _) (fun a o e Y=>k a o e) (fun ob e=>k a ob e),x.fresh,x.notSys⟩
theorem HM.setAt {C:k1J} {ρ:List Addr} {H:Hp} {h h':Heap} (x:HM C ρ H h) {i:Nat} {a:Addr} {o:O} (ha:ρ[i]? = some a) (s:Heap.SameBut a h h') (ho:(∀ V v,VR ρ h V v→VR ρ h' V v)→OR C ρ h' a o) :
  HM C ρ (H.set i o) h' where
 len:=by rw [List.length_set]; exact x.len
 nodup:=x.nodup
 fresh:=x.fresh
 notSys:=x.notSys
 obj:=fun j b o' e1 e2=>by
  have tup:∀ c ob,h.get? c = some ob→k4z ob→h'.get? c = some ob:=fun c ob e hc=>by
   by_cases q:c = a
   ·refine cX1 (x.there (w0z ha)) fun ob' yA=>cA3 yA fun e' n _=>?_; clear yA
    rw [q,e'] at e; refine k1f e fun yA=>?_; clear e; subst yA; exact absurd hc.1 n
   ·rw [s.2 c q]; exact e
  by_cases q:j = i
  ·subst q
   rw [ha] at e1; refine k1f e1 fun yA=>?_; clear e1; subst yA
   have hj:j < H.length:=x.len ▸ (w0v.mp ha).1
   rw [w1q hj] at e2; refine k1f e2 fun yA=>?_; clear e2; subst yA
   exact ho fun V v y=>y.mono (w0m _) tup
  ·rw [w1h (Ne.symm q)] at e2
   have hba:b≠a:=fun z=>q (by
    subst z
    exact (w1r (w0v.mp e1).1 x.nodup).mp (e1.trans ha.symm))
   exact (x.obj j b o' e1 e2).mono (w0m _) tup fun ob e=>by rw [s.2 b hba]; exact e
theorem HM.push {C:k1J} {ρ:List Addr} {H:Hp} {h h':Heap} (x:HM C ρ H h) {a:Addr} {o:O} (k:∀ a o,h.get? a = some o→h'.get? a = some o) (ha:h.get? a = none) (hb:C.base.get? a = none) (hs:(a == sysModules) = false)
  (ho:(∀ V v,VR ρ h V v→VR (ρ ++ [a]) h' V v)→OR C (ρ ++ [a]) h' a o):HM C (ρ ++ [a]) (H ++ [o]) h' where
 len:=by simp [x.len]
 nodup:=by
  rw [w0w]
  refine ⟨x.nodup,by simp,fun b hbm c hc=>?_⟩
  simp only [w0h] at hc
  subst hc
  intro z; subst z
  refine cX1 (x.there hbm) fun ob yA=>cA2 yA fun e _=>?_; clear yA
  rw [ha] at e; exact kNS e
 fresh:=fun b hb'=>by
  refine Or.elim (w0g.mp hb') (fun q=>?_) fun q=>?_
  ·exact x.fresh b q
  ·simp only [w0h] at q; subst q; exact hb
 notSys:=fun b hb'=>by
  refine Or.elim (w0g.mp hb') (fun q=>?_) fun q=>?_
  ·exact x.notSys b q
  ·simp only [w0h] at q; subst q; exact hs
 obj:=fun i b o' e1 e2=>by
  have p:ρ <+: ρ ++ [a]:=⟨[a],rfl⟩
  by_cases q:i < ρ.length
  ·rw [w0D q] at e1
   rw [w0D (x.len ▸ q)] at e2
   exact (x.obj i b o' e1 e2).mono p (fun a o e Y=>k a o e) (fun ob e=>k b ob e)
  ·have hi:i = ρ.length:=by
    have:=(w0v.mp e1).1
    simp at this; lia
   subst hi
   rw [w0C (w0l _)] at e1
   simp at e1; subst e1
   rw [x.len,w0C (w0l _)] at e2
   simp at e2; subst e2
   exact ho fun V v y=>y.mono p fun a o e Y=>k a o e
noncomputable abbrev Reg:=List (Option V)
structure Fm where
 env:Env
 stack:List Env
 names:List Str
 mods:List Addr
noncomputable abbrev Fm.fs (F:Fm):List Addr:=F.stack.filterMap (·.frame)
noncomputable def z2v (env:Env) (h:Heap) (x:Str) (v:Value):Prop :=
 (env.kindOf x = some .local∧∃ m,h.Ns env.locals m∧m x = some v) ∨
 (env.kindOf x = some .cell∧∃ c o,env.cells.lookup x = some c∧h.get? c = some o∧o.data = .cell (some v))
noncomputable def RM (F:Fm) (ρ:List Addr) (reg:Reg) (h:Heap):Prop :=
 ∀ (i:Nat) (x:Str) (V:V),F.names[i]? = some x→reg[i]? = some (some V)→∃ v,z2v F.env h x v∧VR ρ h V v
structure Fm.Ok (C:k1J) (F:Fm):Prop where
 kind:F.env.scope.kind = .function
 glob:F.env.globals = mainGlobals
 blt:F.env.builtins = builtinsNs
 lmod:F.env.locals∈F.mods
 base:∀ a,a∈F.mods→C.base.get? a = none
 cin:∀ x c,F.env.cells.lookup x = some c→c∈F.mods
 cmod:∀ x c,F.env.kindOf x = some .cell→F.env.cells.lookup x = some c→c≠F.env.locals
 cinj:∀ x y c,F.env.kindOf x = some .cell→F.env.kindOf y = some .cell→F.env.cells.lookup x = some c→F.env.cells.lookup y = some c→x = y
 nodup:F.names.Nodup
 fr:∃ fenv outer Lf,F.stack = fenv :: outer∧fenv.frame = some Lf∧F.env.frame = some Lf
noncomputable def z0z (C:k1J) (ρ:List Addr) (h:Heap) (stack:List Env):Prop :=
 ∀ e,e∈stack→e.scope.kind≠.module∧∃ L o es n,e.frame = some L∧L∉ρ∧C.base.get? L = none∧h.get? L = some o∧o.data = .dict es n
theorem z0z.fun {C:k1J} {ρ:List Addr} {h:Heap} {stack:List Env} (x:z0z C ρ h stack) {B:Heap} (hB:∀ e,e∈stack→∀ L,e.frame = some L→B.get? L = none):h.FunFrames B stack:=by
 induction stack with
 | nil=>trivial
 | cons e r ih =>
  refine cA2 (x e (.head _)) fun k yA=>cX4 yA fun L o es n yB=>cA5 yB fun h1 h2 h3 h4 h6=>?_; clear yA yB
  exact ⟨k,⟨L,o,h1,hB e (.head _) L h1,h4,fun vs q=>by rw [h6] at q; cases q⟩,ih (fun e' m=>x e' (.tail _ m)) fun e' m=>hB e' (.tail _ m)⟩
theorem z0z.of_slots {C:k1J} {ρ ρ':List Addr} {h h':Heap} {stack:List Env} (x:z0z C ρ h stack) (k:∀ e,e∈stack→∀ L,e.frame = some L→L∉ρ→L∉ρ'∧∀ o,h.get? L = some o→∃ sl,h'.get? L = some { o with slots:=sl }):z0z C ρ' h' stack:=by
 intro e he
 refine cA2 (x e he) fun k1 yA=>cX4 yA fun L o es n yB=>cA5 yB fun h1 h2 h3 h4 h6=>?_; clear yA yB
 refine cA2 (k e he L h1 h2) fun q r=>?_
 refine cX1 (r o h4) fun sl e'=>?_
 exact ⟨k1,L,_,es,n,h1,q,h3,e',h6⟩
noncomputable def OwnO (o:Obj):Prop:=(∃ es n,o.data = .dict es n)∨∃ v,o.data = .cell v
theorem OwnO.notTup {o:Obj} (x:OwnO o):¬ k4z o:=fun t=>by
 refine cX2 t.2 fun l n d=>?_
 (refine Or.elim x (fun yY=>?_) fun yZ=>?_ <;> clear x; rotate_left; (refine cX1 yZ fun v e=>?_; clear yZ); rotate_right; (refine cX2 yY fun es m e=>?_; clear yY)) <;> rw [e] at d <;> cases d
theorem OwnO.notFields {o:Obj} (x:OwnO o):∀ vs,o.data≠.fields vs:=fun vs d=>by
 (refine Or.elim x (fun yY=>?_) fun yZ=>?_ <;> clear x; rotate_left; (refine cX1 yZ fun v e=>?_; clear yZ); rotate_right; (refine cX2 yY fun es m e=>?_; clear yY)) <;> rw [e] at d <;> cases d
structure CInv (C:k1J) (stack:List Env) (ρ:List Addr) (H:Hp) (s:Shared):Prop where
 sh:s = C.at s.heap s.toks
 base:C.base.StaysIn s.heap
 hm:HM C ρ H s.heap
 frs:z0z C ρ s.heap stack
structure k1O (C:k1J) (F:Fm) (ρ:List Addr) (reg:Reg) (H:Hp) (s:Shared):Prop extends CInv C F.stack ρ H s where
 ns:∃ m,s.heap.Ns F.env.locals m
 off:∀ a,a∈F.mods→a∉ρ∧∃ o,s.heap.get? a = some o∧OwnO o
 rm:RM F ρ reg s.heap
 cl:∀ x c,F.env.kindOf x = some .cell→F.env.cells.lookup x = some c→c∈F.mods∧∃ v,s.heap.IsCell c v
theorem z2v.grow {env:Env} {h h':Heap} {x:Str} {v:Value} (a:z2v env h x v) (k:∀ a o,h.get? a = some o→h'.get? a = some o):z2v env h' x v:=by
 refine Or.elim a (fun yY=>?_) fun yZ=>?_ <;> clear a; rotate_left; (refine cA2 yZ fun e yA=>cX2 yA fun c o yB=>cA3 yB fun l g d=>?_; clear yZ yA yB); rotate_right; (refine cA2 yY fun e yA=>cX1 yA fun m yB=>cA2 yB fun n q=>?_; clear yY yA yB)
 ·exact .inl ⟨e,m,n.keeps k,q⟩
 ·exact .inr ⟨e,c,o,l,k _ _ g,d⟩
theorem k1O.grow {C:k1J} {F:Fm} {ρ:List Addr} {reg:Reg} {H:Hp} {s:Shared} (x:k1O C F ρ reg H s) {h':Heap} {t:Nat} (k:∀ a o,s.heap.get? a = some o→h'.get? a = some o) :
  k1O C F ρ reg H { s with heap:=h',toks:=t } where
 sh:=by rw [x.sh]
 base:=fun b o e=>k b o (x.base b o e)
 hm:=x.hm.grow k
 ns:=cX1 x.ns fun m n=>⟨m,n.keeps k⟩
 off:=fun a ha=>⟨(x.off a ha).1,cX1 (x.off a ha).2 fun o w=>⟨o,k a o w.1,w.2⟩⟩
 rm:=fun i y V e1 e2=>cX1 (x.rm i y V e1 e2) fun v w=>⟨v,w.1.grow k,w.2.mono (w0m _) fun a o e Y=>k a o e⟩
 frs:=x.frs.of_slots fun Y Y L Y n=>⟨n,fun o e=>⟨o.slots,k L o e⟩⟩
 cl:=fun y c e1 e2=>let ⟨m,v,z⟩:=x.cl y c e1 e2; ⟨m,v,z.keeps k⟩
theorem k1O.toks {C:k1J} {F:Fm} {ρ:List Addr} {reg:Reg} {H:Hp} {s:Shared} (x:k1O C F ρ reg H s) (t:Nat):k1O C F ρ reg H { s with toks:=t }:=x.grow (h':=s.heap) fun Y Y e=>e
theorem k1O.heap {C:k1J} {F:Fm} {ρ:List Addr} {reg:Reg} {H:Hp} {s:Shared} (x:k1O C F ρ reg H s) {h':Heap} (k:∀ a o,s.heap.get? a = some o→h'.get? a = some o):k1O C F ρ reg H { s with heap:=h' }:=x.grow (t:=s.toks) k
theorem k1O.forget {C:k1J} {F:Fm} {ρ:List Addr} {reg:Reg} {H:Hp} {s:Shared} (x:k1O C F ρ reg H s):k1O C F ρ [] H s :=
 { toCInv:=x.toCInv,ns:=x.ns,off:=x.off,rm:=fun i y V Y e=>by simp at e,cl:=x.cl }
theorem k1O.setAt {C:k1J} {F:Fm} (ok:F.Ok C) {ρ:List Addr} {reg:Reg} {H:Hp} {s:Shared} (x:k1O C F ρ reg H s) {h':Heap} {t:Nat} {i:Nat} {a:Addr} {o:O} (ha:ρ[i]? = some a) (sb:Heap.SameBut a s.heap h')
  (ho:(∀ V v,VR ρ s.heap V v→VR ρ h' V v)→OR C ρ h' a o) (hcell:∀ ob v,s.heap.get? a = some ob→ob.data≠.cell v) :
  k1O C F ρ reg (H.set i o) { s with heap:=h',toks:=t }∧k1m F.fs F.mods ρ ρ s.heap h':=by
 have hm:=x.hm.setAt ha sb ho
 have mem:=w0z ha
 refine cX1 (x.hm.there mem) fun ob yA=>cA4 yA fun hob nt nf nc=>?_; clear yA
 refine cX1 (hm.there mem) fun ob' yA=>cA2 yA fun hob' _=>?_; clear yA
 have other:∀ b o,b≠a→s.heap.get? b = some o→h'.get? b = some o:=fun b o q e=>by rw [sb.2 b q]; exact e
 have tup:∀ c ob,s.heap.get? c = some ob→k4z ob→h'.get? c = some ob:=fun c oc e hc=>other c oc (fun q=>by rw [q,hob] at e; refine k1f e fun yA=>?_; clear e; subst yA; exact nt hc.1) e
 have st:k1m F.fs F.mods ρ ρ s.heap h':=⟨w0m _,fun Y z=>.inl z,fun b o e=>by
   by_cases q:b = a
   ·exact ⟨ob',by rw [q]; exact hob'⟩
   ·exact ⟨o,other b o q e⟩,tup,fun b o e n1 Y Y=>other b o (fun q=>n1 (q ▸ mem)) e,fun b o e n1 Y=>⟨o.slots,other b o (fun q=>n1 (q ▸ mem)) e⟩⟩
 have hLne:F.env.locals≠a:=fun q=>(x.off _ ok.lmod).1 (q ▸ mem)
 have frs:z0z C ρ h' F.stack:=x.frs.of_slots fun Y Y L Y n=>⟨n,fun o e=>⟨o.slots,other L o (fun q=>n (q ▸ mem)) e⟩⟩
 refine ⟨?_,st⟩
 refine { sh:=by rw [x.sh],base:=fun b o e=>other b o (fun q=>by rw [q,x.hm.fresh a mem] at e; exact kNS e) (x.base b o e),hm:=hm,frs:=frs,ns:=?_,off:=?_,rm:=?_,cl:=fun y c e1 e2=>let ⟨m,v,z⟩:=x.cl y c e1 e2; ⟨m,v,z.sameBut sb fun q=>(x.off c m).1 (q ▸ mem)⟩ }
 ·refine cX1 x.ns fun m n=>?_
  exact ⟨m,n.sameBut sb hLne⟩
 ·intro b hb
  refine ⟨(x.off b hb).1,?_⟩
  refine cX1 ((x.off b hb).2) fun o yA=>cA2 yA fun e c=>?_; clear yA
  exact ⟨o,other b o (fun q=>(x.off b hb).1 (q ▸ mem)) e,c⟩
 ·intro j y V e1 e2
  refine cX1 (x.rm j y V e1 e2) fun v yA=>cA2 yA fun va vr=>?_; clear yA
  refine ⟨v,?_,vr.mono (w0m _) tup⟩
  refine Or.elim va (fun yY=>?_) fun yZ=>?_ <;> clear va; rotate_left; (refine cA2 yZ fun e yA=>cX2 yA fun c oc yB=>cA3 yB fun l g d=>?_; clear yZ yA yB); rotate_right; (refine cA2 yY fun e yA=>cX1 yA fun m yB=>cA2 yB fun n q=>?_; clear yY yA yB)
  ·exact .inl ⟨e,m,n.sameBut sb hLne,q⟩
  ·exact .inr ⟨e,c,oc,l,other c oc (fun q=>hcell oc (some v) (q ▸ g) d) g,d⟩
theorem z2v.slots {env:Env} {h h':Heap} {x:Str} {v:Value} (a:z2v env h x v) (k:∀ a o,(a = env.locals∨env.cells.lookup x = some a)→h.get? a = some o→∃ sl,h'.get? a = some { o with slots:=sl }):z2v env h' x v:=by
 refine Or.elim a (fun yY=>?_) fun yZ=>?_ <;> clear a; rotate_left; (refine cA2 yZ fun e yA=>cX2 yA fun c o yB=>cA3 yB fun l g d=>?_; clear yZ yA yB); rotate_right; (refine cA2 yY fun e yA=>cX1 yA fun m yB=>cA2 yB fun yC q=>cX3 yC fun o es ep yD=>cA3 yD fun ho hd r=>?_; clear yY yA yB yC yD)
 ·refine cX1 (k _ o (.inl rfl) ho) fun sl e'=>?_
  exact .inl ⟨e,m,⟨_,es,ep,e',hd,r⟩,q⟩
 ·refine cX1 (k _ o (.inr l) g) fun sl e'=>?_
  exact .inr ⟨e,c,_,l,e',d⟩
theorem k1O.after {C:k1J} {F:Fm} (ok:F.Ok C) {ρ ρ':List Addr} {reg:Reg} {H H':Hp} {s s':Shared} (x:k1O C F ρ reg H s) (y:CInv C F.stack ρ' H' s') (st:k1m F.fs [] ρ ρ' s.heap s'.heap) :
  k1O C F ρ' reg H' s' where
 toCInv:=y
 ns:=by
  refine cX4 x.ns fun m o es ep yA=>cA2 yA fun ho r=>?_; clear yA
  refine cX1 (st.frame _ o ho (x.off _ ok.lmod).1 (by simp)) fun sl e=>?_
  exact ⟨m,_,es,ep,e,r⟩
 off:=fun a ha=>by
  refine cA2 (x.off a ha) fun n yA=>cX1 yA fun o yB=>cA2 yB fun e c=>?_; clear yA yB
  refine ⟨fun q=>(st.new a q).elim n fun z=>(by rw [e] at z; exact kSN z),?_⟩
  refine cX1 (st.frame a o e n (by simp)) fun sl e'=>?_
  exact ⟨_,e',c⟩
 cl:=fun z c e1 e2=>by
  refine cA2 (x.cl z c e1 e2) fun m yA=>cX2 yA fun v o yB=>cA2 yB fun g d=>?_; clear yA yB
  refine cX1 (st.frame c o g (x.off c m).1 (by simp)) fun sl e'=>?_
  exact ⟨m,v,_,e',d⟩
 rm:=fun i z V e1 e2=>by
  refine cX1 (x.rm i z V e1 e2) fun v yA=>cA2 yA fun va vr=>?_; clear yA
  refine ⟨v,va.slots fun a o ha ho=>?_,vr.step st⟩
  refine st.frame a o ho ?_ (by simp)
  refine Or.elim ha ?_ ?_ <;> clear ha; rotate_left; intro ha; rotate_right; (intro yY; subst yY)
  ·exact (x.off _ ok.lmod).1
  ·exact (x.off _ (ok.cin _ _ ha)).1
noncomputable abbrev Po (α:Type):=Except Ex α→Hp→Prop
noncomputable def rK {α β:Type} (f:α→β) (Q:Po β):Po α:=fun r h=>match r with
 | .ok a=>Q (.ok (f a)) h
 | .error e=>Q (.error e) h
section
variable {α β:Type}
@[simp] theorem k0O (k:α→β) (Q:Po β) (a:α) (h:Hp):rK k Q (.ok a) h = Q (.ok (k a)) h:=rfl
@[simp] theorem k6d (k:α→β) (Q:Po β) (e:Ex) (h:Hp):rK k Q (.error e) h = Q (.error e) h:=rfl
theorem k8m {f:α→β} {Q Q':Po β} (q:∀ r h,Q r h→Q' r h):∀ r h,rK f Q r h→rK f Q' r h
 | .ok _,_,x=>q _ _ x
 | .error _,_,x=>q _ _ x
end
noncomputable def oK {α:Type} (o:Option α) (k:α→Prop):Prop:=match o with
 | some a=>k a
 | none=>False
@[simp] theorem k0g {α:Type} (a:α) (k:α→Prop):oK (some a) k = k a:=rfl
theorem k5Z {α:Type} {o:Option α} {k:α→Prop} {P:Prop} (x:oK o k) (f:∀ a,o = some a→k a→P):P:=match o,x,f with
 | some a,x,f=>f a rfl x
@[simp high] theorem rg0 {α:Type} (a:α) (r:List α):(a :: r)[0]? = some a:=rfl
@[simp high] theorem rgS {α:Type} (a:α) (r:List α) (n:Nat):(a :: r)[n + 1]? = r[n]?:=rfl
section
variable {α β:Type}
structure X (α:Type) where
 f:Po α→Hp→Prop
 mono:∀ {Q Q':Po α} {h:Hp},(∀ r h',Q r h'→Q' r h')→f Q h→f Q' h
noncomputable abbrev wp (m:X α) (Q:Po α) (h:Hp):Prop:=m.f Q h
theorem k8n {m:X α} {Q Q':Po α} {h:Hp} (x:wp m Q h) (k:∀ r h',Q r h'→Q' r h'):wp m Q' h:=m.mono k x
noncomputable def bK (k:α→X β) (Q:Po β):Po α:=fun r h=>match r with
 | .ok a=>wp (k a) Q h
 | .error e=>Q (.error e) h
theorem bK_mono {k:α→X β} {Q Q':Po β} (q:∀ r h,Q r h→Q' r h):∀ r h,bK k Q r h→bK k Q' r h
 | .ok a,_,x=>(k a).mono q x
 | .error _,_,x=>q _ _ x
noncomputable def X.pure (a:α):X α:=⟨fun Q h=>Q (.ok a) h,fun k x=>k _ _ x⟩
noncomputable def X.bind (m:X α) (k:α→X β):X β:=⟨fun Q h=>wp m (bK k Q) h,fun q x=>m.mono (bK_mono q) x⟩
noncomputable def X.stuck:X α:=⟨fun Y Y=>False,fun Y x=>x⟩
noncomputable def X.throw (e:Ex):X α:=⟨fun Q h=>Q (.error e) h,fun k x=>k _ _ x⟩
structure HideP (m:X α) (Q:Po α) (h:Hp):Prop where
 ex:wp m Q h
noncomputable def hide (m:X α):X α:=⟨fun Q h=>HideP m Q h,fun q x=>⟨m.mono q x.ex⟩⟩
noncomputable def z4P (g:Hp→X α):X α:=⟨fun Q h=>wp (g h) Q h,fun {_ _ h} k x=>(g h).mono k x⟩
end
noncomputable instance:Monad X:={ pure:=X.pure,bind:=X.bind }
section
variable {α β:Type}
theorem k0r (m:X α) (k:α→X β) (Q:Po β) (h:Hp):wp (m >>= k) Q h = wp m (bK k Q) h:=rfl
theorem k0P (a:α) (Q:Po α) (h:Hp):wp (Pure.pure a:X α) Q h = Q (.ok a) h:=rfl
theorem q_throw (x:Ex) (Q:Po α) (h:Hp):wp (X.throw x:X α) Q h = Q (.error x) h:=rfl
theorem q_stuck (Q:Po α) (h:Hp):wp (X.stuck:X α) Q h = False:=rfl
theorem z3o (m:X α) (Q:Po α) (h:Hp):wp (hide m) Q h = wp m Q h:=propext ⟨fun x=>x.ex,fun x=>⟨x⟩⟩
theorem q_inHeap (g:Hp→X α) (Q:Po α) (h:Hp):wp (z4P g) Q h = wp (g h) Q h:=rfl
@[simp] theorem k0u (k:α→X β) (Q:Po β) (a:α) (h:Hp):bK k Q (.ok a) h = wp (k a) Q h:=rfl
@[simp] theorem bK_err (k:α→X β) (Q:Po β) (e:Ex) (h:Hp):bK k Q (.error e) h = Q (.error e) h:=rfl
theorem q_map (m:X α) (f:α→β) (Q:Po β) (h:Hp):wp (m >>= fun a=>Pure.pure (f a)) Q h = wp m (rK f Q) h:=by
 have e:bK (fun a=>Pure.pure (f a)) Q = rK f Q:=by funext r h; cases r <;> rfl
 rw [k0r,e]
theorem k2Y {o:Option α} {k k':α→Prop} (q:∀ a,k a→k' a):oK o k→oK o k':=fun x=>match o,x with
 | some a,x=>q a x
@[simp] theorem k2w (p:Prop) [Decidable p] (a b:X α) (Q:Po α) (h:Hp):wp (if p then a else b) Q h = if p then wp a Q h else wp b Q h:=by
 by_cases e:p
 ·rw [if_pos e,if_pos e]
 ·rw [if_neg e,if_neg e]
end
section
variable {α:Type}
noncomputable def oInt (f:Int→Option α) (v:V):Option α:=match v with | .int i=>f i | _=>none
noncomputable def oStr (f:List Nat→Option α) (v:V):Option α:=match v with | .str i=>f i | _=>none
noncomputable def oTup (f:List V→Option α) (v:V):Option α:=match v with | .tup i=>f i | _=>none
variable {v:V} {b:α} {P:Prop}
theorem z0A {f:Int→Option α} (e:oInt f v = some b) (k:∀ i,v = .int i→f i = some b→P):P:=by cases v <;> first | exact k _ rfl e | exact kNS e
theorem z4Q {f:List Nat→Option α} (e:oStr f v = some b) (k:∀ i,v = .str i→f i = some b→P):P:=by cases v <;> first | exact k _ rfl e | exact kNS e
theorem z2w {f:List V→Option α} (e:oTup f v = some b) (k:∀ i,v = .tup i→f i = some b→P):P:=by cases v <;> first | exact k _ rfl e | exact kNS e
theorem k7B {p:Prop} [Decidable p] {o:Option α} (e:(if p then o else none) = some b) (k:p→o = some b→P):P:=by
 by_cases h:p
 ·rw [if_pos h] at e; exact k h e
 ·rw [if_neg h] at e; exact kNS e
end
section
variable {α:Type}
noncomputable def onInt (k:Int→X α) (v:V):X α:=match v with | .int i=>k i | _=>X.stuck
noncomputable def onStr (k:List Nat→X α) (v:V):X α:=match v with | .str i=>k i | _=>X.stuck
noncomputable def onBool (k:Bool→X α) (v:V):X α:=match v with | .bool i=>k i | _=>X.stuck
noncomputable def onLoc (k:Nat→X α) (v:V):X α:=match v with | .loc i=>k i | _=>X.stuck
noncomputable def onTup (k:List V→X α) (v:V):X α:=match v with | .tup i=>k i | _=>X.stuck
noncomputable def onNone (k:X α) (v:V):X α:=match v with | .none=>k | _=>X.stuck
section
variable {v:V} {Q:Po α} {h:Hp} {P:Prop}
theorem z3p {k:Int→X α} (x:wp (onInt k v) Q h) (f:∀ i,v = .int i→wp (k i) Q h→P):P:=by cases v <;> first | exact f _ rfl x | exact False.elim x
theorem z3q {k:List Nat→X α} (x:wp (onStr k v) Q h) (f:∀ i,v = .str i→wp (k i) Q h→P):P:=by cases v <;> first | exact f _ rfl x | exact False.elim x
theorem z4R {k:Bool→X α} (x:wp (onBool k v) Q h) (f:∀ i,v = .bool i→wp (k i) Q h→P):P:=by cases v <;> first | exact f _ rfl x | exact False.elim x
theorem z0B {k:Nat→X α} (x:wp (onLoc k v) Q h) (f:∀ i,v = .loc i→wp (k i) Q h→P):P:=by cases v <;> first | exact f _ rfl x | exact False.elim x
theorem onTup_ex {k:List V→X α} (x:wp (onTup k v) Q h) (f:∀ i,v = .tup i→wp (k i) Q h→P):P:=by cases v <;> first | exact f _ rfl x | exact False.elim x
theorem z4S {k:X α} (x:wp (onNone k v) Q h) (f:v = .none→wp k Q h→P):P:=by cases v <;> first | exact f rfl x | exact False.elim x
end
noncomputable def args1 (k:V→X α) (l:List V):X α:=match l with | [a]=>k a | _=>X.stuck
noncomputable def args2 (k:V→V→X α) (l:List V):X α:=match l with | [a,b]=>k a b | _=>X.stuck
noncomputable def args3 (k:V→V→V→X α) (l:List V):X α:=match l with | [a,b,c]=>k a b c | _=>X.stuck
section
variable {l:List V} {Q:Po α} {h:Hp} {P:Prop}
theorem args1_ex {k:V→X α} (x:wp (args1 k l) Q h) (f:∀ a,l = [a]→wp (k a) Q h→P):P:=by
 cases l with
 | nil=>exact False.elim x
 | cons a l=>cases l with
  | nil=>exact f a rfl x
  | cons=>exact False.elim x
theorem args2_ex {k:V→V→X α} (x:wp (args2 k l) Q h) (f:∀ a b,l = [a,b]→wp (k a b) Q h→P):P:=by
 cases l with
 | nil=>exact False.elim x
 | cons a l=>cases l with
  | nil=>exact False.elim x
  | cons b l=>cases l with
   | nil=>exact f a b rfl x
   | cons=>exact False.elim x
theorem args3_ex {k:V→V→V→X α} (x:wp (args3 k l) Q h) (f:∀ a b c,l = [a,b,c]→wp (k a b c) Q h→P):P:=by
 cases l with
 | nil=>exact False.elim x
 | cons a l=>cases l with
  | nil=>exact False.elim x
  | cons b l=>cases l with
   | nil=>exact False.elim x
   | cons c l=>cases l with
    | nil=>exact f a b c rfl x
    | cons=>exact False.elim x
end
noncomputable def when (p:Prop) (m:X α):X α:=⟨fun Q h=>p∧wp m Q h,fun q x=>⟨x.1,m.mono q x.2⟩⟩
noncomputable def z4N {β:Type} (o:Option β) (k:β→X α):X α:=⟨fun Q h=>oK o fun b=>wp (k b) Q h,fun q x=>k2Y (fun b y=>(k b).mono q y) x⟩
noncomputable def xOpt (o:Option α):X α:=⟨fun Q h=>oK o fun b=>Q (.ok b) h,fun q x=>k2Y (fun b y=>q _ _ y) x⟩
noncomputable def atLoc (l:Nat) (k:O→X α):X α:=⟨fun Q h=>oK h[l]? fun b=>wp (k b) Q h,fun q x=>k2Y (fun b y=>(k b).mono q y) x⟩
noncomputable def atBind {β:Type} (l:Nat) (f:O→Option β) (k:β→X α):X α:=⟨fun Q h=>oK (h[l]?.bind f) fun b=>wp (k b) Q h,fun q x=>k2Y (fun b y=>(k b).mono q y) x⟩
noncomputable def setLoc (l:Nat) (o:O) (a:α):X α:=⟨fun Q h=>Q (.ok a) (h.set l o),fun q x=>q _ _ x⟩
end
structure k7Y (n:Nat) (A:Around) (F:Fm):Prop where
 handled:A.handled = none
 frames:A.frames = some F.stack
 depth:A.depth + n < recursionLimit
 units:A.units + 10 * n + 200 < cLine
noncomputable def ExS (C:k1J) (h₀ h:Heap) (x:Ex) (ea:Addr) (tr:Option Value):Prop :=
 ∃ (oe:Obj) (vs:Array Value),h₀.get? ea = none∧C.base.get? ea = none∧h.get? ea = some oe∧oe.cls = .ref (C.exc x)∧oe.data = .fields vs∧1 < vs.size∧(x = .run→vs[2]? = some .none) ∧
  (match tr with
   | none=>vs[1]? = some .none
   | some fl=>∃ (T:Addr) (oT:Obj) (ts:Array Value),vs[1]? = some (.ref T)∧h₀.get? T = none∧C.base.get? T = none∧T≠ea∧h.get? T = some oT∧oT.data = .fields ts∧ts[3]? = some fl)
theorem ExS.older {C:k1J} {h₀ h₁ h:Heap} {x:Ex} {e:Addr} {tr:Option Value} (k:∀ a,h₁.get? a = none→h₀.get? a = none) (y:ExS C h₁ h x e tr):ExS C h₀ h x e tr:=by
 refine cX2 y fun oe vs yA=>cA8 yA fun e2 e3 e4 e5 e6 e7 e7' e8=>?_; clear y yA
 refine ⟨oe,vs,k _ e2,e3,e4,e5,e6,e7,e7',?_⟩
 cases tr with
 | none=>exact e8
 | some fl =>
  refine cX3 e8 fun T oT ts yA=>cA3 yA fun t1 t2 t3=>?_; clear e8 yA
  exact ⟨T,oT,ts,t1,k _ t2,t3⟩
noncomputable def ExAt (C:k1J) (F:Fm) (h₀ h:Heap) (x:Ex) (e:Value):Prop :=
 ∃ (ea:Addr),e = .ref ea∧(ExS C h₀ h x ea none∨ExS C h₀ h x ea (some .none)∨∃ Lf,F.env.frame = some Lf∧ExS C h₀ h x ea (some (rawInt Lf)))
theorem ExAt.older {C:k1J} {F:Fm} {h₀ h₁ h:Heap} {x:Ex} {e:Value} (k:∀ a,h₁.get? a = none→h₀.get? a = none) (y:ExAt C F h₁ h x e):ExAt C F h₀ h x e:=by
 refine cX1 y ?_; clear y; intro ea yA; refine cA2 yA fun e1 y=>?_; clear yA
 exact ⟨ea,e1,y.imp (ExS.older k) (Or.imp (ExS.older k) fun ⟨L,a,b⟩=>⟨L,a,b.older k⟩)⟩
inductive PO {α β:Type} (C:k1J) (F:Fm) (P:Po β) (Q:β→α→List Addr→Hp→Shared→Prop) (ρ:List Addr) (h₀:Heap) (a:α) (s':Shared):Prop
 | mk (b:β) (ρ':List Addr) (H':Hp) (p:P (.ok b) H') (q:Q b a ρ' H' s') (st:k1m F.fs F.mods ρ ρ' h₀ s'.heap)
inductive QE {β:Type} (C:k1J) (F:Fm) (P:Po β) (ρ:List Addr) (h₀:Heap) (e:Value) (s':Shared):Prop
 | mk (x:Ex) (ρ':List Addr) (H':Hp) (p:P (.error x) H') (inv:k1O C F ρ' [] H' s') (ea:ExAt C F h₀ s'.heap x e) (st:k1m F.fs F.mods ρ ρ' h₀ s'.heap)
theorem PO.after {α β:Type} {C:k1J} {F:Fm} {P:Po β} {Q:β→α→List Addr→Hp→Shared→Prop} {ρ₀ ρ:List Addr} {h₀ h:Heap} {a:α} {s':Shared} (x:PO C F P Q ρ h a s') (st:k1m F.fs F.mods ρ₀ ρ h₀ h):PO C F P Q ρ₀ h₀ a s' :=
 x.casesOn fun b ρ' H' p q st'=>⟨b,ρ',H',p,q,st.trans st'⟩
theorem QE.after {β:Type} {C:k1J} {F:Fm} {P:Po β} {ρ₀ ρ:List Addr} {h₀ h:Heap} {e:Value} {s':Shared} (x:QE C F P ρ h e s') (st:k1m F.fs F.mods ρ₀ ρ h₀ h):QE C F P ρ₀ h₀ e s' :=
 match x with | ⟨b,ρ',H',p,q,ea,st'⟩=>⟨b,ρ',H',p,q,ea.older fun a=>st.none_of,st.trans st'⟩
theorem QE.to {β γ:Type} {C:k1J} {F:Fm} {P:Po β} {P':Po γ} {ρ:List Addr} {h₀:Heap} {e:Value} {s':Shared} (x:QE C F P ρ h₀ e s') (k:∀ x H',P (.error x) H'→P' (.error x) H'):QE C F P' ρ h₀ e s' :=
 match x with | ⟨b,ρ',H',p,q,ea,st'⟩=>⟨b,ρ',H',k _ _ p,q,ea,st'⟩
noncomputable def k0e {α β:Type} (C:k1J) (F:Fm) (A:Around) (ρ:List Addr) (H:Hp) (s:Shared) (t:Sem α) (c:X β) (Q:β→α→List Addr→Hp→Shared→Prop):Prop :=
 ∀ P,wp c P H→wpAny (model C.prog C.w) A t (PO C F P Q ρ s.heap) (QE C F P ρ s.heap) s
section
variable {α β γ δ:Type} {C:k1J} {F:Fm} {A:Around} {ρ:List Addr} {H:Hp} {s:Shared}
theorem k0e.seqR {t:Sem α} {c:X β} {R:Po β} {Q:β→α→List Addr→Hp→Shared→Prop} {P:Po δ} {Z:α→Shared→Prop} (x:k0e C F A ρ H s t c Q) (e:wp c R H) (hR:∀ x H',R (.error x) H'→P (.error x) H')
  (y:∀ b a ρ' H₁ s',Q b a ρ' H₁ s'→k1m F.fs F.mods ρ ρ' s.heap s'.heap→R (.ok b) H₁→Z a s'):wpAny (model C.prog C.w) A t Z (QE C F P ρ s.heap) s :=
 wpAny_mono (x R e) (fun a s' h=>match h with | ⟨b,ρ',H',hp,hq,st⟩=>y b a ρ' H' s' hq st hp) fun Y Y h=>h.to hR
theorem k0e.seq {t:Sem α} {c:X β} {kc:β→X δ} {Q:β→α→List Addr→Hp→Shared→Prop} {P:Po δ} {Z:α→Shared→Prop} (x:k0e C F A ρ H s t c Q) (e:wp (c >>= kc) P H)
  (y:∀ b a ρ' H₁ s',Q b a ρ' H₁ s'→k1m F.fs F.mods ρ ρ' s.heap s'.heap→wp (kc b) P H₁→Z a s'):wpAny (model C.prog C.w) A t Z (QE C F P ρ s.heap) s :=
 x.seqR (R:=bK kc P) e (fun Y Y h=>h) y
theorem k0e.bindR {t:Sem α} {c:X β} {k:α→Sem γ} {w:X δ} {Q:β→α→List Addr→Hp→Shared→Prop} {Q':δ→γ→List Addr→Hp→Shared→Prop} (R:Po δ→Po β) (x:k0e C F A ρ H s t c Q) (e:∀ P,wp w P H→wp c (R P) H)
  (hR:∀ P x H',R P (.error x) H'→P (.error x) H')
  (y:∀ b a ρ' H' s',Q b a ρ' H' s'→k1m F.fs F.mods ρ ρ' s.heap s'.heap→∀ P,R P (.ok b) H'→wpAny (model C.prog C.w) A (k a) (PO C F P Q' ρ' s'.heap) (QE C F P ρ' s'.heap) s'):k0e C F A ρ H s (t >>= k) w Q':=fun P p =>
 wpAny_bind (x.seqR (e P p) (hR P) fun b a ρ' H' s' q st hp=>wpAny_mono (y b a ρ' H' s' q st P hp) (fun Y Y h=>h.after st) fun Y Y h=>h.after st)
theorem k0e.bind {t:Sem α} {c:X β} {k:α→Sem γ} {kc:β→X δ} {Q:β→α→List Addr→Hp→Shared→Prop} {Q':δ→γ→List Addr→Hp→Shared→Prop}
  (x:k0e C F A ρ H s t c Q) (y:∀ b a ρ' H' s',Q b a ρ' H' s'→k1m F.fs F.mods ρ ρ' s.heap s'.heap→k0e C F A ρ' H' s' (k a) (kc b) Q'):k0e C F A ρ H s (t >>= k) (c >>= kc) Q' :=
 x.bindR (bK kc) (fun Y p=>p) (fun Y Y Y p=>p) y
theorem k0e.map {t:Sem α} {c:X β} {k:α→Sem γ} {f:β→δ} {w:X δ} {Q:β→α→List Addr→Hp→Shared→Prop} {Q':δ→γ→List Addr→Hp→Shared→Prop} (x:k0e C F A ρ H s t c Q) (e:∀ P,wp w P H→wp c (rK f P) H)
  (y:∀ b a ρ' H' s',Q b a ρ' H' s'→k1m F.fs F.mods ρ ρ' s.heap s'.heap→k0e C F A ρ' H' s' (k a) (Pure.pure (f b)) Q'):k0e C F A ρ H s (t >>= k) w Q' :=
 x.bindR (rK f) e (fun Y Y Y p=>p) y
theorem k0e.finish {t:Sem α} {c:X β} {Q:β→α→List Addr→Hp→Shared→Prop} {P:Po β} {ρ₀:List Addr} {h₀:Heap} (x:k0e C F A ρ H s t c Q) (e:wp c P H) (st:k1m F.fs F.mods ρ₀ ρ h₀ s.heap) :
  wpAny (model C.prog C.w) A t (PO C F P Q ρ₀ h₀) (QE C F P ρ₀ h₀) s:=wpAny_mono (x P e) (fun Y Y h=>h.after st) fun Y Y h=>h.after st
theorem k0e.pure {a:α} {b:β} {Q:β→α→List Addr→Hp→Shared→Prop} (q:Q b a ρ H s):k0e C F A ρ H s (Pure.pure a:Sem α) (Pure.pure b:X β) Q:=fun Y p=>wpAny_pure ⟨b,ρ,H,p,q,k1m.refl _ _ _ _⟩
theorem k0e.stuck {t:Sem α} {Q:β→α→List Addr→Hp→Shared→Prop}:k0e C F A ρ H s t (X.stuck:X β) Q:=fun Y p=>False.elim p
theorem k0e.when {t:Sem α} {p:Prop} {c:X β} {Q:β→α→List Addr→Hp→Shared→Prop} (x:p→k0e C F A ρ H s t c Q):k0e C F A ρ H s t (when p c) Q:=fun P y=>x y.1 P y.2
theorem k0e.opt {t:Sem α} {o:Option γ} {k:γ→X β} {Q:β→α→List Addr→Hp→Shared→Prop} (x:∀ b,o = some b→k0e C F A ρ H s t (k b) Q):k0e C F A ρ H s t (z4N o k) Q:=fun P y=>k5Z y fun b e z=>x b e P z
theorem k0e.xOpt {t:Sem α} {o:Option β} {Q:β→α→List Addr→Hp→Shared→Prop} (x:∀ b,o = some b→k0e C F A ρ H s t (Pure.pure b) Q):k0e C F A ρ H s t (xOpt o) Q:=fun P y=>k5Z y fun b e z=>x b e P z
theorem k0e.atLoc {t:Sem α} {l:Nat} {k:O→X β} {Q:β→α→List Addr→Hp→Shared→Prop} (x:∀ o,H[l]? = some o→k0e C F A ρ H s t (k o) Q):k0e C F A ρ H s t (atLoc l k) Q:=fun P y=>k5Z y fun b e z=>x b e P z
theorem k0e.atBind {t:Sem α} {l:Nat} {f:O→Option γ} {k:γ→X β} {Q:β→α→List Addr→Hp→Shared→Prop} (x:∀ o b,H[l]? = some o→f o = some b→k0e C F A ρ H s t (k b) Q):k0e C F A ρ H s t (atBind l f k) Q:=fun P y =>
 k5Z y fun b e z=>match w0W.mp e with | ⟨o,e1,e2⟩=>x o b e1 e2 P z
section
variable {v:V} {t:Sem α} {Q:β→α→List Addr→Hp→Shared→Prop}
theorem k0e.onInt {k:Int→X β} (x:∀ i,v = .int i→k0e C F A ρ H s t (k i) Q):k0e C F A ρ H s t (onInt k v) Q:=fun P y=>z3p y fun b e z=>x b e P z
theorem k0e.onStr {k:List Nat→X β} (x:∀ i,v = .str i→k0e C F A ρ H s t (k i) Q):k0e C F A ρ H s t (onStr k v) Q:=fun P y=>z3q y fun b e z=>x b e P z
theorem k0e.onBool {k:Bool→X β} (x:∀ i,v = .bool i→k0e C F A ρ H s t (k i) Q):k0e C F A ρ H s t (onBool k v) Q:=fun P y=>z4R y fun b e z=>x b e P z
theorem k0e.onLoc {k:Nat→X β} (x:∀ i,v = .loc i→k0e C F A ρ H s t (k i) Q):k0e C F A ρ H s t (onLoc k v) Q:=fun P y=>z0B y fun b e z=>x b e P z
theorem k0e.onTup {k:List V→X β} (x:∀ i,v = .tup i→k0e C F A ρ H s t (k i) Q):k0e C F A ρ H s t (onTup k v) Q:=fun P y=>onTup_ex y fun b e z=>x b e P z
theorem k0e.args1 {k:V→X β} {l:List V} (x:∀ a,l = [a]→k0e C F A ρ H s t (k a) Q):k0e C F A ρ H s t (args1 k l) Q:=fun P y=>args1_ex y fun a e z=>x a e P z
theorem k0e.args2 {k:V→V→X β} {l:List V} (x:∀ a b,l = [a,b]→k0e C F A ρ H s t (k a b) Q):k0e C F A ρ H s t (args2 k l) Q:=fun P y=>args2_ex y fun a b e z=>x a b e P z
theorem k0e.args3 {k:V→V→V→X β} {l:List V} (x:∀ a b c,l = [a,b,c]→k0e C F A ρ H s t (k a b c) Q):k0e C F A ρ H s t (args3 k l) Q:=fun P y=>args3_ex y fun a b c e z=>x a b c e P z
theorem k0e.onNone {k:X β} (x:v = .none→k0e C F A ρ H s t k Q):k0e C F A ρ H s t (onNone k v) Q:=fun P y=>z4S y fun e z=>x e P z
end
theorem k0e.holding {t:Sem α} {c:X β} {Q:β→α→List Addr→Hp→Shared→Prop} {vs:List Value} (x:k0e C F A ρ H s t c Q):k0e C F A ρ H s (PySem.holding vs t) c Q :=
 fun P e=>wpAny_holding (x P e)
theorem k0e.operate {t:Sem Value} {c:X β} {Q:β→Value→List Addr→Hp→Shared→Prop} {vs:List Value} (x:k0e C F A ρ H s t c Q):k0e C F A ρ H s (PySem.operate vs t) c Q :=
 fun P e=>wpAny_operateT (x P e)
theorem k0e.standAt {t:Sem α} {c:X β} {Q:β→α→List Addr→Hp→Shared→Prop} {p:Pos} (x:k0e C F A ρ H s t c Q):k0e C F A ρ H s (PySem.standAt p >>= fun Y=>t) c Q :=
 fun P e=>wpAny_bind (wpAny_standAt (x P e))
theorem k0e.prim {t:Sem α} {c:X β} {b:β} {H':Hp} {Q:β→α→List Addr→Hp→Shared→Prop} (hc:∀ P,wp c P H→P (.ok b) H')
  (h:wpAny (model C.prog C.w) A t (fun a s'=>∃ ρ',Q b a ρ' H' s'∧k1m F.fs F.mods ρ ρ' s.heap s'.heap) (fun Y Y=>False) s):k0e C F A ρ H s t c Q :=
 fun P p=>wpAny_mono h (fun Y Y h=>match h with | ⟨ρ',h1,h2⟩=>⟨b,ρ',H',hc P p,h1,h2⟩) fun Y Y h=>False.elim h
theorem k0e.prim0 {t:Sem α} {b:β} {Q:β→α→List Addr→Hp→Shared→Prop}
  (h:wpAny (model C.prog C.w) A t (fun a s'=>∃ ρ',Q b a ρ' H s'∧k1m F.fs F.mods ρ ρ' s.heap s'.heap) (fun Y Y=>False) s):k0e C F A ρ H s t (Pure.pure b:X β) Q :=
 k0e.prim (fun Y p=>p) h
end
noncomputable abbrev QV (C:k1J) (F:Fm) (reg:Reg):V→Value→List Addr→Hp→Shared→Prop:=fun V v ρ' H' s'=>VR ρ' s'.heap V v∧k1O C F ρ' reg H' s'
noncomputable abbrev QVs (C:k1J) (F:Fm) (reg:Reg):List V→List Value→List Addr→Hp→Shared→Prop:=fun V v ρ' H' s'=>VRs ρ' s'.heap V v∧k1O C F ρ' reg H' s'
noncomputable abbrev QB (C:k1J) (F:Fm) (reg:Reg):Bool→Bool→List Addr→Hp→Shared→Prop:=fun b b' ρ' H' s'=>b = b'∧k1O C F ρ' reg H' s'
noncomputable def EOk (C:k1J) (F:Fm) (n:Nat) (e:Expr) (c:Reg→X V):Prop :=
 ∀ A ρ reg H s,k7Y n A F→k1O C F ρ reg H s→k0e C F A ρ H s (eval e F.env) (c reg) (QV C F reg)
noncomputable def TOk (C:k1J) (F:Fm) (n:Nat) (e:Expr) (c:Reg→X Bool):Prop :=
 ∀ A ρ reg H s,k7Y n A F→k1O C F ρ reg H s→k0e C F A ρ H s (isTrue e F.env (eval e F.env)) (c reg) (QB C F reg)
noncomputable def k0d (i:Nat) (reg:Reg):X V:=⟨fun Q h=>oK ((reg[i]?).join) (fun v=>Q (.ok v) h),fun q x=>k2Y (fun Y y=>q _ _ y) x⟩
noncomputable def k8o (_:Reg):X V:=Pure.pure .none
noncomputable def cI (i:Int) (_:Reg):X V:=Pure.pure (.int i)
noncomputable def cB (b:Bool) (_:Reg):X V:=Pure.pure (.bool b)
noncomputable def cS (t:List Nat) (_:Reg):X V:=Pure.pure (.str t)
noncomputable def cG (v:V) (_:Reg):X V:=Pure.pure v
noncomputable def k1g (f:V→V→X V) (cl cr:Reg→X V) (reg:Reg):X V:=cl reg >>= fun a=>cr reg >>= fun b=>f a b
section
variable {C:k1J} {F:Fm} {n:Nat}
theorem k0a (ok:F.Ok C) {x:Str} {pos:Pos} (i:Nat) (hi:F.names[i]? = some x) (hd:(x == ("__debug__":Str)) = false:=by decide +kernel):EOk C F n (.Name x pos) (k0d i):=by
 intro A ρ reg H s _ inv P p
 have p:oK ((reg[i]?).join) (fun v=>P (.ok v) H):=p
 cases hv:reg[i]? with
 | none=>rw [hv] at p; exact p.elim
 | some o =>
  cases o with
  | none=>rw [hv] at p; exact p.elim
  | some v =>
   rw [hv] at p
   refine cX1 (inv.rm i x v hi hv) fun w yA=>cA2 yA fun va vr=>?_; clear yA
   refine wpAny_Name ?_ hd
   refine Or.elim va (fun yY=>?_) fun yZ=>?_ <;> clear va; rotate_left; (refine cA2 yZ fun e yA=>cX2 yA fun c o yB=>cA3 yB fun l g d=>?_; clear yZ yA yB); rotate_right; (refine cA2 yY fun e yA=>cX1 yA fun m yB=>cA2 yB fun hn q=>?_; clear yY yA yB)
   ·exact wpAny_loadName_local ok.kind e hn q ⟨v,ρ,H,p,⟨vr,inv⟩,k1m.refl _ _ _ _⟩
   ·exact wpAny_loadName_cell ok.kind e l ⟨o,g,d⟩ ⟨v,ρ,H,p,⟨vr,inv⟩,k1m.refl _ _ _ _⟩
theorem k0A (i:Int) (k:Nat) (pos:Pos):EOk C F n (.Constant (.int i) k pos) (cI i) :=
 fun Y ρ Y Y Y Y inv=>k0e.prim0 (wpAny_mkInt ⟨ρ,⟨.int i _,inv.toks _⟩,k1m.refl _ _ _ _⟩)
theorem z3r (b:Bool) (k:Nat) (pos:Pos):EOk C F n (.Constant (.bool b) k pos) (cB b) :=
 fun Y ρ Y Y Y Y inv=>k0e.prim0 (wpAny_pure ⟨ρ,⟨.bool b,inv⟩,k1m.refl _ _ _ _⟩)
theorem k4p (k:Nat) (pos:Pos):EOk C F n (.Constant .none k pos) k8o :=
 fun Y ρ Y Y Y Y inv=>k0e.prim0 (wpAny_pure ⟨ρ,⟨.none,inv⟩,k1m.refl _ _ _ _⟩)
theorem k2Z {x:Str} (t:List Nat) (h:x = ⟨t.toArray⟩) (k:Nat) (pos:Pos):EOk C F n (.Constant (.str x) k pos) (cS t) :=
 fun Y ρ Y Y Y Y inv=>h ▸ k0e.prim0 (wpAny_mkText ⟨ρ,⟨.str t _,inv.toks _⟩,k1m.refl _ _ _ _⟩)
theorem z3X (l:Expr) (op:Operator) (r:Expr) (pos:Pos) (env:Env):eval (.BinOp l op r pos) env = (do
  let a ← eval l env
  let b ← holding [a] (eval r env)
  standAt pos
  operate [a,b] (binaryOp op a b)):=rfl
noncomputable def k9T (C:k1J) (F:Fm) (n:Nat) (t:Value→Value→Sem Value) (f:V→V→X V):Prop :=
 ∀ A ρ reg H s a b va vb,k7Y n A F→k1O C F ρ reg H s→VR ρ s.heap a va→VR ρ s.heap b vb→k0e C F A ρ H s (t va vb) (f a b) (QV C F reg)
theorem k1b {l r:Expr} {op:Operator} {pos:Pos} {cl cr:Reg→X V} {f:V→V→X V} (hl:EOk C F n l cl) (hr:EOk C F n r cr) (ho:k9T C F n (binaryOp op) f) :
  EOk C F n (.BinOp l op r pos) (k1g f cl cr):=by
 intro A ρ reg H s room inv
 rw [z3X]
 refine k0e.bind (hl A ρ reg H s room inv) fun a va ρ₁ H₁ s₁ q st=>?_
 refine k0e.bind (k0e.holding (hr A ρ₁ reg H₁ s₁ room q.2)) fun b vb ρ₂ H₂ s₂ q₂ st₂=>?_
 exact k0e.standAt (k0e.operate (ho A ρ₂ reg H₂ s₂ a b va vb room q₂.2 (q.1.step st₂) q₂.1))
end
structure k6D (fs:List Addr) (h₀ h h':Heap):Prop where
 keep:∀ a o,h.get? a = some o→((∀ vs,o.data≠.fields vs)∨∃ o₀,h₀.get? a = some o₀)→a∉fs→h'.get? a = some o
 frame:∀ a o,h.get? a = some o→((∀ vs,o.data≠.fields vs)∨∃ o₀,h₀.get? a = some o₀)→∃ sl,h'.get? a = some { o with slots:=sl }
theorem k6D.refl (fs:List Addr) (h₀ h:Heap):k6D fs h₀ h h:=⟨fun Y Y e Y Y=>e,fun Y o e Y=>⟨o.slots,e⟩⟩
theorem k6D.trans {fs:List Addr} {h₀ h₁ h₂ h₃:Heap} (x:k6D fs h₀ h₁ h₂) (y:k6D fs h₀ h₂ h₃):k6D fs h₀ h₁ h₃ where
 keep:=fun a o e n c=>y.keep a o (x.keep a o e n c) n c
 frame:=fun a o e n=>by
  refine cX1 (x.frame a o e n) fun sl e1=>?_
  exact y.frame a { o with slots:=sl } e1 n
theorem k1m.thenX {fs mods ρ ρ':List Addr} {h₀ h h':Heap} (x:k1m fs mods ρ ρ' h₀ h) (y:k6D fs h₀ h h') (nt:∀ a o,h.get? a = some o→k4z o→a∉fs):k1m fs mods ρ ρ' h₀ h' where
 pre:=x.pre
 new:=x.new
 alive:=fun a o e=>by
  refine cX1 (x.alive a o e) fun o' e'=>?_
  refine cX1 (y.frame a o' e' (.inr ⟨o,e⟩)) fun sl e''=>?_
  exact ⟨_,e''⟩
 tup:=fun a o e c=>y.keep a o (x.tup a o e c) (.inr ⟨o,e⟩) (nt a o (x.tup a o e c) c)
 keep:=fun a o e n1 n2 c=>y.keep a o (x.keep a o e n1 n2 c) (.inr ⟨o,e⟩) c
 frame:=fun a o e n1 n2=>by
  refine cX1 (x.frame a o e n1 n2) fun sl e1=>?_
  exact y.frame a { o with slots:=sl } e1 (.inr ⟨o,e⟩)
theorem CInv.offFrs {C:k1J} {stack:List Env} {ρ:List Addr} {H:Hp} {s:Shared} (x:CInv C stack ρ H s) {a:Addr} {o:Obj} (e:s.heap.get? a = some o) (hn:∀ es n,o.data≠.dict es n):a∉stack.filterMap (·.frame):=fun m=>by
 refine cX1 (w0T.mp m) fun v yA=>cA2 yA fun hv hf=>?_; clear yA
 refine cA2 (x.frs v hv) fun _ yA=>cX4 yA fun L o' es n yB=>cA5 yB fun h1 h2 h3 h4 h6=>?_; clear yA yB
 rw [h1] at hf; refine k1f hf fun yA=>?_; clear hf; subst yA
 rw [e] at h4; refine k1f h4 fun yA=>?_; clear h4; subst yA
 exact hn es n h6
theorem CInv.offρ {C:k1J} {stack:List Env} {ρ:List Addr} {H:Hp} {s:Shared} (x:CInv C stack ρ H s) {a:Addr} (e:a∈ρ):a∉stack.filterMap (·.frame):=fun m=>by
 refine cX1 (w0T.mp m) fun v yA=>cA2 yA fun hv hf=>?_; clear yA
 refine cA2 (x.frs v hv) fun _ yA=>cX4 yA fun L o' es n yB=>cA5 yB fun h1 h2 h3 h4 h6=>?_; clear yA yB
 rw [h1] at hf; refine k1f hf fun yA=>?_; clear hf; subst yA
 exact h2 e
theorem CInv.tupOff {C:k1J} {stack:List Env} {ρ:List Addr} {H:Hp} {s:Shared} (x:CInv C stack ρ H s):∀ a o,s.heap.get? a = some o→k4z o→a∉stack.filterMap (·.frame):=fun a o e t =>
 x.offFrs e fun es n q=>by refine cX2 t.2 fun l m d=>?_; rw [d] at q; cases q
theorem OR.data {C:k1J} {ρ:List Addr} {h:Heap} {a:Addr} {o:O} (x:OR C ρ h a o):∃ ob,h.get? a = some ob∧ob.cls≠.type "frame"∧(∀ vs,ob.data≠.fields vs)∧(∀ v,ob.data≠.cell v)∧¬ k4z ob:=by
 cases o with
 | list vs=>refine cX1 x fun items yA=>cA2 yA fun yB _=>cX1 yB fun n ho=>?_; clear x yA yB; exact ⟨_,ho,by simp,fun vs q=>(by simp at q),fun vs q=>(by simp at q),fun q=>(by simp [k4z] at q)⟩
 | dict es=>refine cX1 x fun kvs yA=>cA2 yA fun yB _=>cX2 yB fun o es yC=>cA4 yC fun ho hc hd _=>?_; clear x yA yB yC; exact ⟨o,ho,(by rw [hc.1]; decide),fun vs q=>(by rw [hd] at q; cases q),fun vs q=>(by rw [hd] at q; cases q),fun q=>(by rw [k4z,hc.1] at q; exact absurd q.1 (by decide))⟩
 | tdict es=>refine cX1 x fun kvs yA=>cA2 yA fun yB _=>cX3 yB fun o es ep yC=>cA4 yC fun ho hc hd _=>?_; clear x yA yB yC; exact ⟨o,ho,(by rw [hc.1]; decide),fun vs q=>(by rw [hd] at q; cases q),fun vs q=>(by rw [hd] at q; cases q),fun q=>(by rw [k4z,hc.1] at q; exact absurd q.1 (by decide))⟩
 | inst c d=>refine cX1 x fun da yA=>cA2 yA fun _ ho=>?_; clear x yA; exact ⟨_,ho,by simp,fun vs q=>(by simp at q),fun vs q=>(by simp at q),fun q=>(by simp [k4z] at q)⟩
theorem HM.data {C:k1J} {ρ:List Addr} {H:Hp} {h:Heap} (x:HM C ρ H h) {a:Addr} (ha:a∈ρ):∃ ob,h.get? a = some ob∧ob.cls≠.type "frame"∧(∀ vs,ob.data≠.fields vs)∧(∀ v,ob.data≠.cell v)∧¬ k4z ob:=by
 refine cX1 (w1O.mp ha) fun i yA=>cX1 yA fun hi e=>?_; clear yA
 have hi':i < H.length:=x.len ▸ hi
 exact (x.obj i a H[i] (by rw [w0A hi,e]) (w0A hi')).data
theorem CInv.thenX {C:k1J} {stack:List Env} {ρ:List Addr} {H:Hp} {h₀:Heap} {s:Shared} (x:CInv C stack ρ H s) {h':Heap} (y:k6D (stack.filterMap (·.frame)) h₀ s.heap h') (kb:C.base.StaysIn h'):CInv C stack ρ H { s with heap:=h' } where
 sh:=by rw [x.sh]
 base:=kb
 hm:=⟨x.hm.len,x.hm.nodup,fun i a o e1 e2=>(x.hm.obj i a o e1 e2).mono (w0m _) (fun a o e c=>y.keep a o e (.inl fun vs q=>(by refine cX2 c.2 fun l n d=>?_; rw [d] at q; cases q)) (x.tupOff a o e c)) (fun ob e=>by
  refine cX1 ((x.hm.obj i a o e1 e2).data) fun ob' yA=>cA4 yA fun e' c d _=>?_; clear yA
  rw [e] at e'; refine k1f e' fun yA=>?_; clear e'; subst yA
  exact y.keep a ob e (.inl d) (x.offρ (w0z e1))),x.hm.fresh,x.hm.notSys⟩
 frs:=by
  intro e he
  refine cA2 (x.frs e he) fun k yA=>cX4 yA fun L o es n yB=>cA5 yB fun h1 h2 h3 h4 h6=>?_; clear yA yB
  refine cX1 (y.frame L o h4 (.inl fun vs q=>by rw [h6] at q; cases q)) fun sl e'=>?_
  exact ⟨k,L,_,es,n,h1,h2,h3,e',h6⟩
theorem CInv.pop {C:k1J} {env:Env} {stack:List Env} {ρ:List Addr} {H:Hp} {s:Shared} (x:CInv C (env :: stack) ρ H s):CInv C stack ρ H s :=
 ⟨x.sh,x.base,x.hm,fun e he=>x.frs e (.tail _ he)⟩
section
variable {C:k1J} {A:Around} {env:Env} {outer:List Env} {L:Addr} {ρ:List Addr} {H:Hp} {h₀:Heap} {s:Shared} {x:Ex} {ea:Addr} {Q:Unit→Shared→Prop} {E:Value→Shared→Prop}
theorem entryX (hA:A.frames = some (env :: outer)) (hf:env.frame = some L) (hs:z0z C ρ s.heap (env :: outer)) {oe:Obj} {vs:Array Value} (he:s.heap.get? ea = some oe) (hd:oe.data = .fields vs) (hsz:1 < vs.size) {head:Value} {hadNext:Bool}
  (hQ:∀ h' T oT ts,h'.get? ea = some { oe with data:=.fields (vs.setIfInBounds 1 (.ref T)) }→s.heap.get? T = none→T≠ea→h'.get? T = some oT→oT.data = .fields ts→ts[3]? = some (rawInt L) →
   (∀ b o,b≠ea→b∉(env :: outer).filterMap (·.frame)→s.heap.get? b = some o→h'.get? b = some o)→(∀ b o,b≠ea→s.heap.get? b = some o→∃ sl,h'.get? b = some { o with slots:=sl })→Q () { s with heap:=h' }) :
  wpAny (model C.prog C.w) A (do let a ← frameOf env; let pl ← entryPlaceOf L hadNext; let b ← EntryCells.newEntry head a .none (rawInt L) .none pl; setField (.ref ea) 1 b) Q E s:=by
 have nofr:ea∉(env :: outer).filterMap (·.frame):=fun m=>by
  refine cX1 (w0T.mp m) fun v yA=>cA2 yA fun hv hfv=>?_; clear yA
  refine cA2 (hs v hv) fun _ yA=>cX4 yA fun L' o' es n yB=>cA5 yB fun h1 h2 h3 h4 h6=>?_; clear yA yB
  rw [h1] at hfv; refine k1f hfv fun yA=>?_; clear hfv; subst yA
  rw [he] at h4; refine k1f h4 fun yA=>?_; clear h4; subst yA
  rw [hd] at h6; cases h6
 have hl:s.heap.FunFrames C.base (env :: outer):=hs.fun fun e he' L' hf'=>by
  refine cA2 (hs e he') fun _ yA=>cX4 yA fun L2 o' es n yB=>cA4 yB fun h1 h2 h3 _=>?_; clear yA yB
  rw [h1] at hf'; refine k1f hf' fun yA=>?_; clear hf'; subst yA; exact h3
 refine wpAny_bind (wpAny_frameOf_fun hA hl hf fun h₁ sl₁=>?_)
 refine wpAny_bind (wpAny_entryPlaceOf fun pl hpl=>?_)
 unfold EntryCells.newEntry newFields
 refine wpAny_bind (wpAny_newObj_type ?_ (hpl.sizeOk5 _ _ _ _ _))
 have he₁:h₁.get? ea = some oe:=(sl₁.2.1 ea nofr).trans he
 have he₂:=Heap.get?_push_of_some (h:=h₁) { cls:=.type "traceback",dict:=none,data:=.fields ([head,.ref L,.none,rawInt L,.none] ++ (if pl.isEmpty then List.replicate 6 Value.none else pl)).toArray } he₁
 have hTe:h₁.objs.size≠ea:=w1b (Heap.lt_size he₁)
 refine wpAny_setField he₂ hd hsz (hQ _ h₁.objs.size _ _ ?_ ?_ hTe ((Heap.get?_update_other _ _ hTe.symm).trans (Heap.get?_push_size h₁ rfl)) rfl ?_ (fun b o hb nb hbo=>?_) fun b o hb hbo=>?_)
 ·have:=Heap.get?_update_self (Obj.mapFields (·.setIfInBounds 1 (Value.ref h₁.objs.size))) he₂ (Obj.isFreed_of_fields (Obj.data_mapFields hd _))
  rw [this]
  obtain ⟨a,b,c,d⟩:=oe
  simp only at hd
  subst hd
  rfl
 ·cases g:s.heap.get? h₁.objs.size with
  | none=>rfl
  | some o =>
   refine cX1 (sl₁.2.2 _ o g) fun sl g'=>?_
   exact absurd (Heap.lt_size g') (Nat.lt_irrefl _)
 ·first
   | (simp; done)
   | (rcases hpl with rfl | ⟨_,_,_,_,_,_,_,rfl⟩ <;> simp)
 ·rw [Heap.get?_update_other _ _ hb.symm]
  exact Heap.get?_push_of_some _ ((sl₁.2.1 b nb).trans hbo)
 ·refine cX1 (sl₁.2.2 b o hbo) fun sl g'=>?_
  refine ⟨sl,?_⟩
  rw [Heap.get?_update_other _ _ hb.symm]
  exact Heap.get?_push_of_some _ g'
theorem noteX (hA:A.frames = some (env :: outer)) (hf:env.frame = some L) (hs:CInv C (env :: outer) ρ H s) (hst:∀ a o,h₀.get? a = some o→∃ o',s.heap.get? a = some o')
  (m:ExS C h₀ s.heap x ea none∨ExS C h₀ s.heap x ea (some .none)∨ExS C h₀ s.heap x ea (some (rawInt L)))
  (hQ:∀ h',k6D ((env :: outer).filterMap (·.frame)) h₀ s.heap h'→C.base.StaysIn h'→ExS C h₀ h' x ea (some (rawInt L))→Q () { s with heap:=h' }):wpAny (model C.prog C.w) A (noteFrame (.ref ea) env) Q E s:=by
 have dead:∀ {T},s.heap.get? T = none→h₀.get? T = none∧C.base.get? T = none:=fun {T} hT=>by
  constructor
  ·cases g:h₀.get? T with
   | none=>rfl
   | some o=>refine cX1 (hst T o g) fun o' g'=>?_; rw [hT] at g'; exact kNS g'
  ·cases g:C.base.get? T with
   | none=>rfl
   | some o=>have:=hs.base T o g; rw [hT] at this; exact kNS this
 have frbase:∀ b,b∈(env :: outer).filterMap (·.frame)→C.base.get? b = none:=fun b hb=>by
  refine cX1 (w0T.mp hb) fun v yA=>cA2 yA fun hv hfv=>?_; clear yA
  refine cA2 (hs.frs v hv) fun _ yA=>cX4 yA fun L' o' es n yB=>cA4 yB fun h1 h2 h3 _=>?_; clear yA yB
  rw [h1] at hfv; refine k1f hfv fun yA=>?_; clear hfv; subst yA; exact h3
 refine Or.elim m ?_ ?_ <;> clear m; rotate_left; (intro yZ; refine Or.elim yZ (fun m=>?_) fun m=>?_ <;> clear yZ); rotate_right; intro m
 ·refine cX2 m fun oe vs yA=>cA8 yA fun e2 e3 e4 e5 e6 e7 e7' e8=>?_; clear m yA
  have e8':vs[1]? = some .none:=e8
  unfold noteFrame
  simp only [hf]
  refine wpAny_bind (wpAny_field e4 e6 e8' ?_)
  rw [if_neg (by decide)]
  refine entryX hA hf hs.frs e4 e6 e7 fun h' T oT ts g1 g2 g3 g4 g5 g6 g7 g8=>?_
  refine cA2 (dead g2) fun d1 d2=>?_
  have ne:∀ b o,s.heap.get? b = some o→((∀ vs,o.data≠.fields vs)∨∃ o₀,h₀.get? b = some o₀)→b≠ea:=fun b o hb n q=>by
   subst q
   rw [e4] at hb; refine k1f hb fun yA=>?_; clear hb; subst yA
   refine Or.elim n ?_ ?_ <;> clear n; rotate_left; (intro yZ; refine cX1 yZ fun o₀ n=>?_; clear yZ); rotate_right; intro n
   ·exact n vs e6
   ·rw [e2] at n; exact kNS n
  refine hQ h' ⟨fun b o hb n nf=>g7 b o (ne b o hb n) nf hb,fun b o hb n=>g8 b o (ne b o hb n) hb⟩ (fun b o hb=>g7 b o (fun q=>by rw [q,e3] at hb; exact kNS hb) (fun mm=>by rw [frbase b mm] at hb; exact kNS hb) (hs.base b o hb)) ?_
  exact ⟨_,_,e2,e3,g1,e5,rfl,by simpa using e7,fun hx=>by rw [Array.getElem?_setIfInBounds_ne (by decide)]; exact e7' hx,T,oT,ts,by simp [e7],d1,d2,g3,g4,g5,g6⟩
 ·refine cX2 m fun oe vs yA=>cA8 yA fun e2 e3 e4 e5 e6 e7 e7' yB=>cX3 yB fun T₀ oT₀ ts₀ yC=>cA7 yC fun t1 t2 t3 t4 t5 t6 t7=>?_; clear m yA yB yC
  unfold noteFrame
  simp only [hf]
  refine wpAny_bind (wpAny_field e4 e6 t1 ?_)
  rw [if_pos (show (Value.ref T₀ != Value.none) = true from by simp)]
  refine wpAny_bind (wpAny_field t5 t6 t7 ?_)
  rw [if_neg (show ¬ ((Value.none == rawInt L) = true) from by simp [rawInt])]
  refine wpAny_bind (wpAny_setField t5 t6 (Array.getElem?_eq_some_iff.mp t7).1 ?_)
  have other:∀ b,b≠T₀→(s.heap.update T₀ (Obj.mapFields (·.setIfInBounds 3 Value.none))).get? b = s.heap.get? b:=fun b hb=>Heap.get?_update_other _ _ (Ne.symm hb)
  have e4':=(other ea t4.symm).trans e4
  have frT:∀ b,b∈(env :: outer).filterMap (·.frame)→b≠T₀:=fun b hb q=>by
   subst q
   exact hs.offFrs t5 (fun es n q=>by rw [t6] at q; cases q) hb
  have frs':z0z C ρ (s.heap.update T₀ (Obj.mapFields (·.setIfInBounds 3 Value.none))) (env :: outer):=hs.frs.of_slots fun v hv L' hf' n=>⟨n,fun o ho=>⟨o.slots,by
   rw [other L' (frT L' (w0T.mpr ⟨v,hv,hf'⟩))]; exact ho⟩⟩
  refine entryX (s:={ s with heap:=s.heap.update T₀ (Obj.mapFields (·.setIfInBounds 3 Value.none)) }) hA hf frs' e4' e6 e7 fun h' T oT ts g1 g2 g3 g4 g5 g6 g7 g8=>?_
  have g2':s.heap.get? T = none:=by
   by_cases q:T = T₀
   ·subst q
    have z:=Heap.get?_update_self (Obj.mapFields (·.setIfInBounds 3 Value.none)) t5 (Obj.isFreed_of_fields (Obj.data_mapFields t6 _))
    rw [show (s.heap.update T (Obj.mapFields (·.setIfInBounds 3 Value.none))).get? T = none from g2] at z
    exact kNS z
   ·rw [← other T q]; exact g2
  refine cA2 (dead g2') fun d1 d2=>?_
  have ne:∀ b o,s.heap.get? b = some o→((∀ vs,o.data≠.fields vs)∨∃ o₀,h₀.get? b = some o₀)→b≠ea∧b≠T₀:=fun b o hb n=>by
   constructor
   ·intro q
    subst q
    rw [e4] at hb; refine k1f hb fun yA=>?_; clear hb; subst yA
    refine Or.elim n ?_ ?_ <;> clear n; rotate_left; (intro yZ; refine cX1 yZ fun o₀ n=>?_; clear yZ); rotate_right; intro n
    ·exact n vs e6
    ·rw [e2] at n; exact kNS n
   ·intro q
    subst q
    rw [t5] at hb; refine k1f hb fun yA=>?_; clear hb; subst yA
    refine Or.elim n ?_ ?_ <;> clear n; rotate_left; (intro yZ; refine cX1 yZ fun o₀ n=>?_; clear yZ); rotate_right; intro n
    ·exact n ts₀ t6
    ·rw [t2] at n; exact kNS n
  refine hQ h' ⟨fun b o hb n nf=>g7 b o (ne b o hb n).1 nf ((other b (ne b o hb n).2).trans hb),fun b o hb n=>g8 b o (ne b o hb n).1 ((other b (ne b o hb n).2).trans hb)⟩
   (fun b o hb=>g7 b o (fun q=>by rw [q,e3] at hb; exact kNS hb) (fun mm=>by rw [frbase b mm] at hb; exact kNS hb) ((other b fun q=>by rw [q,t3] at hb; exact kNS hb).trans (hs.base b o hb))) ?_
  exact ⟨_,_,e2,e3,g1,e5,rfl,by simpa using e7,fun hx=>by rw [Array.getElem?_setIfInBounds_ne (by decide)]; exact e7' hx,T,oT,ts,by simp [e7],d1,d2,g3,g4,g5,g6⟩
 ·refine cX2 (id m) fun oe vs yA=>cA8 yA fun e2 e3 e4 e5 e6 e7 e7' yB=>cX3 yB fun T oT ts yC=>cA7 yC fun t1 t2 t3 t4 t5 t6 t7=>?_; clear yA yB yC
  unfold noteFrame
  simp only [hf]
  refine wpAny_bind (wpAny_field e4 e6 t1 ?_)
  rw [if_pos (show (Value.ref T != Value.none) = true from by simp)]
  refine wpAny_bind (wpAny_field t5 t6 t7 ?_)
  rw [if_pos (show (rawInt L == rawInt L) = true from by simp)]
  exact wpAny_pure (hQ s.heap (k6D.refl _ _ _) hs.base m)
theorem z0C {stack:List Env} {fs:List Addr} (hs:CInv C stack ρ H s) {fl:Value} (fr:Option Addr) (m:ExS C h₀ s.heap x ea (some fl))
  (hQ:∀ h',k6D fs h₀ s.heap h'→C.base.StaysIn h'→ExS C h₀ h' x ea (some (fr.elim .none fun f=>rawInt f))→Q () { s with heap:=h' }):wpAny (model C.prog C.w) A (setFlight (.ref ea) fr) Q E s:=by
 refine cX2 m fun oe vs yA=>cA8 yA fun e2 e3 e4 e5 e6 e7 e7' e8=>?_; clear m yA
 refine cX3 e8 fun T oT ts yA=>cA7 yA fun t1 t2 t3 t4 t5 t6 t7=>?_; clear e8 yA
 have hsz3:3 < ts.size:=(Array.getElem?_eq_some_iff.mp t7).1
 unfold setFlight
 refine wpAny_bind (wpAny_field e4 e6 t1 ?_)
 rw [if_pos (show (Value.ref T != Value.none) = true from by simp)]
 refine wpAny_setField t5 t6 hsz3 (hQ _ ?_ ?_ ?_)
 ·have other:∀ a o,s.heap.get? a = some o→((∀ vs,o.data≠.fields vs)∨∃ o₀,h₀.get? a = some o₀)→(s.heap.update T (Obj.mapFields (·.setIfInBounds 3 (fr.elim .none fun f=>rawInt f)))).get? a = some o:=fun a o e n=>by
   rw [Heap.get?_update_other _ _ (fun q=>?_)]
   ·exact e
   ·subst q
    refine Or.elim n ?_ ?_ <;> clear n; rotate_left; (intro yZ; refine cX1 yZ fun o₀ n=>?_; clear yZ); rotate_right; intro n
    ·rw [t5] at e; refine k1f e fun yA=>?_; clear e; subst yA; exact n ts t6
    ·rw [t2] at n; exact kNS n
  exact ⟨fun a o e n Y=>other a o e n,fun a o e n=>⟨o.slots,other a o e n⟩⟩
 ·intro b o e
  rw [Heap.get?_update_other _ _ (fun q=>by subst q; rw [t3] at e; exact kNS e)]
  exact hs.base b o e
 ·refine ⟨oe,vs,e2,e3,?_,e5,e6,e7,e7',T,_,_,t1,t2,t3,t4,Heap.get?_update_self _ t5 (Obj.isFreed_of_fields (Obj.data_mapFields t6 _)),Obj.data_mapFields t6 _,by simp [hsz3]⟩
  rw [Heap.get?_update_other _ _ t4]; exact e4
theorem leaveX (hA:A.frames = some (env :: outer)) (hf:env.frame = some L) (hs:CInv C (env :: outer) ρ H s) (hst:∀ a o,h₀.get? a = some o→∃ o',s.heap.get? a = some o')
  (m:ExS C h₀ s.heap x ea none∨ExS C h₀ s.heap x ea (some .none)∨ExS C h₀ s.heap x ea (some (rawInt L)))
  (hQ:∀ h',k6D ((env :: outer).filterMap (·.frame)) h₀ s.heap h'→CInv C outer ρ H { s with heap:=h' }→ExS C h₀ h' x ea (some .none)→Q () { s with heap:=h' }):wpAny (model C.prog C.w) A (leaving env (.ref ea)) Q E s:=by
 unfold leaving
 refine wpAny_bind (noteX hA hf hs hst m fun h' y kb m'=>?_)
 have hs':=hs.thenX y kb
 refine z0C (fs:=(env :: outer).filterMap (·.frame)) (s:={ s with heap:=h' }) hs' none m' fun h'' y' kb' m''=>?_
 exact hQ h'' (y.trans y') (hs'.thenX y' kb').pop m''
end
inductive Fl where
 | next
 | brk
 | cont
 | ret (v:V)
inductive FlR (ρ:List Addr) (h:Heap):Fl→Flow→Prop
 | next:FlR ρ h .next .next
 | brk:FlR ρ h .brk .brk
 | cont:FlR ρ h .cont .cont
 | ret {V v}:VR ρ h V v→FlR ρ h (.ret V) (.ret v)
noncomputable abbrev QS (C:k1J) (F:Fm):Fl × Reg→Flow→List Addr→Hp→Shared→Prop:=fun p f ρ' H' s'=>FlR ρ' s'.heap p.1 f∧k1O C F ρ' p.2 H' s'
noncomputable def SOk (C:k1J) (F:Fm) (n:Nat) (st:Stmt) (c:Reg→X (Fl × Reg)):Prop :=
 ∀ A ρ reg H s,k7Y n A F→k1O C F ρ reg H s→k0e C F A ρ H s (exec st F.env) (c reg) (QS C F)
noncomputable def z4O (C:k1J) (F:Fm) (n:Nat) (st:List Stmt) (c:Reg→X (Fl × Reg)):Prop :=
 ∀ A ρ reg H s,k7Y n A F→k1O C F ρ reg H s→k0e C F A ρ H s (execs st F.env) (c reg) (QS C F)
noncomputable def k0H (c d:Reg→X (Fl × Reg)) (reg:Reg):X (Fl × Reg):=c reg >>= fun p=>match p.1 with
 | .next=>d p.2
 | _=>Pure.pure p
noncomputable def k1s (reg:Reg):X (Fl × Reg):=Pure.pure (.next,reg)
section
variable {C:k1J} {F:Fm} {n:Nat}
theorem k0k:z4O C F n [] k1s:=fun Y Y Y Y Y Y inv=>k0e.pure ⟨.next,inv⟩
theorem k4A (s:Stmt) (rest:List Stmt) (env:Env):execs (s :: rest) env = (exec s env >>= fun f=>match f with | .next=>execs rest env | f=>pure f):=by
 show (do match ← exec s env with | .next=>execs rest env | f=>pure f) = _
 congr 1
theorem k0c {s:Stmt} {r:List Stmt} {c d:Reg→X (Fl × Reg)} (hs:SOk C F n s c) (hr:z4O C F n r d):z4O C F n (s :: r) (k0H c d):=by
 intro A ρ reg H st room inv
 rw [k4A]
 refine k0e.bind (hs A ρ reg H st room inv) fun p f ρ' H' s' q Y=>?_
 obtain ⟨fl,reg'⟩:=p
 refine cA2 q fun q1 q2=>?_; clear q
 cases q1 with
 | next=>exact hr A ρ' reg' H' s' room q2
 | brk=>exact k0e.pure ⟨.brk,q2⟩
 | cont=>exact k0e.pure ⟨.cont,q2⟩
 | ret h=>exact k0e.pure ⟨.ret h,q2⟩
end
structure k8p (n:Nat) (A:Around) (stack:List Env):Prop where
 handled:A.handled = none
 frames:A.frames = some stack
 depth:A.depth + n < recursionLimit
 units:A.units + 10 * n + 200 < cLine
theorem k7Y.s {n:Nat} {A:Around} {F:Fm} (x:k7Y n A F):k8p n A F.stack:=⟨x.handled,x.frames,x.depth,x.units⟩
theorem k8p.r {n:Nat} {A:Around} {F:Fm} (x:k8p n A F.stack):k7Y n A F:=⟨x.handled,x.frames,x.depth,x.units⟩
theorem k8p.deeper {n:Nat} {A:Around} {stack:List Env} (x:k8p (n + 1) A stack) (env:Env):k8p n (A.deeper env) (env :: stack) :=
 ⟨x.handled,by show A.frames.map _ = _; rw [x.frames]; rfl,by have:=x.depth; show A.depth + 1 + n < _; lia,by have:=x.units; show A.units + 3 + 10 * n + 200 < _; lia⟩
inductive RetR (C:k1J) (stack:List Env) (P:Po V) (ρ:List Addr) (h₀:Heap) (res:Result) (s':Shared):Prop
 | ok (V:V) (v:Value) (ρ':List Addr) (H':Hp) (p:P (.ok V) H') (e:res = .ok (.ret v)) (hv:VR ρ' s'.heap V v) (ci:CInv C stack ρ' H' s') (st:k1m (stack.filterMap (·.frame)) [] ρ ρ' h₀ s'.heap)
 | err (x:Ex) (ea:Addr) (ρ':List Addr) (H':Hp) (p:P (.error x) H') (e:res = .error (.ref ea)) (ex:ExS C h₀ s'.heap x ea (some .none)) (ci:CInv C stack ρ' H' s') (st:k1m (stack.filterMap (·.frame)) [] ρ ρ' h₀ s'.heap)
noncomputable def k0n (C:k1J) (n:Nat) (f:Value) (g:List V→X V):Prop :=
 ∀ A stack ρ H s args vals P,k8p n A stack→CInv C stack ρ H s→VRs ρ s.heap args vals→wp (g args) P H →
  codeAny (model C.prog C.w) A (.call f ⟨vals,[]⟩) (RetR C stack P ρ s.heap) s
theorem k0n.less {C:k1J} {n m:Nat} {f:Value} {g:List V→X V} (x:k0n C n f g) (h:n≤m):k0n C m f g :=
 fun A stack ρ H s args vals P r=>x A stack ρ H s args vals P ⟨r.handled,r.frames,by have:=r.depth; lia,by have:=r.units; lia⟩
noncomputable def clK (Q:Po V):Po (Fl × Reg):=fun r h=>match r with
 | .ok (.ret v,_)=>Q (.ok v) h
 | .ok (.next,_)=>Q (.ok .none) h
 | .ok _=>False
 | .error e=>Q (.error e) h
theorem clK_mono {Q Q':Po V} (q:∀ r h,Q r h→Q' r h):∀ r h,clK Q r h→clK Q' r h
 | .ok (.ret _,_),_,x=>q _ _ x
 | .ok (.next,_),_,x=>q _ _ x
 | .error _,_,x=>q _ _ x
noncomputable def k3a (k n:Nat) (c:Reg→X (Fl × Reg)) (args:List V):X V:=hide ⟨fun Q h=>args.length = k∧wp (c (args.map some ++ List.replicate (n - k) none)) (clK Q) h,fun q x=>⟨x.1,(c _).mono (clK_mono q) x.2⟩⟩
theorem k1z (k n:Nat) (c:Reg→X (Fl × Reg)) (args:List V) (Q:Po V) (h:Hp):wp (k3a k n c args) Q h = (args.length = k∧wp (c (args.map some ++ List.replicate (n - k) none)) (clK Q) h):=z3o _ _ _
theorem k8q {kindOf:Str→Option NameKind} {x:Str}:∀ {binds:List (Str × Value)} {m:Str→Option Value},x∉binds.map (·.1)→bindL kindOf binds m x = m x
 | [],_,_=>rfl
 | (n,v) :: r,m,h=>by
  simp only [w0f,w0c,not_or] at h
  unfold bindL
  rw [k8q h.2]
  split
  ·exact if_neg h.1
  ·rfl
theorem k8r {kindOf:Str→Option NameKind} {x:Str} {v:Value} (hk:kindOf x = some .local):∀ {binds:List (Str × Value)} {m:Str→Option Value},(binds.map (·.1)).Nodup→(x,v)∈binds→bindL kindOf binds m x = some v
 | (n,w) :: r,m,hn,hm=>by
  simp only [w0f,w0J] at hn
  unfold bindL
  refine Or.elim (w0c.mp hm) (fun e=>?_) fun hm=>?_
  ·refine k2X e fun yA yB=>?_; clear e; subst yA; subst yB
   rw [k8q hn.1,if_pos hk]; exact if_pos rfl
  ·exact k8r hk hn.2 hm
theorem k8s {kindOf:Str→Option NameKind} {x:Str}:∀ {binds:List (Str × Value)} {m:Str→Option Value},x∉binds.map (·.1)→bindC kindOf binds m x = m x
 | [],_,_=>rfl
 | (n,v) :: r,m,h=>by
  simp only [w0f,w0c,not_or] at h
  unfold bindC
  rw [k8s h.2]
  split
  ·rfl
  ·exact if_neg h.1
theorem k8t {kindOf:Str→Option NameKind} {x:Str} {v:Value} (hk:kindOf x = some .cell):∀ {binds:List (Str × Value)} {m:Str→Option Value},(binds.map (·.1)).Nodup→(x,v)∈binds→bindC kindOf binds m x = some v
 | (n,w) :: r,m,hn,hm=>by
  simp only [w0f,w0J] at hn
  unfold bindC
  refine Or.elim (w0c.mp hm) (fun e=>?_) fun hm=>?_
  ·refine k2X e fun yA yB=>?_; clear e; subst yA; subst yB
   rw [k8s hn.1,if_neg (by rw [hk]; decide)]; exact if_pos rfl
  ·exact k8t hk hn.2 hm
noncomputable abbrev fmOf (fd:FuncData) (L a:Addr) (stack:List Env) (rn:List Str):Fm :=
 ⟨callEnvC fd L a,callEnvC fd L a :: stack,rn,L :: (cellsFrom (L + 1) fd.scope.names []).map (·.2)⟩
theorem k2x {α:Type}:∀ {l:List (Str × α)},(l.map (·.1)).Nodup→∀ {n:Str} {c:α},(n,c)∈l→l.lookup n = some c
 | (k,v) :: r,hn,n,c,h=>by
  simp only [w0f,w0J] at hn
  rw [List.lookup_cons]
  refine Or.elim (w0c.mp h) (fun e=>?_) fun h'=>?_
  ·refine k2X e fun yA yB=>?_; clear e; subst yA; subst yB; simp
  ·have:(n == k) = false:=by
    apply beq_eq_false_iff_ne.mpr
    intro e; subst e
    exact hn.1 (w0b.mpr ⟨(n,c),h',rfl⟩)
   rw [this]
   exact k2x hn.2 h'
theorem k1D {C:k1J} (cok:C.Ok) {n:Nat} {f:Addr} {fo:Obj} {fd:FuncData} {body:List Stmt} {rn:List Str} {k:Nat} {c:Reg→X (Fl × Reg)}
  (ho:C.K.lookup f = some fo) (hd:fo.data = .func fd) (hcode:W.codeIn C.K fd.code fd.qualname = true) (hbody:fd.body = .stmts body) (hclo:fd.closure = []) (hgl:fd.globals = mainGlobals) (hbl:fd.builtins = builtinsNs)
  (hbind:∀ vals:List Value,vals.length = k→bindArgs fd ⟨vals,[]⟩ = pure ((rn.take k).zip vals)) (hk:k≤rn.length) (hnd:rn.Nodup)
  (hkind:∀ x,x∈rn.take k→fd.scope.names.lookup x = some .local∨(fd.scope.names.lookup x = some .cell∧((cellsFrom 0 fd.scope.names []).lookup x).isSome = true))
  (hcn:((cellsFrom 0 fd.scope.names []).map (·.1)).Nodup)
  (hco:fd.scope.isCoroutine = false) (hgen:fd.scope.isGenerator = false) (hfk:fd.scope.kind = .function)
  (hb:∀ L stack,(fmOf fd L f stack rn).Ok C→z4O C (fmOf fd L f stack rn) n body c) :
  k0n C (n + 1) (.ref f) (k3a k rn.length c):=by
 intro A stack ρ H s args vals P room inv hv e
 rw [k1z] at e
 refine cA2 e ?_; clear e; intro hlen e
 have hvl:vals.length = k:=by rw [← hv.length]; exact hlen
 have hnd':(((rn.take k).zip vals).map (·.1)).Nodup:=by
  rw [w2e (by rw [w0X]; lia)]
  exact hnd.sublist (w1P _ _)
 have hcells:∀ m,(cellsFrom m fd.scope.names []).map (·.1) = (cellsFrom 0 fd.scope.names []).map (·.1):=fun m=>PyProof.Rows.cellsFrom_names _ _ _ _ _ rfl
 have lookIso:∀ m x,((cellsFrom 0 fd.scope.names []).lookup x).isSome = true→((cellsFrom m fd.scope.names []).lookup x).isSome = true:=fun m x h=>by
  refine cX1 (w0K.mp h) fun c0 h0=>?_
  have:x∈(cellsFrom m fd.scope.names []).map (·.1):=by rw [hcells m]; exact w0b.mpr ⟨_,mem_of_lookup h0,rfl⟩
  refine cX1 (w0b.mp this) fun yA yB=>?_; obtain ⟨y,c1⟩:=yA; refine cA2 yB fun h1 yC=>?_; clear yB; subst yC
  rw [k2x (by rw [hcells m]; exact hcn) h1]; rfl
 have hinK:=(fun b o e=>inv.base b o (cok.inK b o e):C.K.In s.heap)
 refine codeAny_call_cells (fd:=fd) (body:=body) (binds:=(rn.take k).zip vals) (by have:=room.depth; lia) (hinK _ _ ho) hd (cok.nolimit.keeps inv.base) (W.codeRec_of hinK hcode) hbody (hbind vals hvl) hclo
  (fun x hx=>(hkind x.1 (w2f hx).1).imp id fun ⟨a,b⟩=>⟨a,lookIso _ _ b⟩) (fun s₁ ic=>?_) hco hgen hfk
 let L:=s.heap.objs.size
 let F:=fmOf fd L f stack rn
 refine cX2 ic.done fun h₁ tk yA=>cA2 yA fun yB=>?_; clear yA; subst yB; intro keep
 have hsz:∀ b,L≤b→s.heap.get? b = none:=fun b hb=>by
  cases q:s.heap.get? b with
  | none=>rfl
  | some o=>exact absurd (Heap.lt_size q) (w1y.mpr hb)
 have hbn:∀ b,L≤b→C.base.get? b = none:=fun b hb=>by
  cases q:C.base.get? b with
  | none=>rfl
  | some o=>have:=inv.base b o q; rw [hsz b hb] at this; exact kNS this
 have cnd:((cellsFrom (L + 1) fd.scope.names []).map (·.1)).Nodup:=by rw [hcells]; exact hcn
 have modsAbove:∀ a,a∈F.mods→L≤a:=fun a ha=>by
  refine Or.elim (w0c.mp ha) (fun yY=>?_) fun ha=>?_; subst yY
  ·exact w0l _
  ·refine cX1 (w0b.mp ha) fun yA yB=>?_; obtain ⟨x,c1⟩:=yA; refine cA2 yB fun hm yC=>?_; clear yB; subst yC
   exact Nat.le_of_lt (ic.above x c1 hm)
 have ok:F.Ok C:=by
  refine ⟨hfk,hgl,hbl,.head _,fun a ha=>hbn a (modsAbove a ha),fun x c1 hl=>.tail _ (w0b.mpr ⟨_,mem_of_lookup hl,rfl⟩),fun x c1 Y hl=>w1b (ic.above x c1 (mem_of_lookup hl)),
   fun x y c1 Y Y h1 h2=>name_of_addr ic.apart (mem_of_lookup h1) (mem_of_lookup h2),hnd,⟨callEnvC fd L f,stack,L,rfl,rfl,rfl⟩⟩
 have hcinv:CInv C (callEnvC fd L f :: stack) ρ H { s with heap:=h₁,toks:=tk }:=by
  refine ⟨by rw [inv.sh],fun b o e=>keep b o (inv.base b o e),inv.hm.grow keep,fun e he=>?_⟩
  refine Or.elim (w0c.mp he) (fun yY=>?_) fun he=>?_; subst yY
  ·refine cX3 ic.toInCall.ns fun o es ep yA=>cA3 yA fun h1 h2 _=>?_; clear yA
   refine ⟨by show fd.scope.kind≠_; rw [hfk]; decide,L,o,es,ep,rfl,fun q=>?_,hbn L (w0l _),h1,h2⟩
   refine cX1 (inv.hm.there q) fun ob yA=>cA2 yA fun e' _=>?_; clear yA
   rw [hsz L (w0l _)] at e'; exact kNS e'
  ·refine cA2 (inv.frs e he) fun k1 yA=>cX4 yA fun L' o es n' yB=>cA5 yB fun h1 h2 h3 h4 h5=>?_; clear yA yB
   exact ⟨k1,L',o,es,n',h1,h2,h3,keep _ _ h4,h5⟩
 have hsinv:k1O C F ρ (args.map some ++ List.replicate (rn.length - k) none) H { s with heap:=h₁,toks:=tk }:=by
  refine { toCInv:=hcinv,ns:=⟨_,ic.toInCall.ns⟩,off:=fun a ha=>⟨fun q=>?_,?_⟩,rm:=fun i x V h1 h2=>?_,cl:=fun x c1 Y h2=>⟨.tail _ (w0b.mpr ⟨_,mem_of_lookup h2,rfl⟩),_,ic.cell x c1 h2⟩ }
  ·refine cX1 (inv.hm.there q) fun ob yA=>cA2 yA fun e' _=>?_; clear yA
   rw [hsz a (modsAbove a ha)] at e'; exact kNS e'
  ·refine Or.elim (w0c.mp ha) (fun yY=>?_) fun ha=>?_; subst yY
   ·refine cX3 ic.toInCall.ns fun o es ep yA=>cA3 yA fun h1 h2 _=>?_; clear yA
    exact ⟨o,h1,.inl ⟨es,ep,h2⟩⟩
   ·refine cX1 (w0b.mp ha) fun yA yB=>?_; obtain ⟨x,c1⟩:=yA; refine cA2 yB fun hm yC=>?_; clear yB; subst yC
    refine cX1 (ic.cell x c1 (k2x cnd hm)) fun o yA=>cA2 yA fun h1 h2=>?_; clear yA
    exact ⟨o,h1,.inr ⟨_,h2⟩⟩
  ·by_cases hi:i < k
   ·rw [w0D (by simp; lia),w0H] at h2
    cases ha:args[i]? with
    | none=>rw [ha] at h2; simp at h2
    | some V' =>
     rw [ha] at h2
     simp at h2
     subst h2
     refine cX1 (hv.get ha) fun v yA=>cA2 yA fun hv1 hv2=>?_; clear yA
     have hx:x∈rn.take k:=w0z (i:=i) (by rw [w1z,if_pos hi]; exact h1)
     have hmem:(x,v)∈(rn.take k).zip vals:=w0z (i:=i) (by
      rw [w2g]
      exact ⟨by rw [w1z,if_pos hi]; exact h1,hv1⟩)
     refine ⟨v,?_,hv2.mono (w0m _) fun a o e Y=>keep a o e⟩
     refine Or.elim (hkind x hx) (fun hl=>?_) fun yZ=>?_; rotate_left; (refine cA2 yZ fun hc hcs=>?_; clear yZ); rotate_right
     ·exact .inl ⟨hl,_,ic.toInCall.ns,k8r hl hnd' hmem⟩
     ·right
      refine cX1 (w0K.mp (lookIso (L + 1) x hcs)) fun c1 hc1=>?_
      refine cX1 (ic.cell x c1 hc1) fun o yA=>cA2 yA fun g1 g2=>?_; clear yA
      exact ⟨hc,c1,o,hc1,g1,by rw [g2,k8t hc hnd' hmem]⟩
   ·rw [w0C (by simp; lia)] at h2
    have:=w0z h2
    simp at this
 have st0:k1m (stack.filterMap (·.frame)) [] ρ ρ s.heap h₁:=k1m.grow keep
 have fsEq:F.fs = L :: stack.filterMap (·.frame):=rfl
 have back:∀ {ρ':List Addr} {h':Heap},k1m F.fs F.mods ρ ρ' h₁ h'→k1m (stack.filterMap (·.frame)) [] ρ ρ' s.heap h':=fun {ρ' h'} st=>by
  have st1:k1m F.fs F.mods ρ ρ' s.heap h':=(k1m.grow keep:k1m F.fs F.mods ρ ρ s.heap h₁).trans st
  have st2:=st1.mods (mods':=[]) fun a ha=>.inr (hsz a (modsAbove a ha))
  exact st2.frs fun a ha=>by
   rw [fsEq] at ha
   refine Or.elim (w0c.mp ha) (fun yY=>?_) fun ha=>?_; subst yY
   ·exact .inr (hsz L (w0l _))
   ·exact .inl ha
 refine wpAny_mono (hb L stack ok (A.deeper F.env) ρ _ H { s with heap:=h₁,toks:=tk } (room.deeper F.env).r hsinv (clK P) e) (fun a s' h=>?_) (fun e' s' h=>?_)
 ·obtain ⟨⟨fl,reg'⟩,ρ',H',p,⟨q1,q2⟩,st⟩:=h
  cases q1 with
  | next=>exact .ok .none .none ρ' H' p rfl .none q2.toCInv.pop (back st)
  | brk=>exact False.elim p
  | cont=>exact False.elim p
  | ret hv'=>exact .ok _ _ ρ' H' p rfl hv' q2.toCInv.pop (back st)
 ·obtain ⟨x,ρ',H',p,q2,⟨ea,rfl,ex⟩,st⟩:=h
  refine leaveX (C:=C) (h₀:=s.heap) (env:=F.env) (outer:=stack) (L:=L) (x:=x) (ρ:=ρ') (room.deeper F.env).frames rfl q2.toCInv (fun a o e=>?_) ?_ fun h' y ci ex'=>?_
  ·refine cX1 (st.alive a o (keep a o e)) fun o' e'=>?_
   exact ⟨o',e'⟩
  ·have ol:∀ a,h₁.get? a = none→s.heap.get? a = none:=fun a=>st0.none_of
   refine Or.elim ex ?_ ?_ <;> clear ex; rotate_left; (intro yZ; refine Or.elim yZ ?_ ?_ <;> clear yZ; rotate_left; (intro yZ; refine cX1 yZ fun Lf yA=>cA2 yA fun hLf ex=>?_; clear yZ yA); rotate_right; intro ex); rotate_right; intro ex
   ·exact .inl (ex.older ol)
   ·exact .inr (.inl (ex.older ol))
   ·cases hLf; exact .inr (.inr (ex.older ol))
  ·refine .err x ea ρ' H' p rfl ex' ci ?_
   have st1:k1m F.fs F.mods ρ ρ' s.heap s'.heap:=(k1m.grow keep:k1m F.fs F.mods ρ ρ s.heap h₁).trans st
   have st2:=st1.thenX y q2.toCInv.tupOff
   refine (st2.mods (mods':=[]) fun a ha=>.inr (hsz a (modsAbove a ha))).frs fun a ha=>?_
   rw [fsEq] at ha
   refine Or.elim (w0c.mp ha) (fun yY=>?_) fun ha=>?_; subst yY
   ·exact .inr (hsz L (w0l _))
   ·exact .inl ha
section
variable {C:k1J} {F:Fm} {n:Nat}
theorem CInv.inK {stack:List Env} {ρ:List Addr} {H:Hp} {s:Shared} (cok:C.Ok) (x:CInv C stack ρ H s):C.K.In s.heap:=fun b o e=>x.base b o (cok.inK b o e)
theorem CInv.big {stack:List Env} {ρ:List Addr} {H:Hp} {s:Shared} (cok:C.Ok) (x:CInv C stack ρ H s):mainGlobals < s.heap.objs.size:=by
 refine cX3 cok.g fun o es ep yA=>cA2 yA fun h1 _=>?_; clear yA
 exact Heap.lt_size (x.base _ _ h1)
theorem k4v {C:k1J} {stack:List Env} {ρ:List Addr} {H:Hp} {s:Shared} (x:CInv C stack ρ H s) {a:Addr} (h:s.heap.get? a = none):C.base.get? a = none:=by
 cases q:C.base.get? a with
 | none=>rfl
 | some o=>have:=x.base a o q; rw [h] at this; exact kNS this
theorem k3v (h:Heap) {a:Addr} (ha:h.objs.size≤a):h.get? a = none:=by
 cases q:h.get? a with
 | none=>rfl
 | some o=>exact absurd (Heap.lt_size q) (w1y.mpr ha)
theorem CInv.push {stack:List Env} {ρ:List Addr} {H:Hp} {s:Shared} (cok:C.Ok) (x:CInv C stack ρ H s) {h':Heap} {t:Nat} {a:Addr} {o:O} (k:∀ a o,s.heap.get? a = some o→h'.get? a = some o) (ha:s.heap.objs.size≤a)
  (ho:(∀ V v,VR ρ s.heap V v→VR (ρ ++ [a]) h' V v)→OR C (ρ ++ [a]) h' a o) (fs mods:List Addr) :
  CInv C stack (ρ ++ [a]) (H ++ [o]) { s with heap:=h',toks:=t }∧k1m fs mods ρ (ρ ++ [a]) s.heap h':=by
 have hn:=k3v s.heap ha
 refine ⟨⟨by rw [x.sh],fun b o e=>k b o (x.base b o e),x.hm.push k hn (k4v x hn) ?_ ho,fun e he=>?_⟩,⟨[a],rfl⟩,fun b hb=>?_,fun b o e=>⟨o,k b o e⟩,fun b o e Y=>k b o e,fun b o e Y Y Y=>k b o e,fun b o e Y Y=>⟨o.slots,k b o e⟩⟩
 ·have:sysModules < s.heap.objs.size:=w1Q (by decide +kernel:sysModules < mainGlobals) (x.big cok)
  exact beq_eq_false_iff_ne.mpr (w1b (w1R this ha))
 ·refine cA2 (x.frs e he) fun k1 yA=>cX4 yA fun L ob es m yB=>cA5 yB fun h1 h2 h3 h4 h5=>?_; clear yA yB
  refine ⟨k1,L,ob,es,m,h1,fun q=>?_,h3,k _ _ h4,h5⟩
  refine Or.elim (w0g.mp q) (fun q=>?_) fun q=>?_
  ·exact h2 q
  ·simp only [w0h] at q; subst q; rw [hn] at h4; exact kNS h4
 ·refine Or.elim (w0g.mp hb) (fun q=>?_) fun q=>?_
  ·exact .inl q
  ·simp only [w0h] at q; subst q; exact .inr hn
theorem k1O.push {ρ:List Addr} {reg:Reg} {H:Hp} {s:Shared} (cok:C.Ok) (x:k1O C F ρ reg H s) {h':Heap} {t:Nat} {a:Addr} {o:O} (k:∀ a o,s.heap.get? a = some o→h'.get? a = some o) (ha:s.heap.objs.size≤a)
  (ho:(∀ V v,VR ρ s.heap V v→VR (ρ ++ [a]) h' V v)→OR C (ρ ++ [a]) h' a o) :
  k1O C F (ρ ++ [a]) reg (H ++ [o]) { s with heap:=h',toks:=t }∧k1m F.fs F.mods ρ (ρ ++ [a]) s.heap h':=by
 refine cA2 (x.toCInv.push (t:=t) cok k ha ho F.fs F.mods) fun y st=>?_
 have hn:=k3v s.heap ha
 refine ⟨{ toCInv:=y,ns:=cX1 x.ns fun m z=>⟨m,z.keeps k⟩,off:=fun b hb=>?_,rm:=fun i z V e1 e2=>?_,cl:=fun y c e1 e2=>let ⟨m,v,z⟩:=x.cl y c e1 e2; ⟨m,v,z.keeps k⟩ },st⟩
 ·refine cA2 (x.off b hb) fun n1 yA=>cX1 yA fun ob yB=>cA2 yB fun e nt=>?_; clear yA yB
  refine ⟨fun q=>?_,ob,k _ _ e,nt⟩
  refine Or.elim (w0g.mp q) (fun q=>?_) fun q=>?_
  ·exact n1 q
  ·simp only [w0h] at q; subst q; rw [hn] at e; exact kNS e
 ·refine cX1 (x.rm i z V e1 e2) fun v yA=>cA2 yA fun va vr=>?_; clear yA
  exact ⟨v,va.grow k,vr.step st⟩
theorem VR.last {ρ:List Addr} {H:Hp} {h h':Heap} {a:Addr} (hm:HM C ρ H h):VR (ρ ++ [a]) h' (.loc H.length) (.ref a) :=
 .loc _ _ (by rw [← hm.len,w0C (w0l _)]; simp)
end
noncomputable def k3r (o:O):X V:=⟨fun Q h=>Q (.ok (.loc h.length)) (h ++ [o]),fun q x=>q _ _ x⟩
noncomputable def k0T (_:Reg):X (List V):=Pure.pure []
noncomputable def coK (d:Reg→X (List V)) (reg:Reg) (Q:Po (List V)):Po V:=fun r h=>match r with
 | .ok v=>wp (d reg) (rK (v :: ·) Q) h
 | .error e=>Q (.error e) h
theorem coK_mono {d:Reg→X (List V)} {reg:Reg} {Q Q':Po (List V)} (q:∀ r h,Q r h→Q' r h):∀ r h,coK d reg Q r h→coK d reg Q' r h
 | .ok _,_,x=>(d reg).mono (k8m q) x
 | .error _,_,x=>q _ _ x
noncomputable def k0f (c:Reg→X V) (d:Reg→X (List V)) (reg:Reg):X (List V):=⟨fun Q h=>wp (c reg) (coK d reg Q) h,fun q x=>(c reg).mono (coK_mono q) x⟩
noncomputable def k3e (c:Reg→X (List V)) (reg:Reg):X V:=⟨fun Q h=>wp (c reg) (rK V.tup Q) h,fun q x=>(c reg).mono (k8m q) x⟩
noncomputable def k4S (c:Reg→X (List V)) (reg:Reg):X V:=c reg >>= fun vs=>k3r (.list vs)
noncomputable def k4J (_:Reg):X V:=k3r (.dict [])
noncomputable def k8u (_:Reg):X V:=k3r (.tdict [])
noncomputable def k1c (g:List V→X V) (ca:Reg→X (List V)) (reg:Reg):X V:=ca reg >>= g
noncomputable def k3w (g:List V→X V) (ca:Reg→X (List V)) (reg:Reg):X V:=ca reg >>= fun vs=>g vs
section
variable {C:k1J} {F:Fm} {n:Nat}
theorem k0e.alloc {t:Sem Value} {A:Around} {ρ:List Addr} {H:Hp} {s:Shared} {o:O} {Q:V→Value→List Addr→Hp→Shared→Prop}
  (h:wpAny (model C.prog C.w) A t (fun a s'=>∃ ρ',Q (.loc H.length) a ρ' (H ++ [o]) s'∧k1m F.fs F.mods ρ ρ' s.heap s'.heap) (fun Y Y=>False) s):k0e C F A ρ H s t (k3r o) Q:=k0e.prim (fun Y p=>p) h
noncomputable def AsOk (C:k1J) (F:Fm) (n:Nat) (es:List Expr) (c:Reg→X (List V)):Prop :=
 ∀ pos A ρ reg H s,k7Y n A F→k1O C F ρ reg H s→k0e C F A ρ H s (spliced (backTo pos (starEach es F.env))) (c reg) (fun V v ρ' H' s'=>QVs C F reg V v ρ' H' s'∧V.length = es.length)
theorem k0i:AsOk C F n [] k0T:=fun Y Y Y Y Y Y Y inv=>k0e.pure ⟨⟨.nil,inv⟩,rfl⟩
theorem k0b {e:Expr} {es:List Expr} {c:Reg→X V} {d:Reg→X (List V)} (h:EOk C F n e c) (hr:AsOk C F n es d) (he:starEach (e :: es) F.env = (false,eval e F.env) :: starEach es F.env:=by rfl) :
  AsOk C F n (e :: es) (k0f c d):=by
 intro pos A ρ reg H s room inv
 rw [he]
 show k0e C F A ρ H s (spliced ((false,eval e F.env) :: backTo pos (starEach es F.env))) _ _
 rw [spliced]
 refine (h A ρ reg H s room inv).bindR (coK d reg) (fun Y p=>p) (fun Y Y Y p=>p) fun v va ρ₁ H₁ s₁ q st=>?_
 simp only [w0p,if_false]
 have:(do let here ← (pure [va]:Sem (List Value)); return here ++ (← holding here (spliced (backTo pos (starEach es F.env))))) = (holding [va] (spliced (backTo pos (starEach es F.env))) >>= fun vs=>pure ([va] ++ vs)):=rfl
 rw [this]
 refine fun P p=>k0e.map (f:=(v :: ·)) (w:=⟨fun Q h=>wp (d reg) (rK (v :: ·) Q) h,fun q x=>(d reg).mono (k8m q) x⟩) (k0e.holding (hr pos A ρ₁ reg H₁ s₁ room q.2)) (fun Y p=>p) (fun vs vsa ρ₂ H₂ s₂ q₂ st₂=>?_) P p
 exact k0e.pure ⟨⟨.cons (q.1.step st₂) q₂.1.1,q₂.1.2⟩,by simp [q₂.2]⟩
theorem z3Y (es:List Expr) (k:Nat) (pos:Pos) (env:Env):eval (.Tuple es k pos) env = (standAt pos >>= fun Y=>spliced (backTo pos (starEach es env)) >>= fun vs=>newTuple vs):=rfl
theorem z4T (es:List Expr) (pos:Pos) (env:Env):eval (.List es pos) env = (standAt pos >>= fun Y=>spliced (backTo pos (starEach es env)) >>= fun vs=>newList vs):=rfl
theorem z1t {A:Around} {ρ:List Addr} {reg:Reg} {H:Hp} {s:Shared} {Vs:List V} {vs:List Value} (inv:k1O C F ρ reg H s) (hv:VRs ρ s.heap Vs vs) (hl:Vs.length≤64):k0e C F A ρ H s (newTuple vs) (Pure.pure (.tup Vs):X V) (QV C F reg):=by
 refine k0e.prim0 (wpAny_newTuple ?_ (by rw [← hv.length,sizeLine_eq]; lia))
 have k:∀ a o,s.heap.get? a = some o→(s.heap.push { cls:=.type "tuple",data:=.seq vs.toArray }).get? a = some o:=fun a o e=>Heap.get?_push_of_some _ e
 exact ⟨ρ,⟨.tup _ _ vs ⟨_,Heap.get?_push_size _ rfl,rfl,_,rfl⟩ (hv.mono (w0m _) fun a o e Y=>k a o e),inv.heap k⟩,k1m.grow k⟩
theorem k0R {es:List Expr} {k:Nat} {pos:Pos} {c:Reg→X (List V)} (h:AsOk C F n es c) (hl:es.length≤64:=by decide):EOk C F n (.Tuple es k pos) (k3e c):=by
 intro A ρ reg H s room inv
 rw [z3Y]
 exact k0e.standAt (k0e.map (h pos A ρ reg H s room inv) (fun Y p=>p) fun vs vsa ρ₁ H₁ s₁ q st=>z1t q.1.2 q.1.1 (by rw [q.2]; exact hl))
theorem z2x (cok:C.Ok) {A:Around} {ρ:List Addr} {reg:Reg} {H:Hp} {s:Shared} {Vs:List V} {vs:List Value} (inv:k1O C F ρ reg H s) (hv:VRs ρ s.heap Vs vs) (hl:Vs.length≤4096):k0e C F A ρ H s (newList vs) (k3r (.list Vs)) (QV C F reg):=by
 refine k0e.alloc (wpAny_newList ?_ (by rw [← hv.length,sizeLine_eq]; lia))
 have k:∀ a o,s.heap.get? a = some o→(s.heap.push { cls:=.type "list",data:=.seq vs.toArray }).get? a = some o:=fun a o e=>Heap.get?_push_of_some _ e
 refine cA2 (inv.push (t:=s.toks) (a:=s.heap.objs.size) (o:=.list Vs) cok k (w0l _) fun hm=>⟨vs,⟨_,Heap.get?_push_size _ rfl⟩,hv.mono ⟨_,rfl⟩ fun a o e Y=>k a o e⟩) fun y st=>?_
 exact ⟨_,⟨VR.last inv.hm,y⟩,st⟩
theorem k2G (cok:C.Ok) {es:List Expr} {pos:Pos} {c:Reg→X (List V)} (h:AsOk C F n es c) (hl:es.length≤4096:=by decide):EOk C F n (.List es pos) (k4S c):=by
 intro A ρ reg H s room inv
 rw [z4T]
 exact k0e.standAt (k0e.bind (h pos A ρ reg H s room inv) fun vs vsa ρ₁ H₁ s₁ q st=>z2x cok q.1.2 q.1.1 (by rw [q.2]; exact hl))
theorem k2M (cok:C.Ok) {pos:Pos}:EOk C F n (.Dict [] [] pos) k4J:=by
 intro A ρ reg H s room inv
 refine k0e.alloc (wpAny_Dict_empty ?_)
 have k:∀ a o,s.heap.get? a = some o→(s.heap.push { cls:=.type "dict",data:=.dict #[] }).get? a = some o:=fun a o e=>Heap.get?_push_of_some _ e
 refine cA2 (inv.push (t:=s.toks) (a:=s.heap.objs.size) (o:=.dict []) cok k (w0l _) fun hm=>⟨[],⟨_,#[],Heap.get?_push_size _ rfl,⟨rfl,rfl,rfl⟩,rfl,fun e he=>by simp at he,.nil,w0L⟩,.nil⟩) fun y st=>?_
 exact ⟨_,⟨VR.last inv.hm,y⟩,st⟩
theorem k7j (cok:C.Ok) {pos:Pos}:EOk C F n (.Dict [] [] pos) k8u:=by
 intro A ρ reg H s room inv
 refine k0e.alloc (wpAny_Dict_empty ?_)
 have k:∀ a o,s.heap.get? a = some o→(s.heap.push { cls:=.type "dict",data:=.dict #[] }).get? a = some o:=fun a o e=>Heap.get?_push_of_some _ e
 refine cA2 (inv.push (t:=s.toks) (a:=s.heap.objs.size) (o:=.tdict []) cok k (w0l _) fun hm=>⟨[],Heap.DictOfH.new _,.nil⟩) fun y st=>?_
 exact ⟨_,⟨VR.last inv.hm,y⟩,st⟩
noncomputable def z4U (C:k1J) (F:Fm) (n:Nat) (f:Value) (g:List V→X V):Prop :=
 ∀ A ρ reg H s args vals,k7Y n A F→k1O C F ρ reg H s→VRs ρ s.heap args vals→k0e C F A ρ H s (call f vals) (g args) (QV C F reg)
theorem k0n.fn (ok:F.Ok C) {f:Value} {g:List V→X V} (h:k0n C n f g):z4U C F n f g:=by
 intro A ρ reg H s args vals room inv hv P e
 refine wpAny_call (codeAny_mono (h A F.stack ρ H s args vals P room.s inv.toCInv hv e) fun res s' hr=>?_)
 cases hr with
 | ok V v ρ' H' p e h1 h2 h3=>subst e; exact ⟨V,ρ',H',p,⟨h1,inv.after ok h2 h3⟩,h3.mods fun a ha=>by simp at ha⟩
 | err x ea ρ' H' p e h1 h2 h3=>subst e; exact ⟨x,ρ',H',p,(inv.after ok h2 h3).forget,⟨ea,rfl,.inr (.inl h1)⟩,h3.mods fun a ha=>by simp at ha⟩
theorem k5l (x:Str) (p:Pos) (args:List Expr) (pos:Pos) (env:Env):eval (.Call (.Name x p) args [] pos) env = (eval (.Name x p) env >>= fun f=>callWith pos f [] (backTo pos (starEach args env)) []):=rfl
theorem k4a {A:Around} {M:Model} {E:Value→Shared→Prop} {s:Shared} {f:Value} {l:List (Bool × Sem Value)} {Q:Args→Shared→Prop} (hl:l.any (·.1) = false)
  (h:wpAny M A (spliced l) (fun vs s'=>Q ⟨vs,[]⟩ s') E s):wpAny M A (evalArgs f true l []) Q E s:=by
 cases l with
 | nil =>
  unfold evalArgs
  show wpAny M A (spliced [] >>= _) Q E s
  refine wpAny_bind (wpAny_mono h (fun vs s' h'=>?_) fun Y Y x=>x)
  refine wpAny_bind (wpAny_pure ?_)
  refine wpAny_holding ?_
  exact wpAny_bind (wpAny_pure (wpAny_bind (wpAny_pure (wpAny_pure h'))))
 | cons p r =>
  obtain ⟨b,x⟩:=p
  simp only [w1A,Bool.or_eq_false_iff] at hl
  refine cA2 hl fun yA=>?_; clear hl; subst yA; intro _
  exact evalArgs_plain h
theorem k4b {es:List Expr} {env:Env} {pos:Pos} (h:(starEach es env).any (·.1) = false):(backTo pos (starEach es env)).any (·.1) = false:=by
 unfold backTo
 rw [List.any_map]
 exact h
noncomputable def glob? (C:k1J) (x:Str) (v:Value):Prop:=W.nsIn C.K mainGlobals x = some (some v)
theorem mg_of' (cok:C.Ok) {x:Str} {v:Value} (h:glob? C x v):C.mg x = some v:=W.mg_of cok.inK cok.g h
theorem k6E (ok:F.Ok C) (cok:C.Ok) {A:Around} {ρ:List Addr} {reg:Reg} {H:Hp} {s:Shared} {x:Str} {p:Pos} {v:Value} {Q:Value→Shared→Prop} {E:Value→Shared→Prop} (inv:k1O C F ρ reg H s)
  (hx:F.env.kindOf x = some .globalImplicit) (hg:glob? C x v) (hd:(x == ("__debug__":Str)) = false) (h:Q v s):wpAny (model C.prog C.w) A (eval (.Name x p) F.env) Q E s :=
 Name_function_global ok.kind hx (loadGlobal_global (by rw [ok.glob]; exact cok.g.keeps inv.base) (mg_of' cok hg) h) hd
theorem k9U (ok:F.Ok C) (cok:C.Ok) {A:Around} {ρ:List Addr} {reg:Reg} {H:Hp} {s:Shared} {x:Str} {p:Pos} {v:Value} {Q:Value→Shared→Prop} {E:Value→Shared→Prop} (inv:k1O C F ρ reg H s)
  (hx:F.env.kindOf x = some .globalImplicit) (hg:W.nsIn C.K mainGlobals x = some none) (hb:bootBuiltins x = some v) (hn:x≠"__name__") (hd:(x == ("__debug__":Str)) = false) (h:Q v s):wpAny (model C.prog C.w) A (eval (.Name x p) F.env) Q E s :=
 Name_function_global ok.kind hx (loadGlobal_builtin (by rw [ok.glob]; exact cok.g.keeps inv.base) (W.mg_none_of cok.inK cok.g hg) (by rw [ok.blt]; exact cok.b.keeps inv.base) ((cok.builtins x hn).trans hb) h) hd
theorem k0B (ok:F.Ok C) (cok:C.Ok) {x:Str} {p pos:Pos} {args:List Expr} {f:Value} {g:List V→X V} {ca:Reg→X (List V)} (hf:z4U C F n f g) (ha:AsOk C F n args ca)
  (hg:glob? C x f) (hk:W.keepIn C.K f = true) (hx:F.env.kindOf x = some .globalImplicit:=by rfl) (hd:(x == ("__debug__":Str)) = false:=by decide +kernel) (hplain:(starEach args F.env).any (·.1) = false:=by rfl) :
  EOk C F n (.Call (.Name x p) args [] pos) (k1c g ca):=by
 intro A ρ reg H s room inv P e
 rw [k5l]
 refine wpAny_bind (k6E ok cok inv hx hg hd ?_)
 refine W.callWith_of (P:=C.K.In) (by rw [k4b hplain]; rfl) (W.keeps_K hk) (k4a (k4b hplain) ?_)
 exact k0e.seq (ha pos A ρ reg H s room inv) e fun vs a ρ' H1 s' q st e'=>⟨q.1.2.toCInv.inK cok,(hf A ρ' reg H1 s' vs a room q.1.2 q.1.1).finish e' st⟩
end
noncomputable def xCat (a b:Nat):X V:=⟨fun Q h=>oK h[a]? (fun x=>oK h[b]? (fun y=>∃ xs ys,x = .list xs∧y = .list ys∧xs.length + ys.length≤4096∧Q (.ok (.loc h.length)) (h ++ [.list (xs ++ ys)]))),
 fun q x=>k2Y (fun Y=>k2Y fun _ w=>cX2 w fun xs ys w=>⟨xs,ys,w.1,w.2.1,w.2.2.1,q _ _ w.2.2.2⟩) x⟩
noncomputable def k4T (a b:V):X V:=match a with
 | .int x=>onInt (fun y=>Pure.pure (.int (x + y))) b
 | .str x=>onStr (fun y=>when (x.length + y.length≤1000) (Pure.pure (.str (x ++ y)))) b
 | .loc x=>onLoc (fun y=>xCat x y) b
 | _=>X.stuck
noncomputable def inI2 (f:Int→Int→X V) (a b:V):X V:=onInt (fun x=>onInt (fun y=>f x y) b) a
noncomputable def z1u (a b:V):X V:=inI2 (fun x y=>Pure.pure (.int (x - y))) a b
noncomputable def xMul (a b:V):X V:=inI2 (fun x y=>when (-2147483648 < y∧y < 2147483648) (Pure.pure (.int (x * y)))) a b
noncomputable def xMod (a b:V):X V:=inI2 (fun x y=>when (y≠0) (Pure.pure (.int (x.fmod y)))) a b
noncomputable def xLt (a b:V):X V:=inI2 (fun x y=>Pure.pure (.bool (decide (x < y)))) a b
noncomputable def xGt (a b:V):X V:=inI2 (fun x y=>Pure.pure (.bool (decide (y < x)))) a b
section
variable {C:k1J} {F:Fm} {n:Nat}
theorem k0e.inI2 {A:Around} {ρ:List Addr} {H:Hp} {s:Shared} {α:Type} {t:Value→Value→Sem α} {f:Int→Int→X V} {Q:V→α→List Addr→Hp→Shared→Prop} {a b:V} {va vb:Value} (ha:VR ρ s.heap a va) (hb:VR ρ s.heap b vb)
  (x:∀ i j u v,k0e C F A ρ H s (t (.int i u) (.int j v)) (f i j) Q):k0e C F A ρ H s (t va vb) (inI2 f a b) Q:=by
 refine k0e.onInt fun i e=>k0e.onInt fun j e'=>?_
 subst e e'
 refine VR.eInt ha fun u=>?_
 exact VR.eInt hb fun v=>x i j u v
theorem k5e:k9T C F n (binaryOp .Sub) z1u:=fun Y ρ Y Y Y Y Y Y Y Y inv ha hb=>k0e.inI2 ha hb fun Y Y Y Y=>k0e.prim0 (PyProof.Rows.sub_int ⟨ρ,⟨.int _ _,inv.toks _⟩,k1m.refl _ _ _ _⟩)
theorem z4V:k9T C F n (binaryOp .Mult) xMul:=fun Y ρ Y Y Y Y Y Y Y Y inv ha hb=>k0e.inI2 ha hb fun Y Y Y Y=>k0e.when fun hs =>
 k0e.prim0 (PyProof.Rows.mul_int ⟨ρ,⟨.int _ _,inv.toks _⟩,k1m.refl _ _ _ _⟩ (IntMulOk.of_right (intBits_le_64 (by lia) (by lia))))
theorem z4W:k9T C F n (binaryOp .Mod) xMod:=fun Y ρ Y Y Y Y Y Y Y Y inv ha hb=>k0e.inI2 ha hb fun Y Y Y Y=>k0e.when fun h0=>k0e.prim0 (PyProof.Rows.mod_int h0 ⟨ρ,⟨.int _ _,inv.toks _⟩,k1m.refl _ _ _ _⟩)
theorem z1v:k9T C F n (compareOp .Lt) xLt:=fun Y ρ Y Y Y Y Y Y Y Y inv ha hb=>k0e.inI2 ha hb fun Y Y Y Y=>k0e.prim0 (PyProof.Rows.lt_int ⟨ρ,⟨.bool _,inv⟩,k1m.refl _ _ _ _⟩)
theorem op_gt:k9T C F n (compareOp .Gt) xGt:=fun Y ρ Y Y Y Y Y Y Y Y inv ha hb=>k0e.inI2 ha hb fun Y Y Y Y=>k0e.prim0 (PyProof.Rows.gt_int ⟨ρ,⟨.bool _,inv⟩,k1m.refl _ _ _ _⟩)
theorem z2y {prog:Program} {w:World} {A:Around} {E:Value→Shared→Prop} {s:Shared} {l b:Addr} {its its2:Array Value} {Q:Value→Shared→Prop} (hl:s.heap.IsList l its) (hb:s.heap.IsList b its2)
  (h:Q (.ref s.heap.objs.size) { s with heap:=s.heap.push { cls:=.type "list",data:=.seq (its.toList ++ its2.toList).toArray } })
  (hsz:its.size + its2.size≤sizeLine):wpAny (model prog w) A (binaryOp .Add (.ref l) (.ref b)) Q E s:=by
 refine cX1 (id hl) fun yA yB=>?_; obtain ⟨cls,dd,data,sl⟩:=yA; refine cA3 yB fun ho hc yC=>cX1 yC fun n hd=>?_; clear yB yC
 refine cX1 (id hb) fun yA yB=>?_; obtain ⟨cls2,dd2,data2,sl2⟩:=yA; refine cA3 yB fun ho2 hc2 yC=>cX1 yC fun n2 hd2=>?_; clear yB yC
 simp only at hc hd hc2 hd2
 subst hc hd hc2 hd2
 have e:its ++ its2 = (its.toList ++ its2.toList).toArray:=by simp
 refine concat_meets ⟨_,ho,rfl⟩ ⟨_,ho2,rfl⟩ noFill_list_add seq_list_add PySem.F.slot_list_add PySem.F.entry_list_add (PySem.F.args_list_add_2 _ _) (PyProof.Rows.list_addW l b its its2 n n2 dd dd2 sl sl2 hsz) ⟨ho,ho2,?_⟩
 rw [e]
 exact h
theorem z3Z (x y:List Nat):(⟨x.toArray⟩:Str) ++ (⟨y.toArray⟩:Str) = ⟨(x ++ y).toArray⟩:=by
 apply PySem.Str.ext'
 rw [PySem.Str.cps_append]
 simp
theorem cat_sim (cok:C.Ok) {A:Around} {ρ:List Addr} {reg:Reg} {H:Hp} {s:Shared} {na nb:Nat} {la lb:Addr} (inv:k1O C F ρ reg H s) (hla:ρ[na]? = some la) (hlb:ρ[nb]? = some lb):k0e C F A ρ H s (binaryOp .Add (.ref la) (.ref lb)) (xCat na nb) (QV C F reg):=fun P p=>by
 refine k5Z p fun Y hx p1=>k5Z p1 fun Y hy p2=>?_
 refine cX2 p2 fun x y yA=>cA4 yA fun yB=>?_; clear p2 yA; subst yB; intro yC; subst yC; intro hlen p3
 refine cX1 (inv.hm.obj na la _ hla hx) fun itx yA=>cA2 yA fun hx1 hx2=>?_; clear yA
 refine cX1 (inv.hm.obj nb lb _ hlb hy) fun ity yA=>cA2 yA fun hy1 hy2=>?_; clear yA
 refine z2y hx1.isList hy1.isList ?_ ?_
 ·have k:∀ a o,s.heap.get? a = some o→(s.heap.push { cls:=.type "list",data:=.seq (itx.toArray.toList ++ ity.toArray.toList).toArray }).get? a = some o:=fun a o e=>Heap.get?_push_of_some _ e
  refine cA2 (inv.push (t:=s.toks) (a:=s.heap.objs.size) (o:=.list (x ++ y)) cok k (w0l _) fun hm=>⟨itx ++ ity,⟨_,Heap.get?_push_size _ rfl⟩,(hx2.append hy2).mono ⟨_,rfl⟩ fun a o e Y=>k a o e⟩) fun y' st=>?_
  exact ⟨_,_,_,p3,⟨VR.last inv.hm,y'⟩,st⟩
 ·rw [sizeLine_eq]
  simp only [w0O,← hx2.length,← hy2.length]; lia
theorem k2k (cok:C.Ok):k9T C F n (binaryOp .Add) k4T:=by
 intro A ρ reg H s a b va vb _ inv ha hb
 cases a with
 | int i =>
  refine k0e.onInt fun j e=>?_
  subst e
  refine VR.iInt ha fun _ yA=>?_; clear ha; subst yA; refine VR.iInt hb fun _ yA=>?_; clear hb; subst yA
  exact k0e.prim0 (PyProof.Rows.add_int ⟨ρ,⟨.int _ _,inv.toks _⟩,k1m.refl _ _ _ _⟩)
 | str i =>
  refine k0e.onStr fun j e=>k0e.when fun hl=>?_
  subst e
  refine VR.iStr ha fun _ yA=>?_; clear ha; subst yA; refine VR.iStr hb fun _ yA=>?_; clear hb; subst yA
  refine k0e.prim0 (PyProof.Rows.add_str (fun t' tk=>⟨ρ,⟨?_,inv.toks _⟩,k1m.refl _ _ _ _⟩) ?_)
  ·rw [z3Z]; exact .str _ _
  ·rw [sizeLine_eq]; exact w1B hl (by decide)
 | loc i =>
  refine k0e.onLoc fun j e=>?_
  subst e
  refine VR.eLoc ha fun la hla=>?_
  exact VR.eLoc hb fun lb hlb=>cat_sim cok inv hla hlb
 | _=>exact k0e.stuck
end
noncomputable def k0Q {K α:Type} [DecidableEq K] (es:List (K × α)) (k:K):Option α:=(es.find? fun e=>decide (e.1 = k)).map (·.2)
noncomputable def NeT (a b:List V) (r:Bool):Prop:=b = []∧((a = []∧r = false)∨∃ i j,a = [.tup [.int i,.int j]]∧r = true)
noncomputable def NeO (a b:O) (r:Bool):Prop:=b = .list []∧((a = .list []∧r = false)∨∃ i,a = .list [.int i]∧r = true)
noncomputable def k4B (a b:List V):Option Bool:=match b with
 | []=>match a with
  | []=>some true
  | [x]=>oTup (fun l=>match l with
   | [p,q]=>oInt (fun Y=>oInt (fun Y=>some false) q) p
   | _=>none) x
  | _=>none
 | _=>none
noncomputable def k1K (a b:O):Option Bool:=match b with
 | .list []=>match a with
  | .list []=>some true
  | .list [x]=>oInt (fun Y=>some false) x
  | _=>none
 | _=>none
theorem k9E {a b:List V} {r:Bool} (e:k4B a b = some r):NeT a b (!r):=by
 cases b with
 | cons=>cases e
 | nil =>
  rcases a with _ | ⟨x,_ | _⟩
  ·cases e; exact ⟨rfl,.inl ⟨rfl,rfl⟩⟩
  ·refine z2w e fun l el e1=>?_
   rcases l with _ | ⟨p,_ | ⟨q,_ | _⟩⟩ <;> try (exact kNS e1; done)
   refine z0A e1 fun i ei e2=>z0A e2 fun j ej e3=>?_
   subst el ei ej
   refine k1f e3 fun yA=>?_; clear e3; subst yA
   exact ⟨rfl,.inr ⟨i,j,rfl,rfl⟩⟩
  ·cases e
theorem k8v {a b:O} {r:Bool} (e:k1K a b = some r):NeO a b (!r):=by
 rcases b with (_ | _) | _ | _ | _ <;> try (cases e; done)
 rcases a with (_ | ⟨x,_ | _⟩) | _ | _ | _ <;> try (cases e; done)
 ·cases e; exact ⟨rfl,.inl ⟨rfl,rfl⟩⟩
 ·refine z0A e fun i ei e2=>?_
  subst ei
  refine k1f e2 fun yA=>?_; clear e2; subst yA
  exact ⟨rfl,.inr ⟨i,rfl,rfl⟩⟩
noncomputable def xNeT (a b:List V):X V:=z4N (k4B a b) fun r=>Pure.pure (.bool (!r))
noncomputable def xNeO (a b:O):X V:=z4N (k1K a b) fun r=>Pure.pure (.bool (!r))
noncomputable def xEqO (x y:O):X V:=⟨fun Q h=>∃ vs,x = .list vs∧y = .list []∧Q (.ok (.bool vs.isEmpty)) h,fun q x=>cX1 x fun r w=>⟨r,w.1,w.2.1,q _ _ w.2.2⟩⟩
noncomputable def xEq (a b:V):X V:=match a with
 | .int a=>onInt (fun b=>Pure.pure (.bool (a == b))) b
 | .str a=>onStr (fun b=>Pure.pure (.bool (a == b))) b
 | .bool a=>onBool (fun b=>Pure.pure (.bool (a == b))) b
 | .loc a=>onLoc (fun b=>atLoc a fun x=>atLoc b fun y=>xEqO x y) b
 | _=>X.stuck
noncomputable def xNe (a b:V):X V:=match a with
 | .int a=>onInt (fun b=>Pure.pure (.bool (a != b))) b
 | .str a=>onStr (fun b=>Pure.pure (.bool (a != b))) b
 | .bool a=>onBool (fun b=>Pure.pure (.bool (a != b))) b
 | .loc a=>onLoc (fun b=>atLoc a fun x=>atLoc b fun y=>xNeO x y) b
 | .tup a=>onTup (fun b=>xNeT a b) b
 | _=>X.stuck
noncomputable def isNone (t f:Bool) (a:V):X V:=match a with
 | .none=>Pure.pure (.bool t)
 | .loc _=>Pure.pure (.bool f)
 | .int _=>Pure.pure (.bool f)
 | _=>X.stuck
noncomputable def xIs (a b:V):X V:=onNone (isNone true false a) b
noncomputable def k9V (a b:V):X V:=onNone (isNone false true a) b
section
variable {C:k1J} {F:Fm} {n:Nat}
theorem z2z (a b:List Nat):((⟨a.toArray⟩:Str) == (⟨b.toArray⟩:Str)) = (a == b):=by
 by_cases h:a = b
 ·subst h; simp
 ·have:(⟨a.toArray⟩:Str)≠⟨b.toArray⟩:=fun e=>h (by injection e with e; simpa using e)
  rw [beq_eq_false_iff_ne.mpr this,beq_eq_false_iff_ne.mpr h]
theorem z4a:k9T C F n (compareOp .Is) xIs:=by
 intro A ρ reg H s a b va vb _ inv ha hb
 refine k0e.onNone fun e=>?_
 subst e
 refine VR.iNone hb fun yA=>?_; clear hb; subst yA
 cases a with
 | none=>refine VR.iNone ha fun yA=>?_; clear ha; subst yA; exact k0e.prim0 (PyProof.Rows.is_none_none ⟨ρ,⟨.bool _,inv⟩,k1m.refl _ _ _ _⟩)
 | loc=>refine VR.iLoc ha fun _ yA _=>?_; clear ha; subst yA; exact k0e.prim0 (PyProof.Rows.is_ref_none ⟨ρ,⟨.bool _,inv⟩,k1m.refl _ _ _ _⟩)
 | int=>refine VR.iInt ha fun _ yA=>?_; clear ha; subst yA; exact k0e.prim0 (PyProof.Rows.is_int_none ⟨ρ,⟨.bool _,inv⟩,k1m.refl _ _ _ _⟩)
 | _=>exact k0e.stuck
theorem z3s:k9T C F n (compareOp .IsNot) k9V:=by
 intro A ρ reg H s a b va vb _ inv ha hb
 refine k0e.onNone fun e=>?_
 subst e
 refine VR.iNone hb fun yA=>?_; clear hb; subst yA
 cases a with
 | none=>refine VR.iNone ha fun yA=>?_; clear ha; subst yA; exact k0e.prim0 (PyProof.Rows.isnot_none_none ⟨ρ,⟨.bool _,inv⟩,k1m.refl _ _ _ _⟩)
 | loc=>refine VR.iLoc ha fun _ yA _=>?_; clear ha; subst yA; exact k0e.prim0 (PyProof.Rows.isnot_ref_none ⟨ρ,⟨.bool _,inv⟩,k1m.refl _ _ _ _⟩)
 | int=>refine VR.iInt ha fun _ yA=>?_; clear ha; subst yA; exact k0e.prim0 (PyProof.Rows.isnot_int_none ⟨ρ,⟨.bool _,inv⟩,k1m.refl _ _ _ _⟩)
 | _=>exact k0e.stuck
theorem k4U:k9T C F n (compareOp .Eq) xEq:=by
 intro A ρ reg H s a b va vb room inv ha hb
 cases a with
 | int =>
  refine k0e.onInt fun j e=>?_
  subst e
  refine VR.iInt ha fun _ yA=>?_; clear ha; subst yA; refine VR.iInt hb fun _ yA=>?_; clear hb; subst yA
  exact k0e.prim0 (PyProof.Rows.eq_int ⟨ρ,⟨.bool _,inv⟩,k1m.refl _ _ _ _⟩)
 | str =>
  refine k0e.onStr fun j e=>?_
  subst e
  refine VR.iStr ha fun _ yA=>?_; clear ha; subst yA; refine VR.iStr hb fun _ yA=>?_; clear hb; subst yA
  exact k0e.prim0 (PyProof.Rows.eq_str (by rw [z2z]; exact ⟨ρ,⟨.bool _,inv⟩,k1m.refl _ _ _ _⟩))
 | bool =>
  refine k0e.onBool fun j e=>?_
  subst e
  refine VR.iBool ha fun yA=>?_; clear ha; subst yA; refine VR.iBool hb fun yA=>?_; clear hb; subst yA
  exact k0e.prim0 (PyProof.Rows.eq_bool ⟨ρ,⟨.bool _,inv⟩,k1m.refl _ _ _ _⟩)
 | loc na =>
  refine k0e.onLoc fun nb e=>k0e.atLoc fun o hx=>k0e.atLoc fun o' hy P p=>?_
  subst e
  refine VR.eLoc ha fun la hla=>?_
  refine VR.eLoc hb fun lb hlb=>?_
  refine cX1 p ?_; clear p; intro x yA; refine cA3 yA fun yB=>?_; clear yA; subst yB; intro yC; subst yC; intro p
  refine cX1 (inv.hm.obj na la _ hla hx) fun itx yA=>cA2 yA fun hx1 hx2=>?_; clear yA
  refine cX1 (inv.hm.obj nb lb _ hlb hy) fun ity yA=>cA2 yA fun hy1 hy2=>?_; clear yA
  refine VRs.iNil hy2 fun yA=>?_; clear hy2; subst yA
  have hu:A.units < cLine:=by have:=room.units; lia
  cases hx2 with
  | nil=>exact SeqAt.eq_listAt (e:=fun Y=>true) hx1.isList hy1.isList rfl hu (fun j h1=>absurd h1 (by simp)) ⟨_,ρ,_,p,⟨.bool _,inv⟩,k1m.refl _ _ _ _⟩
  | cons h1 h2=>exact SeqAt.eq_list_lengthsAt hx1.isList hy1.isList (by simp) hu ⟨_,ρ,_,p,⟨.bool _,inv⟩,k1m.refl _ _ _ _⟩
 | _=>exact k0e.stuck
theorem ne_lists {A:Around} {ρ:List Addr} {reg:Reg} {H:Hp} {s:Shared} {la lb:Addr} {o o':O} (hu:A.units + 200 < cLine) (inv:k1O C F ρ reg H s) (hx:OR C ρ s.heap la o) (hy:OR C ρ s.heap lb o'):k0e C F A ρ H s (compareOp .NotEq (.ref la) (.ref lb)) (xNeO o o') (QV C F reg):=by
 refine k0e.opt fun r0 er P p=>?_
 refine cA2 (k8v er) fun yA=>?_; subst yA; intro q
 generalize (!r0) = r at *
 refine cX1 hy fun ity yA=>cA2 yA fun hy1 hy2=>?_; clear hy yA
 refine VRs.iNil hy2 fun yA=>?_; clear hy2; subst yA
 refine cX1 hy1.isList fun oy yA=>cA3 yA fun gy cy yB=>cX1 yB fun my dy=>?_; clear yA yB
 refine Or.elim q (fun yY=>?_) fun yZ=>?_ <;> clear q; rotate_left; (refine cX1 yZ fun i yA=>cA2 yA fun yB=>?_; clear yZ yA; subst yB; intro yC; subst yC); rotate_right; (refine cA2 yY fun yA=>?_; clear yY; subst yA; intro yB; subst yB)
 ·refine cX1 hx fun itx yA=>cA2 yA fun hx1 hx2=>?_; clear hx yA
  refine VRs.iNil hx2 fun yA=>?_; clear hx2; subst yA
  refine cX1 hx1.isList fun ox yA=>cA3 yA fun gx cx yB=>cX1 yB fun mx dx=>?_; clear yA yB
  exact PyProof.Rows.ne_dataH (da:=.list []) (db:=.list []) (PyProof.Rows.reads_list_at gx cx dx .nil) (PyProof.Rows.reads_list_at gy cy dy .nil) rfl rfl (by lia) ⟨_,ρ,_,p,⟨.bool _,inv⟩,k1m.refl _ _ _ _⟩
 ·refine cX1 hx fun itx yA=>cA2 yA fun hx1 hx2=>?_; clear hx yA
  refine VRs.iCons hx2 fun w ws e h1 h2=>?_
  subst e
  refine VR.iInt h1 fun _ yA=>?_; clear h1; subst yA; refine VRs.iNil h2 fun yA=>?_; clear h2; subst yA
  refine cX1 hx1.isList fun ox yA=>cA3 yA fun gx cx yB=>cX1 yB fun mx dx=>?_; clear yA yB
  exact PyProof.Rows.ne_dataH (da:=.list [.int _]) (db:=.list []) (PyProof.Rows.reads_list_at gx cx dx (.cons (.int _ _) .nil)) (PyProof.Rows.reads_list_at gy cy dy .nil) rfl rfl (by lia) ⟨_,ρ,_,p,⟨.bool _,inv⟩,k1m.refl _ _ _ _⟩
theorem ne_tups {A:Around} {ρ:List Addr} {reg:Reg} {H:Hp} {s:Shared} {la lb:Addr} {o o':List V} {ia ib:List Value} (hu:A.units + 200 < cLine) (inv:k1O C F ρ reg H s) (hia:s.heap.IsTuple la ia.toArray) (hva:VRs ρ s.heap o ia) (hib:s.heap.IsTuple lb ib.toArray) (hvb:VRs ρ s.heap o' ib) :
  k0e C F A ρ H s (compareOp .NotEq (.ref la) (.ref lb)) (xNeT o o') (QV C F reg):=by
 refine k0e.opt fun r0 er P p=>?_
 refine cA2 (k9E er) fun yA=>?_; subst yA; intro q
 generalize (!r0) = r at *
 refine VRs.iNil hvb fun yA=>?_; clear hvb; subst yA
 refine cX1 hib fun oy yA=>cA3 yA fun gy cy yB=>cX1 yB fun my dy=>?_; clear hib yA yB
 refine cX1 hia fun ox yA=>cA3 yA fun gx cx yB=>cX1 yB fun mx dx=>?_; clear hia yA yB
 refine Or.elim q (fun yY=>?_) fun yZ=>?_ <;> clear q; rotate_left; (refine cX2 yZ fun i j yA=>cA2 yA fun yB=>?_; clear yZ yA; subst yB; intro yC; subst yC); rotate_right; (refine cA2 yY fun yA=>?_; clear yY; subst yA; intro yB; subst yB)
 ·refine VRs.iNil hva fun yA=>?_; clear hva; subst yA
  exact PyProof.Rows.ne_dataH (da:=.tuple []) (db:=.tuple []) (PyProof.Rows.reads_tuple_at gx cx dx .nil) (PyProof.Rows.reads_tuple_at gy cy dy .nil) rfl rfl (by lia) ⟨_,ρ,_,p,⟨.bool _,inv⟩,k1m.refl _ _ _ _⟩
 ·refine VRs.iCons hva fun w ws e h1 h2=>?_
  subst e
  refine VRs.iNil h2 fun yA=>?_; clear h2; subst yA
  refine VR.iTup h1 fun lc ic e hic hvc=>?_
  subst e
  refine VRs.iCons hvc fun w ws e k1 k2=>?_
  subst e
  refine VRs.iCons k2 fun w ws e k3 k4=>?_
  subst e
  refine VR.iInt k1 fun _ yA=>?_; clear k1; subst yA; refine VR.iInt k3 fun _ yA=>?_; clear k3; subst yA; refine VRs.iNil k4 fun yA=>?_; clear k4; subst yA
  refine cX1 hic fun oz yA=>cA3 yA fun gz cz yB=>cX1 yB fun mz dz=>?_; clear hic yA yB
  exact PyProof.Rows.ne_dataH (da:=.tuple [.tuple [.int _,.int _]]) (db:=.tuple []) (PyProof.Rows.reads_tuple_at gx cx dx (.cons (PyProof.Rows.reads_tuple_at gz cz dz (.cons (.int _ _) (.cons (.int _ _) .nil))) .nil)) (PyProof.Rows.reads_tuple_at gy cy dy .nil) rfl rfl (by lia) ⟨_,ρ,_,p,⟨.bool _,inv⟩,k1m.refl _ _ _ _⟩
theorem k8w:k9T C F n (compareOp .NotEq) xNe:=by
 intro A ρ reg H s a b va vb room inv ha hb
 have hu:A.units + 200 < cLine:=by have:=room.units; lia
 cases a with
 | int =>
  refine k0e.onInt fun j e=>?_
  subst e
  refine VR.iInt ha fun _ yA=>?_; clear ha; subst yA; refine VR.iInt hb fun _ yA=>?_; clear hb; subst yA
  exact k0e.prim0 (PyProof.Rows.ne_int ⟨ρ,⟨.bool _,inv⟩,k1m.refl _ _ _ _⟩)
 | str =>
  refine k0e.onStr fun j e=>?_
  subst e
  refine VR.iStr ha fun _ yA=>?_; clear ha; subst yA; refine VR.iStr hb fun _ yA=>?_; clear hb; subst yA
  exact k0e.prim0 (PyProof.Rows.ne_str (by rw [show ∀ x y:Str,(x != y) = !(x == y) from fun Y Y=>rfl,z2z]; exact ⟨ρ,⟨.bool _,inv⟩,k1m.refl _ _ _ _⟩))
 | bool =>
  refine k0e.onBool fun j e=>?_
  subst e
  refine VR.iBool ha fun yA=>?_; clear ha; subst yA; refine VR.iBool hb fun yA=>?_; clear hb; subst yA
  exact k0e.prim0 (PyProof.Rows.ne_bool ⟨ρ,⟨.bool _,inv⟩,k1m.refl _ _ _ _⟩)
 | loc na =>
  refine k0e.onLoc fun nb e=>k0e.atLoc fun o hx=>k0e.atLoc fun o' hy=>?_
  subst e
  refine VR.eLoc ha fun la hla=>?_
  exact VR.eLoc hb fun lb hlb=>ne_lists hu inv (inv.hm.obj na la _ hla hx) (inv.hm.obj nb lb _ hlb hy)
 | tup na =>
  refine k0e.onTup fun nb e=>?_
  subst e
  refine VR.eTup ha fun la ia hia hva=>?_
  exact VR.eTup hb fun lb ib hib hvb=>ne_tups hu inv hia hva hib hvb
 | _=>exact k0e.stuck
end
noncomputable def strs?:List V→Option (List (List Nat))
 | []=>some []
 | .str s :: r=>(strs? r).map (s :: ·)
 | _ :: _=>none
noncomputable def oMem (k:List Nat):O→Option Bool
 | .dict es=>some (k0Q es k).isSome
 | .list vs=>(strs? vs).map fun ss=>ss.contains k
 | _=>none
noncomputable def xIn (a b:V):X V:=onStr (fun k=>onLoc (fun d=>atLoc d fun o=>z4N (oMem k o) fun r=>Pure.pure (.bool r)) b) a
noncomputable def k9W (a b:V):X V:=onStr (fun k=>onLoc (fun d=>atLoc d fun o=>z4N (oMem k o) fun r=>Pure.pure (.bool (!r))) b) a
theorem k5d.get {ρ:List Addr} {h:Heap} {es:List (List Nat × V)} {kvs:List (Str × Value)} (x:k5d ρ h es kvs) (k:List Nat) :
  match k0Q es k with
  | some V=>∃ v,valueAt kvs ⟨k.toArray⟩ = some v∧VR ρ h V v
  | none=>valueAt kvs ⟨k.toArray⟩ = none:=by
 induction x with
 | nil=>simp [k0Q,valueAt]
 | @cons k' V v es kvs hv _ ih =>
  unfold k0Q valueAt at ih ⊢
  rw [w0P,w0P]
  by_cases q:k' = k
  ·subst q
   simp only [decide_true]
   exact ⟨v,rfl,hv⟩
  ·have:¬ (⟨k'.toArray⟩:Str) = ⟨k.toArray⟩:=fun e=>q (by injection e with e; simpa using e)
   simp only [q,this,decide_false]
   exact ih
theorem k5d.isSome {ρ:List Addr} {h:Heap} {es:List (List Nat × V)} {kvs:List (Str × Value)} (x:k5d ρ h es kvs) (k:List Nat):(valueAt kvs ⟨k.toArray⟩).isSome = (k0Q es k).isSome:=by
 have:=x.get k
 cases q:k0Q es k with
 | none=>rw [q] at this; rw [this]; rfl
 | some V=>rw [q] at this; refine cX1 this fun v yA=>cA2 yA fun e _=>?_; clear this yA; rw [e]; rfl
theorem k7C {ρ:List Addr} {h:Heap}:∀ {vs:List V} {ws:List Value} {ss:List (List Nat)},VRs ρ h vs ws→strs? vs = some ss→PyProof.Rows.CarriedAll ws (ss.map fun s=>PyData.str ⟨s.toArray⟩)
 := by
 intro vs
 induction vs with
 | nil =>
  intro ws ss x e
  refine VRs.iNil x fun yA=>?_; clear x; subst yA
  cases e
  exact .nil
 | cons v r ih =>
  intro ws ss x e
  refine VRs.eCons x fun Y Y hv hr=>?_
  cases hv with
  | str s t =>
   refine cX1 (w0E.mp e) fun ss yA=>cA2 yA fun e1 yB=>?_; clear yA; subst yB
   exact .cons (.str _ _) (ih hr e1)
  | _=>exact (Option.noConfusion rfl (heq_of_eq e))
theorem z0D (k:List Nat):∀ ss:List (List Nat),(ss.map fun s=>PyData.str (⟨s.toArray⟩:Str)).any (PyProof.Rows.datHitsStr ⟨k.toArray⟩) = ss.contains k
 | []=>rfl
 | s :: r=>by
  rw [w0f,w1A,z0D k r,w1c]
  show ((⟨s.toArray⟩:Str) == ⟨k.toArray⟩ || _) = _
  rw [z2z]
  congr 1
  exact Bool.beq_comm
noncomputable def k7D:V→X Bool:=onBool fun b=>Pure.pure b
noncomputable def k2L (f:V→V→X V) (cl cr:Reg→X V) (reg:Reg):X Bool:=cl reg >>= fun a=>cr reg >>= fun b=>f a b >>= fun v=>k7D v
noncomputable def z2u (c d:Reg→X Bool) (reg:Reg):X Bool:=c reg >>= fun b=>if b then d reg else Pure.pure false
noncomputable def tOr (c d:Reg→X Bool) (reg:Reg):X Bool:=c reg >>= fun b=>if b then Pure.pure true else d reg
noncomputable def tT (_:Reg):X Bool:=Pure.pure true
noncomputable def tF (_:Reg):X Bool:=Pure.pure false
noncomputable def tVal (c:Reg→X V) (reg:Reg):X Bool:=c reg >>= fun v=>k7D v
noncomputable def cAnd2 (ca cb:Reg→X V) (reg:Reg):X V:=ca reg >>= fun v=>k7D v >>= fun t=>if t then cb reg else Pure.pure v
noncomputable def cIf (ct:Reg→X Bool) (cb co:Reg→X V) (reg:Reg):X V:=ct reg >>= fun x=>if x then cb reg else co reg
noncomputable def xIf (ct:Reg→X Bool) (cb co:Reg→X (Fl × Reg)) (reg:Reg):X (Fl × Reg):=ct reg >>= fun x=>if x then cb reg else co reg
noncomputable def k5A (c:Reg→X V) (reg:Reg):X (Fl × Reg):=⟨fun Q h=>wp (c reg) (rK (fun v=>(Fl.ret v,reg)) Q) h,fun q x=>(c reg).mono (k8m q) x⟩
noncomputable def xCont (reg:Reg):X (Fl × Reg):=Pure.pure (.cont,reg)
noncomputable def k4c (c:Reg→X V) (reg:Reg):X (Fl × Reg):=⟨fun Q h=>wp (c reg) (rK (fun Y=>(Fl.next,reg)) Q) h,fun q x=>(c reg).mono (k8m q) x⟩
section
variable {C:k1J} {F:Fm} {n:Nat}
theorem k2D {prog:Program} {w:World} (k:Str) (t:Tok):(strKind prog w).is k (.str k t) = true:=by simp [strKind,Value.isStrOf]
theorem z4b:k9T C F n (compareOp .In) xIn:=by
 intro A ρ reg H s a b va vb room inv ha hb
 refine k0e.onStr fun k e=>k0e.onLoc fun nd e'=>k0e.atLoc fun o hd=>k0e.opt fun r hr=>?_
 subst e e'
 refine VR.iStr ha fun _ yA=>?_; clear ha; subst yA
 refine VR.eLoc hb fun la hla=>?_
 have hor:=inv.hm.obj nd la o hla hd
 cases o with
 | dict es =>
  cases hr
  refine cX1 hor fun kvs yA=>cA2 yA fun hda hent=>?_; clear hor yA
  refine k0e.prim0 (wpAny_in_of (k2D _ _) (inv.hm.notSys la (w0z hla)) hda.dictOf.mapOf ?_)
  rw [hent.isSome k]
  exact ⟨ρ,⟨VR.bool _,inv.toks _⟩,k1m.refl _ _ _ _⟩
 | list vs =>
  refine cX1 hor fun items yA=>cA2 yA fun hl hv=>?_; clear hor yA
  refine cX1 (w0E.mp hr) fun ss yA=>cA2 yA fun hs yB=>?_; clear yA; subst yB
  refine k0e.prim0 (PyProof.Rows.in_made_str hl.isList (k7C hv hs) ?_)
  rw [z0D]
  exact ⟨ρ,⟨VR.bool _,inv⟩,k1m.refl _ _ _ _⟩
 | _=>cases hr
theorem k8d:k9T C F n (compareOp .NotIn) k9W:=by
 intro A ρ reg H s a b va vb room inv ha hb
 refine k0e.onStr fun k e=>k0e.onLoc fun nd e'=>k0e.atLoc fun o hd=>k0e.opt fun r hr=>?_
 subst e e'
 refine VR.iStr ha fun _ yA=>?_; clear ha; subst yA
 refine VR.eLoc hb fun la hla=>?_
 have hor:=inv.hm.obj nd la o hla hd
 cases o with
 | dict es =>
  cases hr
  refine cX1 hor fun kvs yA=>cA2 yA fun hda hent=>?_; clear hor yA
  refine k0e.prim0 (wpAny_notIn_of (k2D _ _) (inv.hm.notSys la (w0z hla)) hda.dictOf.mapOf ?_)
  rw [hent.isSome k]
  exact ⟨ρ,⟨VR.bool _,inv.toks _⟩,k1m.refl _ _ _ _⟩
 | list vs =>
  refine cX1 hor fun items yA=>cA2 yA fun hl hv=>?_; clear hor yA
  refine cX1 (w0E.mp hr) fun ss yA=>cA2 yA fun hs yB=>?_; clear yA; subst yB
  refine k0e.prim0 (PyProof.Rows.notin_made_str hl.isList (k7C hv hs) ?_)
  rw [z0D]
  exact ⟨ρ,⟨VR.bool _,inv⟩,k1m.refl _ _ _ _⟩
 | _=>cases hr
theorem k6p {l r:Expr} {op:CmpOp} {pos:Pos} {cl cr:Reg→X V} {f:V→V→X V} (hl:EOk C F n l cl) (hr:EOk C F n r cr) (ho:k9T C F n (compareOp op) f) (hm:behindInMarks op r = false:=by with_unfolding_all rfl) :
  EOk C F n (.Compare l [op] [r] pos) (k1g f cl cr):=by
 intro A ρ reg H s room inv
 have:eval (.Compare l [op] [r] pos) F.env = (eval l F.env >>= fun a=>holding [a] (eval r F.env) >>= fun b=>standAt pos >>= fun Y=>operate [a,b] (compareOp op a b)):=by
  rw [eval_Compare1,markedBehindIn_of_false hm]
 rw [this]
 refine k0e.bind (hl A ρ reg H s room inv) fun a va ρ₁ H₁ s₁ q st=>?_
 refine k0e.bind (k0e.holding (hr A ρ₁ reg H₁ s₁ room q.2)) fun b vb ρ₂ H₂ s₂ q₂ st₂=>?_
 exact k0e.standAt (k0e.operate (ho A ρ₂ reg H₂ s₂ a b va vb room q₂.2 (q.1.step st₂) q₂.1))
theorem k8x {A:Around} {ρ:List Addr} {reg:Reg} {H:Hp} {s:Shared} {a:V} {v:Value} (inv:k1O C F ρ reg H s) (h:VR ρ s.heap a v):k0e C F A ρ H s (truthy v) (k7D a) (QB C F reg) :=
 k0e.onBool fun i e=>by
  subst e
  refine VR.iBool h fun yA=>?_; clear h; subst yA
  exact k0e.prim0 (wpAny_truthy_bool ⟨ρ,⟨rfl,inv⟩,k1m.refl _ _ _ _⟩)
theorem k0U {l r:Expr} {op:CmpOp} {pos:Pos} {cl cr:Reg→X V} {f:V→V→X V} (hl:EOk C F n l cl) (hr:EOk C F n r cr) (ho:k9T C F n (compareOp op) f) (hm:behindInMarks op r = false:=by with_unfolding_all rfl) :
  TOk C F n (.Compare l [op] [r] pos) (k2L f cl cr):=by
 intro A ρ reg H s room inv
 have:isTrue (.Compare l [op] [r] pos) F.env (eval (.Compare l [op] [r] pos) F.env) = (eval l F.env >>= fun a=>holding [a] (eval r F.env) >>= fun b=>standAt pos >>= fun Y=>operate [a,b] (compareOp op a b) >>= fun c=>holding [c] (truthy c)):=by
  rw [isTrue_Compare1,markedBehindIn_of_false hm]
 rw [this]
 refine k0e.bind (hl A ρ reg H s room inv) fun a va ρ₁ H₁ s₁ q st=>?_
 refine k0e.bind (k0e.holding (hr A ρ₁ reg H₁ s₁ room q.2)) fun b vb ρ₂ H₂ s₂ q₂ st₂=>?_
 refine k0e.standAt (k0e.bind (k0e.operate (ho A ρ₂ reg H₂ s₂ a b va vb room q₂.2 (q.1.step st₂) q₂.1)) fun c vc ρ₃ H₃ s₃ q₃ st₃=>?_)
 exact k0e.holding (k8x q₃.2 q₃.1)
theorem z4X {e:Expr} {c:Reg→X V} (h:EOk C F n e c) (he:isTrue e F.env (eval e F.env) = (eval e F.env >>= fun v=>standAt e.pos >>= fun Y=>holding [v] (truthy v)):=by rfl):TOk C F n e (tVal c):=by
 intro A ρ reg H s room inv
 rw [he]
 refine k0e.bind (h A ρ reg H s room inv) fun a va ρ₁ H₁ s₁ q st=>?_
 exact k0e.standAt (k0e.holding (k8x q.2 q.1))
noncomputable def TsOk (C:k1J) (F:Fm) (n:Nat) (op:BoolOp) (es:List Expr) (c:Reg→X Bool):Prop :=
 ∀ A ρ reg H s,k7Y n A F→k1O C F ρ reg H s→k0e C F A ρ H s (allTrue op es F.env) (c reg) (QB C F reg)
theorem k4K:TsOk C F n .And [] tT:=fun Y Y Y Y Y Y inv=>k0e.pure ⟨rfl,inv⟩
theorem k4C:TsOk C F n .Or [] tF:=fun Y Y Y Y Y Y inv=>k0e.pure ⟨rfl,inv⟩
theorem k4q {e:Expr} {es:List Expr} {c d:Reg→X Bool} (h:TOk C F n e c) (hr:TsOk C F n .And es d):TsOk C F n .And (e :: es) (z2u c d):=by
 intro A ρ reg H s room inv
 show k0e C F A ρ H s (isTrue e F.env (eval e F.env) >>= fun b=>match BoolOp.And,b with | .And,false=>pure false | .Or,true=>pure true | _,_=>allTrue .And es F.env) _ _
 refine k0e.bind (h A ρ reg H s room inv) fun b b' ρ₁ H₁ s₁ q st=>?_
 refine cA2 q fun yA=>?_; clear q; subst yA; intro inv'
 cases b with
 | true=>exact hr A ρ₁ reg H₁ s₁ room inv'
 | false=>exact k0e.pure ⟨rfl,inv'⟩
theorem k4V {e:Expr} {es:List Expr} {c d:Reg→X Bool} (h:TOk C F n e c) (hr:TsOk C F n .Or es d):TsOk C F n .Or (e :: es) (tOr c d):=by
 intro A ρ reg H s room inv
 show k0e C F A ρ H s (isTrue e F.env (eval e F.env) >>= fun b=>match BoolOp.Or,b with | .And,false=>pure false | .Or,true=>pure true | _,_=>allTrue .Or es F.env) _ _
 refine k0e.bind (h A ρ reg H s room inv) fun b b' ρ₁ H₁ s₁ q st=>?_
 refine cA2 q fun yA=>?_; clear q; subst yA; intro inv'
 cases b with
 | true=>exact k0e.pure ⟨rfl,inv'⟩
 | false=>exact hr A ρ₁ reg H₁ s₁ room inv'
theorem k4r {op:BoolOp} {es:List Expr} {pos:Pos} {c:Reg→X Bool} (h:TsOk C F n op es c):TOk C F n (.BoolOp op es pos) c:=fun A ρ reg H s room inv=>h A ρ reg H s room inv
theorem k3x {t b o:Expr} {pos:Pos} {ct:Reg→X Bool} {cb co:Reg→X V} (ht:TOk C F n t ct) (hb:EOk C F n b cb) (ho:EOk C F n o co):EOk C F n (.IfExp t b o pos) (cIf ct cb co):=by
 intro A ρ reg H s room inv
 show k0e C F A ρ H s (isTrue t F.env (eval t F.env) >>= fun x=>if x = true then eval b F.env else eval o F.env) _ _
 refine k0e.bind (ht A ρ reg H s room inv) fun x x' ρ₁ H₁ s₁ q st=>?_
 refine cA2 q fun yA=>?_; clear q; subst yA; intro inv'
 cases x with
 | true=>exact hb A ρ₁ reg H₁ s₁ room inv'
 | false=>exact ho A ρ₁ reg H₁ s₁ room inv'
theorem eok_and2 {a b:Expr} {pos:Pos} {ca cb:Reg→X V} (ha:EOk C F n a ca) (hb:EOk C F n b cb):EOk C F n (.BoolOp .And [a,b] pos) (cAnd2 ca cb):=by
 intro A ρ reg H s room inv
 show k0e C F A ρ H s (eval a F.env >>= fun v=>standAt pos >>= fun Y=>holding [v] (truthy v) >>= fun t=>match BoolOp.And,t with | .And,false | .Or,true=>pure v | _,_=>eval b F.env) _ _
 refine k0e.bind (ha A ρ reg H s room inv) fun x x' ρ₁ H₁ s₁ q st=>?_
 refine k0e.standAt (k0e.bind (k0e.holding (k8x q.2 q.1)) fun t t' ρ₂ H₂ s₂ q₂ st₂=>?_)
 refine cA2 q₂ fun yA=>?_; clear q₂; subst yA; intro inv'
 cases t with
 | true=>exact hb A ρ₂ reg H₂ s₂ room inv'
 | false=>exact k0e.pure ⟨q.1.step st₂,inv'⟩
theorem k2f {t:Expr} {b o:List Stmt} {pos:Pos} {ct:Reg→X Bool} {cb co:Reg→X (Fl × Reg)} (ht:TOk C F n t ct) (hb:z4O C F n b cb) (ho:z4O C F n o co):SOk C F n (.If t b o pos) (xIf ct cb co):=by
 intro A ρ reg H s room inv
 show k0e C F A ρ H s (standAt pos >>= fun Y=>isTrue t F.env (eval t F.env) >>= fun x=>if x = true then execs b F.env else execs o F.env) _ _
 refine k0e.standAt (k0e.bind (ht A ρ reg H s room inv) fun x x' ρ₁ H₁ s₁ q st=>?_)
 refine cA2 q fun yA=>?_; clear q; subst yA; intro inv'
 cases x with
 | true=>exact hb A ρ₁ reg H₁ s₁ room inv'
 | false=>exact ho A ρ₁ reg H₁ s₁ room inv'
theorem k0Y {e:Expr} {pos:Pos} {c:Reg→X V} (h:EOk C F n e c):SOk C F n (.Return (some e) pos) (k5A c):=by
 intro A ρ reg H s room inv
 show k0e C F A ρ H s (standAt pos >>= fun Y=>eval e F.env >>= fun v=>pure (Flow.ret v)) _ _
 refine k0e.standAt (k0e.map (h A ρ reg H s room inv) (fun Y p=>p) fun x x' ρ₁ H₁ s₁ q st=>k0e.pure ⟨.ret q.1,q.2⟩)
theorem z1w {pos:Pos}:SOk C F n (.Continue pos) xCont:=by
 intro A ρ reg H s room inv
 exact k0e.standAt (k0e.pure ⟨.cont,inv⟩)
theorem k2s {e:Expr} {pos:Pos} {c:Reg→X V} (h:EOk C F n e c) (hi:interactive F.env = false:=by rfl) (hsw:swapsWith e none pos.line F.env = pure false:=by rfl):SOk C F n (.Expr e pos) (k4c c):=by
 intro A ρ reg H s room inv
 have:exec (.Expr e pos) F.env = (standAt pos >>= fun Y=>(eval e F.env >>= fun v=>dropValue e pos v)):=by
  show (standAt pos >>= fun Y=>if interactive F.env = true then _ else (swapsWith e none pos.line F.env >>= fun b=>if b = true then _ else (eval e F.env >>= fun v=>dropValue e pos v))) = _
  rw [hi,hsw]; rfl
 rw [this]
 refine k0e.standAt (k0e.map (h A ρ reg H s room inv) (fun Y p=>p) fun x x' ρ₁ H₁ s₁ q st=>k0e.prim0 (wpAny_dropValue ⟨ρ₁,⟨.next,q.2⟩,k1m.refl _ _ _ _⟩))
end
section
variable {C:k1J} {F:Fm} {n:Nat}
theorem z3t {ρ:List Addr} {reg:Reg} {H:Hp} {s:Shared} (inv:k1O C F ρ reg H s) {a:Addr} (ha:a∈F.mods) {h':Heap} {t:Nat} (hb:C.base.get? a = none) (sb:Heap.SameBut a s.heap h')
  (hn:∃ o',h'.get? a = some o'∧OwnO o'∧∀ e,e∈F.stack→e.frame = some a→∃ es n,o'.data = .dict es n) :
  CInv C F.stack ρ H { s with heap:=h',toks:=t }∧k1m F.fs F.mods ρ ρ s.heap h'∧(∀ b,b∈F.mods→b∉ρ∧∃ o,h'.get? b = some o∧OwnO o)∧(∀ c o,s.heap.get? c = some o→k4z o→h'.get? c = some o):=by
 refine cX1 hn fun o' yA=>cA3 yA fun ho' nt' hd'=>?_; clear hn yA
 refine cA2 (inv.off a ha) fun nρ yA=>cX1 yA fun o yB=>cA2 yB fun ho nt=>?_; clear yA yB
 have other:∀ b ob,b≠a→s.heap.get? b = some ob→h'.get? b = some ob:=fun b ob q e=>by rw [sb.2 b q]; exact e
 have tup:∀ c oc,s.heap.get? c = some oc→k4z oc→h'.get? c = some oc:=fun c oc e hc=>other c oc (fun q=>by rw [q,ho] at e; refine k1f e fun yA=>?_; clear e; subst yA; exact nt.notTup hc) e
 refine ⟨⟨by rw [inv.sh],fun b ob e=>other b ob (fun q=>by rw [q,hb] at e; exact kNS e) (inv.base b ob e),⟨inv.hm.len,inv.hm.nodup,fun i b ob e1 e2=>?_,inv.hm.fresh,inv.hm.notSys⟩,fun e he=>?_⟩,
  ⟨w0m _,fun Y z=>.inl z,fun b ob e=>?_,tup,fun b ob e Y n2 Y=>other b ob (fun q=>n2 (q ▸ ha)) e,fun b ob e Y n2=>⟨ob.slots,other b ob (fun q=>n2 (q ▸ ha)) e⟩⟩,fun b hbm=>?_,tup⟩
 ·exact (inv.hm.obj i b ob e1 e2).mono (w0m _) tup fun ob' e=>other b ob' (fun q=>nρ (q ▸ w0z e1)) e
 ·refine cA2 (inv.frs e he) fun k1 yA=>cX4 yA fun L oL es m yB=>cA5 yB fun h1 h2 h3 h4 h5=>?_; clear yA yB
  by_cases q:L = a
  ·subst q
   refine cX2 (hd' e he h1) fun es' m' d'=>?_
   exact ⟨k1,L,o',es',m',h1,h2,h3,ho',d'⟩
  ·exact ⟨k1,L,oL,es,m,h1,h2,h3,other L oL q h4,h5⟩
 ·by_cases q:b = a
  ·subst q; exact ⟨o',ho'⟩
  ·exact ⟨ob,other b ob q e⟩
 ·refine cA2 (inv.off b hbm) fun n1 yA=>cX1 yA fun ob yB=>cA2 yB fun e nt1=>?_; clear yA yB
  refine ⟨n1,?_⟩
  by_cases q:b = a
  ·subst q; exact ⟨o',ho',nt'⟩
  ·exact ⟨ob,other b ob q e,nt1⟩
noncomputable def AOk (C:k1J) (F:Fm) (n:Nat) (t:Expr) (c:V→Reg→X Reg):Prop :=
 ∀ A ρ reg H s V v,k7Y n A F→k1O C F ρ reg H s→VR ρ s.heap V v→k0e C F A ρ H s (assign t F.env v) (c V reg) (fun reg' Y ρ' H' s'=>k1O C F ρ' reg' H' s')
noncomputable def k0l (i:Nat) (V:V) (reg:Reg):X Reg:=Pure.pure (reg.set i (some V))
theorem k6F (ok:F.Ok C) {A:Around} {ρ:List Addr} {reg:Reg} {H:Hp} {s:Shared} {x:Str} {i:Nat} (hi:F.names[i]? = some x) (hk:F.env.kindOf x = some .local∨(F.env.kindOf x = some .cell∧(F.env.cells.lookup x).isSome = true)) {V:Mine.V} {v:Value} (inv:k1O C F ρ reg H s) (hv:VR ρ s.heap V v)
  {Q:Unit→Shared→Prop} {E:Value→Shared→Prop}
  (hQ:∀ s',k1O C F ρ (reg.set i (some V)) H s'→k1m F.fs F.mods ρ ρ s.heap s'.heap→Q () s'):wpAny (model C.prog C.w) A (storeName F.env x v) Q E s:=by
 have ne:∀ j y,j≠i→F.names[j]? = some y→y≠x:=fun j y q e z=>q (by
  subst z
  exact (w1r (w0v.mp e).1 ok.nodup).mp (e.trans hi.symm))
 have regj:∀ j (W:Mine.V),j≠i→(reg.set i (some V))[j]? = some (some W)→reg[j]? = some (some W):=fun j W q e=>by rw [w1h (Ne.symm q)] at e; exact e
 refine Or.elim hk (fun hl=>?_) fun yZ=>?_ <;> clear hk; rotate_left; (refine cA2 yZ fun hcl hcs=>?_; clear yZ); rotate_right
 ·refine cX1 inv.ns fun m hns=>?_
  refine wpAny_storeName_local hl hns (fun h' hn' hs'=>hQ _ ?_ ?_) (by rw [ok.kind]; rfl)
  all_goals
   have hex:∃ o',h'.get? F.env.locals = some o'∧OwnO o'∧∀ e,e∈F.stack→e.frame = some F.env.locals→∃ es n,o'.data = .dict es n:=by
    refine cX3 hn' fun o es ep yA=>cA3 yA fun h1 h2 _=>?_; clear hn' yA
    exact ⟨o,h1,.inl ⟨es,ep,h2⟩,fun Y Y Y=>⟨es,ep,h2⟩⟩
   refine cA4 (z3t (t:=s.toks + 1) inv ok.lmod (ok.base _ ok.lmod) hs' hex) fun y1 y2 y3 y4=>?_
  ·refine { toCInv:=y1,ns:=⟨_,hn'⟩,off:=y3,rm:=fun j y W e1 e2=>?_,cl:=fun y c e1 e2=>let ⟨m,v,z⟩:=inv.cl y c e1 e2; ⟨m,v,z.sameBut hs' (ok.cmod y c e1 e2)⟩ }
   by_cases q:j = i
   ·subst q
    rw [hi] at e1; refine k1f e1 fun yA=>?_; clear e1; subst yA
    have hj:j < reg.length:=by have:=(w0v.mp e2).1; simpa using this
    rw [w1q hj] at e2; refine k1f e2 fun yA=>?_; clear e2; refine k1f yA fun yB=>?_; clear yA; subst yB
    exact ⟨v,.inl ⟨hl,_,hn',if_pos rfl⟩,hv.mono (w0m _) y4⟩
   ·refine cX1 (inv.rm j y W e1 (regj j W q e2)) fun w yA=>cA2 yA fun va vr=>?_; clear yA
    refine ⟨w,?_,vr.mono (w0m _) y4⟩
    have hyx:=ne j y q e1
    refine Or.elim va (fun yY=>?_) fun yZ=>?_ <;> clear va; rotate_left; (refine cA2 yZ fun k1 yA=>cX2 yA fun c oc yB=>cA3 yB fun l1 g1 d1=>?_; clear yZ yA yB); rotate_right; (refine cA2 yY fun k1 yA=>cX1 yA fun m1 yB=>cA2 yB fun n1 q1=>?_; clear yY yA yB)
    ·left
     refine ⟨k1,_,hn',?_⟩
     show (if y = x then some v else m y) = some w
     rw [if_neg hyx]
     refine cX3 hns fun o es ep yA=>cA4 yA fun h1 h2 h3 h4=>?_; clear hns yA
     refine cX3 n1 fun o' es' ep' yA=>cA4 yA fun h1' h2' h3' h4'=>?_; clear n1 yA
     rw [h1] at h1'; refine k1f h1' fun yA=>?_; clear h1'; subst yA
     rw [h2] at h2'; cases h2'
     rw [← h4 y,h4' y]; exact q1
    ·right
     refine ⟨k1,c,oc,l1,?_,d1⟩
     rw [hs'.2 c (ok.cmod y c k1 l1)]; exact g1
  ·exact y2
 ·refine cX1 (w0K.mp hcs) fun c hcl2=>?_
  refine cA2 (inv.cl x c hcl hcl2) fun hcm yA=>cX1 yA fun v0 hcell=>?_; clear yA
  refine wpAny_storeName_cell ok.kind hcl hcl2 hcell fun h' hc' hs'=>hQ _ ?_ ?_
  all_goals
   have hex:∃ o',h'.get? c = some o'∧OwnO o'∧∀ e,e∈F.stack→e.frame = some c→∃ es n,o'.data = .dict es n:=by
    refine cX1 hc' fun o yA=>cA2 yA fun h1 h2=>?_; clear hc' yA
    refine ⟨o,h1,(.inr ⟨_,h2⟩),fun e he hf=>?_⟩
    exfalso
    refine cA2 (inv.frs e he) fun k1 yA=>cX4 yA fun L oL es m yB=>cA5 yB fun f1 f2 f3 f4 f5=>?_; clear yA yB
    rw [f1] at hf; refine k1f hf fun yA=>?_; clear hf; subst yA
    refine cX1 hcell fun oc yA=>cA2 yA fun g1 g2=>?_; clear hcell yA
    rw [g1] at f4; refine k1f f4 fun yA=>?_; clear f4; subst yA
    rw [g2] at f5; cases f5
   refine cA4 (z3t (t:=s.toks) inv hcm (ok.base _ hcm) hs' hex) fun y1 y2 y3 y4=>?_
  ·refine { toCInv:=y1,ns:=?_,off:=y3,rm:=fun j y W e1 e2=>?_,cl:=fun y c' e1 e2=>?_ }
   ·refine cX1 inv.ns fun m hns=>?_
    exact ⟨m,hns.sameBut hs' (Ne.symm (ok.cmod x c hcl hcl2))⟩
   ·by_cases q:j = i
    ·subst q
     rw [hi] at e1; refine k1f e1 fun yA=>?_; clear e1; subst yA
     have hj:j < reg.length:=by have:=(w0v.mp e2).1; simpa using this
     rw [w1q hj] at e2; refine k1f e2 fun yA=>?_; clear e2; refine k1f yA fun yB=>?_; clear yA; subst yB
     refine cX1 hc' fun o yA=>cA2 yA fun g1 g2=>?_; clear hc' yA
     exact ⟨v,.inr ⟨hcl,c,o,hcl2,g1,g2⟩,hv.mono (w0m _) y4⟩
    ·refine cX1 (inv.rm j y W e1 (regj j W q e2)) fun w yA=>cA2 yA fun va vr=>?_; clear yA
     refine ⟨w,?_,vr.mono (w0m _) y4⟩
     have hyx:=ne j y q e1
     refine Or.elim va (fun yY=>?_) fun yZ=>?_ <;> clear va; rotate_left; (refine cA2 yZ fun k1 yA=>cX2 yA fun c' oc yB=>cA3 yB fun l1 g1 d1=>?_; clear yZ yA yB); rotate_right; (refine cA2 yY fun k1 yA=>cX1 yA fun m1 yB=>cA2 yB fun n1 q1=>?_; clear yY yA yB)
     ·exact .inl ⟨k1,m1,n1.sameBut hs' (Ne.symm (ok.cmod x c hcl hcl2)),q1⟩
     ·right
      refine ⟨k1,c',oc,l1,?_,d1⟩
      rw [hs'.2 c' (fun z=>hyx (by subst z; exact ok.cinj y x c' k1 hcl l1 hcl2))]; exact g1
   ·refine cA2 (inv.cl y c' e1 e2) fun m yA=>cX1 yA fun v' z=>?_; clear yA
    refine ⟨m,?_⟩
    by_cases q:c' = c
    ·subst q; exact ⟨_,hc'⟩
    ·exact ⟨v',z.sameBut hs' q⟩
  ·exact y2
end
section
variable {C:k1J} {F:Fm} {n:Nat}
theorem k0h (ok:F.Ok C) {x:Str} {pos:Pos} (i:Nat) (hi:F.names[i]? = some x) (hk:F.env.kindOf x = some .local:=by rfl):AOk C F n (.Name x pos) (k0l i):=by
 intro A ρ reg H s V v room inv hv
 show k0e C F A ρ H s (standAt pos >>= fun Y=>bindName F.env x v) _ _
 refine k0e.standAt (k0e.prim0 (wpAny_bindName ?_))
 exact k6F ok hi (.inl hk) inv hv fun s' i' st=>⟨ρ,i',st⟩
theorem k5O (ok:F.Ok C) {x:Str} {pos:Pos} (i:Nat) (hi:F.names[i]? = some x) (hk:F.env.kindOf x = some .cell:=by rfl) (hc:(F.env.cells.lookup x).isSome = true:=by rfl):AOk C F n (.Name x pos) (k0l i):=by
 intro A ρ reg H s V v room inv hv
 show k0e C F A ρ H s (standAt pos >>= fun Y=>bindName F.env x v) _ _
 refine k0e.standAt (k0e.prim0 (wpAny_bindName ?_))
 exact k6F ok hi (.inr ⟨hk,hc⟩) inv hv fun s' i' st=>⟨ρ,i',st⟩
noncomputable def AsgOk (C:k1J) (F:Fm) (n:Nat) (es:List Expr) (ts:List V→Reg→X Reg):Prop :=
 ∀ A ρ reg H s Vs vs,k7Y n A F→k1O C F ρ reg H s→VRs ρ s.heap Vs vs→k0e C F A ρ H s (assignInOrder ((assignEach es F.env).map (·.2)) vs) (ts Vs reg) (fun reg' Y ρ' H' s'=>k1O C F ρ' reg' H' s')
noncomputable def k1n:List V→Reg→X Reg
 | [],reg=>Pure.pure reg
 | _ :: _,_=>X.stuck
noncomputable def k0q (c:V→Reg→X Reg) (ts:List V→Reg→X Reg):List V→Reg→X Reg
 | [],_=>X.stuck
 | v :: r,reg=>c v reg >>= fun reg'=>ts r reg'
theorem k1y:AsgOk C F n [] k1n:=by
 intro A ρ reg H s Vs vs room inv hv
 cases hv with
 | nil=>exact k0e.pure inv
 | cons=>exact k0e.stuck
theorem k0v {e:Expr} {es:List Expr} {c:V→Reg→X Reg} {ts:List V→Reg→X Reg} (h:AOk C F n e c) (hr:AsgOk C F n es ts) (he:assignEach (e :: es) F.env = (false,assign e F.env) :: assignEach es F.env:=by rfl) :
  AsgOk C F n (e :: es) (k0q c ts):=by
 intro A ρ reg H s Vs vs room inv hv
 cases hv with
 | nil=>exact k0e.stuck
 | @cons V v Vs vs h1 h2 =>
  rw [he]
  show k0e C F A ρ H s (holding vs (assign e F.env v) >>= fun Y=>assignInOrder ((assignEach es F.env).map (·.2)) vs) (c V reg >>= fun reg'=>ts Vs reg') _
  exact k0e.bind (k0e.holding (h A ρ reg H s V v room inv h1)) fun reg' Y ρ' H' s' inv' st=>hr A ρ' reg' H' s' Vs vs room inv' (h2.step st)
noncomputable def k1o (k:Nat) (ts:List V→Reg→X Reg) (v:V) (reg:Reg):X Reg:=onTup (fun vs=>when (vs.length = k) (ts vs reg)) v
theorem k0Z {es:List Expr} {k:Nat} {pos:Pos} {ts:List V→Reg→X Reg} (h:AsgOk C F n es ts) (hl:(assignEach es F.env).length = es.length:=by rfl) (hs:(assignEach es F.env).findIdx? (·.1) = none:=by rfl) :
  AOk C F n (.Tuple es k pos) (k1o es.length ts):=by
 intro A ρ reg H s V v room inv hv
 refine k0e.onTup fun vs e=>k0e.when fun hlen=>?_
 subst e
 refine VR.eTup hv fun a items ht hvs=>?_
 intro P e
 refine wpAny_assign_Tuple room.handled ht (by rw [hl,w0O,← hvs.length,hlen]) hs fun h' ext=>?_
 have k:∀ a o,s.heap.get? a = some o→h'.get? a = some o:=fun a o e=>ext a o (w0U (Heap.lt_size e)) e
 exact (h A ρ reg H { s with heap:=h' } vs items room (inv.heap k) (hvs.mono (w0m _) fun a o e Y=>k a o e)).finish e (k1m.grow k)
noncomputable def k0p (c:Reg→X V) (t:V→Reg→X Reg) (reg:Reg):X (Fl × Reg):=c reg >>= fun v=>t v reg >>= fun reg'=>Pure.pure (.next,reg')
theorem k7E {t value:Expr} {pos:Pos} {env:Env} (hs:swapsWithSole [t] value pos.line env = pure false) (hw:swappedStores [t] value env = pure none) (ht:assignEach [t] env = [(false,assign t env)]) :
  exec (.Assign [t] value pos) env = (standAt pos >>= fun Y=>eval value env >>= fun v=>assign t env v >>= fun Y=>pure .next):=by
 show (standAt pos >>= fun Y=>swapsWithSole [t] value pos.line env >>= fun b=>if b = true then _ else (eval value env >>= fun v=>swappedStores [t] value env >>= fun sw=>assignStores env v sw ((assignEach [t] env).map (·.2)))) = _
 rw [hs,hw,ht]
 rfl
theorem k0j {t value:Expr} {pos:Pos} {c:Reg→X V} {ct:V→Reg→X Reg} (h:EOk C F n value c) (h2:AOk C F n t ct) (hs:swapsWithSole [t] value pos.line F.env = pure false:=by rfl) (hw:swappedStores [t] value F.env = pure none:=by rfl)
  (ht:assignEach [t] F.env = [(false,assign t F.env)]:=by rfl):SOk C F n (.Assign [t] value pos) (k0p c ct):=by
 intro A ρ reg H s room inv
 rw [k7E hs hw ht]
 refine k0e.standAt (k0e.bind (h A ρ reg H s room inv) fun v va ρ₁ H₁ s₁ q st=>?_)
 exact k0e.bind (h2 A ρ₁ reg H₁ s₁ v va room q.2 q.1) fun reg' Y ρ₂ H₂ s₂ q₂ Y=>k0e.pure ⟨.next,q₂⟩
noncomputable def z2A (c:Reg→X V) (i j:Nat) (reg:Reg):X (Fl × Reg):=c reg >>= onTup (args2 fun a b=>Pure.pure (.next,(reg.set j (some b)).set i (some a)))
theorem z4Y {t value:Expr} {pos:Pos} {env:Env} {names:List Str} (hs:swapsWithSole [t] value pos.line env = pure false) (hw:swappedStores [t] value env = pure (some names)) :
  exec (.Assign [t] value pos) env = (standAt pos >>= fun Y=>eval value env >>= fun v=>rule "assign.swapped-stores" >>= fun Y=>unpackItems v names.length none >>= fun items=>assignInOrder (names.reverse.map fun n=>bindName env n) items.reverse >>= fun Y=>pure .next):=by
 show (standAt pos >>= fun Y=>swapsWithSole [t] value pos.line env >>= fun b=>if b = true then _ else (eval value env >>= fun v=>swappedStores [t] value env >>= fun sw=>assignStores env v sw ((assignEach [t] env).map (·.2)))) = _
 rw [hs,hw]
 rfl
theorem k8e (ok:F.Ok C) {t value:Expr} {pos:Pos} {c:Reg→X V} {x y:Str} (i j:Nat) (h:EOk C F n value c) (hi:F.names[i]? = some x) (hj:F.names[j]? = some y)
  (hw:swappedStores [t] value F.env = pure (some [x,y]):=by rfl) (hs:swapsWithSole [t] value pos.line F.env = pure false:=by rfl) (hx:F.env.kindOf x = some .local:=by rfl) (hy:F.env.kindOf y = some .local:=by rfl) :
  SOk C F n (.Assign [t] value pos) (z2A c i j):=by
 intro A ρ reg H s room inv
 rw [z4Y hs hw]
 refine k0e.standAt (k0e.bind (h A ρ reg H s room inv) fun v va ρ₁ H₁ s₁ q st=>?_)
 refine cA2 q fun q1 q2=>?_; clear q
 ·refine k0e.onTup fun l e=>k0e.args2 fun a b e'=>?_
  subst e e'
  refine VR.eTup q1 fun la items ht hvs=>?_
  refine VRs.iCons hvs fun va Y z0q h1 h2=>?_
  subst z0q
  refine VRs.iCons h2 fun vb Y z0q h3 h4=>?_
  subst z0q
  refine VRs.iNil h4 fun yA=>?_; clear h4; subst yA
  refine k0e.prim0 ?_
  refine wpAny_bind (wpAny_rule ?_)
  refine wpAny_bind (wpAny_unpackItems_tuple (items:=[va,vb].toArray) room.handled ht fun h' ext=>?_)
  refine wpAny_bind ?_
  show wpAny _ _ (holding [va] (bindName F.env y vb) >>= fun Y=>holding [] (bindName F.env x va) >>= fun Y=>pure ()) _ _ _
  have k:∀ a o,s₁.heap.get? a = some o→h'.get? a = some o:=fun a o e=>ext a o (w0U (Heap.lt_size e)) e
  have inv1:=q2.heap k
  have hb:=h3.mono (w0m ρ₁) (h':=h') fun a o e Y=>k a o e
  have ha:=h1.mono (w0m ρ₁) (h':=h') fun a o e Y=>k a o e
  refine wpAny_bind (wpAny_holding (wpAny_bindName (k6F ok hj (.inl hy) inv1 hb fun s2 i2 st2=>?_)))
  refine wpAny_bind (wpAny_holding (wpAny_bindName (k6F ok hi (.inl hx) i2 (ha.step st2) fun s3 i3 st3=>?_)))
  exact wpAny_pure (wpAny_pure ⟨ρ₁,⟨.next,i3⟩,((k1m.grow k).trans st2).trans st3⟩)
noncomputable def xAug (i:Nat) (c:Reg→X V) (f:V→V→X V) (reg:Reg):X (Fl × Reg):=k0d i reg >>= fun a=>c reg >>= fun b=>f a b >>= fun v=>Pure.pure (Fl.next,reg.set i (some v))
theorem z0E (ok:F.Ok C) {x:Str} {p pos:Pos} {op:Operator} {value:Expr} {c:Reg→X V} {f:V→V→X V} (i:Nat) (hi:F.names[i]? = some x) (h:EOk C F n value c) (ho:k9T C F n (inplaceOp op) f) (hk:F.env.kindOf x = some .local:=by rfl) :
  SOk C F n (.AugAssign (.Name x p) op value pos) (xAug i c f):=by
 intro A ρ reg H s room inv
 show k0e C F A ρ H s (standAt p >>= fun Y=>loadName F.env x >>= fun old=>holding [old] (eval value F.env) >>= fun v=>standAt pos >>= fun Y=>operate [old,v] (inplaceOp op old v) >>= fun new=>standAt p >>= fun Y=>bindName F.env x new >>= fun Y=>pure Flow.next) _ _
 refine k0e.standAt ?_
 have hload:k0e C F A ρ H s (loadName F.env x) (k0d i reg) (QV C F reg):=by
  refine fun P p=>k5Z p fun v hv p=>?_
  refine cX1 (inv.rm i x v hi (by cases h:reg[i]? with
   | none=>rw [h] at hv; cases hv
   | some o=>rw [h] at hv; exact congrArg some hv)) fun w yA=>cA2 yA fun va vr=>?_; clear yA
  refine Or.elim va (fun yY=>?_) fun yZ=>?_ <;> clear va; rotate_left; (refine cA2 yZ fun e yA=>cX2 yA fun c o yB=>cA3 yB fun l g d=>?_; clear yZ yA yB); rotate_right; (refine cA2 yY fun e yA=>cX1 yA fun m yB=>cA2 yB fun hn q=>?_; clear yY yA yB)
  ·exact wpAny_loadName_local ok.kind e hn q ⟨v,ρ,H,p,⟨vr,inv⟩,k1m.refl _ _ _ _⟩
  ·exact wpAny_loadName_cell ok.kind e l ⟨o,g,d⟩ ⟨v,ρ,H,p,⟨vr,inv⟩,k1m.refl _ _ _ _⟩
 refine k0e.bind hload fun a va ρ₁ H₁ s₁ q st=>?_
 refine k0e.bind (k0e.holding (h A ρ₁ reg H₁ s₁ room q.2)) fun b vb ρ₂ H₂ s₂ q₂ st₂=>?_
 refine k0e.standAt (k0e.bind (k0e.operate (ho A ρ₂ reg H₂ s₂ a b va vb room q₂.2 (q.1.step st₂) q₂.1)) fun v vv ρ₃ H₃ s₃ q₃ st₃=>?_)
 refine k0e.standAt (k0e.prim0 (wpAny_bind (wpAny_bindName ?_)))
 exact k6F ok hi (.inl hk) q₃.2 q₃.1 fun s' i' st'=>wpAny_pure ⟨ρ₃,⟨.next,i'⟩,st'⟩
noncomputable def z4Z (a b:V):X V:=inI2 (fun x y=>Pure.pure (.int (x + y))) a b
theorem z5a:k9T C F n (inplaceOp .Add) z4Z:=fun Y ρ Y Y Y Y Y Y Y Y inv ha hb=>k0e.inI2 ha hb fun Y Y Y Y=>k0e.prim0 (PyProof.Rows.iadd_int ⟨ρ,⟨.int _ _,inv.toks _⟩,k1m.refl _ _ _ _⟩)
theorem z5b:k9T C F n (inplaceOp .Mult) xMul:=fun Y ρ Y Y Y Y Y Y Y Y inv ha hb=>k0e.inI2 ha hb fun Y Y Y Y=>k0e.when fun hs =>
 k0e.prim0 (PyProof.Rows.imul_int ⟨ρ,⟨.int _ _,inv.toks _⟩,k1m.refl _ _ _ _⟩ (IntMulOk.of_right (intBits_le_64 (by lia) (by lia))))
end
noncomputable def k5u:List V→Option (List (List Nat ⊕ Bool))
 | []=>some []
 | .str s :: r=>(k5u r).map (.inl s :: ·)
 | .bool b :: r=>(k5u r).map (.inr b :: ·)
 | _ :: _=>none
noncomputable def z0F (o:O) (i:V):Option V:=match o with
 | .list vs=>oInt (fun k=>if 0≤k∧k < 4096 then vs[k.toNat]? else none) i
 | .dict es=>oStr (fun s=>k0Q es s) i
 | .tdict es=>oTup (fun ks=>(k5u ks).bind fun k=>k0Q es k) i
 | _=>none
noncomputable def k0V (a i:V):X V:=match a with
 | .loc l=>atLoc l fun o=>xOpt (z0F o i)
 | .tup vs=>onInt (fun k=>when (0≤k∧k < 4096) (xOpt vs[k.toNat]?)) i
 | .str s=>onInt (fun k=>when (0≤k∧k < 4096) (z4N s[k.toNat]? fun c=>Pure.pure (.str [c]))) i
 | _=>X.stuck
theorem k6o.get {ρ:List Addr} {h:Heap} {es:List (List (List Nat ⊕ Bool) × V)} {kvs:List (List (Str ⊕ Bool) × Addr × Value)} (x:k6o ρ h es kvs) (k:List (List Nat ⊕ Bool)) :
  match k0Q es k with
  | some V=>∃ a v,atKey kvs (k.map toK) = some (a,v)∧VR ρ h V v
  | none=>atKey kvs (k.map toK) = none:=by
 have inj:∀ a b:List (List Nat ⊕ Bool),a.map toK = b.map toK→a = b:=fun a b e=>by
  have hj:Function.Injective toK:=by
   intro x y e
   cases x <;> cases y <;> simp [toK] at e <;> simp [e]
  exact (w1S (fun x y=>@hj x y)).mp e
 induction x with
 | nil=>simp [k0Q,atKey]
 | @cons k' V a v es kvs hv _ ih =>
  unfold k0Q atKey at ih ⊢
  rw [w0P,w0P]
  by_cases q:k' = k
  ·subst q
   simp only [decide_true]
   exact ⟨a,v,rfl,hv⟩
  ·have:¬ k'.map toK = k.map toK:=fun e=>q (inj _ _ e)
   simp only [q,this,decide_false]
   exact ih
section
variable {C:k1J} {F:Fm} {n:Nat}
theorem z4c {ρ:List Addr} {h:Heap}:∀ {ks:List V} {vs:List Value} {k:List (List Nat ⊕ Bool)},VRs ρ h ks vs→k5u ks = some k→ItemsAre C.sb.knd (k.map toK) vs
 := by
 intro ks
 induction ks with
 | nil =>
  intro vs k x e
  refine VRs.iNil x fun yA=>?_; clear x; subst yA
  cases e
  exact .nil
 | cons v r ih =>
  intro vs k x e
  refine VRs.eCons x fun Y Y hv hr=>?_
  cases hv with
  | str s t =>
   refine cX1 (w0E.mp e) fun k' yA=>cA2 yA fun e1 yB=>?_; clear yA; subst yB
   exact .cons (by rw [toK,C.sb.isS]; exact decide_eq_true rfl) (ih hr e1)
  | bool b =>
   refine cX1 (w0E.mp e) fun k' yA=>cA2 yA fun e1 yB=>?_; clear yA; subst yB
   exact .cons (by rw [toK]; exact (C.sb.isB _ _).mpr rfl) (ih hr e1)
  | _=>exact (Option.noConfusion rfl (heq_of_eq e))
theorem z3u {ρ:List Addr} {h:Heap} {ks:List V} {v:Value} {k:List (List Nat ⊕ Bool)} (x:VR ρ h (.tup ks) v) (e:k5u ks = some k):∃ a,v = .ref a∧IsTupleKey C.sb.knd h (k.map toK) a:=by
 refine VR.eTup x fun a items ht hv=>?_
 refine cX1 ht fun o yA=>cA3 yA fun ho hc yB=>cX1 yB fun m hd=>?_; clear ht yA yB
 exact ⟨a,rfl,o,items.toArray,m,ho,hc,hd,z4c hv e⟩
noncomputable def TlOk (C:k1J) (F:Fm) (n:Nat) (value slice:Expr) (f:V→V→X V):Prop :=
 k9T C F n (PyProof.Rows.subscriptTail value slice) f
theorem item_loc {value slice:Expr} (hs:∀ o i,subscripted slice false o i = operate [o,i] (getItem o i)) {A:Around} {ρ:List Addr} {reg:Reg} {H:Hp} {s:Shared} {la:Addr} {o:O} {b v:V} {vb:Value} (hu:A.in1.units < cLine) (inv:k1O C F ρ reg H s)
  (hor:OR C ρ s.heap la o) (hb:VR ρ s.heap b vb) (hv:z0F o b = some v):k0e C F A ρ H s (PyProof.Rows.subscriptTail value slice (.ref la) vb) (Pure.pure v) (QV C F reg):=by
 cases o with
 | list vs =>
  refine z0A hv fun k e hv1=>k7B hv1 fun hk hv2=>?_
  subst e
  refine VR.iInt hb fun _ yA=>?_; clear hb; subst yA
  refine cX1 hor fun items yA=>cA2 yA fun hl hvs=>?_; clear hor yA
  refine cX1 (hvs.get hv2) fun w yA=>cA2 yA fun hw1 hw2=>?_; clear yA
  exact k0e.prim0 (PyProof.Rows.tail_any hl.isList.typeIs PySem.F.slot_list_getitem.lookup (wpAny_getItem_list hl.isList hk.1 (by lia) (by simpa using hw1) ⟨ρ,⟨hw2,inv⟩,k1m.refl _ _ _ _⟩) (hs _ _))
 | dict es =>
  refine z4Q hv fun k e hv2=>?_
  subst e
  refine VR.iStr hb fun _ yA=>?_; clear hb; subst yA
  refine cX1 hor fun kvs yA=>cA2 yA fun hda hent=>?_; clear hor yA
  have:=hent.get k
  rw [hv2] at this
  refine cX1 this fun w yA=>cA2 yA fun hw1 hw2=>?_; clear this yA
  exact k0e.prim0 (PyProof.Rows.tail_any hda.dictOf.typeIs PySem.F.slot_dict_getitem.lookup (wpAny_getItem_of (k2D _ _) hda.dictOf.mapOf hw1 ⟨ρ,⟨hw2,inv.toks _⟩,k1m.refl _ _ _ _⟩) (hs _ _))
 | tdict es =>
  refine z2w hv fun ks e hv1=>?_
  subst e
  refine cX1 (w0W.mp hv1) fun k yA=>cA2 yA fun hk hv2=>?_; clear yA
  refine cX1 hor fun xs yA=>cA2 yA fun hda hent=>?_; clear hor yA
  obtain ⟨ka,rfl,hkey⟩:=z3u hb hk
  have:=hent.get k
  rw [hv2] at this
  refine cX2 this fun a' w yA=>cA2 yA fun hw1 hw2=>?_; clear this yA
  exact k0e.prim0 (PyProof.Rows.tail_any hda.typeIs PySem.F.slot_dict_getitem.lookup (wpAny_getItem_heap (knd:=tupleKind C.sb.knd) hu hkey hda hw1 ⟨ρ,⟨hw2,inv.toks _⟩,k1m.refl _ _ _ _⟩) (hs _ _))
 | inst=>cases hv
theorem temp_str {value:Expr} {t:Str} {k:Tok} {r:Value}:letTemporaryGo value (.str t k) r = pure ():=by cases value <;> rfl
theorem z4d {t:List Nat} {k:Int} {c:Nat} (hk:0≤k∧k < 4096) (hlt:k.toNat < t.length) (hq:t[k.toNat]? = some c):Txt.item ⟨t.toArray⟩ k = (⟨[c].toArray⟩:Str):=by
 have hlen:(⟨t.toArray⟩:Str).length = t.length:=by show t.toArray.size = _; simp
 unfold Txt.item Txt.charAt seqIndex?
 rw [if_neg (by lia:¬ k < 0),if_pos (by simp only [w1s,decide_eq_true_eq,hlen]; lia)]
 simp [hq]
theorem k0F {value slice:Expr} (hs:∀ o i,subscripted slice false o i = operate [o,i] (getItem o i):=by intro _ _; rfl):TlOk C F n value slice k0V:=by
 intro A ρ reg H s a b va vb room inv ha hb
 cases a with
 | loc nl =>
  refine k0e.atLoc fun o ho=>k0e.xOpt fun v hv=>?_
  refine VR.eLoc ha fun la hla=>?_
  exact item_loc hs (by have:=room.units; show A.units + 1 < _; lia) inv (inv.hm.obj nl la o hla ho) hb hv
 | tup vs =>
  refine k0e.onInt fun k e=>k0e.when fun hk=>k0e.xOpt fun v hq=>?_
  subst e
  refine VR.iInt hb fun _ yA=>?_; clear hb; subst yA
  refine VR.eTup ha fun la items ht hvs=>?_
  refine cX1 (hvs.get hq) fun w yA=>cA2 yA fun hw1 hw2=>?_; clear yA
  have hlt:k.toNat < items.length:=(w0v.mp hw1).1
  refine k0e.prim0 (PyProof.Rows.tail_any (T:="tuple") (cX1 ht fun o w=>⟨o,w.1,w.2.1⟩) PySem.F.slot_tuple_getitem.lookup (PyProof.Rows.getItem_tuple (j:=k.toNat) ht (by lia) (by lia) ?_ (by simpa using hw1) ⟨ρ,⟨hw2,inv⟩,k1m.refl _ _ _ _⟩) (hs _ _))
  unfold seqIndex?
  rw [if_neg (by lia:¬ k < 0),if_pos]
  simp only [w0O,w1s,decide_eq_true_eq]
  lia
 | str t =>
  refine k0e.onInt fun k e=>k0e.when fun hk=>k0e.opt fun c hq=>?_
  subst e
  refine VR.iStr ha fun _ yA=>?_; clear ha; subst yA; refine VR.iInt hb fun _ yA=>?_; clear hb; subst yA
  have hlt:k.toNat < t.length:=(w0v.mp hq).1
  have hlen:(⟨t.toArray⟩:Str).length = t.length:=by show t.toArray.size = _; simp
  refine k0e.prim0 (PyProof.Rows.item_str (by unfold fitsSsize; simp; lia) (by rw [hlen]; lia) (by rw [hlen]; lia) (fun Y=>⟨ρ,⟨?_,inv.toks _⟩,k1m.refl _ _ _ _⟩) (hs _ _) (fun r=>temp_str))
  rw [z4d hk hlt hq]
  exact .str _ _
 | _=>exact k0e.stuck
end
section
variable {prog:Program} {w:World} {K:Type} [DecidableEq K] {knd:KeyKind prog w K}
theorem k8y {es:Array DictEntry} {kvs:List (K × Value)} (hp:Pairs knd es.toList kvs) (hn:(kvs.map (·.1)).Nodup) {k:K} {i:Nat} (hi:(es.findIdx? fun e=>knd.is k e.key) = some i) (v:Value) :
  Pairs knd (es.modify i fun e=>{ e with val:=v }).toList (stored kvs k v)∧((stored kvs k v).map (·.1)).Nodup∧(stored kvs k v).length = kvs.length:=by
 have hidx:(es.findIdx? fun e=>knd.is k e.key) = kvs.findIdx? fun kv=>decide (kv.1 = k):=by
  rw [← hp.findIdx k]; obtain ⟨l⟩:=es; simp
 rw [stored,if_pos (any_of_findIdx_some (hidx ▸ hi))]
 refine ⟨?_,by rw [keys_map_store]; exact hn,by simp⟩
 have hl:(es.toList.findIdx? fun e=>knd.is k e.key) = some i:=by rw [← hi]; obtain ⟨l⟩:=es; simp
 have:=hp.modify hn hl v
 obtain ⟨l⟩:=es
 simpa using this
theorem k6q {es:Array DictEntry} {kvs:List (K × Value)} (hp:Pairs knd es.toList kvs) (hn:(kvs.map (·.1)).Nodup) {k:K} {key:Value} (hkey:knd.is k key = true) (hi:(es.findIdx? fun e=>knd.is k e.key) = none) (v:Value) :
  Pairs knd (es.push ⟨knd.hash k,key,v⟩).toList (stored kvs k v)∧((stored kvs k v).map (·.1)).Nodup∧(stored kvs k v).length = kvs.length + 1:=by
 have hidx:(es.findIdx? fun e=>knd.is k e.key) = kvs.findIdx? fun kv=>decide (kv.1 = k):=by
  rw [← hp.findIdx k]; obtain ⟨l⟩:=es; simp
 have hnot:k∉kvs.map (·.1):=not_mem_of_findIdx_none (hidx ▸ hi)
 have hany:¬ (kvs.any fun kv=>decide (kv.1 = k)) = true:=by
  rw [w1T]; intro z0q; refine cX1 z0q fun kv yA=>cA2 yA fun hkv he=>?_; clear z0q yA
  exact hnot (w0b.mpr ⟨kv,hkv,of_decide_eq_true he⟩)
 rw [stored,if_neg hany]
 refine ⟨?_,?_,by simp⟩
 ·have:=hp.append hkey (knd.hash k) v
  obtain ⟨l⟩:=es
  simpa using this
 ·rw [w0j,w0w]
  refine ⟨hn,by simp,fun a ha b hb=>?_⟩
  simp only [w0f,w0n,w0h] at hb
  subst hb
  exact fun e=>hnot (e ▸ ha)
variable {A:Around} {E:Value→Shared→Prop} {s:Shared}
theorem k5P {d:Addr} {kvs:List (K × Value)} {k:K} {key v:Value} {Q:Unit→Shared→Prop} (hkey:knd.is k key = true) (hm:s.heap.DictAt knd d kvs kvs.length)
  (hQ:∀ h',h'.DictAt knd d (stored kvs k v) (stored kvs k v).length→Heap.SameBut d s.heap h'→Q () { s with heap:=h',toks:=s.toks + 1 }) (hsz:kvs.length≤4096) :
  wpAny (model prog w) A (dictSet d key v) Q E s:=by
 refine cX2 hm fun o es yA=>cA6 yA fun ho hc hd hk hp hn=>?_; clear hm yA
 have hes:es.size = kvs.length:=by rw [← hp.length]; simp
 unfold dictSet
 refine wpAny_holding ?_
 refine wpAny_bind (knd.pyHash hkey ?_)
 unfold dictSetHashed
 try with_reducible refine wpAny_holding ?_
 refine wpAny_bind (wpAny_dictFind_of (s:={ s with toks:=s.toks + 1 }) hkey ho hd hk ?_)
 cases hi:es.findIdx? fun e=>knd.is k e.key with
 | some i =>
  refine cA3 (k8y hp hn hi v) fun p1 p2 p3=>?_
  refine wpAny_bind (wpAny_rule (wpAny_bind (wpAny_updateDict (s:={ s with toks:=s.toks + 1 }) ho hd (wpAny_point (hQ _ ⟨_,_,Heap.get?_update_self _ ho (Obj.isFreed_of_dict (Obj.data_mapDict hd _)),
   hc.mapDict _,by rw [p3]; exact Obj.data_mapDict hd _,hk.modify _ _,p1,p2⟩ (Heap.SameBut.update ..))))))
 | none =>
  refine cA3 (k6q hp hn hkey hi v) fun p1 p2 p3=>?_
  refine wpAny_bind (wpAny_rule (wpAny_updateDictKeys (hz:=by rw [hes,sizeLine_eq]; lia) (s:={ s with toks:=s.toks + 1 }) ho hd (hQ _ ⟨_,_,Heap.get?_update_self _ ho (Obj.isFreed_of_dict (Obj.data_mapDictKeys hd _)),
   hc.mapDictKeys _,by rw [p3]; exact Obj.data_mapDictKeys hd _,hk.push hkey _,p1,p2⟩ (Heap.SameBut.update ..))))
theorem z4e {d:Addr} {kvs:List (K × Value)} {k:K} {key v:Value} {Q:Unit→Shared→Prop} (hkey:knd.is k key = true) (hm:s.heap.DictAt knd d kvs kvs.length)
  (hQ:∀ h',h'.DictAt knd d (stored kvs k v) (stored kvs k v).length→Heap.SameBut d s.heap h'→Q () { s with heap:=h',toks:=s.toks + 1 }) (hsz:kvs.length≤4096) :
  wpAny (model prog w) A (setItem (.ref d) key v) Q E s:=by
 unfold setItem
 refine wpAny_holding ?_
 refine wpAny_bind (wpAny_sequenceKey hm.dictOf.typeIs (by decide) ?_)
 refine wpAny_bind (wpAny_callSpecial?_slot (name:=Str.ofString "__setitem__") hm.dictOf.typeIs slot_dict_setitem
  (wpAny_call_entry slot_dict_setitem hm.dictOf.typeIs entry_dict_setitem ?_ (args_dict_setitem _ _ _)))
 show wpAny _ _ (Builtin.Dict.notOrdered "__setitem__" ⟨[.ref d,key,v],[]⟩ >>= _) _ _ s
 refine wpAny_bind (wpAny_notOrdered_dict hm.dictOf.typeIs ?_)
 show wpAny _ _ (dictSet d key v >>= _) _ _ s
 exact wpAny_bind (k5P (hsz:=hsz) hkey hm fun h' hm' hs'=>wpAny_pure ⟨.none,rfl,wpAny_pure (hQ h' hm' hs')⟩)
end
section
variable {prog:Program} {w:World} {A:Around} {E:Value→Shared→Prop} {s:Shared}
theorem z3v {d:Addr} {kvs:List (Str × Value)} {name:Str} {v:Value} {Q:Unit→Shared→Prop} (hm:s.heap.DictAt (strKind prog w) d kvs kvs.length)
  (hQ:∀ h',h'.DictAt (strKind prog w) d (stored kvs name v) (stored kvs name v).length→Heap.SameBut d s.heap h'→Q () { s with heap:=h',toks:=s.toks + 1 }) :
  wpAny (model prog w) A (nsSet d name v) Q E s:=by
 refine cX2 hm fun o es yA=>cA6 yA fun ho hc hd hk hp hn=>?_; clear hm yA
 have hkey:(strKind prog w).is name (.str name s.toks) = true:=k2D name _
 have hfun:(fun e:DictEntry=>e.key.isStr name) = fun e=>(strKind prog w).is name e.key:=funext fun e=>(PySem.W.isStr_of name e.key).symm ▸ rfl
 have href:∀ e∈es,e.refKey = false:=fun e he=>by
  refine cX1 (hk e he) fun k yA=>cA2 yA fun h1 _=>?_; clear yA
  refine cX1 (Value.isStrOf_shape h1) fun t ht=>?_
  unfold DictEntry.refKey; rw [ht]
 have hany:es.any (·.refKey) = false:=by
  rw [Array.any_eq_false']; intro e he; rw [href e he]; simp
 unfold nsSet
 refine wpAny_bind (wpAny_bind (wpAny_askSetting (wpAny_pure (wpAny_bind (wpAny_mkText (wpAny_bind (wpAny_loadPart ho ?_)))))))
 rw [hd]
 dsimp only
 rw [aRefKeyMayBeTheName_at,hany,Bool.and_false]
 have upd:=Heap.SameBut.update s.heap d (Obj.putName name (PyData.keyHash w.params name) (.str name s.toks) v)
 obtain ⟨oc,od,oda,osl⟩:=o
 refine cA3 hc fun c1 c2 c3=>?_; clear hc
 simp only at c1 c2 c3 hd
 subst c1 c2 c3 hd
 refine wpAny_updatePart ho ?_
 show Q () { s with heap:=s.heap.update d (Obj.putName name (PyData.keyHash w.params name) (.str name s.toks) v),toks:=s.toks + 1 }
 cases hi:es.findIdx? fun e=>(strKind prog w).is name e.key with
 | some i =>
  refine cA3 (k8y hp hn hi v) fun p1 p2 p3=>?_
  have e:Obj.putName name (PyData.keyHash w.params name) (.str name s.toks) v { cls:=.type "dict",dict:=none,data:=.dict es kvs.length,slots:=#[] } = { cls:=.type "dict",dict:=none,data:=.dict (es.modify i fun e=>{ e with val:=v }) kvs.length,slots:=#[] }:=by
   simp only [Obj.putName_eq,Obj.putNameByArray,hfun,hi]
  exact hQ _ ⟨_,_,(Heap.get?_update_self _ ho (by rw [e]; rfl)).trans (congrArg some e),⟨rfl,rfl,rfl⟩,by rw [p3],hk.modify _ _,p1,p2⟩ upd
 | none =>
  refine cA3 (k6q hp hn hkey hi v) fun p1 p2 p3=>?_
  have e:Obj.putName name (PyData.keyHash w.params name) (.str name s.toks) v { cls:=.type "dict",dict:=none,data:=.dict es kvs.length,slots:=#[] } = { cls:=.type "dict",dict:=none,data:=.dict (es.push ⟨PyData.keyHash w.params name,.str name s.toks,v⟩) (kvs.length + 1),slots:=#[] }:=by
   simp only [Obj.putName_eq,Obj.putNameByArray,hfun,hi]
  exact hQ _ ⟨_,_,(Heap.get?_update_self _ ho (by rw [e]; rfl)).trans (congrArg some e),⟨rfl,rfl,rfl⟩,by rw [p3]; rfl,hk.push hkey _,p1,p2⟩ upd
end
noncomputable def k2c {K α:Type} [DecidableEq K] (es:List (K × α)) (k:K) (v:α):List (K × α) :=
 if es.any (fun e=>decide (e.1 = k)) then es.map (fun e=>if e.1 = k then (e.1,v) else e) else es ++ [(k,v)]
theorem k5d.length {ρ:List Addr} {h:Heap} {es:List (List Nat × V)} {kvs:List (Str × Value)} (x:k5d ρ h es kvs):es.length = kvs.length:=by
 induction x with
 | nil=>rfl
 | cons _ _ ih=>simp [ih]
theorem z3w (a b:List Nat):(⟨a.toArray⟩:Str) = ⟨b.toArray⟩↔a = b:=⟨fun e=>by injection e with e; simpa using e,fun e=>by rw [e]⟩
set_option tactic.hygienic true in
theorem k5d.put {ρ:List Addr} {h:Heap} {es:List (List Nat × V)} {kvs:List (Str × Value)} (x:k5d ρ h es kvs) (k:List Nat) {V:V} {v:Value} (hv:VR ρ h V v):k5d ρ h (k2c es k V) (stored kvs ⟨k.toArray⟩ v):=by
 have hany:es.any (fun e=>decide (e.1 = k)) = kvs.any (fun kv=>decide (kv.1 = (⟨k.toArray⟩:Str))):=by
  induction x with
  | nil=>rfl
  | cons _ _ ih=>simp only [w1A,ih,z3w]
 unfold k2c stored
 rw [hany]
 clear hany
 split
 ·rename_i hh
  clear hh
  induction x with
  | nil=>exact .nil
  | @cons k' V' v' es kvs h1 _ ih =>
   simp only [w0f,z3w]
   by_cases q:k' = k
   ·rw [if_pos q,if_pos q]; exact .cons hv ih
   ·rw [if_neg q,if_neg q]; exact .cons h1 ih
 ·rename_i hh
  clear hh
  induction x with
  | nil=>exact .cons hv .nil
  | cons h1 _ ih=>exact .cons h1 ih
theorem z5c (a b:List (List Nat ⊕ Bool)):a.map toK = b.map toK↔a = b:=by
 refine ⟨fun e=>?_,fun e=>by rw [e]⟩
 have hj:∀ x y,toK x = toK y→x = y:=by
  intro x y e
  cases x <;> cases y <;> simp [toK] at e <;> simp [e]
 exact (w1S hj).mp e
set_option tactic.hygienic true in
theorem k6o.put {ρ:List Addr} {h:Heap} {es:List (List (List Nat ⊕ Bool) × V)} {kvs:List (List (Str ⊕ Bool) × Addr × Value)} (x:k6o ρ h es kvs) (k:List (List Nat ⊕ Bool)) (a:Addr) {V:V} {v:Value} (hv:VR ρ h V v):k6o ρ h (k2c es k V) (storedH kvs (k.map toK) a v):=by
 have hany:(atKey kvs (k.map toK)).isSome = es.any (fun e=>decide (e.1 = k)):=by
  unfold atKey
  induction x with
  | nil=>rfl
  | @cons k' _ _ _ _ _ _ _ ih =>
   rw [w0P,w1A]
   by_cases q:k' = k
   ·simp [q]
   ·have:¬ k'.map toK = k.map toK:=fun e=>q ((z5c _ _).mp e)
    simp only [q,this,decide_false,w1U]
    exact ih
 unfold k2c storedH
 rw [hany]
 clear hany
 split
 ·rename_i hh
  clear hh
  induction x with
  | nil=>exact .nil
  | @cons k' V' a' v' es kvs h1 _ ih =>
   simp only [w0f,putAt,z5c]
   by_cases q:k' = k
   ·rw [if_pos q,if_pos q]; exact .cons hv ih
   ·rw [if_neg q,if_neg q]; exact .cons h1 ih
 ·rename_i hh
  clear hh
  induction x with
  | nil=>exact .cons hv .nil
  | cons h1 _ ih=>exact .cons h1 ih
noncomputable def oPut (v:V) (o:O) (i:V):Option O:=match o with
 | .dict es=>oStr (fun s=>if es.length≤4000 then some (.dict (k2c es s v)) else none) i
 | .tdict es=>oTup (fun ks=>if es.length≤4000 then (k5u ks).map fun k=>.tdict (k2c es k v) else none) i
 | _=>none
noncomputable def xPut (a i v:V):X Unit:=onLoc (fun l=>atLoc l fun o=>z4N (oPut v o i) fun o'=>setLoc l o' ()) a
noncomputable def k7Z (co ci:Reg→X V) (v:V) (reg:Reg):X Reg:=co reg >>= fun a=>ci reg >>= fun b=>xPut a b v >>= fun Y=>Pure.pure reg
section
variable {C:k1J} {F:Fm} {n:Nat}
theorem k4W {prog:Program} {w:World} {h:Heap} {d:Addr} {kvs:List (Str × Value)} {ep:Nat} (hm:h.DictAt (strKind prog w) d kvs ep):∀ ob v,h.get? d = some ob→ob.data≠.cell v:=fun ob v e q=>by
 refine cX2 hm fun o es yA=>cA4 yA fun ho hc hd _=>?_; clear hm yA
 rw [ho] at e; refine k1f e fun yA=>?_; clear e; subst yA
 rw [hd] at q; cases q
theorem z2B {ρ:List Addr} {h:Heap} {es:List (List (List Nat ⊕ Bool) × V)} {kvs:List (List (Str ⊕ Bool) × Addr × Value)} (x:k6o ρ h es kvs):es.length = kvs.length:=by
 induction x with
 | nil=>rfl
 | cons _ _ ih=>simp [ih]
theorem k7k {h h':Heap} {d:Addr} (sb:Heap.SameBut d h h') (nt:∀ o,h.get? d = some o→¬ k4z o):∀ a o,h.get? a = some o→k4z o→h'.get? a = some o:=fun a o e t =>
 (sb.2 a fun q=>nt o (q ▸ e) t).trans e
theorem put_sim (ok:F.Ok C) {A:Around} {ρ:List Addr} {reg:Reg} {H:Hp} {s:Shared} {o i v:V} {ov iv vv:Value} (room:k7Y n A F) (inv:k1O C F ρ reg H s) (ho:VR ρ s.heap o ov) (hi:VR ρ s.heap i iv) (hv:VR ρ s.heap v vv) :
  k0e C F A ρ H s (setItem ov iv vv) (xPut o i v) (fun Y Y ρ' H' s'=>k1O C F ρ' reg H' s'):=by
 have hu:A.in1.units < cLine:=by have:=room.units; show A.units + 1 < _; lia
 refine k0e.onLoc fun nl e=>k0e.atLoc fun ob hoo=>k0e.opt fun o' hv1 P p=>?_
 subst e
 refine VR.eLoc ho fun la hla=>?_
 have hor:=inv.hm.obj nl la ob hla hoo
 cases ob with
 | dict es =>
  refine z4Q hv1 fun k e hv2=>k7B hv2 fun hlen hv3=>?_
  refine k1f hv3 fun yA=>?_; clear hv3; subst yA
  subst e
  refine VR.iStr hi fun _ yA=>?_; clear hi; subst yA
  refine cX1 hor fun kvs yA=>cA2 yA fun hda hent=>?_; clear hor yA
  refine z4e (k2D _ _) hda (fun h' hm' sb=>?_) (by rw [← hent.length]; lia)
  refine cA2 (inv.setAt ok (t:=s.toks + 1) (o:=.dict (k2c es k v)) hla sb (fun hmono=>⟨_,hm',(hent.put k hv).mono (w0m _) (k7k sb (fun o1 e=>let ⟨o2,_,g1,g2,_⟩:=hda; (Option.some.inj (e.symm.trans g1)) ▸ fun t=>absurd t.1 (by rw [g2.1]; decide)))⟩) (k4W hda)) fun y st=>?_
  exact ⟨(),ρ,_,p,y,st⟩
 | tdict es =>
  refine z2w hv1 fun ks e hv2=>k7B hv2 fun hlen hv3=>?_
  subst e
  refine cX1 (w0E.mp hv3) fun k yA=>cA2 yA fun hk yB=>?_; clear yA; subst yB
  refine cX1 hor fun xs yA=>cA2 yA fun hda hent=>?_; clear hor yA
  obtain ⟨ka,rfl,hkey⟩:=z3u hi hk
  refine wpAny_setItem_heap (knd:=tupleKind C.sb.knd) hu hkey hda (fun h' hm' sb=>?_) (by rw [← z2B hent,sizeLine_eq]; lia)
  have nc:∀ ob v,s.heap.get? la = some ob→ob.data≠.cell v:=fun ob v e q=>by
   refine cX3 hda fun o1 es1 ep1 yA=>cA4 yA fun g1 g2 g3 _=>?_; clear hda yA
   rw [g1] at e; refine k1f e fun yA=>?_; clear e; subst yA
   rw [g3] at q; cases q
  refine cA2 (inv.setAt ok (t:=s.toks + (tupleKind C.sb.knd).draws (k.map toK)) (o:=.tdict (k2c es k v)) hla sb (fun hmono=>⟨_,hm',(hent.put k ka hv).mono (w0m _) (k7k sb (fun o1 e=>let ⟨o2,_,_,g1,g2,_⟩:=hda; (Option.some.inj (e.symm.trans g1)) ▸ fun t=>absurd t.1 (by rw [g2.1]; decide)))⟩) nc) fun y st=>?_
  exact ⟨(),ρ,_,p,y,st⟩
 | _=>cases hv1
theorem z4f (o i:Expr) (pos:Pos) (env:Env) (v:Value):assign (.Subscript o i pos) env v = (holding [v] (eval o env) >>= fun ov=>holding [v,ov] (eval i env) >>= fun iv=>standAt pos >>= fun Y=>holding [v,ov,iv] (setItem ov iv v) >>= fun Y=>release (match i with | .Slice _ _ none _=>[iv,v,ov] | _=>[v,ov,iv]) []):=rfl
theorem k3b (ok:F.Ok C) {o i:Expr} {pos:Pos} {co ci:Reg→X V} (ho:EOk C F n o co) (hi:EOk C F n i ci):AOk C F n (.Subscript o i pos) (k7Z co ci):=by
 intro A ρ reg H s V v room inv hv
 rw [z4f]
 refine k0e.bind (k0e.holding (ho A ρ reg H s room inv)) fun a va ρ₁ H₁ s₁ q st=>?_
 refine k0e.bind (k0e.holding (hi A ρ₁ reg H₁ s₁ room q.2)) fun b vb ρ₂ H₂ s₂ q₂ st₂=>?_
 refine k0e.standAt (k0e.bind (k0e.holding (put_sim ok room q₂.2 (q.1.step st₂) q₂.1 (hv.step (st.trans st₂)))) fun Y Y ρ₃ H₃ s₃ q₃ st₃=>?_)
 exact k0e.prim0 (wpAny_release ⟨ρ₃,q₃,k1m.refl _ _ _ _⟩)
theorem k0G {value slice:Expr} {pos:Pos} {co ci:Reg→X V} {f:V→V→X V} (ho:EOk C F n value co) (hi:EOk C F n slice ci) (ht:TlOk C F n value slice f) :
  EOk C F n (.Subscript value slice pos) (k1g f co ci):=by
 intro A ρ reg H s room inv
 show k0e C F A ρ H s (eval value F.env >>= fun o=>holding [o] (eval slice F.env) >>= fun i=>standAt pos >>= fun Y=>PyProof.Rows.subscriptTail value slice o i) _ _
 refine k0e.bind (ho A ρ reg H s room inv) fun a va ρ₁ H₁ s₁ q st=>?_
 refine k0e.bind (k0e.holding (hi A ρ₁ reg H₁ s₁ room q.2)) fun b vb ρ₂ H₂ s₂ q₂ st₂=>?_
 exact k0e.standAt (ht A ρ₂ reg H₂ s₂ a b va vb room q₂.2 (q.1.step st₂) q₂.1)
theorem k1G (ok:F.Ok C) (cok:C.Ok) {x:Str} {p:Pos} {v:Value} (V:V) (hg:glob? C x v) (hv:∀ ρ h,C.base.StaysIn h→VR ρ h V v) (hx:F.env.kindOf x = some .globalImplicit:=by rfl) (hd:(x == ("__debug__":Str)) = false:=by decide +kernel) :
  EOk C F n (.Name x p) (cG V):=by
 intro A ρ reg H s room inv
 exact k0e.prim0 (k6E ok cok inv hx hg hd ⟨ρ,⟨hv ρ s.heap inv.base,inv⟩,k1m.refl _ _ _ _⟩)
noncomputable def k3m (h:Hp) (l:Nat):Option (Nat × List (List Nat × V)):=match h[l]? with
 | some (.inst _ d)=>match h[d]? with
  | some (.dict es)=>some (d,es)
  | _=>none
 | _=>none
theorem k8z {h:Hp} {l:Nat} {p:Nat × List (List Nat × V)} {P:Prop} (e:k3m h l = some p) (f:∀ k,h[l]? = some (.inst k p.1)→h[p.1]? = some (.dict p.2)→P):P:=by
 unfold k3m at e
 rcases q:h[l]? with _ | (_ | _ | _ | ⟨k,d⟩) <;> rw [q] at e <;> try (exact kNS e; done)
 dsimp only at e
 rcases w:h[d]? with _ | (_ | es | _ | _) <;> rw [w] at e <;> try (cases e; done)
 refine k1f e fun yA=>?_; clear e; refine k2X yA fun yB yC=>?_; clear yA; subst yB; subst yC
 exact f k q w
noncomputable def k7l (name:List Nat):V→X V:=onLoc fun l=>⟨fun Q h=>oK (k3m h l) (fun p=>oK (k0Q p.2 name) (fun v=>Q (.ok v) h)),fun q x=>k2Y (fun Y=>k2Y fun Y z=>q _ _ z) x⟩
noncomputable def k2K (name:List Nat) (c:Reg→X V) (reg:Reg):X V:=c reg >>= fun o=>k7l name o
structure k8A (C:k1J) (c:Nat) (name:Str):Prop where
 get:W.plainGet C.K (C.cls c) name = true
 has:W.hasDictIn C.K (C.cls c) = true
 find:∃ attr,W.findIn C.K (.ref (C.cls c)) name = some attr∧W.noGet C.K attr = true
theorem z1x {prog:Program} {w:World} {h:Heap} {d:Addr} {kvs:List (Str × Value)} {ep:Nat} (hm:h.DictAt (strKind prog w) d kvs ep) (name:Str):∃ od,h.get? d = some od∧W.lookIn name od = some (valueAt kvs name):=by
 refine cX2 hm fun o es yA=>cA6 yA fun ho hc hd hk hp hn=>?_; clear hm yA
 refine ⟨o,ho,?_⟩
 unfold W.lookIn
 rw [hd]
 dsimp only
 have hfun:(fun e:DictEntry=>e.key.isStr name) = fun e=>(strKind prog w).is name e.key:=funext fun e=>(PySem.W.isStr_of name e.key).symm ▸ rfl
 have href:es.toList.any (·.refKey) = false:=by
  rw [List.any_eq_false]; intro e he
  refine cX1 (hk e (Array.mem_toList_iff.mp he)) fun k yA=>cA2 yA fun h1 _=>?_; clear yA
  refine cX1 (Value.isStrOf_shape h1) fun t ht=>?_
  unfold DictEntry.refKey; rw [ht]; simp
 have hf:=hp.find name
 rw [hfun]
 cases q:es.toList.find? fun e=>(strKind prog w).is name e.key with
 | some e=>rw [q] at hf; simp only [w0x] at hf; rw [← hf]
 | none=>rw [q] at hf; simp only [Option.map_none] at hf; rw [href,← hf]; rfl
theorem z5d (value:Expr) (attr:Str) (pos:Pos) (env:Env) (hb:attributeBase value attr env (eval value env) = eval value env) :
  eval (.Attribute value attr pos) env = (eval value env >>= fun o=>standAt pos.atName >>= fun Y=>holding [o] (getAttr o attr true) >>= fun r=>letTemporaryGo value o r >>= fun Y=>pure r):=by
 show (attributeBase value attr env (eval value env) >>= _) = _
 rw [hb]
theorem z5e {ρ:List Addr} {h:Heap} {V:V} {v:Value} (x:VR ρ h V v):W.handedIn v = true:=by cases x <;> rfl
theorem k1t (cok:C.Ok) {value:Expr} {attr:Str} {pos:Pos} {c:Reg→X V} (name:List Nat) (hn:attr = ⟨name.toArray⟩) (h:EOk C F n value c) (hc:∀ k,k8A C k attr) (hb:attributeBase value attr F.env (eval value F.env) = eval value F.env:=by rfl) :
  EOk C F n (.Attribute value attr pos) (k2K name c):=by
 intro A ρ reg H s room inv
 rw [z5d _ _ _ _ hb]
 refine k0e.bind (h A ρ reg H s room inv) fun a va ρ₁ H₁ s₁ q st=>?_
 refine k0e.standAt ?_
 refine k0e.onLoc fun l e P p=>k5Z p fun f hf p1=>k5Z p1 fun v hv p2=>k8z hf fun k hl hd=>?_
 subst e
 refine VR.iLoc q.1 fun la e hla=>?_
 subst e
 refine cX1 (q.2.hm.obj l la _ hla hl) fun da yA=>cA2 yA fun hda hob=>?_; clear yA
 refine cX1 (q.2.hm.obj f.1 da _ hda hd) fun kvs yA=>cA2 yA fun hat hent=>?_; clear yA
 have hg:=hent.get name
 rw [hv] at hg
 refine cX1 hg fun w yA=>cA2 yA fun hw1 hw2=>?_; clear hg yA
 refine cX1 (z1x hat (⟨name.toArray⟩:Str)) fun od yA=>cA2 yA fun hod hlk=>?_; clear yA
 rw [hw1] at hlk
 subst hn
 refine cX1 ((hc k).find) fun att yA=>cA2 yA fun hf1 hf2=>?_; clear yA
 refine wpAny_bind (wpAny_holding (W.get_value (q.2.toCInv.inK cok) ⟨hob,rfl,rfl,hod⟩ (W.plainGet_of (hc k).get).1 (W.findObj_own (hc k).has hf1 hf2 hlk) (z5e hw2) ?_))
 exact wpAny_bind (wpAny_letTemporaryGo (wpAny_pure ⟨_,ρ₁,_,p2,⟨hw2,q.2.toks _⟩,k1m.refl _ _ _ _⟩))
end
noncomputable def k6G (name:List Nat) (o v:V):X Unit:=onLoc (fun l=>⟨fun Q h=>oK (k3m h l) (fun p=>p.2.length≤500∧Q (.ok ()) (h.set p.1 (.dict (k2c p.2 name v)))),fun q x=>k2Y (fun Y z=>⟨z.1,q _ _ z.2⟩) x⟩) o
noncomputable def k6H (name:List Nat) (co:Reg→X V) (v:V) (reg:Reg):X Reg:=co reg >>= fun a=>k6G name a v >>= fun Y=>Pure.pure reg
structure k8a (C:k1J) (c:Nat) (name:Str):Prop where
 set:W.findIn C.K (.ref (C.cls c)) "__setattr__" = some (some (.builtin "object.__setattr__"))
 over:W.plainOver C.K (C.cls c) = true
 taker:W.takerIn C.K (C.cls c) name = some none
 has:W.hasDictIn C.K (C.cls c) = true
section
variable {C:k1J} {F:Fm} {n:Nat}
theorem z4g {K:W.Frag} {prog:Program} {w:World} {A:Around} {E:Value→Shared→Prop} {s:Shared} {x dx Cl:Addr} {od:Obj} {name:Str} {v:Value} {kvs:List (Str × Value)} {Q:Unit→Shared→Prop} (X:K.In s.heap)
  (hx:s.heap.get? x = some (W.instObj Cl dx)) (hdx:s.heap.DictAt (strKind prog w) dx kvs kvs.length) (hset:W.findIn K (.ref Cl) "__setattr__" = some (some (.builtin "object.__setattr__"))) (hover:W.plainOver K Cl = true) (htk:W.takerIn K Cl name = some none) (hhas:W.hasDictIn K Cl = true) (hlen:kvs.length≤500)
  (hod:s.heap.get? dx = some od)
  (hQ:∀ h',h'.DictAt (strKind prog w) dx (stored kvs name v) (stored kvs name v).length→Heap.SameBut dx s.heap h'→Q () { s with heap:=h',toks:=s.toks + 2 }):wpAny (model prog w) A (setAttr (.ref x) name v) Q E s:=by
 have I:W.InstAt s.heap x (W.instObj Cl dx) Cl (some od):=⟨hx,rfl,rfl,hod⟩
 refine W.set_plain X I hset ?_
 refine W.osa_open (s:={ s with toks:=s.toks + 1 }) X I hover htk fun b=>?_
 refine cX1 (W.any_some hhas) fun cd yA=>cA2 yA fun hc hd'=>?_; clear yA
 refine wpAny_bind (wpAny_pure (wpAny_bind (wpAny_bind (wpAny_loadPart hx (wpAny_bind (W.looks_clsIn X hc _ _ _ _ (fun Y Y e=>e) ?_))))))
 rw [hd']
 refine wpAny_pure (a:=some dx) (wpAny_bind (wpAny_pure (wpAny_bind ?_)))
 refine z3v (s:={ s with toks:=s.toks + 1 }) hdx fun h' hm sb=>?_
 refine cX2 (id hm) fun o es yA=>cA6 yA fun g1 g2 g3 g4 g5 g6=>?_; clear yA
 refine wpAny_bind (wpAny_lookBehind (s:={ s with heap:=h',toks:=s.toks + 1 + 1 }) g1 (by rw [g3]; exact pastItsLine_dict (by
  have:es.size = (stored kvs name v).length:=by rw [← g5.length]; simp
  rw [this,sizeLine_eq]
  have:=stored_length_le kvs name v
  lia)) ?_)
 exact wpAny_pure (hQ h' hm sb)
theorem z2C (ok:F.Ok C) (cok:C.Ok) {attr:Str} (name:List Nat) (hn:attr = ⟨name.toArray⟩) (hc:∀ k,k8a C k attr) {A:Around} {ρ:List Addr} {reg:Reg} {H:Hp} {s:Shared} {o v:V} {ov vv:Value} (inv:k1O C F ρ reg H s) (ho:VR ρ s.heap o ov) (hv:VR ρ s.heap v vv) :
  k0e C F A ρ H s (setAttr ov attr vv) (k6G name o v) (fun Y Y ρ' H' s'=>k1O C F ρ' reg H' s'):=by
 refine k0e.onLoc fun l e P p=>k5Z p fun f hf p1=>k8z hf fun k hl hd=>?_
 subst e
 refine VR.eLoc ho fun la hla=>?_
 refine cA2 p1 fun hlen p2=>?_; clear p1
 subst hn
 refine cX1 (inv.hm.obj l la _ hla hl) fun da yA=>cA2 yA fun hda hob=>?_; clear yA
 refine cX1 (inv.hm.obj f.1 da _ hda hd) fun kvs yA=>cA2 yA fun hat hent=>?_; clear yA
 refine cX1 (z1x hat (⟨name.toArray⟩:Str)) fun od yA=>cA2 yA fun hod _=>?_; clear yA
 refine z4g (inv.toCInv.inK cok) hob hat (hc k).set (hc k).over (hc k).taker (hc k).has (by rw [← hent.length]; lia) hod fun h' hm' sb=>?_
 refine cA2 (inv.setAt ok (t:=s.toks + 2) (o:=.dict (k2c f.2 name v)) hda sb (fun hmono=>⟨_,hm',(hent.put name hv).mono (w0m _) (k7k sb (fun o1 e=>let ⟨o2,_,g1,g2,_⟩:=hat; (Option.some.inj (e.symm.trans g1)) ▸ fun t=>absurd t.1 (by rw [g2.1]; decide)))⟩) (k4W hat)) fun y st=>?_
 exact ⟨(),ρ,_,p2,y,st⟩
theorem k8B (o:Expr) (attr:Str) (pos:Pos) (env:Env) (v:Value):assign (.Attribute o attr pos) env v = (holding [v] (eval o env) >>= fun ov=>standAt pos.atName >>= fun Y=>holding [v,ov] (setAttr ov attr v) >>= fun Y=>release [v,ov] []):=rfl
theorem k3n (ok:F.Ok C) (cok:C.Ok) {o:Expr} {attr:Str} {pos:Pos} {co:Reg→X V} (name:List Nat) (hn:attr = ⟨name.toArray⟩) (ho:EOk C F n o co) (hc:∀ k,k8a C k attr):AOk C F n (.Attribute o attr pos) (k6H name co):=by
 intro A ρ reg H s V v room inv hv
 rw [k8B]
 refine k0e.bind (k0e.holding (ho A ρ reg H s room inv)) fun a va ρ₁ H₁ s₁ q st=>?_
 refine k0e.standAt (k0e.bind (k0e.holding (z2C ok cok name hn hc q.2 q.1 (hv.step st))) fun Y Y ρ₂ H₂ s₂ q₂ st₂=>?_)
 exact k0e.prim0 (wpAny_release ⟨ρ₂,q₂,k1m.refl _ _ _ _⟩)
noncomputable def mkK (Q:Po V) (l:Nat):Po V:=fun r h'=>match r with
 | .ok .none=>Q (.ok (.loc l)) h'
 | .ok _=>False
 | .error e=>Q (.error e) h'
theorem mkK_mono {Q Q':Po V} {l:Nat} (q:∀ r h,Q r h→Q' r h):∀ r h,mkK Q l r h→mkK Q' l r h
 | .ok .none,_,x=>q _ _ x
 | .error _,_,x=>q _ _ x
noncomputable def xMake (c:Nat) (g:List V→X V) (args:List V):X V:=⟨fun Q h=>wp (g (.loc (h.length + 1) :: args)) (mkK Q (h.length + 1)) (h ++ [.dict []] ++ [.inst c h.length]),fun q x=>k8n x (mkK_mono q)⟩
theorem mkK_ex {Q:Po V} {l:Nat} {v:V} {h:Hp} {P:Prop} (x:mkK Q l (.ok v) h) (k:v = .none→Q (.ok (.loc l)) h→P):P:=match v,x,k with | .none,x,k=>k rfl x
theorem k8p.under {A:Around} {stack:List Env} {Cl:Addr} {rest:List Value} (x:k8p (n + 1) A stack):k8p n (A.under (.builtin "type.__call__" ⟨.ref Cl :: rest,[]⟩)) stack:=by
 refine ⟨x.handled,x.frames,?_,?_⟩
 ·have e1:(A.under (.builtin "type.__call__" ⟨.ref Cl :: rest,[]⟩)).depth = A.depth + 1:=rfl
  have:=x.depth
  lia
 ·have e1:(A.under (.builtin "type.__call__" ⟨.ref Cl :: rest,[]⟩)).units = A.units + 1:=rfl
  have:=x.units
  lia
theorem z3x (cok:C.Ok) {c:Nat} {g:List V→X V} {fI:Addr} (hm:W.makesIn C.K (C.cls c) = true) (hi:W.findIn C.K (.ref (C.cls c)) "__init__" = some (some (.ref fI))) (hf:W.typeIn C.K (.ref fI) = some (.type "function")) (h:k0n C n (.ref fI) g) :
  k0n C (n + 1) (.ref (C.cls c)) (xMake c g):=by
 intro A stack ρ H s args vals P room inv hv e
 have k1:∀ a o,s.heap.get? a = some o→(s.heap.push W.emptyDict).get? a = some o:=fun a o e=>Heap.get?_push_of_some _ e
 refine cA2 (inv.push (t:=s.toks) (a:=s.heap.objs.size) (o:=.dict []) cok k1 (w0l _) (fun hm=>⟨[],⟨_,#[],Heap.get?_push_size _ rfl,⟨rfl,rfl,rfl⟩,rfl,fun e he=>by simp at he,.nil,w0L⟩,.nil⟩) (stack.filterMap (·.frame)) []) fun inv1 st1=>?_
 have k2:∀ a o,(s.heap.push W.emptyDict).get? a = some o→((s.heap.push W.emptyDict).push (W.instObj (C.cls c) s.heap.objs.size)).get? a = some o:=fun a o e=>Heap.get?_push_of_some _ e
 have hlast:(ρ ++ [s.heap.objs.size])[H.length]? = some s.heap.objs.size:=by rw [← inv.hm.len,w0C (w0l _)]; simp
 refine cA2 (inv1.push (t:=s.toks) (a:=s.heap.objs.size + 1) (o:=.inst c H.length) cok k2 (by simp) (fun hm=>⟨s.heap.objs.size,by rw [w0D (w0v.mp hlast).1]; exact hlast,Heap.get?_push_at (by simp) rfl⟩) (stack.filterMap (·.frame)) []) fun inv2 st2=>?_
 have st:=st1.trans st2
 obtain ⟨hh,gg,dd,tt,oo⟩:=s
 refine W.make_core (W.makes_of (inv.inK cok) hm) (W.looks_findIn (inv.inK cok) hi) (fun self=>W.bind_fn (inv.inK cok) self hf) (.inl rfl) ?_
 have hvr:VRs (ρ ++ [hh.objs.size] ++ [hh.objs.size + 1]) ((hh.push W.emptyDict).push (W.instObj (C.cls c) hh.objs.size)) (.loc (H.length + 1) :: args) (.ref (hh.objs.size + 1) :: vals) :=
  .cons (.loc _ _ (by rw [w0C (by simp [inv.hm.len])]; simp [inv.hm.len])) (hv.step st)
 refine codeAny_mono (h _ stack _ _ _ _ _ _ room.under inv2 hvr e) fun res s' hr=>?_
 cases hr with
 | err x ea ρ' H' p e h1 h2 h3=>subst e; exact .err x ea ρ' H' p rfl (h1.older fun a=>st.none_of) h2 (st.trans h3)
 | ok V v ρ' H' p e h1 h2 h3 =>
  subst e
  refine mkK_ex p fun e p1=>?_
  subst e
  refine VR.iNone h1 fun yA=>?_; clear h1; subst yA
  exact ⟨rfl,.ok _ _ ρ' H' p1 rfl (VR.step h3 (.loc _ _ (by rw [w0C (by simp [inv.hm.len])]; simp [inv.hm.len]))) h2 (st.trans h3)⟩
end
inductive It where
 | list (l:Nat)
 | tup (vs:List V)
 | dict (l n:Nat)
 | str (cs:List Nat)
 | rng (k:Nat)
noncomputable def k1Z (it:It) (i:Nat) (h:Hp):Option (Option V):=match it with
 | .list l=>match h[l]? with
  | some (.list vs)=>some vs[i]?
  | _=>none
 | .tup vs=>some vs[i]?
 | .dict l n=>match h[l]? with
  | some (.dict es)=>if es.length = n then some (es[i]?.map fun e=>.str e.1) else none
  | _=>none
 | .str cs=>some (cs[i]?.map fun c=>.str [c])
 | .rng k=>some (if i < k then some (.int i) else none)
noncomputable def ItR (ρ:List Addr) (h:Heap) (it:It) (i:Nat) (a:Addr):Prop:=match it with
 | .list l=>∃ la,ρ[l]? = some la∧h.IsListIter a la i
 | .tup vs=>∃ ta items,h.IsTupleIter a ta i∧h.IsTuple ta items∧VRs ρ h vs items.toList
 | .dict l n=>∃ da,ρ[l]? = some da∧h.IsKeyIter a da i n n
 | .str cs=>∃ t,h.IsStrIter a "str_ascii_iterator" ⟨cs.toArray⟩ t i
 | .rng k=>∃ x left:Int,x = i∧left = (k:Int) - i∧IsRangeIter h a x left 1
theorem ItR.fields {ρ:List Addr} {h:Heap} {it:It} {i:Nat} {a:Addr} (x:ItR ρ h it i a):∃ o vs,h.get? a = some o∧o.data = .fields vs∧(∃ T,o.cls = .type T∧T∈["list_iterator","tuple_iterator","dict_keyiterator","str_ascii_iterator","range_iterator"]):=by
 cases it with
 | list l=>refine cX1 x fun la yA=>cA2 yA fun _ yB=>cX1 yB fun o yC=>cA3 yC fun h1 h2 h3=>?_; clear x yA yB yC; exact ⟨o,_,h1,h3,_,h2,by simp⟩
 | tup vs=>refine cX2 x fun la _ yA=>cA2 yA fun yB _=>cX1 yB fun o yC=>cA3 yC fun h1 h2 h3=>?_; clear x yA yB yC; exact ⟨o,_,h1,h3,_,h2,by simp⟩
 | dict l n=>refine cX1 x fun la yA=>cA2 yA fun _ yB=>cX1 yB fun o yC=>cA3 yC fun h1 h2 h3=>?_; clear x yA yB yC; exact ⟨o,_,h1,h3,_,h2,by simp⟩
 | str cs=>refine cX2 x fun t o yA=>cA3 yA fun h1 h2 h3=>?_; clear x yA; exact ⟨o,_,h1,h3,_,h2,by simp⟩
 | rng k=>refine cX2 x ?_; clear x; intro x l yA; refine cA3 yA fun _ _ h1=>?_; clear yA; exact ⟨_,_,h1,rfl,_,rfl,by simp⟩
theorem ItR.mono {ρ ρ':List Addr} {h h':Heap} {it:It} {i:Nat} {a:Addr} (x:ItR ρ h it i a) (p:ρ <+: ρ') (k:∀ a o,h.get? a = some o→k4z o→h'.get? a = some o) (ka:∀ o,h.get? a = some o→h'.get? a = some o):ItR ρ' h' it i a:=by
 have pr:∀ (n:Nat) (b:Addr),ρ[n]? = some b→ρ'[n]? = some b:=fun n b e=>by
  refine cX1 p fun r yA=>?_; clear p; subst yA
  rw [w0D (w0v.mp e).1]; exact e
 cases it with
 | list l=>refine cX1 x fun la yA=>cA2 yA fun e yB=>cX1 yB fun o yC=>cA2 yC fun h1 h2=>?_; clear x yA yB yC; exact ⟨la,pr _ _ e,o,ka _ h1,h2⟩
 | tup vs=>refine cX2 x fun la items yA=>cA3 yA fun yB yC hv=>cX1 yB fun o yD=>cA2 yD fun h1 h2=>cX1 yC fun ot yE=>cA3 yE fun g1 g2 yF=>cX1 yF fun m g3=>?_; clear x yA yB yD yC yE yF; exact ⟨la,items,⟨o,ka _ h1,h2⟩,⟨ot,k _ _ g1 ⟨g2,_,m,g3⟩,g2,m,g3⟩,hv.mono p k⟩
 | dict l n=>refine cX1 x fun la yA=>cA2 yA fun e yB=>cX1 yB fun o yC=>cA2 yC fun h1 h2=>?_; clear x yA yB yC; exact ⟨la,pr _ _ e,o,ka _ h1,h2⟩
 | str cs=>refine cX2 x fun t o yA=>cA2 yA fun h1 h2=>?_; clear x yA; exact ⟨t,o,ka _ h1,h2⟩
 | rng k=>refine cX2 x ?_; clear x; intro x l yA; refine cA3 yA fun e1 e2 h1=>?_; clear yA; exact ⟨x,l,e1,e2,ka _ h1⟩
section
variable {C:k1J} {F:Fm} {n:Nat}
noncomputable def k6C (C:k1J) (F:Fm) (ρ:List Addr) (a:Addr):Prop:=a∉ρ∧a∉F.mods∧a∉F.fs
theorem k1O.sideOf {ρ:List Addr} {reg:Reg} {H:Hp} {s:Shared} (inv:k1O C F ρ reg H s) {a:Addr} {o:Obj} {vs:Array Value} (e:s.heap.get? a = some o) (d:o.data = .fields vs):k6C C F ρ a:=by
 refine ⟨fun q=>?_,fun q=>?_,inv.toCInv.offFrs e fun es m q=>by rw [d] at q; cases q⟩
 ·refine cX1 (inv.hm.data q) fun ob yA=>cA4 yA fun e' _ nf _=>?_; clear yA
  rw [e] at e'; refine k1f e' fun yA=>?_; clear e'; subst yA; exact nf vs d
 ·refine cA2 (inv.off a q) fun _ yA=>cX1 yA fun ob yB=>cA2 yB fun e' oo=>?_; clear yA yB
  rw [e] at e'; refine k1f e' fun yA=>?_; clear e'; subst yA; exact oo.notFields vs d
theorem k1O.side (ok:F.Ok C) {ρ:List Addr} {reg:Reg} {H:Hp} {s:Shared} (inv:k1O C F ρ reg H s) {a:Addr} (sd:k6C C F ρ a) (hb:C.base.get? a = none) (nt:∀ o,s.heap.get? a = some o→¬ k4z o) {h':Heap} {t:Nat} (k:∀ b o,b≠a→s.heap.get? b = some o→h'.get? b = some o) :
  k1O C F ρ reg H { s with heap:=h',toks:=t }∧∀ c o,s.heap.get? c = some o→k4z o→h'.get? c = some o:=by
 have tup:∀ c o,s.heap.get? c = some o→k4z o→h'.get? c = some o:=fun c o e z=>k c o (fun q=>nt o (q ▸ e) z) e
 refine ⟨{ sh:=by rw [inv.sh],base:=fun b o e=>k b o (fun q=>by rw [q,hb] at e; exact kNS e) (inv.base b o e),hm:=⟨inv.hm.len,inv.hm.nodup,fun i b o e1 e2=>(inv.hm.obj i b o e1 e2).mono (w0m _) tup fun ob e=>k b ob (fun q=>sd.1 (q ▸ w0z e1)) e,inv.hm.fresh,inv.hm.notSys⟩,frs:=?_,ns:=?_,off:=?_,rm:=?_,cl:=?_ },tup⟩
 ·intro e he
  refine cA2 (inv.frs e he) fun k1 yA=>cX4 yA fun L oL es m yB=>cA5 yB fun h1 h2 h3 h4 h5=>?_; clear yA yB
  exact ⟨k1,L,oL,es,m,h1,h2,h3,k L oL (fun q=>sd.2.2 (w0T.mpr ⟨e,he,q ▸ h1⟩)) h4,h5⟩
 ·refine cX4 inv.ns fun m o es ep yA=>cA2 yA fun h1 h2=>?_; clear yA
  exact ⟨m,o,es,ep,k _ _ (fun q=>sd.2.1 (q ▸ ok.lmod)) h1,h2⟩
 ·intro b hb'
  refine cA2 (inv.off b hb') fun n1 yA=>cX1 yA fun o yB=>cA2 yB fun e oo=>?_; clear yA yB
  exact ⟨n1,o,k b o (fun q=>sd.2.1 (q ▸ hb')) e,oo⟩
 ·intro i z V e1 e2
  refine cX1 (inv.rm i z V e1 e2) fun v yA=>cA2 yA fun va vr=>?_; clear yA
  refine ⟨v,?_,vr.mono (w0m _) tup⟩
  refine Or.elim va (fun yY=>?_) fun yZ=>?_ <;> clear va; rotate_left; (refine cA2 yZ fun e yA=>cX2 yA fun c oc yB=>cA3 yB fun l g d=>?_; clear yZ yA yB); rotate_right; (refine cA2 yY fun e yA=>cX1 yA fun m yB=>cA2 yB fun yC q=>cX3 yC fun o es ep yD=>cA2 yD fun h1 h2=>?_; clear yY yA yB yC yD)
  ·exact .inl ⟨e,m,⟨o,es,ep,k _ _ (fun q=>sd.2.1 (q ▸ ok.lmod)) h1,h2⟩,q⟩
  ·exact .inr ⟨e,c,oc,l,k _ _ (fun q=>sd.2.1 (q ▸ ok.cin _ _ l)) g,d⟩
 ·intro y c e1 e2
  refine cA2 (inv.cl y c e1 e2) fun m yA=>cX2 yA fun v o yB=>cA2 yB fun g d=>?_; clear yA yB
  exact ⟨m,v,o,k _ _ (fun q=>sd.2.1 (q ▸ m)) g,d⟩
theorem k5d.at {ρ:List Addr} {h:Heap} {es:List (List Nat × V)} {kvs:List (Str × Value)} (x:k5d ρ h es kvs):∀ {i:Nat} {p:List Nat × V},es[i]? = some p→∃ v,kvs[i]? = some ((⟨p.1.toArray⟩:Str),v)∧VR ρ h p.2 v:=by
 induction x with
 | nil=>intro i p hx; simp at hx
 | cons h1 h2 ih =>
  intro i p hx
  cases i with
  | zero=>simp at hx; subst hx; exact ⟨_,rfl,h1⟩
  | succ j=>simp at hx ⊢; exact ih hx
set_option tactic.hygienic true in
theorem z3y {prog:Program} {w:World} {A:Around} {ρ:List Addr} {reg:Reg} {H:Hp} {s:Shared} {it:It} {i:Nat} {a:Addr} {r:Option V} {Q:Option Value→Shared→Prop} {E:Value→Shared→Prop} (hp:C.prog = prog) (hw:C.w = w) (hh:A.handled = none) (inv:k1O C F ρ reg H s) (hit:ItR ρ s.heap it i a) (e:k1Z it i H = some r)
  (hQ:∀ o h' t,(∀ b ob,b≠a→s.heap.get? b = some ob→h'.get? b = some ob)→(match r with
   | some V=>∃ v,o = some v∧(∀ ρ' h'',ρ <+: ρ'→(∀ a o,s.heap.get? a = some o→k4z o→h''.get? a = some o)→VR ρ' h'' V v)∧ItR ρ h' it (i + 1) a∧∃ ob,h'.get? a = some ob
   | none=>o = none)→Q o { s with heap:=h',toks:=t }):wpAny (model prog w) A (pyNext (.ref a)) Q E s:=by
 subst hp hw
 cases it with
 | list l =>
  refine cX1 hit fun la yA=>cA2 yA fun hla hi=>?_; clear hit yA
  simp only [k1Z] at e
  split at e
  ·rename_i vs hl
   refine k1f e fun yA=>?_; clear e; subst yA
   refine cX1 (inv.hm.obj l la _ hla hl) fun items yA=>cA2 yA fun pl hvs=>?_; clear yA
   cases hx:vs[i]? with
   | some V =>
    refine cX1 (hvs.get hx) fun v yA=>cA2 yA fun hv1 hv2=>?_; clear yA
    refine wpAny_pyNext_list_item hi pl.isList (by simpa using hv1) fun h' hi' sb=>hQ _ h' s.toks (fun b ob q e=>by rw [sb.2 b q]; exact e) ?_
    rw [hx]
    exact ⟨v,rfl,fun ρ' h'' p k=>hv2.mono p k,⟨la,hla,hi'⟩,cX1 hi' fun o w=>⟨o,w.1⟩⟩
   | none =>
    have:items[i]? = none:=by
     rw [w1V] at hx ⊢
     rw [← hvs.length]; exact hx
    refine wpAny_pyNext_list_end hh hi pl.isList (by simpa using this) fun h' ext=>hQ _ h' s.toks (fun b ob q e=>ext b ob q e) ?_
    rw [hx]
  ·exact kNS e
 | tup vs =>
  refine cX2 hit fun ta items yA=>cA3 yA fun hi ht hvs=>?_; clear hit yA
  simp only [k1Z,Option.some.injEq] at e
  subst e
  cases hx:vs[i]? with
  | some V =>
   refine cX1 (hvs.get hx) fun v yA=>cA2 yA fun hv1 hv2=>?_; clear yA
   refine wpAny_pyNext_tuple_item hi ht (by simpa using hv1) fun h' hi' sb=>hQ _ h' s.toks (fun b ob q e=>by rw [sb.2 b q]; exact e) ?_
   rw [hx]
   have tup:∀ c o,s.heap.get? c = some o→k4z o→h'.get? c = some o:=fun c o e z=>by
    rw [sb.2 c (fun q=>?_)]
    ·exact e
    ·refine cX1 hi fun o1 yA=>cA3 yA fun g1 _ g3=>?_; clear hi yA
     subst q
     rw [g1] at e; refine k1f e fun yA=>?_; clear e; subst yA
     refine cX2 z.2 fun l m d=>?_
     rw [g3] at d; cases d
   exact ⟨v,rfl,fun ρ' h'' p k=>hv2.mono p k,⟨ta,items,hi',cX1 ht fun o w=>⟨o,tup _ _ w.1 ⟨w.2.1,_,w.2.2⟩,w.2⟩,hvs.mono (w0m _) tup⟩,cX1 hi' fun o w=>⟨o,w.1⟩⟩
  | none =>
   have:items.toList[i]? = none:=by
    rw [w1V] at hx ⊢
    rw [← hvs.length]; exact hx
   refine wpAny_pyNext_tuple_end hh hi ht (by simpa using this) fun h' ext=>hQ _ h' s.toks (fun b ob q e=>ext b ob q e) ?_
   rw [hx]
 | dict l m =>
  refine cX1 hit fun da yA=>cA2 yA fun hda hi=>?_; clear hit yA
  simp only [k1Z] at e
  split at e
  ·rename_i es hl
   split at e
   ·rename_i hlen
    refine k1f e fun yA=>?_; clear e; subst yA
    refine cX1 (inv.hm.obj l da _ hda hl) fun kvs yA=>cA2 yA fun hat hent=>?_; clear yA
    have hm:kvs.length = m:=by rw [← hent.length]; exact hlen
    subst hm
    cases hx:es[i]? with
    | some p =>
     have hk:=hent.at hx
     refine cX1 hk fun v yA=>cA2 yA fun hv _=>?_; clear hk yA
     refine wpAny_pyNext_dict_item hi hat hv fun key h' hkey hi' sb=>hQ _ h' s.toks (fun b ob q e=>by rw [sb.2 b q]; exact e) ?_
     rw [hx]
     refine cX1 (Value.isStrOf_shape hkey) fun t yA=>?_; subst yA
     exact ⟨_,rfl,fun ρ' h'' p k=>.str _ _,⟨da,hda,hi'⟩,cX1 hi' fun o w=>⟨o,w.1⟩⟩
    | none =>
     have:kvs[i]? = none:=by
      rw [w1V] at hx ⊢
      rw [← hent.length]; exact hx
     refine wpAny_pyNext_dict_end hh hi hat this fun h' ext=>hQ _ h' s.toks (fun b ob q e=>ext b ob q e) ?_
     rw [hx]; rfl
   ·exact kNS e
  ·exact kNS e
 | str cs =>
  refine cX1 hit fun t hi=>?_; clear hit
  simp only [k1Z,Option.some.injEq] at e
  subst e
  cases hx:cs[i]? with
  | some c =>
   refine wpAny_pyNext_ascii_item hi (c:=c) (by simpa using hx) fun h' hi' sb=>hQ _ h' (s.toks + 1) (fun b ob q e=>by rw [sb.2 b q]; exact e) ?_
   rw [hx]
   exact ⟨_,rfl,fun ρ' h'' p k=>.str [c] _,⟨t,hi'⟩,cX1 hi' fun o w=>⟨o,w.1⟩⟩
  | none =>
   refine wpAny_pyNext_ascii_end hh hi (by simpa using hx) fun h' ext=>hQ _ h' s.toks (fun b ob q e=>ext b ob q e) ?_
   rw [hx]; rfl
 | rng k =>
  refine cX2 hit fun x left yA=>cA3 yA fun yB=>?_; clear hit yA; subst yB; intro yC; subst yC; intro hi
  simp only [k1Z,Option.some.injEq] at e
  subst e
  by_cases hx:i < k
  ·refine wpAny_pyNext_range_item hi (by lia) fun h' hi' sb=>hQ _ h' (s.toks + 1) (fun b ob q e=>by rw [sb.2 b q]; exact e) ?_
   rw [if_pos hx]
   exact ⟨_,rfl,fun ρ' h'' p k=>.int _ _,⟨_,_,by lia,by lia,hi'⟩,⟨_,hi'⟩⟩
  ·refine wpAny_pyNext_range_end hh hi (by lia) fun h' ext=>hQ _ h' s.toks (fun b ob q e=>ext b ob q e) ?_
   rw [if_neg hx]
end
theorem k5Q {h h':Heap} {a:Addr} {m:Str→Option Value} (x:h.Ns a m) (k:∀ o,h.get? a = some o→(∀ vs,o.data≠.fields vs)→∃ sl,h'.get? a = some { o with slots:=sl }):h'.Ns a m:=by
 refine cX3 x fun o es ep yA=>cA3 yA fun h1 h2 h3=>?_; clear x yA
 refine cX1 (k o h1 fun vs q=>by rw [h2] at q; cases q) fun sl e=>?_
 exact ⟨_,es,ep,e,h2,h3⟩
section
variable {C:k1J} {F:Fm} {n:Nat}
theorem k1O.thenX {ρ:List Addr} {reg:Reg} {H:Hp} {h₀:Heap} {s:Shared} (x:k1O C F ρ reg H s) {h':Heap} (y:k6D F.fs h₀ s.heap h') (kb:C.base.StaysIn h'):k1O C F ρ [] H { s with heap:=h' } where
 toCInv:=x.toCInv.thenX y kb
 ns:=cX1 x.ns fun m z=>⟨m,k5Q z fun o e d=>y.frame _ o e (.inl d)⟩
 off:=fun a ha=>by
  refine cA2 (x.off a ha) fun n1 yA=>cX1 yA fun o yB=>cA2 yB fun e oo=>?_; clear yA yB
  refine cX1 (y.frame a o e (.inl oo.notFields)) fun sl e'=>?_
  exact ⟨n1,_,e',oo⟩
 rm:=fun i z V Y e=>by simp at e
 cl:=fun z c e1 e2=>by
  refine cA2 (x.cl z c e1 e2) fun m yA=>cX2 yA fun v o yB=>cA2 yB fun g d=>?_; clear yA yB
  refine cX1 (y.frame c o g (.inl fun vs q=>by rw [d] at q; cases q)) fun sl e'=>?_
  exact ⟨m,v,_,e',d⟩
theorem QE.note {A:Around} {ρ:List Addr} {h₀:Heap} {β:Type} {P:Po β} {e:Value} {s':Shared} {L:Addr} (hst:∃ outer,F.stack = F.env :: outer) (hA:A.frames = some F.stack) (hf:F.env.frame = some L) (h:QE C F P ρ h₀ e s')
  {Q:Unit→Shared→Prop} {E:Value→Shared→Prop} (hQ:∀ x ea ρ' H' s'',P (.error x) H'→e = .ref ea→k1O C F ρ' [] H' s''→ExS C h₀ s''.heap x ea (some (rawInt L))→k1m F.fs F.mods ρ ρ' h₀ s''.heap→Q () s''):wpAny (model C.prog C.w) A (noteFrame e F.env) Q E s':=by
 refine cX1 hst ?_; clear hst; intro outer hst
 obtain ⟨x,ρ',H',p,inv,⟨ea,rfl,ex⟩,st⟩:=h
 have hs:CInv C (F.env :: outer) ρ' H' s':=hst ▸ inv.toCInv
 refine noteX (C:=C) (h₀:=h₀) (x:=x) (outer:=outer) (L:=L) (hA.trans (by rw [hst])) hf hs st.alive ?_ fun h' y kb m'=>?_
 ·refine Or.elim ex ?_ ?_ <;> clear ex; rotate_left; (intro yZ; refine Or.elim yZ ?_ ?_ <;> clear yZ; rotate_left; (intro yZ; refine cX1 yZ fun Lf yA=>cA2 yA fun hLf ex=>?_; clear yZ yA); rotate_right; intro ex); rotate_right; intro ex
  ·exact .inl ex
  ·exact .inr (.inl ex)
  ·rw [hf] at hLf; refine k1f hLf fun yA=>?_; clear hLf; subst yA; exact .inr (.inr ex)
 ·have y':k6D F.fs h₀ s'.heap h':=by
   have:F.fs = (F.env :: outer).filterMap (·.frame):=by unfold Fm.fs; rw [hst]
   rw [this]; exact y
  exact hQ x ea ρ' H' _ p rfl (inv.thenX y' kb) m' (st.thenX y' inv.toCInv.tupOff)
theorem loopX {A A':Around} {ρ:List Addr} {h₀:Heap} {β:Type} {P:Po β} {e:Value} {s':Shared} (hst:∃ outer,F.stack = F.env :: outer) (hA:A'.frames = some F.stack) (hf:∃ L,F.env.frame = some L) (h:QE C F P ρ h₀ e s') :
  notedBy (model C.prog C.w) A' F.env (cameBackBy (model C.prog C.w) A F.env (QE C F P ρ h₀)) e s':=by
 refine cX1 hf ?_; clear hf; intro L hf
 unfold notedBy
 refine QE.note hst hA hf h fun x ea ρ' H' s'' p e inv' m' st'=>?_
 subst e
 unfold cameBackBy
 refine cX2 (id m') fun oe vs yA=>cA8 yA fun e2 e3 e4 e5 e6 e7 e7' yB=>cX3 yB fun T oT ts yC=>cA2 yC fun t1 t2=>?_; clear yA yB yC
 refine wpAny_bind (wpAny_field e4 e6 t1 ?_)
 rw [if_neg (by simp)]
 show wpAny _ _ (setFlight (.ref ea) F.env.frame) _ _ _
 rw [hf]
 exact z0C (fs:=F.fs) inv'.toCInv (some L) m' fun h'' y'' kb' m''=>⟨x,ρ',H',p,inv'.thenX y'' kb',⟨ea,rfl,.inr (.inr ⟨L,hf,m''⟩)⟩,st'.thenX y'' inv'.toCInv.tupOff⟩
theorem k1m.side {fs mods ρ ρ':List Addr} {h₀ h h':Heap} (x:k1m fs mods ρ ρ' h₀ h) {a:Addr} (ha:h₀.get? a = none) (k:∀ b o,b≠a→h.get? b = some o→h'.get? b = some o):k1m fs mods ρ ρ' h₀ h' where
 pre:=x.pre
 new:=x.new
 alive:=fun b o e=>by
  refine cX1 (x.alive b o e) fun o' e'=>?_
  exact ⟨o',k b o' (fun q=>by rw [q,ha] at e; exact kNS e) e'⟩
 tup:=fun b o e c=>k b o (fun q=>by rw [q,ha] at e; exact kNS e) (x.tup b o e c)
 keep:=fun b o e n1 n2 c=>k b o (fun q=>by rw [q,ha] at e; exact kNS e) (x.keep b o e n1 n2 c)
 frame:=fun b o e n1 n2=>by
  refine cX1 (x.frame b o e n1 n2) fun sl e'=>?_
  exact ⟨sl,k b _ (fun q=>by rw [q,ha] at e; exact kNS e) e'⟩
noncomputable def k8C (C:k1J) (F:Fm) (n:Nat) (iter:Expr) (ci:Reg→X It):Prop :=
 ∀ A ρ reg H s,k7Y n A F→k1O C F ρ reg H s→k0e C F A ρ H s (eval iter F.env) (ci reg) (fun it x ρ' H' s'=>k1O C F ρ' reg H' s' ∧
  ∀ (Q:Value→Shared→Prop) (E:Value→Shared→Prop),(∀ a h',s'.heap.get? a = none→(∀ b o,s'.heap.get? b = some o→h'.get? b = some o)→ItR ρ' h' it 0 a→Q (.ref a) { s' with heap:=h' })→wpAny (model C.prog C.w) A (pyIter x) Q E s')
noncomputable def z1y (rest:Reg→X (Fl × Reg)) (p:Fl × Reg):X (Fl × Reg):=match p.1 with
 | .next | .cont=>rest p.2
 | .brk=>Pure.pure (.next,p.2)
 | .ret v=>Pure.pure (.ret v,p.2)
noncomputable def z2D (ct:V→Reg→X Reg) (cb:Reg→X (Fl × Reg)) (rest:Reg→X (Fl × Reg)) (reg:Reg) (o:Option (Option V)):X (Fl × Reg):=match o with
 | none=>X.stuck
 | some none=>Pure.pure (.next,reg)
 | some (some v)=>ct v reg >>= fun reg'=>cb reg' >>= z1y rest
noncomputable def z5f (ct:V→Reg→X Reg) (cb:Reg→X (Fl × Reg)) (it:It):Nat→Nat→Reg→X (Fl × Reg)
 | 0,_,_=>X.stuck
 | k + 1,i,reg=>hide <| z4P fun h=>z2D ct cb (z5f ct cb it k (i + 1)) reg (k1Z it i h)
@[irreducible] noncomputable def k8b (ct:V→Reg→X Reg) (cb:Reg→X (Fl × Reg)) (it:It) (k i:Nat) (reg:Reg):X (Fl × Reg):=z5f ct cb it k i reg
theorem z3z:k8b = z5f:=by funext ct cb it k i reg; unfold k8b; rfl
noncomputable def k5z (ci:Reg→X It) (ct:V→Reg→X Reg) (cb:Reg→X (Fl × Reg)) (reg:Reg):X (Fl × Reg):=ci reg >>= fun it=>k8b ct cb it 64 0 reg
theorem z1z {ρ:List Addr} {s:Shared} {it:It} {i:Nat} {a:Addr} (x:ItR ρ s.heap it i a) {M:Model} {A:Around} {target:Expr} {v:Value} {Q:Unit→Shared→Prop} {E:Value→Shared→Prop} (h:Q () s):wpAny M A (letOwnedTupleGo target (.ref a) v) Q E s:=by
 refine cX2 x.fields fun o vs yA=>cA3 yA fun h1 h2 yB=>cX1 yB fun T yC=>cA2 yC fun h3 h4=>?_; clear yA yB yC
 have key:wpAny M A (do
   let (.ref r,.ref a):=((.ref a,v):Value × Value) | return
   let o ← load r
   match o.cls,o.data with
   | .type n,.fields vs =>
    if ["enumerate","zip","dict_itemiterator","dict_reverseitemiterator","odict_iterator","itertools.zip_longest","itertools.pairwise"].contains n && vs[0]? == some (rawInt a) then
     rule "for.unpacks-the-owned-tuple"
     updateField r 0 .none
   | _,_=>pure ():Sem Unit) Q E s:=by
  cases v with
  | ref b =>
   refine wpAny_bind (wpAny_load h1 ?_)
   rw [h2,h3]
   have:(["enumerate","zip","dict_itemiterator","dict_reverseitemiterator","odict_iterator","itertools.zip_longest","itertools.pairwise"]:List String).contains T = false:=by
    simp only [w0c,w0i,or_false] at h4
    (refine Or.elim h4 (fun yY=>?_) fun yZ=>?_ <;> clear h4; rotate_left; (refine Or.elim yZ ?_ ?_ <;> clear yZ; rotate_left; (intro yZ; refine Or.elim yZ ?_ ?_ <;> clear yZ; rotate_left; (intro yZ; refine Or.elim yZ ?_ ?_ <;> clear yZ; rotate_left; (intro yZ; subst yZ); rotate_right; (intro yY; subst yY)); rotate_right; (intro yY; subst yY)); rotate_right; (intro yY; subst yY)); rotate_right; subst yY) <;> decide
   simp only [this,w1C,w0p,if_false]
   exact wpAny_pure h
  | _=>exact wpAny_pure h
 cases target <;> first | exact key | exact wpAny_pure h
inductive ForI (C:k1J) (F:Fm) (ct:V→Reg→X Reg) (cb:Reg→X (Fl × Reg)) (it:It) (a:Addr) (P:Po (Fl × Reg)) (ρ₁:List Addr) (h₁:Heap) (k:Nat) (s':Shared):Prop
 | mk (i:Nat) (ρ₂:List Addr) (reg₂:Reg) (H₂:Hp) (inv:k1O C F ρ₂ reg₂ H₂ s') (hit:ItR ρ₂ s'.heap it i a) (st:k1m F.fs F.mods ρ₁ ρ₂ h₁ s'.heap) (w:wp (z5f ct cb it k i reg₂) P H₂)
structure TurnB (C:k1J) (F:Fm) (P:Po (Fl × Reg)) (ρ₁:List Addr) (h₁:Heap) (J:Shared→Prop) (B:Flow→Shared→Prop):Prop where
 next:∀ s',J s'→B .next s'
 cont:∀ s',J s'→B .cont s'
 brk:∀ s',PO C F P (QS C F) ρ₁ h₁ .next s'→B .brk s'
 ret:∀ v s',PO C F P (QS C F) ρ₁ h₁ (.ret v) s'→B (.ret v) s'
theorem TurnB.end {P:Po (Fl × Reg)} {ρ₁ ρ₂:List Addr} {h₁ h₂:Heap} {J:Shared→Prop} {B:Flow→Shared→Prop} {rest:Reg→X (Fl × Reg)} (b:TurnB C F P ρ₁ h₁ J B) {f:Flow} {s':Shared} (x:PO C F (bK (z1y rest) P) (QS C F) ρ₂ h₂ f s') (st:k1m F.fs F.mods ρ₁ ρ₂ h₁ h₂)
  (hJ:∀ ρ' reg' H',wp (rest reg') P H'→k1O C F ρ' reg' H' s'→k1m F.fs F.mods ρ₂ ρ' h₂ s'.heap→J s'):B f s':=by
 obtain ⟨⟨fl,reg'⟩,ρ',H',p,⟨q5,q6⟩,st5⟩:=x
 cases q5 with
 | next=>exact b.next s' (hJ ρ' reg' H' p q6 st5)
 | cont=>exact b.cont s' (hJ ρ' reg' H' p q6 st5)
 | brk=>exact b.brk s' ⟨(.next,reg'),ρ',H',p,⟨.next,q6⟩,st.trans st5⟩
 | ret hv=>exact b.ret _ s' ⟨(.ret _,reg'),ρ',H',p,⟨.ret hv,q6⟩,st.trans st5⟩
theorem for_turn (ok:F.Ok C) {target:Expr} {body:List Stmt} {ct:V→Reg→X Reg} {cb:Reg→X (Fl × Reg)} (ht:AOk C F n target ct) (hb:z4O C F n body cb) {A:Around} (room:k7Y n A F) {it:It} {a:Addr} {P:Po (Fl × Reg)} {ρ₁:List Addr} {h₁:Heap} (hn:h₁.get? a = none) (hbn:C.base.get? a = none)
  {E:Value→Shared→Prop} (hE:∀ e s',QE C F P ρ₁ h₁ e s'→E e s') {k:Nat} {s:Shared} (hI:ForI C F ct cb it a P ρ₁ h₁ k s) {B:Flow→Shared→Prop} {Z:Option Value→Shared→Prop} (Z0:∀ s',PO C F P (QS C F) ρ₁ h₁ .next s'→Z none s')
  (Z1:∀ v s',wpAny (model C.prog C.w) A (letOwnedTupleGo target (.ref a) v) (fun Y s₁=>wpAny (model C.prog C.w) A (assign target F.env v) (fun Y s₂=>wpAny (model C.prog C.w) A (execs body F.env) B E s₂) E s₁) E s'→Z (some v) s')
  (hB:TurnB C F P ρ₁ h₁ (fun s'=>∃ m,m < k∧ForI C F ct cb it a P ρ₁ h₁ m s') B):wpAny (model C.prog C.w) A (pyNext (.ref a)) Z E s:=by
 obtain ⟨i,ρ₂,reg₂,H₂,inv2,hit2,st2,e2⟩:=hI
 cases k with
 | zero=>exact False.elim e2
 | succ k =>
  have e3:wp (z2D ct cb (z5f ct cb it k (i + 1)) reg₂ (k1Z it i H₂)) P H₂:=e2.ex
  cases hr:k1Z it i H₂ with
  | none=>rw [hr] at e3; exact False.elim e3
  | some o =>
   rw [hr] at e3
   refine cX2 hit2.fields fun oa va yA=>cA3 yA fun ga da _=>?_; clear yA
   have sd:=inv2.sideOf ga da
   have nt:∀ o,s.heap.get? a = some o→¬ k4z o:=fun o z w=>by
    rw [ga] at z; refine k1f z fun yA=>?_; clear z; subst yA
    refine cX2 w.2 fun l m d=>?_
    rw [da] at d; cases d
   refine z3y rfl rfl room.handled inv2 hit2 hr fun o' h'' t k2 ho=>?_
   refine cA2 (inv2.side ok sd hbn nt (t:=t) k2) fun inv3 tup3=>?_
   have st3:=st2.side hn k2
   cases o with
   | none =>
    subst ho
    exact Z0 _ ⟨(.next,reg₂),ρ₂,H₂,e3,⟨.next,inv3⟩,st3⟩
   | some V =>
    refine cX1 ho fun v yA=>cA4 yA fun yB=>?_; clear ho yA; subst yB; intro hvr hit3 yC; refine cX1 yC fun ob gb=>?_; clear yC
    refine Z1 _ _ (z1z hit3 ?_)
    refine wpAny_mono (k0e.seq (ht A ρ₂ reg₂ H₂ { s with heap:=h'',toks:=t } V v room inv3 (hvr ρ₂ h'' (w0m _) tup3)) e3 fun reg₃ Y ρ₃ H₃ s₃ inv4 st4 e4=>?_) (fun Y Y z=>z) fun e s₄ z=>hE e s₄ (z.after st3)
    have sta:=st3.trans st4
    have hit4:ItR ρ₃ s₃.heap it (i + 1) a:=hit3.mono st4.pre st4.tup fun o z=>st4.keep a o z sd.1 sd.2.1 sd.2.2
    refine wpAny_mono (hb A ρ₃ reg₃ H₃ s₃ room inv4 _ e4) (fun f s₄ z=>hB.end z sta fun ρ₄ reg₄ H₄ w inv5 st5=>?_) fun e s₄ z=>hE e s₄ ((z.to (P':=P) fun Y Y p=>p).after sta)
    refine cX2 hit4.fields fun o4 v4 yA=>cA3 yA fun g4 d4 _=>?_; clear yA
    have sd4:=inv4.sideOf g4 d4
    exact ⟨k,w1d _,i + 1,ρ₄,reg₄,H₄,inv5,hit4.mono st5.pre st5.tup fun o z=>st5.keep a o z sd4.1 sd4.2.1 sd4.2.2,sta.trans st5,w⟩
theorem k1N (ok:F.Ok C) {target iter:Expr} {body:List Stmt} {pos:Pos} {ci:Reg→X It} {ct:V→Reg→X Reg} {cb:Reg→X (Fl × Reg)} (hi:k8C C F n iter ci) (ht:AOk C F n target ct) (hb:z4O C F n body cb)
  (hst:∃ outer,F.stack = F.env :: outer:=by exact ⟨_,rfl⟩) (hs:∀ x,foldedSetIterable iter F.env x = pure x:=by intro _; rfl):SOk C F n (.For target iter body [] pos) (k5z ci ct cb):=by
 intro A ρ reg H s room inv
 rw [exec_For]
 refine k0e.standAt (k0e.bind (hi A ρ reg H s room inv) fun it x ρ₁ H₁ s₁ q st=>?_)
 rw [hs x]
 intro P e
 rw [z3z] at e
 have hf:∃ L,F.env.frame = some L:=let ⟨_,_,L,_,_,h⟩:=ok.fr; ⟨L,h⟩
 refine wpAny_bind (wpAny_pure (wpAny_bind (wpAny_standAt (wpAny_bind (wpAny_holding (q.2 _ _ fun a h' hn ext hit=>wpAny_runOwn ?_))))))
 refine codeAny_forLoop_any (ForI C F ct cb it a P ρ₁ s₁.heap) (fun k s' hI=>?_) 64 ⟨0,ρ₁,reg,H₁,q.1.heap ext,hit,k1m.grow ext,e⟩
 exact for_turn ok ht hb room hn (k4v q.1.toCInv hn) (fun e s' z=>loopX hst room.frames hf z) hI (fun Y z=>wpAny_pure z) (fun Y Y z=>z) ⟨fun Y z=>z,fun Y z=>z,fun Y z=>z,fun Y Y z=>z⟩
end
noncomputable def boot? (C:k1J) (x:Str) (v:Value):Prop:=W.nsIn C.K mainGlobals x = some none∧bootBuiltins x = some v∧x≠"__name__"∧(x == ("__debug__":Str)) = false∧∀ a,v≠.ref a
section
variable {C:k1J} {F:Fm} {n:Nat}
theorem k8D {M:Model} {f:Value} {P:Heap→Prop} (hf:∀ a,f≠.ref a) (h:Heap) (_:P h):∃ k,(k = Keeper.frame∨k = Keeper.machine∨k = Keeper.boundFrame)∧W.Looks M h (keeperOf f) k:=by
 refine ⟨.machine,.inr (.inl rfl),?_⟩
 cases f with
 | ref a=>exact absurd rfl (hf a)
 | _=>exact W.Looks.now
theorem z1A {β:Type} (ok:F.Ok C) (cok:C.Ok) {x:Str} {p pos:Pos} {args:List Expr} {f:Value} {g:List V→X β} {ca:Reg→X (List V)} {Q:β→Value→List Addr→Hp→Shared→Prop} {A:Around} {ρ:List Addr} {reg:Reg} {H:Hp} {s:Shared}
  (room:k7Y n A F) (inv:k1O C F ρ reg H s) (ha:AsOk C F n args ca) (hb:boot? C x f)
  (hf:∀ ρ H s args vals,k1O C F ρ reg H s→VRs ρ s.heap args vals→k0e C F A ρ H s (call f vals) (g args) Q)
  (hx:F.env.kindOf x = some .globalImplicit:=by rfl) (hplain:(starEach args F.env).any (·.1) = false:=by rfl) :
  k0e C F A ρ H s (eval (.Call (.Name x p) args [] pos) F.env) (ca reg >>= g) Q:=by
 intro P e
 refine cA5 hb fun b1 b2 b3 b4 b5=>?_; clear hb
 rw [k5l]
 refine wpAny_bind (k9U ok cok inv hx b1 b2 b3 b4 ?_)
 refine W.callWith_of (P:=fun Y=>True) (by rw [k4b hplain]; rfl) (k8D b5) (k4a (k4b hplain) ?_)
 exact k0e.seq (ha pos A ρ reg H s room inv) e fun vs a ρ' H1 s' q st e'=>⟨trivial,(hf ρ' H1 s' vs a q.1.2 q.1.1).finish e' st⟩
theorem k2i (ok:F.Ok C) (cok:C.Ok) {x:Str} {p pos:Pos} {args:List Expr} {f:Value} {g:List V→X V} {ca:Reg→X (List V)} (hf:z4U C F n f g) (ha:AsOk C F n args ca) (hb:boot? C x f)
  (hx:F.env.kindOf x = some .globalImplicit:=by rfl) (hplain:(starEach args F.env).any (·.1) = false:=by rfl) :
  EOk C F n (.Call (.Name x p) args [] pos) (k3w g ca):=fun A ρ reg H s room inv =>
 z1A ok cok room inv ha hb (fun ρ H s args vals inv hv=>hf A ρ reg H s args vals room inv hv) hx hplain
noncomputable def z5g (v:V):X It:=match v with
 | .loc l=>⟨fun Q h=>oK h[l]? (fun o=>match o with
  | .list _=>Q (.ok (.list l)) h
  | .dict es=>Q (.ok (.dict l es.length)) h
  | _=>False),fun q x=>k2Y (fun o z=>match o,z with
   | .list _,z=>q _ _ z
   | .dict _,z=>q _ _ z) x⟩
 | .tup vs=>Pure.pure (.tup vs)
 | .str cs=>when (cs.all (· < 128)) (Pure.pure (.str cs))
 | _=>X.stuck
noncomputable def k5c (c:Reg→X V) (reg:Reg):X It:=c reg >>= fun v=>z5g v
noncomputable def z5h:List V→X It:=args1 fun a=>onInt (fun k=>when (0≤k∧k < 4096) (Pure.pure (.rng k.toNat))) a
noncomputable def k5B (ca:Reg→X (List V)) (reg:Reg):X It:=ca reg >>= fun vs=>z5h vs
theorem k1v {iter:Expr} {c:Reg→X V} (h:EOk C F n iter c):k8C C F n iter (k5c c):=by
 intro A ρ reg H s room inv P e
 refine k0e.seq (h A ρ reg H s room inv) e fun V v ρ₁ H₁ s₁ q st e'=>?_
 refine cA2 q fun hv inv1=>?_; clear q
 have grow:∀ (o:Obj) b ob,s₁.heap.get? b = some ob→(s₁.heap.push o).get? b = some ob:=fun o b ob e=>Heap.get?_push_of_some _ e
 cases V with
 | loc l =>
  refine VR.eLoc hv fun la hla=>k5Z e' fun o hl e1=>?_
  cases o with
  | list vs =>
   refine cX1 (inv1.hm.obj l la _ hla hl) fun items yA=>cA2 yA fun pl _=>?_; clear yA
   refine ⟨.list l,ρ₁,H₁,e1,⟨inv1,fun Q E hQ=>wpAny_pyIter_list pl.isList (hQ _ _ (k3v _ (w0l _)) (grow _) ?_)⟩,st⟩
   exact ⟨la,hla,_,Heap.get?_push_size _ rfl,rfl,rfl⟩
  | dict es =>
   refine cX1 (inv1.hm.obj l la _ hla hl) fun kvs yA=>cA2 yA fun hat hent=>?_; clear yA
   refine ⟨.dict l es.length,ρ₁,H₁,e1,⟨inv1,fun Q E hQ=>wpAny_pyIter_dict (inv1.hm.notSys la (w0z hla)) hat (hQ _ _ (k3v _ (w0l _)) (grow _) ?_)⟩,st⟩
   refine ⟨la,hla,_,Heap.get?_push_size _ rfl,rfl,?_⟩
   rw [hent.length]; rfl
  | _=>exact False.elim e1
 | tup vs =>
  refine VR.eTup hv fun la items ht hvs=>?_
  refine ⟨.tup vs,ρ₁,H₁,e',⟨inv1,fun Q E hQ=>wpAny_pyIter_tuple ht (hQ _ _ (k3v _ (w0l _)) (grow _) ?_)⟩,st⟩
  refine cX1 ht fun o yA=>cA3 yA fun h1 h2 yB=>cX1 yB fun m h3=>?_; clear ht yA yB
  exact ⟨la,items.toArray,⟨_,Heap.get?_push_size _ rfl,rfl,rfl⟩,⟨o,grow _ _ _ h1,h2,m,h3⟩,hvs.mono (w0m _) fun a o e Y=>grow _ a o e⟩
 | str cs =>
  refine VR.eStr hv fun t=>?_
  refine ⟨.str cs,ρ₁,H₁,e'.2,⟨inv1,fun Q E hQ=>wpAny_pyIter_ascii (by simpa using e'.1) (hQ _ _ (k3v _ (w0l _)) (grow _) ?_)⟩,st⟩
  exact ⟨t,_,Heap.get?_push_size _ rfl,rfl,rfl⟩
 | _=>exact False.elim e'
theorem k5f (ok:F.Ok C) (cok:C.Ok) {p pos:Pos} {arg:Expr} {ca:Reg→X (List V)} (ha:AsOk C F n [arg] ca) (hb:boot? C "range" (.type "range")) (hx:F.env.kindOf "range" = some .globalImplicit:=by rfl) (hplain:(starEach [arg] F.env).any (·.1) = false:=by rfl) :
  k8C C F n (.Call (.Name "range" p) [arg] [] pos) (k5B ca):=by
 intro A ρ reg H s room inv
 refine z1A ok cok room inv ha hb (fun ρ H s args vals inv hv=>?_) hx hplain
 refine k0e.args1 fun a ea=>k0e.onInt fun k ek=>k0e.when fun hk=>?_
 subst ea ek
 refine VRs.eCons hv fun Y Y h1 h2=>?_
 refine VRs.iNil h2 fun yA=>?_; clear h2; subst yA
 refine VR.eInt h1 fun tk=>?_
 refine k0e.prim0 (call_range_1 ?_)
 have grow:∀ b ob,s.heap.get? b = some ob→(s.heap.push { cls:=.type "range",data:=.fields #[.int 0 s.toks,.int k tk,.int 1 (s.toks + 1)] }).get? b = some ob:=fun b ob e=>Heap.get?_push_of_some _ e
 refine ⟨ρ,⟨inv.grow (t:=s.toks + 1 + 1) grow,fun Q E hQ=>?_⟩,k1m.grow grow⟩
 have hr:=IsRange.new s.heap 0 k 1 s.toks tk (s.toks + 1)
 refine wpAny_pyIter_range hr (small_one (by lia) (by lia) (by lia) (by lia)) (hQ _ _ (k3v _ (w0l _)) (fun b o e=>Heap.get?_push_of_some _ e) ?_)
 refine ⟨0,k,rfl,by lia,?_⟩
 have:Builtin.Range.rangeSize 0 k 1 = k:=by
  rw [rangeSize_one]; split <;> lia
 rw [this]
 exact Heap.get?_push_size _ rfl
noncomputable def k8E (ctest:Reg→X Bool) (cb:Reg→X (Fl × Reg)):Nat→Reg→X (Fl × Reg)
 | 0,_=>X.stuck
 | k + 1,reg=>hide <| ctest reg >>= fun b=>if b then cb reg >>= z1y (k8E ctest cb k) else Pure.pure (.next,reg)
@[irreducible] noncomputable def k7F (ctest:Reg→X Bool) (cb:Reg→X (Fl × Reg)) (k:Nat) (reg:Reg):X (Fl × Reg):=k8E ctest cb k reg
theorem z4h:k7F = k8E:=by funext ctest cb k reg; unfold k7F; rfl
noncomputable def z5i (ctest:Reg→X Bool) (cb:Reg→X (Fl × Reg)) (reg:Reg):X (Fl × Reg):=k7F ctest cb 64 reg
inductive z5j (C:k1J) (F:Fm) (ctest:Reg→X Bool) (cb:Reg→X (Fl × Reg)) (P:Po (Fl × Reg)) (ρ₁:List Addr) (h₁:Heap) (k:Nat) (s':Shared):Prop
 | mk (ρ₂:List Addr) (reg₂:Reg) (H₂:Hp) (inv:k1O C F ρ₂ reg₂ H₂ s') (st:k1m F.fs F.mods ρ₁ ρ₂ h₁ s'.heap) (w:wp (k8E ctest cb k reg₂) P H₂)
theorem z4i {test:Expr} {body:List Stmt} {ctest:Reg→X Bool} {cb:Reg→X (Fl × Reg)} (ht:TOk C F n test ctest) (hb:z4O C F n body cb) {A:Around} (room:k7Y n A F) {P:Po (Fl × Reg)} {ρ₁:List Addr} {h₁:Heap}
  {E:Value→Shared→Prop} (hE:∀ e s',QE C F P ρ₁ h₁ e s'→E e s') {k:Nat} {s:Shared} (hI:z5j C F ctest cb P ρ₁ h₁ k s) {B:Flow→Shared→Prop}
  {Z:Bool→Shared→Prop} (Z0:∀ s',PO C F P (QS C F) ρ₁ h₁ .next s'→Z false s') (Z1:∀ s',wpAny (model C.prog C.w) A (execs body F.env) B E s'→Z true s')
  (hB:TurnB C F P ρ₁ h₁ (fun s'=>∃ m,m < k∧z5j C F ctest cb P ρ₁ h₁ m s') B):wpAny (model C.prog C.w) A (isTrue test F.env (eval test F.env)) Z E s:=by
 obtain ⟨ρ₂,reg₂,H₂,inv2,st2,e2⟩:=hI
 cases k with
 | zero=>exact False.elim e2
 | succ k =>
  have e3:wp (ctest reg₂ >>= fun b=>if b then cb reg₂ >>= z1y (k8E ctest cb k) else Pure.pure (.next,reg₂)) P H₂:=e2.ex
  refine wpAny_mono (k0e.seq (ht A ρ₂ reg₂ H₂ s room inv2) e3 fun b b' ρ₃ H₃ s₃ q3 st3 e4=>?_) (fun Y Y z=>z) fun e s₄ z=>hE e s₄ (z.after st2)
  refine cA2 q3 fun yA=>?_; clear q3; subst yA; intro inv3
  have sta:=st2.trans st3
  cases b with
  | false=>exact Z0 _ ⟨(.next,reg₂),ρ₃,H₃,e4,⟨.next,inv3⟩,sta⟩
  | true =>
   refine Z1 _ (wpAny_mono (hb A ρ₃ reg₂ H₃ s₃ room inv3 _ e4) (fun f s₄ z=>hB.end z sta fun ρ₄ reg₄ H₄ w inv5 st5=>?_) fun e s₄ z=>hE e s₄ ((z.to (P':=P) fun Y Y p=>p).after sta))
   exact ⟨k,w1d _,ρ₄,reg₄,H₄,inv5,sta.trans st5,w⟩
theorem z5k (ok:F.Ok C) {test:Expr} {body:List Stmt} {pos:Pos} {ctest:Reg→X Bool} {cb:Reg→X (Fl × Reg)} (ht:TOk C F n test ctest) (hb:z4O C F n body cb)
  (hst:∃ outer,F.stack = F.env :: outer:=by exact ⟨_,rfl⟩):SOk C F n (.While test body [] pos) (z5i ctest cb):=by
 intro A ρ reg H s room inv P e
 have e:wp (k7F ctest cb 64 reg) P H:=e
 rw [z4h] at e
 have hf:∃ L,F.env.frame = some L:=let ⟨_,_,L,_,_,h⟩:=ok.fr; ⟨L,h⟩
 refine wpAny_While ?_
 refine codeAny_whileLoop (z5j C F ctest cb P ρ s.heap) (fun k s' hI=>?_) 64 ⟨ρ,reg,H,inv,k1m.refl _ _ _ _,e⟩
 exact z4i ht hb room (fun e s' z=>loopX hst room.frames hf z) hI (fun Y z=>wpAny_pure z) (fun Y z=>z) ⟨fun Y z=>z,fun Y z=>z,fun Y z=>z,fun Y Y z=>z⟩
end
structure k3y (F:Fm) (scope:Scope) (cl:List (Str × Addr)) (tn:List Str) (idx:List Nat):Prop where
 kind:scope.kind = .function
 clos:closureFor scope F.env = pure cl
 cell:∀ y∈scope.names,y.2≠.cell
 hnames:∀ x∈scope.names,x.2 = .local→scope.names.lookup x.1 = some .local
 capk:∀ p∈cl,F.env.kindOf p.1 = some .cell∧F.env.cells.lookup p.1 = some p.2
 kin:∀ p∈cl,(relabel scope F.env).names.lookup p.1 = some .cell
 nd:(tn ++ cl.map (·.1)).Nodup
 idx:idx.map (fun i=>F.names[i]?) = cl.map (fun p=>some p.1)
noncomputable abbrev k2r (F:Fm) (scope:Scope) (cl:List (Str × Addr)) (tn:List Str) (K:Addr):Fm :=
 ⟨compEnvC scope cl K F.env,F.stack,tn ++ cl.map (·.1),K :: cl.map (·.2)⟩
noncomputable def k4j (t:Nat) (idx:List Nat) (reg:Reg):Reg:=List.replicate t none ++ idx.map fun i=>(reg[i]?).join
section
variable {C:k1J} {F:Fm} {n:Nat} {scope:Scope} {cl:List (Str × Addr)} {tn:List Str} {idx:List Nat}
theorem k3y.nodup (z:k3y F scope cl tn idx):(cl.map (·.1)).Nodup:=(w0w.mp z.nd).2.1
theorem k3y.inMods (z:k3y F scope cl tn idx) (ok:F.Ok C) {p:Str × Addr} (h:p∈cl):p.2∈F.mods:=ok.cin _ _ (z.capk p h).2
theorem k3y.ok (z:k3y F scope cl tn idx) (ok:F.Ok C) {K:Addr} (hb:C.base.get? K = none) (hK:K∉F.mods):(k2r F scope cl tn K).Ok C where
 kind:=z.kind
 glob:=ok.glob
 blt:=ok.blt
 lmod:=.head _
 base:=fun a ha=>by
  refine Or.elim (w0c.mp ha) (fun yY=>?_) fun ha=>?_; subst yY
  ·exact hb
  ·refine cX1 (w0b.mp ha) fun p yA=>cA2 yA fun hp yB=>?_; clear yA; subst yB
   exact ok.base _ (z.inMods ok hp)
 cin:=fun x c h=>.tail _ (w0b.mpr ⟨_,mem_of_lookup h,rfl⟩)
 cmod:=fun x c Y h q=>hK (by
  have w:=z.inMods ok (mem_of_lookup h)
  rw [show c = K from q] at w
  exact w)
 cinj:=fun x y c Y Y h1 h2=>by
  refine cA2 (z.capk _ (mem_of_lookup h1)) fun a1 a2=>?_
  refine cA2 (z.capk _ (mem_of_lookup h2)) fun b1 b2=>?_
  exact ok.cinj x y c a1 b1 a2 b2
 nodup:=z.nd
 fr:=ok.fr
theorem z5l (z:k3y F scope cl tn idx) {reg:Reg} {i:Nat} {x:Str} {V:V} (h1:(tn ++ cl.map (·.1))[i]? = some x) (h2:(k4j tn.length idx reg)[i]? = some (some V)) :
  ∃ j:Nat,F.names[j]? = some x∧reg[j]? = some (some V)∧∃ c,(x,c)∈cl:=by
 unfold k4j at h2
 by_cases q:i < tn.length
 ·rw [w0D (by simpa using q)] at h2
  have:=w0z h2
  simp at this
 ·rw [w0C (by simp; lia)] at h2
  rw [w0C (by lia)] at h1
  simp only [List.length_replicate,w0H,w0E] at h1 h2
  refine cX1 h1 fun p yA=>cA2 yA fun hp yB=>?_; clear h1 yA; subst yB
  refine cX1 h2 fun j yA=>cA2 yA fun hj hr=>?_; clear h2 yA
  refine ⟨j,?_,?_,p.2,w0z hp⟩
  ·have:=congrArg (fun l=>l[i - tn.length]?) z.idx
   simp only [w0H,hj,hp,w0x,Option.some.injEq] at this
   exact this
  ·cases hq:reg[j]? with
   | none=>rw [hq] at hr; cases hr
   | some o=>rw [hq] at hr; exact congrArg some hr
theorem inReg_of (z:k3y F scope cl tn idx) {reg:Reg} {x:Str} {c:Addr} (hc:(x,c)∈cl) {i:Nat} {V:V} (hn:F.Ok C) (h1:F.names[i]? = some x) (h2:reg[i]? = some (some V)) :
  ∃ j:Nat,(tn ++ cl.map (·.1))[j]? = some x∧tn.length≤j∧(k4j tn.length idx reg)[j]? = some (some V):=by
 refine cX1 (w1O.mp hc) fun k yA=>cX1 yA fun hk e=>?_; clear yA
 have hck:cl[k]? = some (x,c):=by rw [w0A hk,e]
 refine ⟨tn.length + k,?_,by lia,?_⟩
 ·rw [w0C (by lia)]; simp [hck]
 ·unfold k4j
  rw [w0C (by simp)]
  have:=congrArg (fun l=>l[k]?) z.idx
  simp only [w0H,hck,w0x,w0E] at this
  refine cX1 this fun j yA=>cA2 yA fun hj hjn=>?_; clear this yA
  have:j = i:=(w1r (w0v.mp hjn).1 hn.nodup).mp (hjn.trans h1.symm)
  subst this
  simp [hj,h2]
theorem k3y.into (z:k3y F scope cl tn idx) (ok:F.Ok C) {ρ:List Addr} {reg:Reg} {H:Hp} {s:Shared} (x:k1O C F ρ reg H s) {K:Addr} {h':Heap} {t:Nat} (hK:K∉ρ) (hs:s.heap.get? K = none) (k:∀ a o,s.heap.get? a = some o→h'.get? a = some o) {m:Str→Option Value} (hn:h'.Ns K m) :
  k1O C (k2r F scope cl tn K) ρ (k4j tn.length idx reg) H { s with heap:=h',toks:=t }:=by
 have y:=x.grow (t:=t) k
 refine { toCInv:=y.toCInv,ns:=⟨m,hn⟩,off:=fun a ha=>?_,rm:=fun i w V e1 e2=>?_,cl:=fun w c e1 e2=>?_ }
 ·refine Or.elim (w0c.mp ha) (fun yY=>?_) fun ha=>?_; subst yY
  ·refine cX3 hn fun o es ep yA=>cA3 yA fun h1 h2 _=>?_; clear hn yA
   exact ⟨hK,o,h1,.inl ⟨es,ep,h2⟩⟩
  ·refine cX1 (w0b.mp ha) fun p yA=>cA2 yA fun hp yB=>?_; clear yA; subst yB
   exact y.off _ (z.inMods ok hp)
 ·refine cX1 (z5l z e1 e2) fun j yA=>cA3 yA fun hj hr yB=>cX1 yB fun c hc=>?_; clear yA yB
  refine cX1 (y.rm j w V hj hr) fun v yA=>cA2 yA fun va vr=>?_; clear yA
  refine ⟨v,.inr ?_,vr⟩
  refine Or.elim va (fun yY=>?_) fun yZ=>?_ <;> clear va; rotate_left; (refine cA2 yZ fun k1 yA=>cX2 yA fun c' o yB=>cA3 yB fun l1 g1 d1=>?_; clear yZ yA yB); rotate_right; (refine cA2 yY fun k1 _=>?_; clear yY)
  ·rw [(z.capk _ hc).1] at k1; refine k1f k1 fun yA=>?_; clear k1; cases yA
  ·have:=(z.capk _ hc).2
   rw [l1] at this; refine k1f this fun yA=>?_; clear this; subst yA
   exact ⟨z.kin _ hc,_,o,k2x z.nodup hc,g1,d1⟩
 ·have hm:=mem_of_lookup e2
  refine cA2 (y.cl w c (z.capk _ hm).1 (z.capk _ hm).2) fun _ yA=>cX1 yA fun v hv=>?_; clear yA
  exact ⟨.tail _ (w0b.mpr ⟨_,hm,rfl⟩),v,hv⟩
theorem k3y.outof (z:k3y F scope cl tn idx) (ok:F.Ok C) {ρ ρ':List Addr} {reg reg':Reg} {H H':Hp} {s s':Shared} (x:k1O C F ρ reg H s) {K:Addr} (hK:K∉F.mods) (y:k1O C (k2r F scope cl tn K) ρ' reg' H' s')
  (hreg:∀ j:Nat,tn.length≤j→reg'[j]? = (k4j tn.length idx reg)[j]?) (st:k1m F.fs (K :: cl.map (·.2)) ρ ρ' s.heap s'.heap):k1O C F ρ' reg H' s':=by
 have stay:∀ a o,a∈F.mods→a∉cl.map (·.2)→s.heap.get? a = some o→∃ sl,s'.heap.get? a = some { o with slots:=sl }:=fun a o hm hc e =>
  st.frame a o e (x.off a hm).1 (by
   simp only [w0c,not_or]
   exact ⟨fun q=>hK (q ▸ hm),hc⟩)
 have capOf:∀ a,a∈cl.map (·.2)→∃ w,(w,a)∈cl:=fun a h=>by
  refine cX1 (w0b.mp h) fun p yA=>cA2 yA fun hp yB=>?_; clear yA; subst yB
  exact ⟨p.1,hp⟩
 have loc:F.env.locals∉cl.map (·.2):=fun h=>by
  refine cX1 (capOf _ h) fun w hw=>?_
  refine cA2 (z.capk _ hw) fun a1 a2=>?_
  exact ok.cmod _ _ a1 a2 rfl
 refine { toCInv:=y.toCInv,ns:=?_,off:=fun a ha=>?_,rm:=fun i w V e1 e2=>?_,cl:=fun w c e1 e2=>?_ }
 ·refine cX1 x.ns fun m hn=>?_
  exact ⟨m,k5Q hn fun o e Y=>stay _ o ok.lmod loc e⟩
 ·by_cases q:a∈cl.map (·.2)
  ·exact y.off a (.tail _ q)
  ·refine cA2 (x.off a ha) fun n1 yA=>cX1 yA fun o yB=>cA2 yB fun e oo=>?_; clear yA yB
   refine cX1 (stay a o ha q e) fun sl e'=>?_
   refine ⟨fun r=>(st.new a r).elim n1 fun w=>(by rw [e] at w; exact kSN w),_,e',oo⟩
 ·refine cX1 (x.rm i w V e1 e2) fun v yA=>cA2 yA fun va vr=>?_; clear yA
  refine Or.elim va (fun yY=>?_) fun yZ=>?_ <;> clear va; rotate_left; (refine cA2 yZ fun k1 yA=>cX2 yA fun c o yB=>cA3 yB fun l1 g1 d1=>?_; clear yZ yA yB); rotate_right; (refine cA2 yY fun k1 yA=>cX1 yA fun m yB=>cA2 yB fun hn q=>?_; clear yY yA yB)
  ·exact ⟨v,.inl ⟨k1,m,k5Q hn fun o e Y=>stay _ o ok.lmod loc e,q⟩,vr.step st⟩
  ·by_cases hc:c∈cl.map (·.2)
   ·refine cX1 (capOf _ hc) fun w' hw=>?_
    refine cA2 (z.capk _ hw) fun a1 a2=>?_
    have:w = w':=ok.cinj w w' c k1 a1 l1 a2
    subst this
    refine cX1 (inReg_of z hw ok e1 e2) fun j yA=>cA3 yA fun hj hle hr=>?_; clear yA
    refine cX1 (y.rm j w V hj ((hreg j hle).trans hr)) fun v' yA=>cA2 yA fun va' vr'=>?_; clear yA
    refine ⟨v',?_,vr'⟩
    refine Or.elim va' (fun yY=>?_) fun yZ=>?_ <;> clear va'; rotate_left; (refine cA2 yZ fun k2 yA=>cX2 yA fun c2 o2 yB=>cA3 yB fun l2 g2 d2=>?_; clear yZ yA yB); rotate_right; (refine cA2 yY fun k2 _=>?_; clear yY)
    ·rw [show (k2r F scope cl tn K).env.kindOf w = some .cell from z.kin _ hw] at k2; refine k1f k2 fun yA=>?_; clear k2; cases yA
    ·have:cl.lookup w = some c:=k2x z.nodup hw
     rw [show cl.lookup w = some c2 from l2] at this; refine k1f this fun yA=>?_; clear this; subst yA
     exact .inr ⟨k1,_,o2,l1,g2,d2⟩
   ·refine cX1 (stay c o (ok.cin _ _ l1) hc g1) fun sl e'=>?_
    exact ⟨v,.inr ⟨k1,c,_,l1,e',d1⟩,vr.step st⟩
 ·refine cA2 (x.cl w c e1 e2) fun hm yA=>cX1 yA fun v hv=>?_; clear yA
  refine ⟨hm,?_⟩
  by_cases hc:c∈cl.map (·.2)
  ·refine cX1 (capOf _ hc) fun w' hw=>?_
   refine cA2 (y.cl w' c (z.kin _ hw) (k2x z.nodup hw)) fun _ yA=>cX1 yA fun v' hv'=>?_; clear yA
   exact ⟨v',hv'⟩
  ·refine cX1 hv fun o yA=>cA2 yA fun g d=>?_; clear hv yA
   refine cX1 (stay c o hm hc g) fun sl e'=>?_
   exact ⟨v,_,e',d⟩
theorem k1O.adopt {ρ:List Addr} {reg:Reg} {H:Hp} {s:Shared} (x:k1O C F ρ reg H s) {a:Addr} {o:O} (sd:k6C C F ρ a) (hb:C.base.get? a = none) (hns:(a == sysModules) = false) (ho:OR C (ρ ++ [a]) s.heap a o) {fs mods ρ₀:List Addr} {h₀:Heap} (st:k1m fs mods ρ₀ ρ h₀ s.heap) (h0:h₀.get? a = none) :
  k1O C F (ρ ++ [a]) reg (H ++ [o]) s∧k1m fs mods ρ₀ (ρ ++ [a]) h₀ s.heap:=by
 refine cX1 ho.there fun ob yA=>cA2 yA fun e _=>?_; clear yA
 have p:ρ <+: ρ ++ [a]:=⟨[a],rfl⟩
 refine ⟨{ sh:=x.sh,base:=x.base,hm:=⟨by simp [x.hm.len],?_,fun i b o' e1 e2=>?_,fun b hb'=>?_,fun b hb'=>?_⟩,frs:=fun e' he=>?_,ns:=x.ns,off:=fun b hb'=>?_,rm:=fun i w V e1 e2=>?_,cl:=x.cl },?_⟩
 ·rw [w0w]
  refine ⟨x.hm.nodup,by simp,fun b hbm c hc=>?_⟩
  simp only [w0h] at hc
  subst hc
  intro w; subst w; exact sd.1 hbm
 ·by_cases q:i < ρ.length
  ·rw [w0D q] at e1
   rw [w0D (x.hm.len ▸ q)] at e2
   exact (x.hm.obj i b o' e1 e2).mono p (fun Y Y e Y=>e) fun Y e=>e
  ·have hi:i = ρ.length:=by
    have:=(w0v.mp e1).1
    simp at this; lia
   subst hi
   rw [w0C (w0l _)] at e1
   simp at e1; subst e1
   rw [x.hm.len,w0C (w0l _)] at e2
   simp at e2; subst e2
   exact ho
 ·refine Or.elim (w0g.mp hb') (fun q=>?_) fun q=>?_
  ·exact x.hm.fresh b q
  ·simp only [w0h] at q; subst q; exact hb
 ·refine Or.elim (w0g.mp hb') (fun q=>?_) fun q=>?_
  ·exact x.hm.notSys b q
  ·simp only [w0h] at q; subst q; exact hns
 ·refine cA2 (x.frs e' he) fun k1 yA=>cX4 yA fun L oL es m yB=>cA5 yB fun h1 h2 h3 h4 h5=>?_; clear yA yB
  refine ⟨k1,L,oL,es,m,h1,fun q=>?_,h3,h4,h5⟩
  refine Or.elim (w0g.mp q) (fun q=>?_) fun q=>?_
  ·exact h2 q
  ·simp only [w0h] at q; subst q
   exact sd.2.2 (w0T.mpr ⟨e',he,h1⟩)
 ·refine cA2 (x.off b hb') fun n1 r=>?_
  refine ⟨fun q=>?_,r⟩
  refine Or.elim (w0g.mp q) (fun q=>?_) fun q=>?_
  ·exact n1 q
  ·simp only [w0h] at q; subst q; exact sd.2.1 hb'
 ·refine cX1 (x.rm i w V e1 e2) fun v yA=>cA2 yA fun va vr=>?_; clear yA
  exact ⟨v,va,vr.mono p fun Y Y e Y=>e⟩
 ·refine ⟨st.pre.trans p,fun b hb'=>?_,st.alive,st.tup,st.keep,st.frame⟩
  refine Or.elim (w0g.mp hb') (fun q=>?_) fun q=>?_
  ·exact st.new b q
  ·simp only [w0h] at q; subst q; exact .inr h0
end
noncomputable abbrev z2E (ifs:List Expr) (env:Env):Sem Bool:=forIn ifs true fun c r=>if r = true then do let ok ← isTrue c env (eval c env); pure (ForInStep.yield ok) else pure (ForInStep.yield r)
section
variable {prog:Program} {w:World} {A:Around} {s:Shared}
noncomputable def z5m (prog:Program) (w:World) (A:Around) (env:Env) (target:Expr) (ifs:List Expr) (emit:Sem Unit) (it:Value) (R:Result→Shared→Prop) (J:Shared→Prop) (s:Shared):Prop :=
 wpAny (model prog w) A (pyNext it) (fun r s₁=>match r with
  | none=>R (.ok .next) s₁
  | some v=>wpAny (model prog w) A (letOwnedTupleGo target it v) (fun Y s₂=>wpAny (model prog w) A (assign target env v) (fun Y s₃=>wpAny (model prog w) A (z2E ifs env) (fun ok s₄ =>
    if ok = true then wpAny (model prog w) A emit (fun Y s₅=>J s₅) (fun Y Y=>False) s₄ else J s₄) (fun Y Y=>False) s₃) (fun Y Y=>False) s₂) (fun Y Y=>False) s₁) (fun Y Y=>False) s
theorem z1B {elt target iter:Expr} {ifs:List Expr} {scope:Scope} {pos:Pos} {it acc:Value} {env:Env} {R:Result→Shared→Prop} (I:Nat→Shared→Prop)
  (turn:∀ n s,I n s→z5m prog w A env target ifs (do let _ ← call (.builtin "list.append") [acc,← eval elt env]) it R (fun s'=>∃ m,m < n∧I m s') s) (n:Nat) (h:I n s) :
  codeAny (model prog w) A (.compLoop (.ListComp elt [⟨target,iter,ifs,0⟩] scope pos) 0 it acc env) R s:=by
 refine codeAny_loop rfl I (fun n s hI=>?_) n h
 show wpAny _ A ((compTurn (.ListComp elt [⟨target,iter,ifs,0⟩] scope pos) 0 it acc env).onRaise (fun x=>do noteFrame x env; theTreesLotGoes x)) _ _ s
 refine wpAny_noted ?_
 rw [compTurn_list]
 refine wpAny_bind (wpAny_standAt (wpAny_bind (wpAny_mono (turn n s hI) (fun r s₁ h₁=>?_) fun Y Y f=>f.elim)))
 cases r with
 | none=>exact wpAny_pure h₁
 | some v =>
  refine wpAny_bind (wpAny_mono h₁ (fun Y s₂ h₂=>?_) fun Y Y f=>f.elim)
  refine wpAny_bind (wpAny_mono h₂ (fun Y s₃ h₃=>?_) fun Y Y f=>f.elim)
  refine wpAny_bind (wpAny_mono h₃ (fun ok s₄ h₄=>?_) fun Y Y f=>f.elim)
  cases ok with
  | false=>exact wpAny_pure ⟨rfl,h₄⟩
  | true=>exact wpAny_bind (wpAny_mono h₄ (fun Y s₅ h₅=>wpAny_pure ⟨rfl,h₅⟩) fun Y Y f=>f.elim)
theorem z5n {kx vx target iter:Expr} {ifs:List Expr} {scope:Scope} {pos:Pos} {it:Value} {D:Addr} {env:Env} {R:Result→Shared→Prop} (I:Nat→Shared→Prop)
  (turn:∀ n s,I n s→z5m prog w A env target ifs (do
      let kv ← eval kx env
      let vv ← holding [kv] (eval vx env)
      standAt { kx.pos with endLine:=vx.pos.endLine,endCol:=vx.pos.endCol }
      holding [kv,vv] (dictSet D kv vv)) it R (fun s'=>∃ m,m < n∧I m s') s) (n:Nat) (h:I n s) :
  codeAny (model prog w) A (.compLoop (.DictComp kx vx [⟨target,iter,ifs,0⟩] scope pos) 0 it (.ref D) env) R s:=by
 refine codeAny_loop rfl I (fun n s hI=>?_) n h
 show wpAny _ A ((compTurn (.DictComp kx vx [⟨target,iter,ifs,0⟩] scope pos) 0 it (.ref D) env).onRaise (fun x=>do noteFrame x env; theTreesLotGoes x)) _ _ s
 refine wpAny_noted ?_
 rw [compTurn_dict]
 refine wpAny_bind (wpAny_standAt (wpAny_bind (wpAny_mono (turn n s hI) (fun r s₁ h₁=>?_) fun Y Y f=>f.elim)))
 cases r with
 | none=>exact wpAny_pure h₁
 | some v =>
  refine wpAny_bind (wpAny_mono h₁ (fun Y s₂ h₂=>?_) fun Y Y f=>f.elim)
  refine wpAny_bind (wpAny_mono h₂ (fun Y s₃ h₃=>?_) fun Y Y f=>f.elim)
  refine wpAny_bind (wpAny_mono h₃ (fun ok s₄ h₄=>?_) fun Y Y f=>f.elim)
  cases ok with
  | false=>exact wpAny_pure ⟨rfl,h₄⟩
  | true=>exact wpAny_bind (wpAny_mono h₄ (fun Y s₅ h₅=>wpAny_pure ⟨rfl,h₅⟩) fun Y Y f=>f.elim)
theorem itR_self {ρ:List Addr} {it:It} {i:Nat} {a:Addr} (x:ItR ρ s.heap it i a) {Q:Value→Shared→Prop} {E:Value→Shared→Prop} (h:Q (.ref a) s):wpAny (model prog w) A (pyIter (.ref a)) Q E s:=by
 cases it with
 | list l=>refine cX1 x fun la yA=>cA2 yA fun _ hi=>?_; clear x yA; exact wpAny_pyIter_listiter hi h
 | tup vs=>refine cX2 x fun ta items yA=>cA2 yA fun hi _=>?_; clear x yA; exact wpAny_pyIter_tupleiter hi h
 | dict l n=>refine cX1 x fun da yA=>cA2 yA fun _ hi=>?_; clear x yA; exact wpAny_pyIter_keyiter hi h
 | str cs=>refine cX1 x fun t hi=>?_; clear x; exact wpAny_pyIter_striter_ascii hi h
 | rng k=>refine cX2 x ?_; clear x; intro x l yA; refine cA3 yA fun _ _ hi=>?_; clear yA; exact wpAny_pyIter_rangeiter hi h
end
section
variable {C:k1J} {F:Fm} {n:Nat}
noncomputable def z2F (C:k1J) (F:Fm) (n:Nat) (ifs:List Expr) (c:Reg→X Bool):Prop :=
 ∀ A ρ reg H s,k7Y n A F→k1O C F ρ reg H s→k0e C F A ρ H s (z2E ifs F.env) (c reg) (QB C F reg)
theorem k5C:z2F C F n [] tT:=fun Y Y Y Y Y Y inv=>k0e.prim0 (wpAny_tests_nil ⟨_,⟨rfl,inv⟩,k1m.refl _ _ _ _⟩)
theorem k8F {c:Expr} {ct:Reg→X Bool} (h:TOk C F n c ct):z2F C F n [c] ct:=fun A ρ reg H s room inv P e=>wpAny_tests_one (h A ρ reg H s room inv P e)
noncomputable def KeepR (t:Nat) (reg:Reg) (P:Po Reg):Po Reg:=fun r H=>P r H∧∀ reg',r = .ok reg'→∀ j:Nat,t≤j→reg'[j]? = reg[j]?
noncomputable def Tgt (t:Nat) (ct:V→Reg→X Reg):Prop:=∀ V reg H P,wp (ct V reg) P H→wp (ct V reg) (KeepR t reg P) H
noncomputable def Tgts (t:Nat) (ct:List V→Reg→X Reg):Prop:=∀ Vs reg H P,wp (ct Vs reg) P H→wp (ct Vs reg) (KeepR t reg P) H
theorem k1V {t i:Nat} (h:i < t):Tgt t (k0l i):=fun V reg H P p=>⟨p,fun reg' e j hj=>by
 refine jOk e fun e=>?_
 subst e
 rw [w1h (by lia)]⟩
theorem k8f {t:Nat}:Tgts t k1n:=fun Vs reg H P p=>match Vs,p with
 | [],p=>⟨p,fun reg' e j hj=>jOk e fun e=>e ▸ rfl⟩
theorem k4d {t:Nat} {c:V→Reg→X Reg} {ts:List V→Reg→X Reg} (h:Tgt t c) (hs:Tgts t ts):Tgts t (k0q c ts):=fun Vs reg H P p=>match Vs,p with
 | V :: Vs,p=>(c V reg).mono (fun r H1 q=>match r,q with
  | .error _,q=>⟨q.1,fun Y e=>nomatch e⟩
  | .ok reg1,q=>(ts Vs reg1).mono (fun r H2 w=>⟨w.1,fun reg' e j hj=>(w.2 reg' e j hj).trans (q.2 reg1 rfl j hj)⟩) (hs Vs reg1 H1 P q.1)) (h V reg H (bK (ts Vs) P) p)
theorem k5R {t k:Nat} {ts:List V→Reg→X Reg} (h:Tgts t ts):Tgt t (k1o k ts):=fun V reg H P p=>match V,p with
 | .tup vs,p=>⟨p.1,h vs reg H P p.2⟩
noncomputable def compTurn (ct:V→Reg→X Reg) (cf:Reg→X Bool) (emit:Reg→O→X O) (rest:Reg→O→X O) (reg:Reg) (o:O) (v:Option (Option V)):X O:=match v with
 | none=>X.stuck
 | some none=>Pure.pure o
 | some (some v)=>ct v reg >>= fun reg'=>cf reg' >>= fun b=>if b then emit reg' o >>= fun o'=>rest reg' o' else rest reg' o
noncomputable def k8G (ct:V→Reg→X Reg) (cf:Reg→X Bool) (emit:Reg→O→X O) (it:It):Nat→Nat→Reg→O→X O
 | 0,_,_,_=>X.stuck
 | k + 1,i,reg,o=>hide <| z4P fun h=>compTurn ct cf emit (k8G ct cf emit it k (i + 1)) reg o (k1Z it i h)
@[irreducible] noncomputable def k6r (ct:V→Reg→X Reg) (cf:Reg→X Bool) (emit:Reg→O→X O) (it:It) (k i:Nat) (reg:Reg) (o:O):X O:=k8G ct cf emit it k i reg o
theorem z1C:k6r = k8G:=by funext ct cf emit it k i reg o; unfold k6r; rfl
noncomputable def okK {α:Type} (Q:Po α):Po α:=fun r h=>match r with
 | .ok a=>Q (.ok a) h
 | .error _=>False
noncomputable def k4X {α:Type} (c:X α):X α:=⟨fun Q h=>wp c (okK Q) h,fun q x=>c.mono (fun r h y=>match r,y with
 | .ok _,y=>q _ _ y) x⟩
inductive EmitR (C:k1J) (F:Fm) (P:Po O) (sz:Nat→O→Prop) (D:Addr) (k:Nat) (reg:Reg) (ρ ρ₁:List Addr) (h h₁:Heap) (s':Shared):Prop
 | mk (o':O) (ρ':List Addr) (H':Hp) (p:P (.ok o') H') (inv:k1O C F ρ' reg H' s') (sd:k6C C F ρ' D) (st:k1m F.fs F.mods ρ₁ ρ' h₁ s'.heap) (or:OR C ρ' s'.heap D o') (sz:sz (k + 1) o') (pre:ρ <+: ρ')
  (tup:∀ a ob,h.get? a = some ob→k4z ob→s'.heap.get? a = some ob) (keep:∀ a ob,k6C C F ρ a→a≠D→h.get? a = some ob→s'.heap.get? a = some ob)
noncomputable def z3A (C:k1J) (F:Fm) (n:Nat) (e:Addr→Sem Unit) (emit:Reg→O→X O) (sz:Nat→O→Prop):Prop :=
 ∀ A ρ reg H s D o k ρ₁ h₁ P,k7Y n A F→k1O C F ρ reg H s→k6C C F ρ D→C.base.get? D = none→h₁.get? D = none→k1m F.fs F.mods ρ₁ ρ h₁ s.heap→OR C ρ s.heap D o→sz k o→k < 64→wp (emit reg o) P H→(∀ x H',¬ P (.error x) H') →
  wpAny (model C.prog C.w) A (e D) (fun Y s'=>EmitR C F P sz D k reg ρ ρ₁ s.heap h₁ s') (fun Y Y=>False) s
theorem k0e.seqOk {α β:Type} {A:Around} {ρ:List Addr} {H:Hp} {s:Shared} {t:Sem α} {c:X β} {Q:β→α→List Addr→Hp→Shared→Prop} {R:Po β} {Z:α→Shared→Prop} (x:k0e C F A ρ H s t c Q) (e:wp c R H) (hR:∀ x H',¬ R (.error x) H')
  (y:∀ b a ρ' H₁ s',R (.ok b) H₁→Q b a ρ' H₁ s'→k1m F.fs F.mods ρ ρ' s.heap s'.heap→Z a s'):wpAny (model C.prog C.w) A t Z (fun Y Y=>False) s :=
 wpAny_mono (x R e) (fun a s' h=>match h with | ⟨b,ρ',H',p,q,st⟩=>y b a ρ' H' s' p q st) fun Y Y h=>match h with | ⟨x,_,H',p,_,_,_⟩=>hR x H' p
theorem k6C.step {fs mods ρ ρ':List Addr} {h h':Heap} (st:k1m fs mods ρ ρ' h h') {a:Addr} {o:Obj} (x:k6C C F ρ a) (e:h.get? a = some o):k6C C F ρ' a :=
 ⟨fun q=>(st.new a q).elim x.1 fun z=>(by rw [e] at z; exact kSN z),x.2⟩
inductive CompI (C:k1J) (F:Fm) (ct:V→Reg→X Reg) (cf:Reg→X Bool) (emit:Reg→O→X O) (sz:Nat→O→Prop) (it:It) (a D:Addr) (P:Po O) (t:Nat) (reg₀:Reg) (ρ₁:List Addr) (h₁:Heap) (k:Nat) (s':Shared):Prop
 | mk (i:Nat) (ρ₂:List Addr) (reg₂:Reg) (H₂:Hp) (o:O) (inv:k1O C F ρ₂ reg₂ H₂ s') (hit:ItR ρ₂ s'.heap it i a) (sd:k6C C F ρ₂ D) (st:k1m F.fs F.mods ρ₁ ρ₂ h₁ s'.heap) (or:OR C ρ₂ s'.heap D o) (hreg:∀ j:Nat,t≤j→reg₂[j]? = reg₀[j]?)
  (z:sz (64 - k) o) (hk:k≤64) (w:wp (k8G ct cf emit it k i reg₂ o) P H₂)
theorem z5o (okF:F.Ok C) {target:Expr} {ifs:List Expr} {e:Addr→Sem Unit} {ct:V→Reg→X Reg} {cf:Reg→X Bool} {emit:Reg→O→X O} {sz:Nat→O→Prop} {t:Nat}
  (ht:AOk C F n target ct) (htg:Tgt t ct) (hf:z2F C F n ifs cf) (he:z3A C F n e emit sz) (hsz:∀ k o,sz k o→sz (k + 1) o)
  {A:Around} {ρ₁:List Addr} {h₁:Heap} {it:It} {a D:Addr} (room:k7Y n A F) (ha:h₁.get? a = none) (hD:h₁.get? D = none) (haD:a≠D) (hab:C.base.get? a = none) (hDb:C.base.get? D = none) {P:Po O} (hP:∀ x H',¬ P (.error x) H') {reg₀:Reg}
  (k:Nat) (s:Shared) (hI:CompI C F ct cf emit sz it a D P t reg₀ ρ₁ h₁ k s)
  {J:Shared→Prop} (hJ:∀ m s',m < k→CompI C F ct cf emit sz it a D P t reg₀ ρ₁ h₁ m s'→J s') {Z:Option Value→Shared→Prop}
  (Z0:∀ o' H' ρ₂ reg₂ s₂,P (.ok o') H'→k1O C F ρ₂ reg₂ H' s₂→k6C C F ρ₂ D→k1m F.fs F.mods ρ₁ ρ₂ h₁ s₂.heap→OR C ρ₂ s₂.heap D o'→(∀ j:Nat,t≤j→reg₂[j]? = reg₀[j]?)→Z none s₂)
  {T:Bool→Shared→Prop} (T0:∀ s',J s'→T false s') (T1:∀ s',wpAny (model C.prog C.w) A (e D) (fun Y s₅=>J s₅) (fun Y Y=>False) s'→T true s')
  (Z1:∀ v s',wpAny (model C.prog C.w) A (letOwnedTupleGo target (.ref a) v) (fun Y s₂=>wpAny (model C.prog C.w) A (assign target F.env v) (fun Y s₃=>wpAny (model C.prog C.w) A (z2E ifs F.env) T (fun Y Y=>False) s₃) (fun Y Y=>False) s₂) (fun Y Y=>False) s'→Z (some v) s') :
  wpAny (model C.prog C.w) A (pyNext (.ref a)) Z (fun Y Y=>False) s:=by
 obtain ⟨i,ρ₂,reg₂,H₂,o,inv2,hit,sdD,st2,hor,hreg,hz,hk,e2⟩:=hI
 cases k with
 | zero=>exact False.elim e2
 | succ k =>
  have e3:wp (compTurn ct cf emit (k8G ct cf emit it k (i + 1)) reg₂ o (k1Z it i H₂)) P H₂:=e2.ex
  cases hr:k1Z it i H₂ with
  | none=>rw [hr] at e3; exact False.elim e3
  | some ov =>
   rw [hr] at e3
   refine cX2 hit.fields fun oa va yA=>cA3 yA fun ga da _=>?_; clear yA
   have sd:=inv2.sideOf ga da
   have nt:∀ o,s.heap.get? a = some o→¬ k4z o:=fun o z w=>by
    rw [ga] at z; refine k1f z fun yA=>?_; clear z; subst yA
    refine cX2 w.2 fun l m d=>?_
    rw [da] at d; cases d
   refine z3y rfl rfl room.handled inv2 hit hr fun o'' h'' tk k2 ho=>?_
   refine cA2 (inv2.side okF sd hab nt (t:=tk) k2) fun inv3 tup3=>?_
   have st3:=st2.side ha k2
   have hor3:OR C ρ₂ h'' D o:=hor.mono (w0m _) tup3 fun ob g=>k2 D ob (Ne.symm haD) g
   cases ov with
   | none =>
    subst ho
    exact Z0 o H₂ ρ₂ reg₂ _ e3 inv3 sdD st3 hor3 hreg
   | some V =>
    refine cX1 ho fun v yA=>cA4 yA fun yB=>?_; clear ho yA; subst yB; intro hvr hit3 yC; refine cX1 yC fun ob gb=>?_; clear yC
    refine Z1 _ _ (z1z (s:={ s with heap:=h'',toks:=tk }) hit3 ?_)
    refine k0e.seqOk (ht A ρ₂ reg₂ H₂ { s with heap:=h'',toks:=tk } V v room inv3 (hvr ρ₂ h'' (w0m _) tup3)) (htg V reg₂ H₂ _ e3) (fun x H' z=>hP x H' z.1) fun reg₃ Y ρ₃ H₃ s₃ ec inv4 st4=>?_
    refine cX1 hor3.there fun oD yA=>cA2 yA fun gD _=>?_; clear yA
    have sta:=st3.trans st4
    have hit4:ItR ρ₃ s₃.heap it (i + 1) a:=hit3.mono st4.pre st4.tup fun o z=>st4.keep a o z sd.1 sd.2.1 sd.2.2
    have sdD4:k6C C F ρ₃ D:=k6C.step st4 sdD gD
    have hor4:OR C ρ₃ s₃.heap D o:=hor3.mono st4.pre st4.tup fun o z=>st4.keep D o z sdD.1 sdD.2.1 sdD.2.2
    have hreg4:∀ j:Nat,t≤j→reg₃[j]? = reg₀[j]?:=fun j hj=>(ec.2 reg₃ rfl j hj).trans (hreg j hj)
    have e5:wp (cf reg₃) (bK (fun b=>if b then emit reg₃ o >>= fun o'=>k8G ct cf emit it k (i + 1) reg₃ o' else k8G ct cf emit it k (i + 1) reg₃ o) P) H₃:=ec.1
    refine k0e.seqOk (hf A ρ₃ reg₃ H₃ s₃ room inv4) e5 hP fun b ok ρ₄ H₄ s₄ e4 q4 st5=>?_
    refine cA2 q4 fun yA=>?_; clear q4; subst yA; intro inv5
    refine cX2 hit4.fields fun o4 v4 yA=>cA3 yA fun g4 d4 _=>?_; clear yA
    refine cX1 hor4.there fun oD4 yA=>cA2 yA fun gD4 _=>?_; clear yA
    have sd4:=inv4.sideOf g4 d4
    have stb:=sta.trans st5
    have hit5:ItR ρ₄ s₄.heap it (i + 1) a:=hit4.mono st5.pre st5.tup fun o z=>st5.keep a o z sd4.1 sd4.2.1 sd4.2.2
    have sdD5:k6C C F ρ₄ D:=k6C.step st5 sdD4 gD4
    have hor5:OR C ρ₄ s₄.heap D o:=hor4.mono st5.pre st5.tup fun o z=>st5.keep D o z sdD4.1 sdD4.2.1 sdD4.2.2
    have k64:64 - (k + 1) + 1 = 64 - k:=by lia
    cases b with
    | false=>exact T0 _ (hJ k s₄ (w1d _) ⟨i + 1,ρ₄,reg₃,H₄,o,inv5,hit5,sdD5,stb,hor5,hreg4,k64 ▸ hsz _ _ hz,by lia,e4⟩)
    | true =>
     refine T1 _ (wpAny_mono (he A ρ₄ reg₃ H₄ s₄ D o (64 - (k + 1)) ρ₁ h₁ _ room inv5 sdD5 hDb hD stb hor5 hz (by lia) e4 hP) (fun Y s₆ h6=>?_) fun Y Y f=>f.elim)
     obtain ⟨o6,ρ₆,H6,p6,inv6,sdD6,st6,hor6,hz6,pre6,tup6,keep6⟩:=h6
     refine cX2 hit5.fields fun o7 v7 yA=>cA3 yA fun g7 d7 _=>?_; clear yA
     have sd5:=inv5.sideOf g7 d7
     exact hJ k s₆ (w1d _) ⟨i + 1,ρ₆,reg₃,H6,o6,inv6,hit5.mono pre6 tup6 fun ob z=>keep6 a ob sd5 haD z,sdD6,st6,hor6,hreg4,k64 ▸ hz6,by lia,p6⟩
end
section
variable {C:k1J} {F:Fm} {n:Nat} {scope:Scope} {cl:List (Str × Addr)} {tn:List Str} {idx:List Nat}
theorem z0G (ok:F.Ok C) (cok:C.Ok) (z:k3y F scope cl tn idx) {target iter:Expr} {ifs:List Expr} {ci:Reg→X It} {ct:V→Reg→X Reg} {cf:Reg→X Bool} {emit:Reg→O→X O} {emitS:Env→Addr→Sem Unit} {sz:Nat→O→Prop}
  {o₀:O} {ob₀:Obj} {e:Expr} {pos:Pos} {newAcc:Sem Value} (hit:k8C C F n iter ci) (hcl:clausesOf e = [⟨target,iter,ifs,0⟩])
  (inner:∀ K,(k2r F scope cl tn K).Ok C→AOk C (k2r F scope cl tn K) n target ct∧z2F C (k2r F scope cl tn K) n ifs cf∧z3A C (k2r F scope cl tn K) n (emitS (k2r F scope cl tn K).env) emit sz)
  (htg:Tgt tn.length ct) (hsz:∀ k o,sz k o→sz (k + 1) o) (hsz0:sz 0 o₀)
  (hnew:∀ A s (Q:Value→Shared→Prop) E,Q (.ref s.heap.objs.size) { s with heap:=s.heap.push ob₀ }→wpAny (model C.prog C.w) A newAcc Q E s) (hfr:ob₀.isFreed = false)
  (hob:∀ ρ (h:Heap) a,h.get? a = some ob₀→OR C ρ h a o₀)
  (hstart:∀ A (R:Result→Shared→Prop) I D env s,codeAny (model C.prog C.w) A (.compLoop e 0 (.ref I) (.ref D) env) R s →
   wpAny (model C.prog C.w) A (pyIter (.ref I)) (fun it' s'=>codeAny (model C.prog C.w) A (.compLoop e 0 it' (.ref D) env) R s') (notedBy (model C.prog C.w) A env fun x s'=>R (.error x) s') s→codeAny (model C.prog C.w) A (.compStart e 0 (.ref I) (.ref D) env) R s)
  (hloop:∀ A (R:Result→Shared→Prop) it D env (I:Nat→Shared→Prop),(∀ n s,I n s→z5m C.prog C.w A env target ifs (emitS env D) it R (fun s'=>∃ m,m < n∧I m s') s)→∀ n s,I n s→codeAny (model C.prog C.w) A (.compLoop e 0 it (.ref D) env) R s)
  (hs:∀ x,foldedSetIterable iter F.env x = pure x)
  {β:Type} {A:Around} {ρ:List Addr} {reg:Reg} {H:Hp} {s:Shared} {P:Po β} {use:Option (Value→Sem Unit)} {Q:Value→Shared→Prop} {kc:O→X β} (room:k7Y n A F) (inv:k1O C F ρ reg H s)
  (he:wp (ci reg >>= fun it=>k4X (k6r ct cf emit it 64 0 (k4j tn.length idx reg) o₀) >>= kc) P H)
  (fin:∀ o H₂ s₂ ρ₂ D K m,wp (kc o) P H₂→k1O C F (ρ₂ ++ [D]) reg (H₂ ++ [o]) s₂→k1m F.fs F.mods ρ (ρ₂ ++ [D]) s.heap s₂.heap→ρ₂.length = H₂.length→k6C C F (ρ₂ ++ [D]) K→C.base.get? K = none→s.heap.get? K = none →
   s₂.heap.Ns K m→compPost (model C.prog C.w) A (QE C F P ρ s.heap) use Q (.ref D) K (.ok .next) s₂) :
  wpAny (model C.prog C.w) A (comprehension e scope F.env pos newAcc false (eval iter F.env) use) Q (QE C F P ρ s.heap) s:=by
 refine wpAny_comprehension_free hcl hs z.clos z.kind z.hnames ?_
 refine k0e.seq (hit A ρ reg H s room inv) he fun it x ρ₁ H₁ s₁ q st e1=>?_
 refine cA2 q fun inv1 iterAll=>?_; clear q
 have e2:wp (k6r ct cf emit it 64 0 (k4j tn.length idx reg) o₀) (okK (bK kc P)) H₁:=e1
 rw [z1C] at e2
 refine iterAll _ _ fun a h2 hn ext hitR=>hnew _ _ _ _ ?_
 refine wpAny_newFunctionEnv z.cell (by intro y hy; simp at hy) (fun h3 hns hsb=>?_) z.kind
 dsimp only at hns hsb ⊢
 have hszK:(h2.push ob₀).objs.size = h2.objs.size + 1:=Heap.size_push _ _
 rw [hszK] at hns hsb ⊢
 have k2:∀ b o,h2.get? b = some o→h3.get? b = some o:=fun b o g =>
  hsb.extBut b o (w0U (w2h (Heap.lt_size g))) (Heap.get?_push_of_some _ (Heap.get?_push_of_some _ g))
 have k3:∀ b o,s₁.heap.get? b = some o→h3.get? b = some o:=fun b o g=>k2 b o (ext b o g)
 have gD:h3.get? h2.objs.size = some ob₀:=hsb.extBut _ _ (w0U (w1d _)) (Heap.get?_push_of_some _ (Heap.get?_push_size _ hfr))
 have none1:∀ b,h2.objs.size≤b→s₁.heap.get? b = none:=fun b hb=>by
  cases g:s₁.heap.get? b with
  | none=>rfl
  | some o=>exact absurd (Heap.lt_size (ext b o g)) (w1y.mpr hb)
 have hD:=none1 h2.objs.size (w0l _)
 have hK:=none1 (h2.objs.size + 1) (by lia)
 have big:mainGlobals < h2.objs.size:=by
  refine cX3 cok.g fun o es ep yA=>cA2 yA fun h1 _=>?_; clear yA
  exact Heap.lt_size (ext _ _ (inv1.base _ _ h1))
 have hnsys:(h2.objs.size == sysModules) = false:=beq_eq_false_iff_ne.mpr fun w=>by
  have h1:sysModules < mainGlobals:=by decide +kernel
  exact absurd w (w1b (w1Q h1 big))
 have absent:∀ b,s₁.heap.get? b = none→b∉ρ₁∧b∉F.mods∧b∉F.fs:=fun b hb=>by
  refine ⟨fun m=>?_,fun m=>?_,fun m=>?_⟩
  ·refine cX1 (inv1.hm.there m) fun ob yA=>cA2 yA fun g _=>?_; clear yA; rw [hb] at g; exact kNS g
  ·refine cA2 (inv1.off b m) fun _ yA=>cX1 yA fun o yB=>cA2 yB fun g _=>?_; clear yA yB; rw [hb] at g; exact kNS g
  ·refine cX1 (w0T.mp m) fun e' yA=>cA2 yA fun he' hf=>?_; clear yA
   refine cA2 (inv1.frs e' he') fun _ yA=>cX4 yA fun L o es n' yB=>cA5 yB fun f1 f2 f3 f4 f5=>?_; clear yA yB
   rw [f1] at hf; refine k1f hf fun yA=>?_; clear hf; subst yA
   rw [hb] at f4; exact kNS f4
 have hbn:∀ b,s₁.heap.get? b = none→C.base.get? b = none:=fun b hb=>k4v inv1.toCInv hb
 have okF:=z.ok ok (hbn _ hK) (absent _ hK).2.1
 refine cA3 (inner (h2.objs.size + 1) okF) fun i1 i2 i3=>?_
 have room':k7Y n A (k2r F scope cl tn (h2.objs.size + 1)):=⟨room.handled,room.frames,room.depth,room.units⟩
 have invI:=z.into ok inv1 (K:=h2.objs.size + 1) (h':=h3) (t:=s₁.toks + ([]:List (Str × Value)).length) (absent _ hK).1 hK k3 hns
 have hait:a≠h2.objs.size:=by
  refine cX2 hitR.fields fun oa va yA=>cA2 yA fun ga _=>?_; clear yA
  exact w0U (Heap.lt_size ga)
 have haK:a≠h2.objs.size + 1:=by
  refine cX2 hitR.fields fun oa va yA=>cA2 yA fun ga _=>?_; clear yA
  exact w0U (w2h (Heap.lt_size ga))
 have sdD:k6C C (k2r F scope cl tn (h2.objs.size + 1)) ρ₁ h2.objs.size:=by
  refine ⟨(absent _ hD).1,fun m=>?_,(absent _ hD).2.2⟩
  refine Or.elim (w0c.mp m) (fun w=>?_) fun w=>?_
  ·exact absurd w (w0U (w1d _))
  ·refine cX1 (w0b.mp w) fun p yA=>cA2 yA fun hp w'=>?_; clear yA
   exact (absent _ hD).2.1 (w' ▸ z.inMods ok hp)
 have step0:k1m (k2r F scope cl tn (h2.objs.size + 1)).fs (k2r F scope cl tn (h2.objs.size + 1)).mods ρ₁ ρ₁ s₁.heap h3:=k1m.grow k3
 have hit3:ItR ρ₁ h3 it 0 a:=hitR.mono (w0m _) (fun b o g Y=>k2 b o g) fun o g=>k2 a o g
 have hor3:OR C ρ₁ h3 h2.objs.size o₀:=hob _ _ _ gD
 have loop:codeAny (model C.prog C.w) A (.compLoop e 0 (.ref a) (.ref h2.objs.size) (k2r F scope cl tn (h2.objs.size + 1)).env) (compPost (model C.prog C.w) A (QE C F P ρ s.heap) use Q (.ref h2.objs.size) (h2.objs.size + 1))
   { s₁ with heap:=h3,toks:=s₁.toks + ([]:List (Str × Value)).length }:=by
  refine hloop A _ (.ref a) h2.objs.size _ (CompI C (k2r F scope cl tn (h2.objs.size + 1)) ct cf emit sz it a h2.objs.size (okK (bK kc P)) tn.length (k4j tn.length idx reg) ρ₁ s₁.heap) (fun k s' hI=>?_) 64 _ ⟨0,ρ₁,_,H₁,o₀,invI,hit3,sdD,step0,hor3,fun Y Y=>rfl,hsz0,w0l _,e2⟩
  refine z5o okF i1 htg i2 i3 hsz room' hn hD hait (hbn _ hn) (hbn _ hD) (fun Y Y h=>h) k s' hI (fun m s'' hm h=>⟨m,hm,h⟩) (fun o' H₂ ρ₂ reg₂ s₂ e3 y sd2 st2 or2 hreg=>?_) (fun Y h=>h) (fun Y h=>h) (fun Y Y h=>h)
  have y1:=z.outof ok inv1 (absent _ hK).2.1 y hreg st2
  have st3:k1m F.fs F.mods ρ₁ ρ₂ s₁.heap s₂.heap:=st2.mods fun b hb=>by
   refine Or.elim (w0c.mp hb) (fun yY=>?_) fun hb=>?_; subst yY
   ·exact .inr hK
   ·refine cX1 (w0b.mp hb) fun p yA=>cA2 yA fun hp yB=>?_; clear yA; subst yB
    exact .inl (z.inMods ok hp)
  have sdD2:k6C C F ρ₂ h2.objs.size:=⟨sd2.1,(absent _ hD).2.1,(absent _ hD).2.2⟩
  refine cA2 (y1.adopt (o:=o') sdD2 (hbn _ hD) hnsys (or2.mono ⟨_,rfl⟩ (fun Y Y g Y=>g) fun Y g=>g) (st.trans st3) (st.none_of hD)) fun y2 st4=>?_
  refine cX1 y.ns fun m hm=>?_
  refine fin o' H₂ s₂ ρ₂ h2.objs.size (h2.objs.size + 1) m e3 y2 st4 y1.hm.len ⟨fun w=>?_,(absent _ hK).2.1,(absent _ hK).2.2⟩ (hbn _ hK) (st.none_of hK) hm
  refine Or.elim (w0g.mp w) (fun w=>?_) fun w=>?_
  ·exact (y.off _ (.head _)).1 w
  ·simp only [w0h] at w; exact absurd w (w1b (w1d _))
 exact hstart A _ a h2.objs.size _ _ loop (itR_self (s:={ s₁ with heap:=h3,toks:=s₁.toks + ([]:List (Str × Value)).length }) hit3 loop)
end
noncomputable def k2H (ce:Reg→X V) (reg:Reg):O→X O
 | .list vs=>ce reg >>= fun v=>Pure.pure (.list (vs ++ [v]))
 | _=>X.stuck
noncomputable def k9X (ck cv:Reg→X V) (reg:Reg):O→X O
 | .dict es=>ck reg >>= fun k=>cv reg >>= fun v=>onStr (fun k=>Pure.pure (.dict (k2c es k v))) k
 | _=>X.stuck
noncomputable def z5p (k:Nat) (o:O):Prop:=∃ vs,o = .list vs∧vs.length≤k
noncomputable def szDict (k:Nat) (o:O):Prop:=∃ es,o = .dict es∧es.length≤k
theorem k2y {K α:Type} [DecidableEq K] (es:List (K × α)) (k:K) (v:α):(k2c es k v).length≤es.length + 1:=by
 unfold k2c
 split <;> simp
section
variable {C:k1J} {F:Fm} {n:Nat}
theorem k1O.sideStep (ok:F.Ok C) {ρ:List Addr} {reg:Reg} {H:Hp} {s:Shared} (inv:k1O C F ρ reg H s) {D:Addr} (sd:k6C C F ρ D) (hb:C.base.get? D = none) (nt:∀ o,s.heap.get? D = some o→¬ k4z o) {h':Heap} {t:Nat} (sb:Heap.SameBut D s.heap h') {ρ₁:List Addr} {h₁:Heap} (hn:h₁.get? D = none)
  (st:k1m F.fs F.mods ρ₁ ρ h₁ s.heap):k1O C F ρ reg H { s with heap:=h',toks:=t }∧k1m F.fs F.mods ρ₁ ρ h₁ h'∧(∀ c o,s.heap.get? c = some o→k4z o→h'.get? c = some o):=by
 have k:∀ b o,b≠D→s.heap.get? b = some o→h'.get? b = some o:=fun b o q e=>by rw [sb.2 b q]; exact e
 refine cA2 (inv.side ok sd hb nt (t:=t) k) fun a b=>?_
 exact ⟨a,st.side hn k,b⟩
theorem z1D (ok:F.Ok C) {elt:Expr} {ce:Reg→X V} (h:EOk C F n elt ce):z3A C F n (fun D=>do let _ ← call (.builtin "list.append") [.ref D,← eval elt F.env]) (k2H ce) z5p:=by
 intro A ρ reg H s D o k ρ₁ h₁ P room inv sd hb hn st hor hz hk e hP
 refine cX1 hz fun vs yA=>cA2 yA fun yB=>?_; clear hz yA; subst yB; intro hlen
 refine wpAny_bind (k0e.seqOk (h A ρ reg H s room inv) (R:=bK (fun v=>(Pure.pure (O.list (vs ++ [v])):X O)) P) e hP fun v x ρ' H₁ s' e' q st'=>?_)
 refine cA2 q fun hv inv'=>?_; clear q
 refine cX1 hor.there fun ob yA=>cA2 yA fun g _=>?_; clear yA
 have sd':k6C C F ρ' D:=k6C.step st' sd g
 refine cX1 (hor.mono st'.pre st'.tup fun o z=>st'.keep D o z sd.1 sd.2.1 sd.2.2) fun items yA=>cA2 yA fun pl hvs=>?_; clear yA
 have hl:=hvs.length
 refine wpAny_bind (wpAny_list_append_plain pl (fun h' pl' sb=>wpAny_pure ?_) (by rw [sizeLine_eq]; simp only [w0O]; lia))
 refine cX1 (id pl) fun m pg=>?_
 have nt:∀ o,s'.heap.get? D = some o→¬ k4z o:=fun o w t=>by rw [pg] at w; refine k1f w fun yA=>?_; clear w; subst yA; simp [k4z] at t
 refine cA3 (inv'.sideStep ok sd' hb nt (t:=s'.toks) sb hn (st.trans st')) fun i1 i2 i3=>?_
 refine ⟨_,ρ',_,e',i1,sd',i2,⟨items ++ [x],by simpa using pl',(hvs.append (.cons hv .nil)).mono (w0m _) i3⟩,⟨_,rfl,by simp; lia⟩,st'.pre,fun a ob e t=>i3 a ob (st'.tup a ob e t) t,fun a ob sa ha e=>?_⟩
 rw [sb.2 a ha]; exact st'.keep a ob e sa.1 sa.2.1 sa.2.2
theorem z5q (ok:F.Ok C) {kx vx:Expr} {ck cv:Reg→X V} (h:EOk C F n kx ck) (h2:EOk C F n vx cv) :
  z3A C F n (fun D=>do
      let kv ← eval kx F.env
      let vv ← holding [kv] (eval vx F.env)
      standAt { kx.pos with endLine:=vx.pos.endLine,endCol:=vx.pos.endCol }
      holding [kv,vv] (dictSet D kv vv)) (k9X ck cv) szDict:=by
 intro A ρ reg H s D o k ρ₁ h₁ P room inv sd hb hn st hor hz hk e hP
 refine cX1 hz fun es yA=>cA2 yA fun yB=>?_; clear hz yA; subst yB; intro hlen
 refine wpAny_bind (k0e.seqOk (h A ρ reg H s room inv) (R:=bK (fun k=>cv reg >>= fun v=>onStr (fun k=>(Pure.pure (O.dict (k2c es k v)):X O)) k) P) e hP fun K kv ρ' H₁ s' e1 q st'=>?_)
 refine cA2 q fun hK inv'=>?_; clear q
 refine wpAny_bind (wpAny_holding (k0e.seqOk (h2 A ρ' reg H₁ s' room inv') (R:=bK (fun v=>onStr (fun k=>(Pure.pure (O.dict (k2c es k v)):X O)) K) P) e1 hP fun W x ρ₂ H₂ s₂ e2 q2 st2=>?_))
 refine cA2 q2 fun hW inv2=>?_; clear q2
 have stc:=st'.trans st2
 refine cX1 hor.there fun ob yA=>cA2 yA fun g _=>?_; clear yA
 have sd2:k6C C F ρ₂ D:=k6C.step stc sd g
 have hK2:=hK.step st2
 refine z3q e2 fun kk ek e3=>?_
 subst ek
 refine VR.eStr hK2 fun tk=>?_
 refine cX1 (hor.mono stc.pre stc.tup fun o z=>stc.keep D o z sd.1 sd.2.1 sd.2.2) fun kvs yA=>cA2 yA fun hat hent=>?_; clear yA
 have hl:=hent.length
 refine wpAny_bind (wpAny_standAt (wpAny_holding (k5P (k2D _ _) hat (fun h' hat' sb=>?_) (by lia))))
 have nt:∀ o,s₂.heap.get? D = some o→¬ k4z o:=fun o w t=>by
  refine cX2 hat fun o' es' yA=>cA3 yA fun ho' hc' _=>?_; clear hat yA
  rw [w] at ho'; refine k1f ho' fun yA=>?_; clear ho'; subst yA
  rw [k4z,hc'.1] at t
  exact absurd t.1 (by decide)
 refine cA3 (inv2.sideStep ok sd2 hb nt (t:=s₂.toks + 1) sb hn (st.trans stc)) fun i1 i2 i3=>?_
 refine ⟨_,ρ₂,_,e3,i1,sd2,i2,⟨stored kvs ⟨kk.toArray⟩ x,hat',(hent.put kk hW).mono (w0m _) i3⟩,⟨_,rfl,w1B (k2y _ _ _) (by lia)⟩,stc.pre,fun a ob e t=>i3 a ob (stc.tup a ob e t) t,fun a ob sa ha e=>?_⟩
 rw [sb.2 a ha]; exact stc.keep a ob e sa.1 sa.2.1 sa.2.2
variable {scope:Scope} {cl:List (Str × Addr)} {tn:List Str} {idx:List Nat}
noncomputable def k3z (t:Nat) (idx:List Nat) (ci:Reg→X It) (ct:V→Reg→X Reg) (cf:Reg→X Bool) (emit:Reg→O→X O) (o₀:O) (reg:Reg):X V :=
 ci reg >>= fun it=>k4X (k6r ct cf emit it 64 0 (k4j t idx reg) o₀) >>= k3r
theorem k7G (ok:F.Ok C) {A:Around} {ρ:List Addr} {reg:Reg} {s:Shared} {P:Po V} {o:O} {H₂:Hp} {s₂:Shared} {ρ₂:List Addr} {D K:Addr} {m:Str→Option Value} (e:wp (k3r o) P H₂) (inv:k1O C F (ρ₂ ++ [D]) reg (H₂ ++ [o]) s₂)
  (st:k1m F.fs F.mods ρ (ρ₂ ++ [D]) s.heap s₂.heap) (hl:ρ₂.length = H₂.length) (sd:k6C C F (ρ₂ ++ [D]) K) (hb:C.base.get? K = none) (h0:s.heap.get? K = none) (hm:s₂.heap.Ns K m) :
  compPost (model C.prog C.w) A (QE C F P ρ s.heap) none (PO C F P (QV C F reg) ρ s.heap) (.ref D) K (.ok .next) s₂:=by
 refine ⟨m,hm,fun h' sb=>?_⟩
 have nt:∀ o,s₂.heap.get? K = some o→¬ k4z o:=fun o w t=>by
  refine cX3 hm fun o' es ep yA=>cA3 yA fun h1 h2 _=>?_; clear hm yA
  rw [w] at h1; refine k1f h1 fun yA=>?_; clear h1; subst yA
  refine cX2 t.2 fun l n d=>?_
  rw [h2] at d; cases d
 refine cA3 (inv.sideStep ok sd hb nt (t:=s₂.toks) sb h0 st) fun i1 i2 i3=>?_
 exact ⟨_,_,_,e,⟨.loc _ _ (by rw [← hl,w0C (w0l _)]; simp),i1⟩,i2⟩
theorem k2N (ok:F.Ok C) (cok:C.Ok) (z:k3y F scope cl tn idx) {target iter elt:Expr} {ifs:List Expr} {pos:Pos} {ci:Reg→X It} {ct:V→Reg→X Reg} {cf:Reg→X Bool} {ce:Reg→X V} (hit:k8C C F n iter ci)
  (inner:∀ K,(k2r F scope cl tn K).Ok C→AOk C (k2r F scope cl tn K) n target ct∧z2F C (k2r F scope cl tn K) n ifs cf∧EOk C (k2r F scope cl tn K) n elt ce) (htg:Tgt tn.length ct)
  (hs:∀ x,foldedSetIterable iter F.env x = pure x:=by intro _; rfl) :
  EOk C F n (.ListComp elt [⟨target,iter,ifs,0⟩] scope pos) (k3z tn.length idx ci ct cf (k2H ce) (.list [])):=by
 intro A ρ reg H s room inv P e
 rw [eval_ListComp]
 refine z0G ok cok z (emitS:=fun env D=>do let _ ← call (.builtin "list.append") [.ref D,← eval elt env]) (sz:=z5p) (o₀:=.list []) (ob₀:={ cls:=.type "list",data:=.seq #[] }) hit rfl (fun K okF=>?_) htg
  (fun k o w=>cX1 w fun vs w=>⟨vs,w.1,by have:=w.2; lia⟩) ⟨[],rfl,w1t _⟩ (fun A s Q E h=>wpAny_newList h) rfl (fun ρ h a g=>⟨[],⟨_,g⟩,.nil⟩) (fun A R I D env s h1 h2=>codeAny_compStart_list h1 h2) (fun A R it D env I turn n s h=>z1B I turn n h) hs room inv e
  fun o H₂ s₂ ρ₂ D K m e2 i1 i2 i3 i4 i5 i6 i7=>k7G ok e2 i1 i2 i3 i4 i5 i6 i7
 refine cA3 (inner K okF) fun a b c=>?_
 exact ⟨a,b,z1D okF c⟩
theorem k9F (k v gens scope pos env):eval (.DictComp k v gens scope pos) env = comprehension (.DictComp k v gens scope pos) scope env (firstIterPos gens pos) newDict (firstAsync gens) (firstIter gens env):=rfl
theorem k7H (ok:F.Ok C) (cok:C.Ok) (z:k3y F scope cl tn idx) {target iter kx vx:Expr} {ifs:List Expr} {pos:Pos} {ci:Reg→X It} {ct:V→Reg→X Reg} {cf:Reg→X Bool} {ck cv:Reg→X V} (hit:k8C C F n iter ci)
  (inner:∀ K,(k2r F scope cl tn K).Ok C→AOk C (k2r F scope cl tn K) n target ct∧z2F C (k2r F scope cl tn K) n ifs cf∧EOk C (k2r F scope cl tn K) n kx ck∧EOk C (k2r F scope cl tn K) n vx cv) (htg:Tgt tn.length ct)
  (hs:∀ x,foldedSetIterable iter F.env x = pure x:=by intro _; rfl) :
  EOk C F n (.DictComp kx vx [⟨target,iter,ifs,0⟩] scope pos) (k3z tn.length idx ci ct cf (k9X ck cv) (.dict [])):=by
 intro A ρ reg H s room inv P e
 rw [k9F]
 refine z0G ok cok z (emitS:=fun env D=>do
      let kv ← eval kx env
      let vv ← holding [kv] (eval vx env)
      standAt { kx.pos with endLine:=vx.pos.endLine,endCol:=vx.pos.endCol }
      holding [kv,vv] (dictSet D kv vv)) (sz:=szDict) (o₀:=.dict []) (ob₀:={ cls:=.type "dict",data:=.dict #[] }) hit rfl (fun K okF=>?_) htg
  (fun k o w=>cX1 w fun vs w=>⟨vs,w.1,by have:=w.2; lia⟩) ⟨[],rfl,w1t _⟩ (fun A s Q E h=>wpAny_newObj_type h) rfl (fun ρ h a g=>⟨[],⟨_,#[],g,⟨rfl,rfl,rfl⟩,rfl,fun e he=>by simp at he,.nil,w0L⟩,.nil⟩) (fun A R I D env s h1 h2=>codeAny_compStart_dict h1 h2) (fun A R it D env I turn n s h=>z5n I turn n h) hs room inv e
  fun o H₂ s₂ ρ₂ D K m e2 i1 i2 i3 i4 i5 i6 i7=>k7G ok e2 i1 i2 i3 i4 i5 i6 i7
 refine cA4 (inner K okF) fun a b c d=>?_
 exact ⟨a,b,z5q okF c d⟩
theorem k4L (ok:F.Ok C) (cok:C.Ok) (z:k3y F scope cl tn idx) {x:Str} {px:Pos} {target iter elt:Expr} {ifs:List Expr} {pos pos':Pos} {ci:Reg→X It} {ct:V→Reg→X Reg} {cf:Reg→X Bool} {ce:Reg→X V} {cx:V→Reg→X Reg} (hx:AOk C F n (.Name x px) cx) (hit:k8C C F n iter ci)
  (inner:∀ K,(k2r F scope cl tn K).Ok C→AOk C (k2r F scope cl tn K) n target ct∧z2F C (k2r F scope cl tn K) n ifs cf∧EOk C (k2r F scope cl tn K) n elt ce) (htg:Tgt tn.length ct)
  (hsw:swapsWith (.ListComp elt [⟨target,iter,ifs,0⟩] scope pos) (some (.Name x px)) pos'.line F.env = pure true:=by rfl) (hs:∀ x,foldedSetIterable iter F.env x = pure x:=by intro _; rfl) :
  SOk C F n (.Assign [.Name x px] (.ListComp elt [⟨target,iter,ifs,0⟩] scope pos) pos') (k0p (k3z tn.length idx ci ct cf (k2H ce) (.list [])) cx):=by
 intro A ρ reg H s room inv P e
 rw [exec_Assign_Name_used _ _ _ _ hsw]
 have e':wp (ci reg >>= fun it=>k4X (k6r ct cf (k2H ce) it 64 0 (k4j tn.length idx reg) (.list [])) >>= fun o=>k3r o >>= fun v=>cx v reg >>= fun reg'=>Pure.pure (Fl.next,reg')) P H:=e
 refine wpAny_bind (wpAny_standAt (wpAny_bind (wpAny_bind ?_)))
 refine z0G ok cok z (emitS:=fun env D=>do let _ ← call (.builtin "list.append") [.ref D,← eval elt env]) (sz:=z5p) (o₀:=.list []) (ob₀:={ cls:=.type "list",data:=.seq #[] }) hit rfl (fun K okF=>?_) htg
  (fun k o w=>cX1 w fun vs w=>⟨vs,w.1,by have:=w.2; lia⟩) ⟨[],rfl,w1t _⟩ (fun A s Q E h=>wpAny_newList h) rfl (fun ρ h a g=>⟨[],⟨_,g⟩,.nil⟩) (fun A R I D env s h1 h2=>codeAny_compStart_list h1 h2) (fun A R it D env I turn n s h=>z1B I turn n h) hs room inv e'
  fun o H₂ s₂ ρ₂ D K m e2 i1 i2 i3 i4 i5 i6 i7=>?_
 ·refine cA3 (inner K okF) fun a b c=>?_
  exact ⟨a,b,z1D okF c⟩
 ·have e3:wp (cx (.loc H₂.length) reg >>= fun reg'=>Pure.pure (Fl.next,reg')) P (H₂ ++ [o]):=e2
  refine wpAny_mono (k0e.seq (hx A (ρ₂ ++ [D]) reg (H₂ ++ [o]) s₂ (.loc H₂.length) (.ref D) room i1 (.loc _ _ (by rw [← i3,w0C (w0l _)]; simp))) e3 fun reg' Y ρ' H₁ s' q st' e4=>?_) (fun Y Y w=>w) fun e s' w=>w.after i2
  refine cX3 i7 fun o1 es ep yA=>cA3 yA fun g1 g2 g3=>?_; clear i7 yA
  have hm:s'.heap.Ns K m:=k5Q ⟨o1,es,ep,g1,g2,g3⟩ fun o w Y=>st'.frame K o w i4.1 i4.2.1
  have sd:k6C C F ρ' K:=k6C.step st' i4 g1
  refine ⟨m,hm,fun h' sb=>?_⟩
  have nt:∀ o,s'.heap.get? K = some o→¬ k4z o:=fun o w t=>by
   refine cX3 hm fun o' es ep yA=>cA3 yA fun h1 h2 _=>?_; clear hm yA
   rw [w] at h1; refine k1f h1 fun yA=>?_; clear h1; subst yA
   refine cX2 t.2 fun l n d=>?_
   rw [h2] at d; cases d
  refine cA3 (q.sideStep ok sd i5 nt (t:=s'.toks) sb i6 (i2.trans st')) fun j1 j2 j3=>?_
  exact wpAny_pure (wpAny_pure ⟨(.next,reg'),ρ',H₁,e4,⟨.next,j1⟩,j2⟩)
end
theorem filt_all (l:List Value):(List.range l.length).filterMap (fun i=>l[i]?) = l:=by
 induction l with
 | nil=>rfl
 | cons a l ih =>
  rw [w0s,w2i,List.filterMap_cons]
  show a :: _ = _
  rw [w2j]
  congr 1
theorem pick_rev (items:Array Value):slicePick items none none (some (-1)) = items.toList.reverse.toArray:=by
 unfold slicePick
 have hb:sliceBounds none none (some (-1)) items.size = ((items.size:Int) - 1,-1,-1):=by
  unfold sliceBounds
  simp
 rw [hb]
 dsimp only
 have hr:sliceRange ((items.size:Int) - 1) (-1) (-1) = (List.range items.size).reverse:=by
  unfold sliceRange
  by_cases h:items.size = 0
  ·rw [h]; rfl
  ·have h1:¬ ((-1:Int) > 0):=by decide
   have h2:(items.size:Int) - 1 > -1:=by lia
   dsimp only
   rw [if_neg h1,if_pos h2]
   have h3:((((items.size:Int) - 1 - -1 - -1 - 1) / (- -1))).toNat = items.size:=by
    have:((items.size:Int) - 1 - -1 - -1 - 1) = items.size:=by lia
    rw [this]; simp
   rw [h3]
   refine List.ext_getElem (by simp) fun i a b=>?_
   simp only [w0u,w1e] at a
   rw [List.getElem_map,w2k,List.getElem_reverse,w2k,w1e]
   lia
 rw [hr,List.filterMap_reverse]
 congr 2
 have:=filt_all items.toList
 rw [Array.length_toList] at this
 conv=>rhs; rw [← this]
 simp only [Array.getElem?_toList]
inductive Sl where
 | from (n:Nat)
 | upto (n:Nat)
 | rev
noncomputable def Sl.get {α:Type} (p:Sl) (xs:List α):List α:=match p with
 | .from n=>xs.drop n
 | .upto n=>xs.take n
 | .rev=>xs.reverse
noncomputable def slOf (k:Nat) (lo hi st:Option Int):Option Sl:=match lo with
 | some a=>if hi = none∧st = none∧0≤a∧a.toNat≤k then some (.from a.toNat) else none
 | none=>match hi with
  | some b=>if st = none∧0≤b then some (.upto b.toNat) else none
  | none=>if st = some (-1) then some .rev else none
noncomputable def k5w {α:Type} (xs:List α) (lo hi st:Option Int):Option (List α):=(slOf xs.length lo hi st).map fun p=>p.get xs
noncomputable def k4n (ex:Nat→Option (List V)) (v:V) (lo hi st:Option Int):X V:=match v with
 | .loc l=>⟨fun Q h=>oK h[l]? (fun o=>∃ xs,o = .list xs∧xs.length≤4096∧oK (k5w xs lo hi st) (fun ys=>Q (.ok (.loc h.length)) (h ++ [.list ys]))),fun q x=>k2Y (fun _ w=>cX1 w fun xs w=>⟨xs,w.1,w.2.1,k2Y (fun Y z=>q _ _ z) w.2.2⟩) x⟩
 | .ext a=>z4N (ex a) fun xs=>when (xs.length≤4096) (z4N (k5w xs lo hi st) fun ys=>k3r (.list ys))
 | .tup xs=>z4N hi fun b=>when (lo = none∧st = none∧0≤b∧b.toNat≤xs.length∧xs.length≤64) (Pure.pure (.tup (xs.take b.toNat)))
 | .str s=>when (lo = none∧hi = none∧st = some (-1)∧s = [65,66,67,68]) (Pure.pure (.str [68,67,66,65]))
 | _=>X.stuck
theorem k7m (items:Array Value) (b:Nat):slicePick items none (some b) none = (items.toList.take b).toArray:=by
 by_cases h:b≤items.size
 ·exact slicePick_upto items b h
 ·have e:sliceBounds none (some (b:Int)) none items.size = sliceBounds none (some (items.size:Int)) none items.size:=by
   unfold sliceBounds
   simp only [w2l]
   congr 2
   have h1:¬ ((b:Int) < 0):=by lia
   have h2:¬ ((items.size:Int) < 0):=by lia
   simp only [h1,h2,if_false]
   split <;> lia
  have:=slicePick_upto items items.size (w0l _)
  unfold slicePick at this ⊢
  rw [e,this]
  congr 1
  rw [w1D (by simp),w1D (by simp; lia)]
theorem pick_rel {items:List Value} {lo hi st:Option Int} {α:Type} {xs:List α} {ys:List α} (hl:xs.length = items.length) (e:k5w xs lo hi st = some ys):st≠some 0∧∃ p:Sl,ys = p.get xs∧slicePick items.toArray lo hi st = (p.get items).toArray:=by
 refine cX1 (w0E.mp e) fun p yA=>cA2 yA fun hp yB=>?_; clear yA; subst yB
 clear e
 cases lo with
 | some a =>
  refine k7B hp fun h e=>?_
  refine cA4 h fun yA=>?_; clear h; subst yA; intro yB; subst yB; intro h0 h1
  refine k1f e fun yA=>?_; clear e; subst yA
  refine ⟨nofun,_,rfl,?_⟩
  rw [← Int.toNat_of_nonneg h0]
  exact slicePick_from items.toArray a.toNat (by simp; lia)
 | none =>
  cases hi with
  | some b =>
   refine k7B hp fun h e=>?_
   refine cA2 h fun yA=>?_; clear h; subst yA; intro h0
   refine k1f e fun yA=>?_; clear e; subst yA
   refine ⟨nofun,_,rfl,?_⟩
   rw [← Int.toNat_of_nonneg h0]
   exact k7m items.toArray b.toNat
  | none =>
   refine k7B hp fun h e=>?_
   subst h
   refine k1f e fun yA=>?_; clear e; subst yA
   exact ⟨by decide,_,rfl,pick_rev _⟩
theorem VRs.drop {ρ:List Addr} {h:Heap} {Vs:List V} {vs:List Value} (x:VRs ρ h Vs vs):∀ k,VRs ρ h (Vs.drop k) (vs.drop k):=by
 intro k
 induction k generalizing Vs vs with
 | zero=>exact x
 | succ k ih =>
  cases Vs with
  | nil=>refine VRs.iNil x fun yA=>?_; clear x; subst yA; exact .nil
  | cons=>exact VRs.eCons x fun Y Y Y b=>ih b
theorem VRs.take {ρ:List Addr} {h:Heap} {Vs:List V} {vs:List Value} (x:VRs ρ h Vs vs):∀ k,VRs ρ h (Vs.take k) (vs.take k):=by
 intro k
 induction k generalizing Vs vs with
 | zero=>exact .nil
 | succ k ih =>
  cases Vs with
  | nil=>refine VRs.iNil x fun yA=>?_; clear x; subst yA; exact .nil
  | cons=>exact VRs.eCons x fun Y Y a b=>.cons a (ih b)
theorem VRs.reverse {ρ:List Addr} {h:Heap} {Vs:List V} {vs:List Value} (x:VRs ρ h Vs vs):VRs ρ h Vs.reverse vs.reverse:=by
 induction Vs generalizing vs with
 | nil=>refine VRs.iNil x fun yA=>?_; clear x; subst yA; exact .nil
 | cons V Vs ih =>
  refine VRs.eCons x fun Y Y a b=>?_
  rw [w1W,w1W]
  exact (ih b).append (.cons a .nil)
theorem VRs.pick {ρ:List Addr} {h:Heap} {Vs:List V} {vs:List Value} (x:VRs ρ h Vs vs) (p:Sl):VRs ρ h (p.get Vs) (p.get vs):=match p with
 | .from n=>x.drop n
 | .upto n=>x.take n
 | .rev=>x.reverse
section
variable {C:k1J} {F:Fm} {n:Nat}
noncomputable def SlOk (C:k1J) (F:Fm) (n:Nat) (value slice:Expr) (f:V→Option Int→Option Int→Option Int→X V):Prop :=
 ∀ A ρ reg H s a va sl vl vu vs lo hi st,k7Y n A F→k1O C F ρ reg H s→VR ρ s.heap a va→s.heap.IsSliceOf sl vl vu vs→IsPart vl lo→IsPart vu hi→IsPart vs st →
  k0e C F A ρ H s (PyProof.Rows.subscriptTail value slice va (.ref sl)) (f a lo hi st) (QV C F reg)
noncomputable def ExtOk (C:k1J) (ex:Nat→Option (List V)):Prop:=∀ a xs,ex a = some xs→∃ items,C.base.IsList a items.toArray∧∀ ρ h,VRs ρ h xs items
theorem k6e (cok:C.Ok) {A:Around} {ρ:List Addr} {reg:Reg} {H:Hp} {s:Shared} {la sl:Addr} {xs ys:List V} {items:List Value} {vl vu vs:Value} {lo hi st:Option Int} (inv:k1O C F ρ reg H s) (hl:s.heap.IsList la items.toArray) (hv:VRs ρ s.heap xs items) (hlen:xs.length≤4096)
  (hs:s.heap.IsSliceOf sl vl vu vs) (p1:IsPart vl lo) (p2:IsPart vu hi) (p3:IsPart vs st) (hp:k5w xs lo hi st = some ys):k0e C F A ρ H s (getItem (.ref la) (.ref sl)) (k3r (.list ys)) (QV C F reg):=by
 refine cA2 (pick_rel hv.length hp) fun h0 yA=>cX1 yA fun p yB=>cA2 yB fun yC=>?_; clear yA yB; subst yC; intro e1
 refine k0e.alloc (wpAny_getItem_list_slice hl hs p1 p2 p3 h0 ?_ (by rw [sizeLine_eq]; simp only [w0O,← hv.length]; lia))
 rw [e1]
 have k:∀ a o,s.heap.get? a = some o→(s.heap.push { cls:=.type "list",data:=.seq (p.get items).toArray }).get? a = some o:=fun a o e=>Heap.get?_push_of_some _ e
 refine cA2 (inv.push (t:=s.toks) (a:=s.heap.objs.size) (o:=.list (p.get xs)) cok k (w0l _) fun hm=>⟨p.get items,⟨_,Heap.get?_push_size _ rfl⟩,(hv.pick p).mono ⟨_,rfl⟩ fun a o e Y=>k a o e⟩) fun y st'=>?_
 exact ⟨_,⟨VR.last inv.hm,y⟩,st'⟩
theorem k6I {A:Around} {E:Value→Shared→Prop} {s:Shared} {t sl:Addr} {items:List Value} {b:Nat} {u:Tok} {Q:Value→Shared→Prop} (ht:s.heap.IsTuple t items.toArray) (hs:s.heap.IsSliceOf sl .none (.int b u) .none) (hb:b≤items.length) (hsz:items.length≤64)
  (hall:b = items.length→Q (.ref t) s) (h:Q (.ref s.heap.objs.size) { s with heap:=s.heap.push { cls:=.type "tuple",data:=.seq (items.take b).toArray } }):wpAny (model C.prog C.w) A (getItem (.ref t) (.ref sl)) Q E s:=by
 have hfit:sizeOk (.seq (items.take b).toArray):=by
  show (items.take b).toArray.size≤sizeLine
  rw [sizeLine_eq,w0O,w0X]
  lia
 refine cX1 (id hs) fun os yA=>cA3 yA fun hos hcs hds=>?_; clear yA
 have hTs:s.TypeIs (.ref sl) "slice":=⟨os,hos,hcs⟩
 have hT:s.TypeIs (.ref t) "tuple":=cX1 ht fun o w=>⟨o,w.1,w.2.1⟩
 unfold getItem
 refine wpAny_holding ?_
 refine wpAny_bind (wpAny_sequenceKey hT (by decide) ?_)
 refine wpAny_bind (wpAny_callSpecial?_slot (name:=Str.ofString "__getitem__") hT PyProof.Rows.slot_tuple_getitem (wpAny_call_entry PyProof.Rows.slot_tuple_getitem hT PyProof.Rows.entry_tuple_getitem ?_ (PyProof.Rows.args_tuple_getitem _ _)))
 show wpAny _ _ (Builtin.Tuple.tupleItemsOf (.ref t) >>= _) _ _ s
 refine cX1 (id ht) fun ot yA=>cA3 yA fun hot _ yB=>cX1 yB fun nt hdt=>?_; clear yA yB
 refine wpAny_bind (m:=Builtin.Tuple.tupleItemsOf (.ref t)) (PyProof.Rows.tupleItemsOf_ ht ?_)
 refine wpAny_bind (wpAny_typeOf hTs ?_)
 rw [if_pos (by decide)]
 have applied:∀ {A':Around} {Q':Int × Int × Nat→Shared→Prop} {E':Value→Shared→Prop},Q' (0,1,b) s→wpAny (model C.prog C.w) A' (Builtin.Slice.sliceApplied (.ref sl) (pure (items.toArray.size:Int))) Q' E' s:=fun {A' Q' E'} hq=>by
  unfold Builtin.Slice.sliceApplied Builtin.Slice.sliceFields
  refine wpAny_bind (wpAny_bind (wpAny_field hos hds (x:=.none) rfl (wpAny_bind (wpAny_field hos hds (x:=.int b u) rfl (wpAny_bind (wpAny_field hos hds (x:=.none) rfl (wpAny_pure ?_)))))))
  refine wpAny_bind (PyProof.Rows.slicePart_none ?_)
  show wpAny _ _ (if ((1:Int) == 0) = true then _ else _) _ _ s
  rw [if_neg (by decide)]
  refine wpAny_bind (PyProof.Rows.slicePart_none (wpAny_bind (PyProof.Rows.slicePart_int (wpAny_bind (wpAny_pure ?_)))))
  show wpAny _ _ (match Builtin.Slice.sliceAdjust none (some (b:Int)) 1 (items.toArray.size:Int) with | (lo,hi)=>pure (lo,(1:Int),Builtin.Slice.slicePlaces lo hi 1)) _ _ s
  have e1:Builtin.Slice.sliceAdjust none (some (b:Int)) 1 (items.toArray.size:Int) = (0,(b:Int)):=by
   unfold Builtin.Slice.sliceAdjust
   have h1:¬ ((1:Int) < 0):=by lia
   have h2:¬ ((b:Int) < 0):=by lia
   simp only [h1,h2,if_false]
   congr 1
   simp only [w0O]
   lia
  have e2:Builtin.Slice.slicePlaces 0 (b:Int) 1 = b:=by
   unfold Builtin.Slice.slicePlaces
   have h1:(1:Int) > 0:=by lia
   simp only [h1,if_true,Int.ediv_one]
   split <;> lia
  rw [e1]
  show wpAny _ _ (pure ((0:Int),(1:Int),Builtin.Slice.slicePlaces 0 (b:Int) 1)) _ _ s
  rw [e2]
  exact wpAny_pure hq
 refine wpAny_bind (applied ?_)
 show wpAny _ _ (if ((0:Int) == 0 && (1:Int) == 1 && b == items.toArray.size) = true then _ else _) _ _ s
 by_cases hbn:b = items.length
 ·rw [if_pos (by simp [hbn])]
  refine wpAny_bind (wpAny_bind (wpAny_typeOf hT (wpAny_pure ?_)))
  rw [if_pos (by decide)]
  refine wpAny_bind (wpAny_rule ?_)
  exact wpAny_bind (wpAny_pure (wpAny_pure ⟨_,rfl,wpAny_pure (hall hbn)⟩))
 ·rw [if_neg (by simp [hbn])]
  have e3:((List.range b).filterMap fun (k:Nat)=>items.toArray[((0:Int) + (k:Int) * 1).toNat]?).toArray = (items.take b).toArray:=by
   have:=pick_run items.toArray 0 b
   simp only [List.drop_zero,w2j] at this
   rw [← this]
   congr 1
   have fe:(fun (k:Nat)=>items.toArray[((0:Int) + (k:Int) * 1).toNat]?) = ((fun x=>items.toArray[x]?) ∘ fun x=>0 + x):=by
    funext k
    have q:((0:Int) + (k:Int) * 1).toNat = 0 + k:=by lia
    show items.toArray[((0:Int) + (k:Int) * 1).toNat]? = items.toArray[0 + k]?
    rw [q]
   rw [fe]
  rw [e3]
  exact wpAny_bind (wpAny_newObj_type (wpAny_bind (wpAny_pure (wpAny_pure ⟨_,rfl,wpAny_pure h⟩))) hfit)
theorem k6f (cok:C.Ok) {value slice:Expr} {ex:Nat→Option (List V)} (hex:ExtOk C ex) {ops:Value→Value→List Value} (hs:∀ o i,subscripted slice false o i = operate (ops o i) (getItem o i)):SlOk C F n value slice (k4n ex):=by
 intro A ρ reg H s a va sl vl vu vs lo hi st room inv ha hsl p1 p2 p3
 cases a with
 | loc l =>
  refine VR.eLoc ha fun la hla P p=>k5Z p fun o hl w1=>?_
  refine cX1 w1 fun xs yA=>cA3 yA fun yB=>?_; clear w1 yA; subst yB; intro hlen w2
  refine k5Z w2 fun ys hp w3=>?_
  refine cX1 (inv.hm.obj l la _ hla hl) fun items yA=>cA2 yA fun pl hv=>?_; clear yA
  exact PyProof.Rows.tail_any pl.isList.typeIs PySem.F.slot_list_getitem.lookup (k6e cok inv pl.isList hv hlen hsl p1 p2 p3 hp P w3) (hs _ _)
 | ext ad =>
  refine k0e.opt fun xs hx=>k0e.when fun hlen=>k0e.opt fun ys hp=>?_
  refine cX1 (hex _ _ hx) fun items yA=>cA2 yA fun hl hv=>?_; clear yA
  refine VR.iExt ha fun yA=>?_; clear ha; subst yA
  refine cX1 hl fun o yA=>cA2 yA fun ho r1=>?_; clear hl yA
  have hl':s.heap.IsList ad items.toArray:=⟨o,inv.base _ _ ho,r1⟩
  exact fun P p=>PyProof.Rows.tail_any hl'.typeIs PySem.F.slot_list_getitem.lookup (k6e cok inv hl' (hv ρ s.heap) hlen hsl p1 p2 p3 hp P p) (hs _ _)
 | tup xs =>
  refine k0e.opt fun b eb=>k0e.when fun hb=>?_
  refine cA5 hb fun yA=>?_; clear hb; subst yA; intro yB; subst yB; intro hb0 hb1 hb2
  subst eb
  cases p1; cases p3
  cases p2 with | int _ u =>
  refine VR.eTup ha fun ta items ht hv=>?_
  have hT:s.TypeIs (.ref ta) "tuple":=cX1 ht fun o w=>⟨o,w.1,w.2.1⟩
  obtain ⟨k,rfl⟩:∃ k:Nat,b = k:=⟨b.toNat,by lia⟩
  have hl:=hv.length
  refine k0e.prim0 (PyProof.Rows.tail_any hT PySem.F.slot_tuple_getitem.lookup (k6I ht hsl (by lia) (by lia) (fun hk=>⟨ρ,⟨?_,inv⟩,k1m.refl _ _ _ _⟩) ?_) (hs _ _))
  ·rw [w1D (by lia)]
   exact .tup _ _ _ ht hv
  ·have g:∀ a o,s.heap.get? a = some o→(s.heap.push { cls:=.type "tuple",data:=.seq (items.take k).toArray }).get? a = some o:=fun a o e=>Heap.get?_push_of_some _ e
   exact ⟨ρ,⟨.tup _ _ _ ⟨_,Heap.get?_push_size _ rfl,rfl,_,rfl⟩ ((hv.take k).mono (w0m _) fun a o e Y=>g a o e),inv.heap g⟩,k1m.grow g⟩
 | str t =>
  refine k0e.when fun he=>?_
  refine cA4 he fun yA=>?_; clear he; subst yA; intro yB; subst yB; intro yC; subst yC; intro yD; subst yD
  refine VR.eStr ha fun t=>?_
  cases p1; cases p2
  cases p3 with | int _ tk =>
  refine k0e.prim0 (PyProof.Rows.tail_any (typeIs_str _ _ _) PySem.F.slot_str_getitem.lookup (wpAny_getItem_str_slice (l:=none) (u:=none) (st:=some (-1,tk)) hsl rfl ?_) (hs _ _))
  have hm:sliceMade ⟨[65,66,67,68].toArray⟩ t none none (some (-1,tk)) = .str ⟨[68,67,66,65].toArray⟩:=by rfl
  rw [hm]
  exact ⟨by decide,ρ,⟨.str _ _,inv.toks _⟩,k1m.refl _ _ _ _⟩
 | _=>exact k0e.stuck
end
noncomputable def k9Y:List V→Option (List Int)
 | []=>some []
 | .int i :: r=>(k9Y r).map (i :: ·)
 | _ :: _=>none
noncomputable def k9Z:List Int→Int
 | []=>0
 | [a]=>a
 | a :: r=>max a (k9Z r)
noncomputable def z0H:List Int→Int
 | []=>0
 | [a]=>a
 | a :: r=>min a (z0H r)
theorem z1E:∀ (l:List Int),l≠[]→k9Z l∈l∧∀ a∈l,a≤k9Z l
 | [],h=>absurd rfl h
 | [a],_=>by simp [k9Z]
 | a :: b :: r,_=>by
  refine cA2 (z1E (b :: r) (by simp)) fun h1 h2=>?_
  have e:k9Z (a :: b :: r) = max a (k9Z (b :: r)):=rfl
  rw [e]
  constructor
  ·refine Or.elim (Int.le_total a (k9Z (b :: r))) (fun h=>?_) fun h=>?_
   ·rw [Int.max_eq_right h]; exact .tail _ h1
   ·rw [Int.max_eq_left h]; exact .head _
  ·intro x hx
   refine Or.elim (w0c.mp hx) (fun yY=>?_) fun hx=>?_; subst yY
   ·exact Int.le_max_left _ _
   ·exact Int.le_trans (h2 x hx) (Int.le_max_right _ _)
theorem z1F:∀ (l:List Int),l≠[]→z0H l∈l∧∀ a∈l,z0H l≤a
 | [],h=>absurd rfl h
 | [a],_=>by simp [z0H]
 | a :: b :: r,_=>by
  refine cA2 (z1F (b :: r) (by simp)) fun h1 h2=>?_
  have e:z0H (a :: b :: r) = min a (z0H (b :: r)):=rfl
  rw [e]
  constructor
  ·refine Or.elim (Int.le_total a (z0H (b :: r))) (fun h=>?_) fun h=>?_
   ·rw [Int.min_eq_left h]; exact .head _
   ·rw [Int.min_eq_right h]; exact .tail _ h1
  ·intro x hx
   refine Or.elim (w0c.mp hx) (fun yY=>?_) fun hx=>?_; subst yY
   ·exact Int.min_le_left _ _
   ·exact Int.le_trans (Int.min_le_right _ _) (h2 x hx)
theorem z4j {ρ:List Addr} {h:Heap}:∀ {Vs:List V} {vs:List Value} {ns:List Int},VRs ρ h Vs vs→k9Y Vs = some ns→PyProof.Rows.IntsAre vs ns
 := by
 intro Vs
 induction Vs with
 | nil =>
  intro vs ns x e
  refine VRs.iNil x fun yA=>?_; clear x; subst yA
  cases e
  exact .nil
 | cons v r ih =>
  intro vs ns x e
  refine VRs.eCons x fun Y Y hv hr=>?_
  cases hv with
  | int i t =>
   refine cX1 (w0E.mp e) fun k' yA=>cA2 yA fun e1 yB=>?_; clear yA; subst yB
   exact .cons _ _ (ih hr e1)
  | _=>exact (Option.noConfusion rfl (heq_of_eq e))
noncomputable def oLen:O→Option Nat
 | .list vs=>some vs.length
 | _=>none
noncomputable def z3B:List V→X V:=args1 fun a=>match a with
 | .loc l=>atBind l oLen fun k=>when (k≤4096) (Pure.pure (.int k))
 | .tup vs=>when (vs.length≤4096) (Pure.pure (.int vs.length))
 | .str s=>when (s.length≤4096) (Pure.pure (.int s.length))
 | _=>X.stuck
noncomputable def k9G:O→Option (List Int)
 | .list vs=>k9Y vs
 | _=>none
noncomputable def xFold (g:List Int→Int) (l:Nat):X V:=atBind l k9G fun ns=>when (ns≠[]) (Pure.pure (.int (g ns)))
noncomputable def xMax (l:List V):X V:=match l with
 | [a]=>onLoc (xFold k9Z) a
 | [a,b]=>inI2 (fun x y=>Pure.pure (.int (max x y))) a b
 | _=>X.stuck
noncomputable def xMin:List V→X V:=args1 (onLoc (xFold z0H))
noncomputable def xSum:List V→X V:=args1 (onLoc fun l=>atBind l k9G fun ns=>Pure.pure (.int ns.sum))
section
variable {C:k1J} {F:Fm} {n:Nat}
theorem k0e.seqFrom {α β δ:Type} {A:Around} {ρ ρ₀:List Addr} {H:Hp} {s:Shared} {h₀:Heap} {t:Sem α} {c:X β} {kc:β→X δ} {Q:β→α→List Addr→Hp→Shared→Prop} {P:Po δ} {Z:α→Shared→Prop} (x:k0e C F A ρ H s t c Q)
  (st0:k1m F.fs F.mods ρ₀ ρ h₀ s.heap) (e:wp (c >>= kc) P H)
  (y:∀ b a ρ' H₁ s',Q b a ρ' H₁ s'→k1m F.fs F.mods ρ ρ' s.heap s'.heap→k1m F.fs F.mods ρ₀ ρ' h₀ s'.heap→wp (kc b) P H₁→Z a s'):wpAny (model C.prog C.w) A t Z (QE C F P ρ₀ h₀) s :=
 wpAny_mono (k0e.seq x e fun b a ρ' H₁ s' q st e1=>y b a ρ' H₁ s' q st (st0.trans st) e1) (fun Y Y z=>z) fun e s' w=>w.after st0
noncomputable def cNo (_:Reg):X (Option Int):=Pure.pure none
noncomputable def k7n (c:Reg→X V) (reg:Reg):X (Option Int):=c reg >>= onInt fun i=>Pure.pure (some i)
noncomputable def k5g (f:V→Option Int→Option Int→Option Int→X V) (co:Reg→X V) (cl cu cs:Reg→X (Option Int)) (reg:Reg):X V:=co reg >>= fun a=>cl reg >>= fun lo=>cu reg >>= fun hi=>cs reg >>= fun st=>f a lo hi st
noncomputable def PtOk (C:k1J) (F:Fm) (n:Nat) (e:Option Expr) (c:Reg→X (Option Int)):Prop :=
 ∀ A ρ reg H s,k7Y n A F→k1O C F ρ reg H s→k0e C F A ρ H s (evalPart e F.env) (c reg) (fun k v ρ' H' s'=>IsPart v k∧k1O C F ρ' reg H' s')
theorem k2t:PtOk C F n none cNo:=fun Y Y Y Y Y Y inv=>k0e.pure ⟨.none,inv⟩
theorem k4Y {e:Expr} {c:Reg→X V} (h:EOk C F n e c):PtOk C F n (some e) (k7n c):=by
 intro A ρ reg H s room inv P e'
 rw [evalPart_some]
 refine k0e.seq (h A ρ reg H s room inv) e' fun V v ρ' H₁ s' q st e2=>?_
 refine cA2 q fun hv inv'=>?_; clear q
 refine z3p e2 fun i ei e3=>?_
 subst ei
 exact VR.eInt hv fun t=>⟨some i,ρ',H₁,e3,⟨.int i t,inv'⟩,st⟩
theorem k3f {value:Expr} {lower upper step:Option Expr} {p pos:Pos} {co:Reg→X V} {cl cu cs:Reg→X (Option Int)} {f:V→Option Int→Option Int→Option Int→X V} (ho:EOk C F n value co) (hl:PtOk C F n lower cl) (hu:PtOk C F n upper cu) (hs:PtOk C F n step cs)
  (ht:SlOk C F n value (.Slice lower upper step p) f):EOk C F n (.Subscript value (.Slice lower upper step p) pos) (k5g f co cl cu cs):=by
 intro A ρ reg H s room inv P e
 show wpAny _ _ (eval value F.env >>= fun o=>holding [o] (eval (.Slice lower upper step p) F.env) >>= fun i=>standAt pos >>= fun Y=>PyProof.Rows.subscriptTail value (.Slice lower upper step p) o i) _ _ _
 refine wpAny_bind (k0e.seqFrom (ho A ρ reg H s room inv) (k1m.refl _ _ _ _) e fun a va ρ₁ H₁ s₁ q Y st1 e1=>?_)
 refine wpAny_bind (wpAny_holding (wpAny_Slice ?_))
 refine k0e.seqFrom (hl A ρ₁ reg H₁ s₁ room q.2) st1 e1 fun lo vl ρ₂ H₂ s₂ q2 t2 st2 e2=>?_
 refine k0e.seqFrom (hu A ρ₂ reg H₂ s₂ room q2.2) st2 e2 fun hi vu ρ₃ H₃ s₃ q3 t3 st3 e3=>?_
 refine k0e.seqFrom (hs A ρ₃ reg H₃ s₃ room q3.2) st3 e3 fun sp vs ρ₄ H₄ s₄ q4 t4 st4 e4=>?_
 have g:∀ a o,s₄.heap.get? a = some o→(s₄.heap.push { cls:=.type "slice",data:=.fields #[vl,vu,vs] }).get? a = some o:=fun a o e=>Heap.get?_push_of_some _ e
 have hva:VR ρ₄ (s₄.heap.push { cls:=.type "slice",data:=.fields #[vl,vu,vs] }) a va:=(q.1.step ((t2.trans t3).trans t4)).mono (w0m _) fun a o e Y=>g a o e
 exact wpAny_bind (wpAny_standAt ((ht A ρ₄ reg H₄ { s₄ with heap:=s₄.heap.push { cls:=.type "slice",data:=.fields #[vl,vu,vs] } } a va s₄.heap.objs.size vl vu vs lo hi sp room (q4.2.heap g) hva (Heap.IsSliceOf.new ..) q2.1 q3.1 q4.1).finish e4 (st4.trans (k1m.grow g))))
theorem k6J:z4U C F n (.builtin "len") z3B:=by
 intro A ρ reg H s args vals room inv hv
 refine k0e.args1 fun a ea=>?_
 subst ea
 refine VRs.eCons hv fun Y Y h1 h2=>?_
 refine VRs.iNil h2 fun yA=>?_; clear h2; subst yA
 cases a with
 | loc l =>
  refine k0e.atBind fun o k ho hk=>k0e.when fun hb=>?_
  refine VR.eLoc h1 fun la hla=>?_
  cases o with
  | list vs =>
   cases hk
   refine cX1 (inv.hm.obj l la _ hla ho) fun items yA=>cA2 yA fun pl hvs=>?_; clear yA
   have hl:=hvs.length
   refine k0e.prim0 (PyProof.Rows.len_list pl.isList (by simp; lia) ?_)
   rw [w0O,← hl]
   exact ⟨ρ,⟨.int _ _,inv.toks _⟩,k1m.refl _ _ _ _⟩
  | _=>cases hk
 | tup vs =>
  refine k0e.when fun hb=>?_
  refine VR.eTup h1 fun ta items ht hvs=>?_
  have hl:=hvs.length
  refine k0e.prim0 (PyProof.Rows.len_tuple ht (by simp; lia) ?_)
  rw [w0O,← hl]
  exact ⟨ρ,⟨.int _ _,inv.toks _⟩,k1m.refl _ _ _ _⟩
 | str x =>
  refine k0e.when fun hb=>?_
  refine VR.eStr h1 fun t=>?_
  have hl:(⟨x.toArray⟩:Str).length = x.length:=by show x.toArray.size = _; simp
  refine k0e.prim0 (P.len_str (by rw [hl]; lia) ?_)
  rw [hl]
  exact ⟨ρ,⟨.int _ _,inv.toks _⟩,k1m.refl _ _ _ _⟩
 | _=>exact k0e.stuck
theorem z4k {vs:List Value} {ns:List Int} (hi:PyProof.Rows.IntsAre vs ns):∃ xs:Array (Int × Tok),vs.toArray = intItems xs∧ns = xs.toList.map (·.1):=by
 refine cX1 hi.allInts.items fun xs e=>?_
 refine ⟨xs,e,?_⟩
 rw [← hi.numsOf,← nums_intItems,← e]
theorem z2G {ρ:List Addr} {reg:Reg} {H:Hp} {s:Shared} {l:Nat} {la:Addr} {o:O} {ns:List Int} (inv:k1O C F ρ reg H s) (hla:ρ[l]? = some la) (ho:H[l]? = some o) (hk:k9G o = some ns):∃ xs:Array (Int × Tok),s.heap.IsList la (intItems xs)∧ns = xs.toList.map (·.1):=by
 cases o with
 | list vs =>
  refine cX1 (inv.hm.obj l la _ hla ho) fun items yA=>cA2 yA fun pl hvs=>?_; clear yA
  refine cX1 (z4k (z4j hvs hk)) fun xs yA=>cA2 yA fun e1 e2=>?_; clear yA
  exact ⟨xs,e1 ▸ pl.isList,e2⟩
 | _=>cases hk
theorem size_pos {xs:Array (Int × Tok)} {ns:List Int} (e2:ns = xs.toList.map (·.1)) (hne:ns≠[]):0 < xs.size:=by
 refine Or.elim (Nat.eq_zero_or_pos xs.size) (fun q=>?_) fun q=>?_
 ·exfalso; apply hne; rw [e2]; simp at q; simp [q]
 ·exact q
theorem best_max {xs:Array (Int × Tok)} {ns:List Int} (e2:ns = xs.toList.map (·.1)) (hne:ns≠[]):numAt xs (argBest (fun i j=>decide (numAt xs i > numAt xs j)) (xs.size - 1)) = k9Z ns:=by
 have hsz:=size_pos e2 hne
 refine cA2 (PySem.argBest_gt (numAt xs) (xs.size - 1)) fun h1 h2=>?_
 refine cA2 (z1E ns hne) fun m1 m2=>?_
 apply Int.le_antisymm
 ·apply m2
  rw [e2,PySem.numAt_eq]; exact PySem.getD_mem (by rw [w0u,Array.length_toList]; lia)
 ·rw [e2] at m1
  refine cX1 (PySem.mem_getD m1) fun j yA=>cA2 yA fun hj ej=>?_; clear yA
  rw [w0u,Array.length_toList] at hj
  rw [← e2] at ej
  rw [← ej,e2,← PySem.numAt_eq]; exact h2 j (by lia)
theorem best_min {xs:Array (Int × Tok)} {ns:List Int} (e2:ns = xs.toList.map (·.1)) (hne:ns≠[]):numAt xs (argBest (fun i j=>decide (numAt xs i < numAt xs j)) (xs.size - 1)) = z0H ns:=by
 have hsz:=size_pos e2 hne
 refine cA2 (PySem.argBest_lt (numAt xs) (xs.size - 1)) fun h1 h2=>?_
 refine cA2 (z1F ns hne) fun m1 m2=>?_
 apply Int.le_antisymm
 ·rw [e2] at m1
  refine cX1 (PySem.mem_getD m1) fun j yA=>cA2 yA fun hj ej=>?_; clear yA
  rw [w0u,Array.length_toList] at hj
  rw [← e2] at ej
  rw [← ej,e2,← PySem.numAt_eq]; exact h2 j (by lia)
 ·apply m2
  rw [e2,PySem.numAt_eq]; exact PySem.getD_mem (by rw [w0u,Array.length_toList]; lia)
theorem z3C:z4U C F n (.builtin "max") xMax:=by
 intro A ρ reg H s args vals room inv hv
 rcases args with _ | ⟨a,_ | ⟨b,_ | ⟨c,r⟩⟩⟩
 ·exact k0e.stuck
 ·refine k0e.onLoc fun l el=>k0e.atBind fun o ns ho hk=>k0e.when fun hne=>?_
  subst el
  refine VRs.eCons hv fun Y Y h1 h2=>?_
  refine VRs.iNil h2 fun yA=>?_; clear h2; subst yA
  refine VR.eLoc h1 fun la hla=>?_
  refine cX1 (z2G inv hla ho hk) fun xs yA=>cA2 yA fun hl e2=>?_; clear yA
  refine k0e.prim0 (max_intList room.handled hl (size_pos e2 hne) fun v h' tk hv k=>?_)
  refine cX1 (intItems_at hv) fun t yA=>?_; subst yA
  rw [best_max e2 hne]
  exact ⟨ρ,⟨.int _ _,inv.grow k⟩,k1m.grow k⟩
 ·refine VRs.eCons hv fun Y Y h1 h2=>?_
  refine VRs.eCons h2 fun Y Y h2 h3=>?_
  refine VRs.iNil h3 fun yA=>?_; clear h3; subst yA
  refine k0e.inI2 (t:=fun x y=>call (.builtin "max") [x,y]) h1 h2 fun a b t u=>?_
  refine k0e.prim0 (max_two_ints room.handled fun h' tk k=>?_)
  by_cases hb:b > a
  ·rw [if_pos hb,Int.max_eq_right (by lia)]
   exact ⟨ρ,⟨.int _ _,inv.grow k⟩,k1m.grow k⟩
  ·rw [if_neg hb,Int.max_eq_left (by lia)]
   exact ⟨ρ,⟨.int _ _,inv.grow k⟩,k1m.grow k⟩
 ·exact k0e.stuck
theorem fn_min:z4U C F n (.builtin "min") xMin:=by
 intro A ρ reg H s args vals room inv hv
 refine k0e.args1 fun a ea=>k0e.onLoc fun l el=>k0e.atBind fun o ns ho hk=>k0e.when fun hne=>?_
 subst ea el
 refine VRs.eCons hv fun Y Y h1 h2=>?_
 refine VRs.iNil h2 fun yA=>?_; clear h2; subst yA
 refine VR.eLoc h1 fun la hla=>?_
 refine cX1 (z2G inv hla ho hk) fun xs yA=>cA2 yA fun hl e2=>?_; clear yA
 refine k0e.prim0 (min_intList room.handled hl (size_pos e2 hne) fun v h' tk hv k=>?_)
 refine cX1 (intItems_at hv) fun t yA=>?_; subst yA
 rw [best_min e2 hne]
 exact ⟨ρ,⟨.int _ _,inv.grow k⟩,k1m.grow k⟩
theorem fn_sum:z4U C F n (.builtin "sum") xSum:=by
 intro A ρ reg H s args vals room inv hv
 refine k0e.args1 fun a ea=>k0e.onLoc fun l el=>k0e.atBind fun o ns ho hk=>?_
 subst ea el
 refine VRs.eCons hv fun Y Y h1 h2=>?_
 refine VRs.iNil h2 fun yA=>?_; clear h2; subst yA
 refine VR.eLoc h1 fun la hla=>?_
 refine cX1 (z2G inv hla ho hk) fun xs yA=>cA2 yA fun hl e2=>?_; clear yA
 refine k0e.prim0 (sum_intListG room.handled hl fun h' tk t' k=>?_)
 rw [preSum_eq,w1D (by simp),← e2]
 exact ⟨ρ,⟨.int _ _,inv.grow k⟩,k1m.grow k⟩
end
section
variable {prog:Program} {w:World} {K:Type} [DecidableEq K] {knd:KeyKind prog w K} {A:Around} {E:Value→Shared→Prop} {s:Shared}
theorem z0I {d:Addr} {kvs:List (K × Value)} {k:K} {key dflt:Value} {Q:Value→Shared→Prop} (hkey:knd.is k key = true) (hm:s.heap.DictAt knd d kvs kvs.length)
  (hthere:∀ v,valueAt kvs k = some v→Q v { s with toks:=s.toks + 1 })
  (hnew:valueAt kvs k = none→∀ h',h'.DictAt knd d (stored kvs k dflt) (stored kvs k dflt).length→Heap.SameBut d s.heap h'→Q dflt { s with heap:=h',toks:=s.toks + 1 }) (hsz:kvs.length≤4096) :
  wpAny (model prog w) A (dictSetDefault d key dflt) Q E s:=by
 have hmap:=hm.dictOf.mapOf
 refine cX2 hm fun o es yA=>cA6 yA fun ho hc hd hk hp hn=>?_; clear hm yA
 refine cX3 hmap fun o1 es1 ep1 yA=>cA5 yA fun g1 g2 g3 g4 g5=>?_; clear hmap yA
 rw [ho] at g1; refine k1f g1 fun yA=>?_; clear g1; subst yA
 rw [hd] at g3; cases g3
 have hes:es.size = kvs.length:=by rw [← hp.length]; simp
 unfold dictSetDefault
 refine wpAny_holding ?_
 refine wpAny_bind (knd.pyHash hkey ?_)
 refine wpAny_bind (wpAny_dictFind_of (s:={ s with toks:=s.toks + 1 }) hkey ho hd hk ?_)
 have hval:=g5 k
 rw [findBy_of_findIdx?] at hval
 cases hi:es.findIdx? fun e=>knd.is k e.key with
 | some i =>
  rw [hi] at hval
  refine wpAny_bind (wpAny_dictEntries (s:={ s with toks:=s.toks + 1 }) ho hd ?_)
  have hlt:i < es.size:=(Array.findIdx?_eq_some_iff_findIdx_eq.mp hi).1
  have he:es[i]? = some es[i]:=Array.getElem?_eq_getElem hlt
  rw [he]
  exact wpAny_bind (wpAny_rule (wpAny_pure (hthere _ (by rw [← hval]; simp [he]))))
 | none =>
  rw [hi] at hval
  refine cA3 (k6q hp hn hkey hi dflt) fun p1 p2 p3=>?_
  refine wpAny_bind (wpAny_rule (wpAny_bind (wpAny_updateDictKeys (hz:=by rw [hes,sizeLine_eq]; lia) (s:={ s with toks:=s.toks + 1 }) ho hd (wpAny_pure (hnew hval.symm _ ⟨_,_,Heap.get?_update_self _ ho (Obj.isFreed_of_dict (Obj.data_mapDictKeys hd _)),
   hc.mapDictKeys _,by rw [p3]; exact Obj.data_mapDictKeys hd _,hk.push hkey _,p1,p2⟩ (Heap.SameBut.update ..))))))
end
noncomputable def k3A:V→X Unit:=onLoc fun l=>⟨fun Q h=>oK h[l]? (fun o=>match o with
 | .list _=>Q (.ok ()) h
 | _=>False),fun q x=>k2Y (fun o z=>match o,z with
  | .list _,z=>q _ _ z) x⟩
noncomputable def k6s:V→X Unit:=onLoc fun l=>⟨fun Q h=>oK h[l]? (fun o=>match o with
 | .dict _=>Q (.ok ()) h
 | _=>False),fun q x=>k2Y (fun o z=>match o,z with
  | .dict _,z=>q _ _ z) x⟩
noncomputable def k5m (chk:V→X Unit) (g:List V→X V) (co:Reg→X V) (ca:Reg→X (List V)) (reg:Reg):X V:=co reg >>= fun r=>chk r >>= fun Y=>ca reg >>= fun vs=>g (r :: vs)
noncomputable def oApp (v:V):O→Option O
 | .list vs=>if vs.length≤4000 then some (.list (vs ++ [v])) else none
 | _=>none
noncomputable def k3o:List V→X V:=args2 fun a v=>onLoc (fun l=>atLoc l fun o=>z4N (oApp v o) fun o'=>setLoc l o' .none) a
noncomputable def oGet (k:List Nat) (d:V):O→Option V
 | .dict es=>some ((k0Q es k).getD d)
 | _=>none
noncomputable def xGet:List V→X V:=args3 fun a k d=>onLoc (fun l=>onStr (fun k=>atLoc l fun o=>xOpt (oGet k d o)) k) a
noncomputable def z2H (k:List Nat) (d:V):O→Option (V × O)
 | .dict es=>if es.length≤4000 then (match k0Q es k with
  | some v=>some (v,.dict es)
  | none=>some (d,.dict (k2c es k d))) else none
 | _=>none
noncomputable def xSetD:List V→X V:=args3 fun a k d=>onLoc (fun l=>onStr (fun k=>atLoc l fun o=>z4N (z2H k d o) fun p=>setLoc l p.2 p.1) k) a
section
variable {C:k1J} {F:Fm} {n:Nat}
noncomputable def z5r (C:k1J) (F:Fm) (T:String) (chk:V→X Unit):Prop :=
 ∀ ρ reg H s v va P,k1O C F ρ reg H s→VR ρ s.heap v va→wp (chk v) P H→P (.ok ()) H∧∃ a o,va = .ref a∧s.heap.get? a = some o∧o.cls = .type T∧o.dict = none
theorem k4e:z5r C F "list" k3A:=by
 intro ρ reg H s v va P inv hv p
 refine z0B p fun l el p1=>k5Z p1 fun o hl p2=>?_
 subst el
 refine VR.eLoc hv fun la hla=>?_
 cases o with
 | list =>
  refine cX1 (inv.hm.obj l la _ hla hl) fun items yA=>cA2 yA fun yB _=>cX1 yB fun m pl=>?_; clear yA yB
  exact ⟨p2,la,_,rfl,pl,rfl,rfl⟩
 | _=>exact False.elim p2
theorem k8H:z5r C F "dict" k6s:=by
 intro ρ reg H s v va P inv hv p
 refine z0B p fun l el p1=>k5Z p1 fun o hl p2=>?_
 subst el
 refine VR.eLoc hv fun la hla=>?_
 cases o with
 | dict =>
  refine cX1 (inv.hm.obj l la _ hla hl) fun kvs yA=>cA2 yA fun yB _=>cX2 yB fun o es yC=>cA3 yC fun ho hc _=>?_; clear yA yB yC
  exact ⟨p2,la,_,rfl,ho,hc.1,hc.2.1⟩
 | _=>exact False.elim p2
theorem k2u {o:Expr} {name:Str} {apos pos:Pos} {args:List Expr} {co:Reg→X V} {chk:V→X Unit} {ca:Reg→X (List V)} {g:List V→X V} {T id:String} (ho:EOk C F n o co) (hr:z5r C F T chk) (ha:AsOk C F n args ca) (hf:z4U C F n (.builtin id) g)
  (pa:PlainAttrs T) (slot:Slot T name id) (hty:typeOf (.builtin id) = pure (.type "method_descriptor"))
  (hbase:attributeBase o name F.env (eval o F.env) = eval o F.env:=by rfl)
  (hfew:((backTo pos (starEach args F.env)).all (fun x=>!x.1) && (backToKw pos (keywordEach [] F.env)).all (fun x=>x.1.isSome) && decide (args.length + ([]:List Keyword).length + (if ([]:List Keyword).isEmpty then 0 else 1) < 30)) = true:=by rfl)
  (hline:(apos.endLine == pos.line) = true:=by rfl) (hplain:(starEach args F.env).any (·.1) = false:=by rfl) :
  EOk C F n (.Call (.Attribute o name apos) args [] pos) (k5m chk g co ca):=by
 intro A ρ reg H s room inv P e
 refine wpAny_Call_method_late hbase hfew hline rfl (k0e.seqFrom (ho A ρ reg H s room inv) (k1m.refl _ _ _ _) e fun v va ρ₁ H₁ s₁ q Y st1 e1=>?_)
 refine cA2 q fun hv inv1=>?_; clear q
 refine cA2 (hr ρ₁ reg H₁ s₁ v va _ inv1 hv e1) fun e2 yA=>cX2 yA fun a ob yB=>cA4 yB fun yC=>?_; clear yA yB; subst yC; intro g1 g2 g3
 refine ⟨T,id,pa,slot,hty,⟨ob,g1,g2⟩,fun b hb=>(by cases hb; exact ⟨ob,g1,g3⟩),?_⟩
 refine W.callWith_of (P:=fun Y=>True) (by rw [k4b hplain]; rfl) (k8D fun a=>by simp) (k4a (k4b hplain) ?_)
 exact k0e.seqFrom (ha pos A ρ₁ reg H₁ s₁ room inv1) st1 e2 fun vs a ρ' H1 s' q st' st2 e'=>⟨trivial,(hf A ρ' reg H1 s' _ _ room q.1.2 (.cons (hv.step st') q.1.1)).finish e' st2⟩
theorem k0e.setLoc {α β:Type} {A:Around} {ρ:List Addr} {H:Hp} {s:Shared} {t:Sem α} {l:Nat} {o:O} {b:β} {Q:β→α→List Addr→Hp→Shared→Prop}
  (h:wpAny (model C.prog C.w) A t (fun a s'=>∃ ρ',Q b a ρ' (H.set l o) s'∧k1m F.fs F.mods ρ ρ' s.heap s'.heap) (fun Y Y=>False) s):k0e C F A ρ H s t (setLoc l o b) Q:=k0e.prim (fun Y p=>p) h
theorem k4f (ok:F.Ok C):z4U C F n (.builtin "list.append") k3o:=by
 intro A ρ reg H s args vals room inv hv
 refine k0e.args2 fun a v ea=>k0e.onLoc fun l el=>k0e.atLoc fun o ho=>k0e.opt fun o' hk=>?_
 subst ea el
 refine VRs.eCons hv fun Y Y h1 h2=>?_
 refine VRs.eCons h2 fun Y Y h2 h3=>?_
 refine VRs.iNil h3 fun yA=>?_; clear h3; subst yA
 refine VR.eLoc h1 fun la hla=>?_
 cases o with
 | list vs =>
  refine k7B hk fun hlen e=>?_
  refine k1f e fun yA=>?_; clear e; subst yA
  refine cX1 (inv.hm.obj l la _ hla ho) fun items yA=>cA2 yA fun pl hvs=>?_; clear yA
  have hl:=hvs.length
  refine k0e.setLoc (wpAny_list_append_plain pl (fun h' pl' sb=>?_) (by rw [sizeLine_eq]; simp only [w0O]; lia))
  refine cX1 (id pl) fun m pg=>?_
  refine cA2 (inv.setAt ok (t:=s.toks) (o:=.list (vs ++ [v])) hla sb (fun hm=>⟨items ++ [_],by simpa using pl',(hvs.append (.cons h2 .nil)).mono (w0m _) (k7k sb fun o w t=>by rw [pg] at w; refine k1f w fun yA=>?_; clear w; subst yA; simp [k4z] at t)⟩)
   (fun ob v w q=>by rw [pg] at w; refine k1f w fun yA=>?_; clear w; subst yA; simp at q)) fun y st=>?_
  exact ⟨ρ,⟨.none,y⟩,st⟩
 | _=>cases hk
theorem fn_get:z4U C F n (.builtin "dict.get") xGet:=by
 intro A ρ reg H s args vals room inv hv
 refine k0e.args3 fun a kv d ea=>k0e.onLoc fun l el=>k0e.onStr fun k ek=>k0e.atLoc fun o ho=>k0e.xOpt fun r hk=>?_
 subst ea el ek
 refine VRs.eCons hv fun Y Y h1 h2=>?_
 refine VRs.eCons h2 fun Y Y h2 h3=>?_
 refine VRs.eCons h3 fun Y Y h3 h4=>?_
 refine VRs.iNil h4 fun yA=>?_; clear h4; subst yA
 refine VR.eLoc h1 fun la hla=>?_
 refine VR.eStr h2 fun tk=>?_
 cases o with
 | dict es =>
  cases hk
  refine cX1 (inv.hm.obj l la _ hla ho) fun kvs yA=>cA2 yA fun hda hent=>?_; clear yA
  have hm:=hda.dictOf.mapOf
  have hsys:=inv.hm.notSys la (w0z hla)
  refine k0e.prim0 ?_
  refine call_meetsIn PySem.F.slot_dict_get hm.typeIs PySem.F.entry_dict_get (PySem.F.args_dict_get_3 _ _ _) (meets_dict_get_default (strKind C.prog C.w) la (k2D _ _) hsys _) ⟨_,hm,?_⟩
  have:=hent.get k
  cases hg:k0Q es k with
  | none =>
   rw [hg] at this
   rw [this]
   exact ⟨ρ,⟨h3,inv.toks _⟩,k1m.refl _ _ _ _⟩
  | some V =>
   rw [hg] at this
   refine cX1 this fun v yA=>cA2 yA fun hv1 hv2=>?_; clear this yA
   rw [hv1]
   exact ⟨ρ,⟨hv2,inv.toks _⟩,k1m.refl _ _ _ _⟩
 | _=>cases hk
theorem setd_ex {es:List (List Nat × V)} {k:List Nat} {d:V} {p:V × O} {P:Prop} (e:z2H k d (.dict es) = some p) (f:es.length≤4000→(∀ v,k0Q es k = some v→p = (v,.dict es))→(k0Q es k = none→p = (d,.dict (k2c es k d)))→P):P:=by
 refine k7B e fun h e=>f h (fun v hv=>?_) fun hv=>?_
 ·rw [hv] at e; exact (Option.some.inj e).symm
 ·rw [hv] at e; exact (Option.some.inj e).symm
theorem fn_setd (ok:F.Ok C):z4U C F n (.builtin "dict.setdefault") xSetD:=by
 intro A ρ reg H s args vals room inv hv
 refine k0e.args3 fun a kv d ea=>k0e.onLoc fun l el=>k0e.onStr fun k ek=>k0e.atLoc fun o ho=>k0e.opt fun p hk=>?_
 subst ea el ek
 refine VRs.eCons hv fun Y Y h1 h2=>?_
 refine VRs.eCons h2 fun Y Y h2 h3=>?_
 refine VRs.eCons h3 fun Y Y h3 h4=>?_
 refine VRs.iNil h4 fun yA=>?_; clear h4; subst yA
 refine VR.eLoc h1 fun la hla=>?_
 refine VR.eStr h2 fun tk=>?_
 cases o with
 | dict es =>
  refine setd_ex hk fun hlen k1 k2=>?_
  refine cX1 (inv.hm.obj l la _ hla ho) fun kvs yA=>cA2 yA fun hda hent=>?_; clear yA
  have hm:=hda.dictOf.mapOf
  have hsys:=inv.hm.notSys la (w0z hla)
  have hl:=hent.length
  have:=hent.get k
  refine k0e.setLoc ?_
  refine wpAny_call_entry PySem.F.slot_dict_setdefault hm.typeIs PySem.F.entry_dict_setdefault ?_ (PySem.F.args_dict_setdefault_3 _ _ _)
  unfold Builtin.«dict.setdefault»
  refine wpAny_bind ?_
  unfold Builtin.Dict.keyAndDefault
  refine wpAny_bind (wpAny_notOrdered_dict hm.typeIs ?_)
  show wpAny _ _ (pure (la,_,some _)) _ _ s
  refine wpAny_pure ?_
  show wpAny _ _ (if (la == sysModules) = true then _ else (dictSetDefault la _ _ >>= _)) _ _ s
  rw [if_neg (by rw [hsys]; exact w1i)]
  refine wpAny_bind (z0I (k2D _ _) hda (fun v hv=>wpAny_pure ⟨v,rfl,?_⟩) (fun hv h' hda' sb=>wpAny_pure ⟨_,rfl,?_⟩) (by lia))
  ·cases hg:k0Q es k with
   | none =>
    rw [hg] at this
    rw [this] at hv; exact kNS hv
   | some V =>
    rw [hg] at this
    refine cX1 this fun v2 yA=>cA2 yA fun hv1 hv2=>?_; clear this yA
    rw [hv1] at hv; refine k1f hv fun yA=>?_; clear hv; subst yA
    rw [k1 V hg]
    have hset:H.set l (.dict es) = H:=by
     refine cX1 (w0v.mp ho) fun hh e2=>?_
     rw [← e2]; exact List.set_getElem_self hh
    exact ⟨ρ,⟨hv2,by show k1O C F ρ reg (H.set l (.dict es)) _; rw [hset]; exact inv.toks _⟩,k1m.refl _ _ _ _⟩
  ·cases hg:k0Q es k with
   | some V =>
    rw [hg] at this
    refine cX1 this fun v2 yA=>cA2 yA fun hv1 hv2=>?_; clear this yA
    rw [hv1] at hv; exact kSN hv
   | none =>
    rw [k2 hg]
    have nt:∀ o,s.heap.get? la = some o→¬ k4z o:=fun o w t=>by
     refine cX2 hda fun o' es' yA=>cA3 yA fun ho' hc' _=>?_; clear hda yA
     rw [w] at ho'; refine k1f ho' fun yA=>?_; clear ho'; subst yA
     rw [k4z,hc'.1] at t
     exact absurd t.1 (by decide)
    refine cA2 (inv.setAt ok (t:=s.toks + 1) (o:=.dict (k2c es k d)) hla sb (fun hm=>⟨_,hda',(hent.put k h3).mono (w0m _) (k7k sb nt)⟩) (k4W hda)) fun y st=>?_
    exact ⟨ρ,⟨h3.mono (w0m _) (k7k sb nt),y⟩,st⟩
 | _=>cases hk
end
section
variable {prog:Program} {w:World} {A:Around} {E:Value→Shared→Prop} {h:Heap} {g:Array GenState} {d:Drawn} {t:Nat} {os:OsState}
variable {nm q:Str} {C N:Addr} {bs bm:List Value} {hdct:Bool} {sn:List Str} {sub:List Value} {ab:Bool} {col:Option Bool} {dd:Option Addr} {k0 k1 k2 k3 k5:Option Value}
theorem z5s {M:Model} {rest:List Value} {Q:Unit→Shared→Prop} (hC:h.get? C = some (excClassObj nm q C N bs bm hdct sn sub ab col dd k0 k1 k2 k3 k5 "Exception.__new__")) (hE:bm.contains (.type "Exception") = true)
  (hq:Q () ⟨h,g,d,t,os⟩):wpAny M A (checkBuiltinCall "Exception.__new__" ⟨.ref C :: rest,[]⟩) Q E ⟨h,g,d,t,os⟩:=by
 have here:(Value.ref C :: bm).contains (.type "Exception") = true:=by rw [w1c,hE,w1u]
 have X:=PySem.F.excBase_Exception
 have ns:=X.noStar
 simp only [checkBuiltinCall,X.newKind,X.newSplit,X.newRow]
 repeat (first | refine wpAny_loadPart_at hC ?_ | (refine wpAny_isSubtype_exc hC ?_; rw [here]) | refine wpAny_staticBase_exc hC ?_ | refine wpAny_madeBy_exc hC ?_ | simp only [bne_self_eq_false,w0p,if_false] | wp_step)
 exact hq
theorem x_new {R:Result→Shared→Prop} {rest:List Value} (hC:h.get? C = some (excClassObj nm q C N bs bm hdct sn sub ab col dd k0 k1 k2 k3 k5 "Exception.__new__")) (hE:bm.contains (.type "Exception") = true)
  (hA:bm.contains (.type "AttributeError") = false) (hN:bm.contains (.type "NameError") = false)
  (hq:R (.ok (.ret (.ref (h.objs.size + 1)))) ⟨(h.push { cls:=.type "tuple",data:=.seq rest.toArray }).push
   { cls:=.ref C,data:=.fields #[.ref h.objs.size,.none,.none,.none,.bool false,.none] },g,d,t,os⟩) (hrest:rest.length≤sizeLine) :
  codeAny (model prog w) A (.builtin "Exception.__new__" ⟨.ref C :: rest,[]⟩) R ⟨h,g,d,t,os⟩:=by
 have X:=PySem.F.excBase_Exception
 have ends:=X.ends
 have isE:(Value.ref C :: bm).contains (.type "Exception") = true:=by rw [w1c,hE,w1u]
 have isA:(Value.ref C :: bm).contains (.type "AttributeError") = false:=by rw [w1c,hA]; rfl
 have isN:(Value.ref C :: bm).contains (.type "NameError") = false:=by rw [w1c,hN]; rfl
 refine codeAny_builtinAt X.entry ?_
 unfold Builtin.«BaseException.__new__»
 refine wpAt_bind ?_
 show wpAt _ _ _ (stack >>= _) _ _ _
 refine wpAt_bind (wpAt_stack fun p below=>wpAt_of_wpAny ?_)
 wp_walk
 refine wpAt_of_wpAny ?_
 rw [X.owner]
 repeat (first | with_reducible refine wpAny_madeHere_exc X.canon hC ?_ | with_reducible refine wpAny_loadPart_at hC ?_ | (with_reducible refine wpAny_isSubtype_exc hC ?_; first | rw [isE] | rw [isA] | rw [isN]) | wp_step)
 show R _ _
 rw [Heap.size_push]
 exact hq
theorem x_call {R:Result→Shared→Prop} {rest:List Value} {init:Value} (hC:h.get? C = some (excClassObj nm q C N bs bm hdct sn sub ab col dd k0 k1 k2 k3 k5 "Exception.__new__")) (hE:bm.contains (.type "Exception") = true)
  (hA:bm.contains (.type "AttributeError") = false) (hN:bm.contains (.type "NameError") = false)
  (hi:W.Looks (model prog w) h (typeLookup (.ref C) "__init__") (some init)) (hb:∀ self,W.Looks (model prog w) h (bindSpecial init self) (init,[self])) (hrest:rest.length≤sizeLine)
  (hq:codeAny (model prog w) (A.under (.builtin "type.__call__" ⟨.ref C :: rest,[]⟩)) (.call init ⟨.ref (h.objs.size + 1) :: rest,[]⟩) (W.InitBack (h.objs.size + 1) R)
   ⟨(h.push { cls:=.type "tuple",data:=.seq rest.toArray }).push { cls:=.ref C,data:=.fields #[.ref h.objs.size,.none,.none,.none,.bool false,.none] },g,d,t,os⟩) :
  codeAny (model prog w) A (.call (.ref C) ⟨rest,[]⟩) R ⟨h,g,d,t,os⟩:=by
 have f1:=tc_lookup
 have f2:=tc_bind (.ref C)
 have hT:(⟨h,g,d,t,os⟩:Shared).TypeIs (.ref C) "type":=⟨_,hC,rfl⟩
 have X:=PySem.F.excBase_Exception
 refine codeAny_of_tree ?_
 show wpAny _ _ (callAny (.ref C) _) _ _ _
 repeat (any_goals (first | assumption | with_reducible refine wpAny_loadPart_at hC ?_ | wp_step))
 refine ⟨rfl,?_⟩
 refine codeAny_call_builtin_at (Code.quiet_builtin _ (by decide +kernel)) entry_typeCall (wpAny_check_type_call_sub hC ?_)
 repeat (first | with_reducible refine wpAny_loadPart_at hC ?_ | with_reducible refine wpAny_madeBy_exc hC ?_ | wp_step)
 refine codeAny_call_builtin_code (Code.quiet_builtin _ X.quiet) (z5s hC hE ?_)
 refine x_new hC hE hA hN ?_ hrest
 show wpAny _ _ _ _ _ _
 have k:∀ b o,h.get? b = some o→((h.push { cls:=.type "tuple",data:=.seq rest.toArray }).push { cls:=.ref C,data:=.fields #[.ref h.objs.size,.none,.none,.none,.bool false,.none] }).get? b = some o :=
  fun b o e=>Heap.get?_push_of_some _ (Heap.get?_push_of_some _ e)
 have hC₁:=k _ _ hC
 have hget:((h.push { cls:=.type "tuple",data:=.seq rest.toArray }).push { cls:=.ref C,data:=.fields #[.ref h.objs.size,.none,.none,.none,.bool false,.none] }).get? (h.objs.size + 1) = some
   { cls:=.ref C,data:=.fields #[.ref h.objs.size,.none,.none,.none,.bool false,.none] }:=by heap_get
 have hcC:(Value.ref C :: bm).contains (.ref C) = true:=by simp
 have sub:∀ {A':Around} {Q':Bool→Shared→Prop} {E':Value→Shared→Prop},Q' true ⟨(h.push { cls:=.type "tuple",data:=.seq rest.toArray }).push { cls:=.ref C,data:=.fields #[.ref h.objs.size,.none,.none,.none,.bool false,.none] },g,d,t,os⟩ →
   wpAny (model prog w) A' (isSubtype (.ref C) (.ref C)) Q' E' ⟨(h.push { cls:=.type "tuple",data:=.seq rest.toArray }).push { cls:=.ref C,data:=.fields #[.ref h.objs.size,.none,.none,.none,.bool false,.none] },g,d,t,os⟩:=fun z=>wpAny_isSubtype_exc hC₁ (by rw [hcC]; exact z)
 unfold isInstance
 repeat (first | with_reducible refine wpAny_loadPart_at hget ?_ | wp_step)
 refine sub ?_
 have i1:=hi.keeps k
 have b1:=(hb (.ref (h.objs.size + 1))).keeps k
 have t1:W.Looks (model prog w) ((h.push { cls:=.type "tuple",data:=.seq rest.toArray }).push { cls:=.ref C,data:=.fields #[.ref h.objs.size,.none,.none,.none,.bool false,.none] }) (typeOf (.ref (h.objs.size + 1))) (.ref C):=(W.Looks.ld hget).andThen .now
 unfold callSpecial? specialOf
 show wpAny (model prog w) _ _ _ _ ⟨(h.push { cls:=.type "tuple",data:=.seq rest.toArray }).push { cls:=.ref C,data:=.fields #[.ref h.objs.size,.none,.none,.none,.bool false,.none] },g,d,t,os⟩
 repeat (first | with_reducible refine wpAny_call ?_ | lk)
 refine codeAny_mono hq fun r s' z=>?_
 rcases r with e | (v | _ | _ | _) <;> first | exact z | exact z.elim | skip
 refine cA2 z ?_; clear z; intro yA; subst yA; intro z
 exact wpAny_pure (wpAny_pure z)
end
theorem z4l (self:Value):refuseLoop self "__setattr__" [.type "Exception",.type "BaseException",.type "object"] = pure ():=by first | rfl | kernel_rfl
structure XSet (K:W.Frag) (C:Addr) (name:Str):Prop where
 set:W.findIn K (.ref C) "__setattr__" = some (some (.builtin "object.__setattr__"))
 taker:W.takerIn K C name = some none
 sub:W.mroIn K C (.type "object") = some true
 cls:∃ cd,W.clsIn K C = some cd∧cd.hasDict = true∧∃ pre,cd.mro = pre ++ [.type "Exception",.type "BaseException",.type "object"]∧∀ v∈pre,∃ a,v = .ref a
theorem z0a (self:Value):∀ {pre:List Value},(∀ v∈pre,∃ a,v = .ref a)→refuseLoop self "__setattr__" (pre ++ [.type "Exception",.type "BaseException",.type "object"]) = pure ()
 | [],_=>z4l self
 | v :: r,h=>by
  refine cX1 (h v (.head _)) fun a yA=>?_; subst yA
  show refuseLoop self "__setattr__" (.ref a :: (r ++ _)) = _
  rw [refuseLoop_ref]
  exact z0a self fun v hv=>h v (.tail _ hv)
section
variable {prog:Program} {w:World} {A:Around} {E:Value→Shared→Prop} {s:Shared} {K:W.Frag} {C e:Addr} {oe:Obj} {name:Str} {v:Value}
theorem x_store {Q:Unit→Shared→Prop} (X:K.In s.heap) (z:XSet K C name) (he:s.heap.get? e = some oe) (hcls:oe.cls = .ref C) (hd:oe.dict = none) {vs:Array Value} (hdata:oe.data = .fields vs)
  (hQ:∀ h' t,h'.get? e = some { oe with dict:=some s.heap.objs.size }→(∀ b o,b≠e→s.heap.get? b = some o→h'.get? b = some o)→Q () { s with heap:=h',toks:=t }) :
  wpAny (model prog w) A (setAttr (.ref e) name v) Q E s:=by
 have I:W.InstAt s.heap e oe C none:=⟨he,hcls,by unfold W.notCls; rw [hdata],by rw [hd]; trivial⟩
 refine W.set_plain X I z.set ?_
 have SF:=PySem.F.store_object
 refine cX1 z.cls fun cd yA=>cA3 yA fun hc hdict yB=>cX1 yB fun pre yC=>cA2 yC fun hm hpre=>?_; clear yA yB yC
 have I1:W.InstAt ({ s with toks:=s.toks + 1 }:Shared).heap e oe C none:=I
 have X1:K.In ({ s with toks:=s.toks + 1 }:Shared).heap:=X
 have sub:W.Looks (model prog w) ({ s with toks:=s.toks + 1 }:Shared).heap (isInstance (.ref e) (.type "object")) true:=I1.type.andThen (W.looks_mroIn X1 z.sub)
 refine codeAny_call_builtin SF.slot.plain SF.entry (@W.check_slot (model prog w) _ _ _ "object.__setattr__" "object" "__setattr__" (.ref e) [.str name s.toks,v] [] _ SF.kind SF.split sub (SF.args (.ref e) (.str name s.toks) v) ?_)
 refine cX1 (w0W.mp z.taker) fun attr yA=>cA2 yA fun ha hr=>?_; clear yA
 have hmro:W.Looks (model prog w) ({ s with toks:=s.toks + 1 }:Shared).heap (mroOf (.ref C)) cd.mro:=(W.looks_clsIn X1 hc).andThen .now
 have L3:W.Looks (model prog w) ({ s with toks:=s.toks + 1 }:Shared).heap (Builtin.ObjectAttr.storeTaker? attr) none:=by
  cases attr with
  | none=>exact .now
  | some a =>
   refine cX1 (w0E.mp hr) fun b yA=>cA2 yA fun hb hr=>?_; clear yA
   refine (W.looks_takesIn X1 hb).andThen ?_
   cases b with
   | true=>simp at hr
   | false=>exact .now
 rw [W.osa_eq,refuse_eq]
 refine wpAny_bind (wpAny_bind (I1.type.here (wpAny_bind (hmro.here ?_))))
 rw [hm,z0a _ hpre]
 refine wpAny_pure (wpAny_bind (I1.type.here (wpAny_bind ((W.looks_findIn X1 ha).here (wpAny_bind (L3.here ?_))))))
 show wpAny _ _ (Builtin.ObjectAttr.storeInOwnDict (.ref e) (.ref C) (.str name s.toks) name v _) _ _ _
 unfold Builtin.ObjectAttr.storeInOwnDict
 refine wpAny_bind (wpAny_pure ?_)
 rw [if_neg (by simp)]
 refine wpAny_bind ?_
 show wpAny _ _ (instanceDict e true) _ _ _
 unfold instanceDict
 refine wpAny_bind (wpAny_loadPart (s:={ s with toks:=s.toks + 1 }) he ?_)
 rw [hcls]
 dsimp only
 refine wpAny_bind ((W.looks_clsIn X1 hc).here ?_)
 rw [hdict,if_neg (by simp),hd]
 dsimp only
 rw [if_neg (by simp [typeHasDict]),hdata]
 dsimp only
 have hne:e≠s.heap.objs.size:=w0U (Heap.lt_size he)
 have he1:(s.heap.push { cls:=.type "dict",data:=.dict #[] }).get? e = some oe:=Heap.get?_push_of_some _ he
 refine wpAny_bind (wpAny_alloc' ?_)
 refine wpAny_bind (wpAny_update' he1 ?_)
 refine wpAny_pure (a:=some s.heap.objs.size) ?_
 have hfr:oe.isFreed = false:=by
  obtain ⟨a,b,c,d⟩:=oe
  subst hdata
  rfl
 have g1:((s.heap.push { cls:=.type "dict",data:=.dict #[] }).update e fun o=>{ cls:=o.cls,dict:=some s.heap.objs.size,data:=o.data,slots:=o.slots }).get? e = some { oe with dict:=some s.heap.objs.size } :=
  Heap.get?_update_self _ he1 (by obtain ⟨a,b,c,d⟩:=oe; subst hdata; rfl)
 have g2:((s.heap.push { cls:=.type "dict",data:=.dict #[] }).update e fun o=>{ cls:=o.cls,dict:=some s.heap.objs.size,data:=o.data,slots:=o.slots }).get? s.heap.objs.size = some { cls:=.type "dict",data:=.dict #[] } :=
  (Heap.get?_update_ne _ _ _ _ hne.symm).trans (Heap.get?_push_size _ rfl)
 show wpAny _ _ (Builtin.ObjectAttr.storeInDict s.heap.objs.size (.str name s.toks) name v) _ _ _
 unfold Builtin.ObjectAttr.storeInDict Builtin.ObjectAttr.newKeyGuard
 refine wpAny_bind (wpAny_pure (wpAny_bind ?_))
 refine z3v (kvs:=[]) ⟨_,#[],g2,⟨rfl,rfl,rfl⟩,rfl,fun e he=>by simp at he,.nil,w0L⟩ fun h' hm' sb=>?_
 refine cX2 (id hm') fun o es yA=>cA6 yA fun q1 q2 q3 q4 q5 q6=>?_; clear yA
 refine wpAny_bind (wpAny_lookBehind q1 (by rw [q3]; exact pastItsLine_dict (by
  have:es.size = (stored ([]:List (Str × Value)) name v).length:=by rw [← q5.length]; simp
  rw [this,sizeLine_eq]
  have:=stored_length_le ([]:List (Str × Value)) name v
  simp at this
  lia)) ?_)
 refine wpAny_pure (hQ h' _ ?_ fun b ob hb hbo=>?_)
 ·rw [sb.2 e hne]; exact g1
 ·rw [sb.2 b (w0U (Heap.lt_size hbo))]
  exact (Heap.get?_update_ne _ _ _ _ hb).trans (Heap.get?_push_of_some _ hbo)
end
section
variable {prog:Program} {w:World} {A:Around} {E:Value→Shared→Prop} {h:Heap} {g:Array GenState} {d:Drawn} {t:Nat} {os:OsState} {e:Addr} {oe:Obj} {vs:Array Value}
variable {nm q:Str} {C N:Addr} {bs bm:List Value} {hdct:Bool} {sn:List Str} {sub:List Value} {ab:Bool} {col:Option Bool} {dd:Option Addr} {k0 k1 k2 k3 k5:Option Value} {newId:String}
theorem z4m {M:Model} {rest:List Value} {Q:Unit→Shared→Prop} (hC:h.get? C = some (excClassObj nm q C N bs bm hdct sn sub ab col dd k0 k1 k2 k3 k5 newId)) (hE:bm.contains (.type "Exception") = true)
  (he:h.get? e = some oe) (hcls:oe.cls = .ref C) (hq:Q () ⟨h,g,d,t,os⟩):wpAny M A (checkBuiltinCall "Exception.__init__" ⟨.ref e :: rest,[]⟩) Q E ⟨h,g,d,t,os⟩:=by
 have here:(Value.ref C :: bm).contains (.type "Exception") = true:=by rw [w1c,hE,w1u]
 have X:=PySem.F.excBase_Exception
 have ns:=X.noStar
 simp only [checkBuiltinCall,X.initKind,X.initSplit,X.initRow]
 repeat (first | (with_reducible refine wpAny_loadPart_at he ?_; rw [hcls]) | with_reducible refine wpAny_loadPart_at hC ?_ | (with_reducible refine wpAny_isSubtype_exc hC ?_; rw [here]) | wp_step)
 refine wpAny_onRaise ?_
 have plain:∀ (a b:String) (n:Nat),Bind.check ⟨.positional,"*","Exception",.self,[⟨"args",.varPos,false⟩]⟩ a b n (List.map (fun x=>x.fst) ({ pos:=Value.ref e :: rest }:Args).kw) = pure ():=fun a b n=>check_star_args _ _ _ _ _ _
 rw [plain]
 exact wpAny_pure hq
theorem z4n {x:Value} {t₀:Addr} {Q:Value→Shared→Prop} (hC:h.get? C = some (excClassObj nm q C N bs bm hdct sn sub ab col dd k0 k1 k2 k3 k5 newId)) (hE:bm.contains (.type "Exception") = true)
  (he:h.get? e = some { cls:=.ref C,data:=.fields #[.ref t₀,.none,.none,.none,.bool false,.none] })
  (hQ:∀ h' t₁,h'.get? e = some { cls:=.ref C,data:=.fields #[.ref t₁,.none,.none,.none,.bool false,.none] }→(∀ b o,b≠e→h.get? b = some o→h'.get? b = some o)→Q .none ⟨h',g,d,t,os⟩) :
  wpAny (model prog w) A (call (.builtin "Exception.__init__") [.ref e,x]) Q E ⟨h,g,d,t,os⟩:=by
 have F:=PySem.F.excBase_Exception
 refine wpAny_call (codeAny_call_builtin F.init.plain F.initEntry (z4m hC hE he rfl ?_))
 unfold Builtin.«BaseException.__init__»
 wp_walk
 refine hQ _ h.objs.size ?_ fun b o hb hbo=>?_
 ·rw [Heap.get?_update_self _ (Heap.get?_push_of_some _ he) rfl]
  rfl
 ·rw [Heap.get?_update_other _ _ hb.symm]
  exact Heap.get?_push_of_some _ hbo
end
section
variable {prog:Program} {w:World} {A:Around} {E:Value→Shared→Prop} {s:Shared} {K:W.Frag}
theorem x_getm {pl:Sem Bool} {Q:Value × List Value→Shared→Prop} (X:K.In s.heap) (e:W.findCls K (.type "Exception") (.type "type") "__init__" = some (.val (.builtin "Exception.__init__")))
  (h:∀ t,Q (.builtin "Exception.__init__",[]) { s with toks:=t }):wpAny (model prog w) A (getMethod (.type "Exception") "__init__" pl) Q E s:=by
 have stub:opaqueClassAbove (.type "Exception") = pure none:=by unfold opaqueClassAbove; dsimp only; rw [show Manifest.isStub "Exception" = false by decide +kernel]; rfl
 have ty:typeOf (.type "Exception") = pure (.type "type"):=by first | rfl | kernel_rfl
 have L0:W.Looks (model prog w) s.heap (typeOf (.type "Exception")) (.type "type"):=W.Looks.of_pure ty
 have hg:W.findIn K (.type "type") "__getattribute__" = some (some (.builtin "type.__getattribute__")):=W.type_tga
 unfold getMethod specialOf
 refine wpAny_bind (wpAny_bind (L0.here ((W.looks_findIn X hg).here ?_)))
 dsimp only
 rw [if_pos W.canon_tga]
 refine wpAny_bind (wpAny_mono (Q:=fun v=>Q (v,[])) (E:=E) ?_ (fun Y Y z=>wpAny_pure z) fun Y Y z=>z)
 refine W.cls_open X (W.Looks.of_pure stub) L0 hg (W.looks_hook X (r:=none) (by rfl)) (by show W.subIn K _ _ = _; rfl) e ?_
 show wpAny _ _ (ret (.builtin "Exception.__init__")) _ _ _
 refine wpAny_pure ?_
 show wpAny _ _ (handedOut (.builtin "Exception.__init__")) _ _ _
 have ho:handedOut (.builtin "Exception.__init__") = pure (.builtin "Exception.__init__"):=by
  unfold handedOut
  dsimp only
  rw [if_neg (by decide +kernel)]
 rw [ho]
 exact wpAny_pure (h _)
end
section
variable {C:k1J} {F:Fm} {n:Nat}
structure XOk (C:k1J) (x:Ex):Prop where
 obj:∃ nm q N bs bm hdct sn sub ab col dd k0 k1 k2 k3 k5,C.base.get? (C.exc x) = some (excClassObj nm q (C.exc x) N bs bm hdct sn sub ab col dd k0 k1 k2 k3 k5 "Exception.__new__") ∧
  bm.contains (.type "Exception") = true∧bm.contains (.type "BaseException") = true∧bm.contains (.type "AttributeError") = false∧bm.contains (.type "NameError") = false
 set:XSet C.K (C.exc x) "text"
 get:W.findCls C.K (.type "Exception") (.type "type") "__init__" = some (.val (.builtin "Exception.__init__"))
noncomputable def k9H (C:k1J) (h:Heap) (e:Addr) (x:Ex) (dct:Option Addr):Prop:=∃ t₀,h.get? e = some { cls:=.ref (C.exc x),dict:=dct,data:=.fields #[.ref t₀,.none,.none,.none,.bool false,.none] }
theorem k8I (o:Expr) (name:Str) (apos:Pos) (args:List Expr) (pos:Pos) (env:Env):eval (.Call (.Attribute o name apos) args [] pos) env = (attributeBase o name env (eval o env) >>= fun ov=>standAt apos.atName >>= fun Y=>methodCall o name apos pos env ov (args.length + 0) (backTo pos (starEach args env)) []):=rfl
theorem z3D (ok:F.Ok C) {A:Around} {ρ:List Addr} {reg:Reg} {H:Hp} {s:Shared} {x:Str} {pos:Pos} {i:Nat} {V:V} (inv:k1O C F ρ reg H s) (hi:F.names[i]? = some x) (hr:reg[i]? = some (some V)) {Q:Value→Shared→Prop} {E:Value→Shared→Prop}
  (hQ:∀ v,VR ρ s.heap V v→Q v s) (hd:(x == ("__debug__":Str)) = false:=by decide +kernel):wpAny (model C.prog C.w) A (eval (.Name x pos) F.env) Q E s:=by
 refine cX1 (inv.rm i x V hi hr) fun v yA=>cA2 yA fun va vr=>?_; clear yA
 refine wpAny_Name ?_ hd
 refine Or.elim va (fun yY=>?_) fun yZ=>?_ <;> clear va; rotate_left; (refine cA2 yZ fun e yA=>cX2 yA fun c o yB=>cA3 yB fun l g d=>?_; clear yZ yA yB); rotate_right; (refine cA2 yY fun e yA=>cX1 yA fun m yB=>cA2 yB fun hn q=>?_; clear yY yA yB)
 ·exact wpAny_loadName_local ok.kind e hn q (hQ v vr)
 ·exact wpAny_loadName_cell ok.kind e l ⟨o,g,d⟩ (hQ v vr)
theorem x_stmt1 (ok:F.Ok C) (cok:C.Ok) {x:Ex} (xo:XOk C x) (hb:boot? C "Exception" (.type "Exception")) {p1 p2 p5 p6:Pos} {args:List Expr} {A:Around} {ρ:List Addr} {reg:Reg} {H:Hp} {s:Shared} {e:Addr} {tv:List Nat} {E:Value→Shared→Prop}
  (inv:k1O C F ρ reg H s) (hm:k9H C s.heap e x none) (heb:C.base.get? e = none)
  (ha:∀ (A:Around) s,k1O C F ρ reg H s→wpAny (model C.prog C.w) A (spliced (backTo p5 (starEach args F.env))) (fun vs s'=>s' = s∧∃ tk,vs = [.ref e,.str ⟨tv.toArray⟩ tk]) (fun Y Y=>False) s) {Q:Flow→Shared→Prop}
  (hQ:∀ s',k1O C F ρ reg H s'→k9H C s'.heap e x none→(∀ b o,b≠e→s.heap.get? b = some o→s'.heap.get? b = some o)→Q .next s')
  (hi:interactive F.env = false:=by rfl) (hsw:swapsWith (.Call (.Attribute (.Name "Exception" p1) "__init__" p2) args [] p5) none p6.line F.env = pure false:=by rfl) (hx:F.env.kindOf "Exception" = some .globalImplicit:=by rfl)
  (hbase:attributeBase (.Name "Exception" p1) "__init__" F.env (eval (.Name "Exception" p1) F.env) = eval (.Name "Exception" p1) F.env:=by rfl) (hplain:(starEach args F.env).any (·.1) = false:=by rfl)
  (hform:methodCallForm (args.length + 0) (backTo p5 (starEach args F.env)) [] = true:=by rfl) (hpos:methodCallPos true (.Name "Exception" p1) F.env p2 p5 = pure p5:=by rfl) :
  wpAny (model C.prog C.w) A (exec (.Expr (.Call (.Attribute (.Name "Exception" p1) "__init__" p2) args [] p5) p6) F.env) Q E s:=by
 have ex:exec (.Expr (.Call (.Attribute (.Name "Exception" p1) "__init__" p2) args [] p5) p6) F.env = (standAt p6 >>= fun Y=>(eval (.Call (.Attribute (.Name "Exception" p1) "__init__" p2) args [] p5) F.env >>= fun v=>dropValue (.Call (.Attribute (.Name "Exception" p1) "__init__" p2) args [] p5) p6 v)):=by
  show (standAt p6 >>= fun Y=>if interactive F.env = true then _ else (swapsWith _ none p6.line F.env >>= fun b=>if b = true then _ else (eval _ F.env >>= fun v=>dropValue _ p6 v))) = _
  rw [hi,hsw]; rfl
 rw [ex,k8I,hbase]
 refine cA5 hb fun b1 b2 b3 b4 b5=>?_; clear hb
 refine wpAny_bind (wpAny_standAt (wpAny_bind (wpAny_bind (k9U ok cok inv hx b1 b2 b3 b4 (wpAny_bind (wpAny_standAt ?_))))))
 unfold methodCall
 rw [hform]
 refine wpAny_bind (wpAny_holding ?_)
 show wpAny _ _ (getMethod (.type "Exception") "__init__" _) _ _ _
 refine x_getm (inv.toCInv.inK cok) xo.get fun tk=>?_
 have inv1:=inv.toks tk
 refine wpAny_bind (wpAny_of_eq hpos ?_)
 refine W.callWith_of (P:=fun Y=>True) (by rw [k4b hplain]; rfl) (k8D fun a=>by simp) (k4a (k4b hplain) ?_)
 refine wpAny_mono (ha A { s with toks:=tk } inv1) (fun vals s' hv=>?_) fun Y Y f=>f.elim
 refine cA2 hv fun yA=>?_; clear hv; subst yA; intro yB; refine cX1 yB fun tt yC=>?_; clear yB; subst yC
 refine ⟨trivial,?_⟩
 refine cX1 hm fun t₀ he=>?_; clear hm
 have sd:=inv.sideOf he rfl
 refine cX8 xo.obj fun nm q N bs bm hdct sn sub yA=>cX8 yA fun ab col dd k0 k1 k2 k3 k5 yB=>cA5 yB fun hC c1 c2 c3 c4=>?_; clear yA yB
 obtain ⟨hh,gg,dw,tk2,os⟩:=s
 refine z4n (inv.base _ _ hC) c1 he fun h' t₁ g1 g2=>wpAny_dropValue ?_
 refine cA2 (inv1.side ok sd heb (fun o w t=>by rw [he] at w; refine k1f w fun yA=>?_; clear w; subst yA; simp [k4z] at t) (h':=h') (t:=tk) g2) fun i1 i2=>?_
 exact hQ _ i1 ⟨t₁,g1⟩ g2
theorem x_stmt2 (ok:F.Ok C) (cok:C.Ok) {x:Ex} (xo:XOk C x) {ps pa pt p6:Pos} {i j:Nat} (hi:F.names[i]? = some "self") (hj:F.names[j]? = some "text") {A:Around} {ρ:List Addr} {reg:Reg} {H:Hp} {s:Shared} {e:Addr} {V:V} {E:Value→Shared→Prop}
  (inv:k1O C F ρ reg H s) (hm:k9H C s.heap e x none) (heb:C.base.get? e = none) (hcs:reg[i]? = some (some (.ext e))) (hct:reg[j]? = some (some V)) {Q:Flow→Shared→Prop}
  (hQ:∀ s',k1O C F ρ reg H s'→(∃ d,k9H C s'.heap e x d)→(∀ b o,b≠e→s.heap.get? b = some o→s'.heap.get? b = some o)→Q .next s')
  (h1:swapsWithSole [.Attribute (.Name "self" ps) "text" pa] (.Name "text" pt) p6.line F.env = pure false:=by rfl) (h2:swappedStores [.Attribute (.Name "self" ps) "text" pa] (.Name "text" pt) F.env = pure none:=by rfl)
  (h3:assignEach [.Attribute (.Name "self" ps) "text" pa] F.env = [(false,assign (.Attribute (.Name "self" ps) "text" pa) F.env)]:=by rfl) :
  wpAny (model C.prog C.w) A (exec (.Assign [.Attribute (.Name "self" ps) "text" pa] (.Name "text" pt) p6) F.env) Q E s:=by
 rw [k7E h1 h2 h3]
 refine wpAny_bind (wpAny_standAt (wpAny_bind (z3D ok inv hj hct fun v hv=>?_)))
 rw [k8B]
 refine wpAny_bind (wpAny_bind (wpAny_holding (z3D ok inv hi hcs fun o ho=>?_)))
 refine VR.iExt ho fun yA=>?_; clear ho; subst yA
 refine cX1 hm fun t₀ he=>?_; clear hm
 have sd:=inv.sideOf he rfl
 refine wpAny_bind (wpAny_standAt (wpAny_bind (wpAny_holding (x_store (inv.toCInv.inK cok) xo.set he rfl rfl rfl fun h' tk g1 g2=>wpAny_release (wpAny_pure ?_)))))
 refine cA2 (inv.side ok sd heb (fun o w t=>by rw [he] at w; refine k1f w fun yA=>?_; clear w; subst yA; simp [k4z] at t) (h':=h') (t:=tk) g2) fun i1 i2=>?_
 exact hQ _ i1 ⟨_,t₀,g1⟩ g2
end
theorem z5t {C:k1J} (cok:C.Ok) {f:Addr} {fo:Obj} {fd:FuncData} {body:List Stmt} {rn:List Str} {k:Nat}
  (ho:C.K.lookup f = some fo) (hd:fo.data = .func fd) (hcode:W.codeIn C.K fd.code fd.qualname = true) (hbody:fd.body = .stmts body) (hclo:fd.closure = []) (hgl:fd.globals = mainGlobals) (hbl:fd.builtins = builtinsNs)
  (hbind:∀ vals:List Value,vals.length = k→bindArgs fd ⟨vals,[]⟩ = pure ((rn.take k).zip vals)) (hk:k≤rn.length) (hnd:rn.Nodup)
  (hkind:∀ x,x∈rn.take k→fd.scope.names.lookup x = some .local∨(fd.scope.names.lookup x = some .cell∧((cellsFrom 0 fd.scope.names []).lookup x).isSome = true))
  (hcn:((cellsFrom 0 fd.scope.names []).map (·.1)).Nodup)
  (hco:fd.scope.isCoroutine = false) (hgen:fd.scope.isGenerator = false) (hfk:fd.scope.kind = .function)
  {A:Around} {stack:List Env} {ρ:List Addr} {H:Hp} {s:Shared} {args:List V} {vals:List Value} {R:Result→Shared→Prop} (hdep:A.depth < recursionLimit) (inv:CInv C stack ρ H s) (hv:VRs ρ s.heap args vals) (hlen:args.length = k)
  (hb:∀ h₁ tk,(∀ a o,s.heap.get? a = some o→h₁.get? a = some o)→(fmOf fd s.heap.objs.size f stack rn).Ok C→(∀ a,a∈(fmOf fd s.heap.objs.size f stack rn).mods→s.heap.get? a = none) →
   k1O C (fmOf fd s.heap.objs.size f stack rn) ρ (args.map some ++ List.replicate (rn.length - k) none) H { s with heap:=h₁,toks:=tk } →
   wpAny (model C.prog C.w) (A.deeper (callEnvC fd s.heap.objs.size f)) (execs body (callEnvC fd s.heap.objs.size f)) (fun a s'=>R (.ok (.ret (match a with | .ret v=>v | _=>.none))) s')
    (fun e s'=>wpAny (model C.prog C.w) (A.deeper (callEnvC fd s.heap.objs.size f)) (leaving (callEnvC fd s.heap.objs.size f) e) (fun Y s''=>R (.error e) s'') (fun e' s''=>R (.error e') s'') s') { s with heap:=h₁,toks:=tk }) :
  codeAny (model C.prog C.w) A (.call (.ref f) ⟨vals,[]⟩) R s:=by
 have hvl:vals.length = k:=by rw [← hv.length]; exact hlen
 have hnd':(((rn.take k).zip vals).map (·.1)).Nodup:=by
  rw [w2e (by rw [w0X]; lia)]
  exact hnd.sublist (w1P _ _)
 have hcells:∀ m,(cellsFrom m fd.scope.names []).map (·.1) = (cellsFrom 0 fd.scope.names []).map (·.1):=fun m=>PyProof.Rows.cellsFrom_names _ _ _ _ _ rfl
 have lookIso:∀ m x,((cellsFrom 0 fd.scope.names []).lookup x).isSome = true→((cellsFrom m fd.scope.names []).lookup x).isSome = true:=fun m x h=>by
  refine cX1 (w0K.mp h) fun c0 h0=>?_
  have:x∈(cellsFrom m fd.scope.names []).map (·.1):=by rw [hcells m]; exact w0b.mpr ⟨_,mem_of_lookup h0,rfl⟩
  refine cX1 (w0b.mp this) fun yA yB=>?_; obtain ⟨y,c1⟩:=yA; refine cA2 yB fun h1 yC=>?_; clear yB; subst yC
  rw [k2x (by rw [hcells m]; exact hcn) h1]; rfl
 have hinK:=(fun b o e=>inv.base b o (cok.inK b o e):C.K.In s.heap)
 refine codeAny_call_cells (fd:=fd) (body:=body) (binds:=(rn.take k).zip vals) hdep (hinK _ _ ho) hd (cok.nolimit.keeps inv.base) (W.codeRec_of hinK hcode) hbody (hbind vals hvl) hclo
  (fun x hx=>(hkind x.1 (w2f hx).1).imp id fun ⟨a,b⟩=>⟨a,lookIso _ _ b⟩) (fun s₁ ic=>?_) hco hgen hfk
 let L:=s.heap.objs.size
 let F:=fmOf fd L f stack rn
 refine cX2 ic.done fun h₁ tk yA=>cA2 yA fun yB=>?_; clear yA; subst yB; intro keep
 have hsz:∀ b,L≤b→s.heap.get? b = none:=fun b hb=>by
  cases q:s.heap.get? b with
  | none=>rfl
  | some o=>exact absurd (Heap.lt_size q) (w1y.mpr hb)
 have hbn:∀ b,L≤b→C.base.get? b = none:=fun b hb=>by
  cases q:C.base.get? b with
  | none=>rfl
  | some o=>have:=inv.base b o q; rw [hsz b hb] at this; exact kNS this
 have cnd:((cellsFrom (L + 1) fd.scope.names []).map (·.1)).Nodup:=by rw [hcells]; exact hcn
 have modsAbove:∀ a,a∈F.mods→L≤a:=fun a ha=>by
  refine Or.elim (w0c.mp ha) (fun yY=>?_) fun ha=>?_; subst yY
  ·exact w0l _
  ·refine cX1 (w0b.mp ha) fun yA yB=>?_; obtain ⟨x,c1⟩:=yA; refine cA2 yB fun hm yC=>?_; clear yB; subst yC
   exact Nat.le_of_lt (ic.above x c1 hm)
 have ok:F.Ok C:=by
  refine ⟨hfk,hgl,hbl,.head _,fun a ha=>hbn a (modsAbove a ha),fun x c1 hl=>.tail _ (w0b.mpr ⟨_,mem_of_lookup hl,rfl⟩),fun x c1 Y hl=>w1b (ic.above x c1 (mem_of_lookup hl)),
   fun x y c1 Y Y h1 h2=>name_of_addr ic.apart (mem_of_lookup h1) (mem_of_lookup h2),hnd,⟨callEnvC fd L f,stack,L,rfl,rfl,rfl⟩⟩
 have hcinv:CInv C (callEnvC fd L f :: stack) ρ H { s with heap:=h₁,toks:=tk }:=by
  refine ⟨by rw [inv.sh],fun b o e=>keep b o (inv.base b o e),inv.hm.grow keep,fun e he=>?_⟩
  refine Or.elim (w0c.mp he) (fun yY=>?_) fun he=>?_; subst yY
  ·refine cX3 ic.toInCall.ns fun o es ep yA=>cA3 yA fun h1 h2 _=>?_; clear yA
   refine ⟨by show fd.scope.kind≠_; rw [hfk]; decide,L,o,es,ep,rfl,fun q=>?_,hbn L (w0l _),h1,h2⟩
   refine cX1 (inv.hm.there q) fun ob yA=>cA2 yA fun e' _=>?_; clear yA
   rw [hsz L (w0l _)] at e'; exact kNS e'
  ·refine cA2 (inv.frs e he) fun k1 yA=>cX4 yA fun L' o es n' yB=>cA5 yB fun h1 h2 h3 h4 h5=>?_; clear yA yB
   exact ⟨k1,L',o,es,n',h1,h2,h3,keep _ _ h4,h5⟩
 have hsinv:k1O C F ρ (args.map some ++ List.replicate (rn.length - k) none) H { s with heap:=h₁,toks:=tk }:=by
  refine { toCInv:=hcinv,ns:=⟨_,ic.toInCall.ns⟩,off:=fun a ha=>⟨fun q=>?_,?_⟩,rm:=fun i x V h1 h2=>?_,cl:=fun x c1 Y h2=>⟨.tail _ (w0b.mpr ⟨_,mem_of_lookup h2,rfl⟩),_,ic.cell x c1 h2⟩ }
  ·refine cX1 (inv.hm.there q) fun ob yA=>cA2 yA fun e' _=>?_; clear yA
   rw [hsz a (modsAbove a ha)] at e'; exact kNS e'
  ·refine Or.elim (w0c.mp ha) (fun yY=>?_) fun ha=>?_; subst yY
   ·refine cX3 ic.toInCall.ns fun o es ep yA=>cA3 yA fun h1 h2 _=>?_; clear yA
    exact ⟨o,h1,.inl ⟨es,ep,h2⟩⟩
   ·refine cX1 (w0b.mp ha) fun yA yB=>?_; obtain ⟨x,c1⟩:=yA; refine cA2 yB fun hm yC=>?_; clear yB; subst yC
    refine cX1 (ic.cell x c1 (k2x cnd hm)) fun o yA=>cA2 yA fun h1 h2=>?_; clear yA
    exact ⟨o,h1,.inr ⟨_,h2⟩⟩
  ·by_cases hi:i < k
   ·rw [w0D (by simp; lia),w0H] at h2
    cases ha:args[i]? with
    | none=>rw [ha] at h2; simp at h2
    | some V' =>
     rw [ha] at h2
     simp at h2
     subst h2
     refine cX1 (hv.get ha) fun v yA=>cA2 yA fun hv1 hv2=>?_; clear yA
     have hx:x∈rn.take k:=w0z (i:=i) (by rw [w1z,if_pos hi]; exact h1)
     have hmem:(x,v)∈(rn.take k).zip vals:=w0z (i:=i) (by
      rw [w2g]
      exact ⟨by rw [w1z,if_pos hi]; exact h1,hv1⟩)
     refine ⟨v,?_,hv2.mono (w0m _) fun a o e Y=>keep a o e⟩
     refine Or.elim (hkind x hx) (fun hl=>?_) fun yZ=>?_; rotate_left; (refine cA2 yZ fun hc hcs=>?_; clear yZ); rotate_right
     ·exact .inl ⟨hl,_,ic.toInCall.ns,k8r hl hnd' hmem⟩
     ·right
      refine cX1 (w0K.mp (lookIso (L + 1) x hcs)) fun c1 hc1=>?_
      refine cX1 (ic.cell x c1 hc1) fun o yA=>cA2 yA fun g1 g2=>?_; clear yA
      exact ⟨hc,c1,o,hc1,g1,by rw [g2,k8t hc hnd' hmem]⟩
   ·rw [w0C (by simp; lia)] at h2
    have:=w0z h2
    simp at this
 exact hb h₁ tk keep ok (fun a ha=>hsz a (modsAbove a ha)) hsinv
section
variable {C:k1J} {n:Nat}
theorem CInv.grow {stack:List Env} {ρ:List Addr} {H:Hp} {s:Shared} (x:CInv C stack ρ H s) {h':Heap} {t:Nat} (k:∀ a o,s.heap.get? a = some o→h'.get? a = some o):CInv C stack ρ H { s with heap:=h',toks:=t } :=
 ⟨by rw [x.sh],fun b o e=>k b o (x.base b o e),x.hm.grow k,x.frs.of_slots fun Y Y L Y n=>⟨n,fun o e=>⟨o.slots,k L o e⟩⟩⟩
noncomputable def XInit (C:k1J) (x:Ex) (fI:Addr):Prop :=
 ∀ A stack ρ H s e tv tk,A.depth < recursionLimit→CInv C stack ρ H s→k9H C s.heap e x none→C.base.get? e = none →
  codeAny (model C.prog C.w) A (.call (.ref fI) ⟨[.ref e,.str (⟨List.toArray tv⟩:Str) tk],[]⟩) (fun res s'=>res = .ok (.ret .none)∧CInv C stack ρ H s'∧(∃ d,k9H C s'.heap e x d)∧(∀ b o,b≠e→s.heap.get? b = some o→s'.heap.get? b = some o)) s
theorem x_init (cok:C.Ok) {x:Ex} (xo:XOk C x) (hb:boot? C "Exception" (.type "Exception")) {f:Addr} {fo:Obj} {fd:FuncData} {p1 p2 p3 p4 p5 p6 q1 q2 q3 q4:Pos}
  (ho:C.K.lookup f = some fo) (hd:fo.data = .func fd) (hcode:W.codeIn C.K fd.code fd.qualname = true)
  (hbody:fd.body = .stmts [.Expr (.Call (.Attribute (.Name "Exception" p1) "__init__" p2) [.Name "self" p3,.Name "text" p4] [] p5) p6,.Assign [.Attribute (.Name "self" q1) "text" q2] (.Name "text" q3) q4])
  (hclo:fd.closure = []) (hgl:fd.globals = mainGlobals) (hbl:fd.builtins = builtinsNs)
  (hbind:∀ vals:List Value,vals.length = 2→bindArgs fd ⟨vals,[]⟩ = pure (([("self":Str),("text":Str)].take 2).zip vals))
  (hkind:∀ x,x∈[("self":Str),("text":Str)].take 2→fd.scope.names.lookup x = some .local∨(fd.scope.names.lookup x = some .cell∧((cellsFrom 0 fd.scope.names []).lookup x).isSome = true))
  (hcn:((cellsFrom 0 fd.scope.names []).map (·.1)).Nodup)
  (hco:fd.scope.isCoroutine = false) (hgen:fd.scope.isGenerator = false) (hfk:fd.scope.kind = .function)
  (hE:fd.scope.names.lookup ("Exception":Str) = some .globalImplicit)
  (hpos:∀ L,methodCallPos true (.Name "Exception" p1) (callEnvC fd L f) p2 p5 = pure p5)
  (hi:∀ L,interactive (callEnvC fd L f) = false)
  : XInit C x f:=by
 intro A stack ρ H s e tv tk hdep inv hm heb
 have hv:VRs ρ s.heap [.ext e,.str tv] [.ref e,.str (⟨List.toArray tv⟩:Str) tk]:=.cons (.ext e) (.cons (.str _ _) .nil)
 refine z5t cok ho hd hcode hbody hclo hgl hbl hbind (by decide) (by decide +kernel) hkind hcn hco hgen hfk hdep inv hv rfl fun h₁ tk₁ keep ok hsz inv1=>?_
 rw [k4A]
 have hm1:k9H C h₁ e x none:=cX1 hm fun t g=>⟨t,keep _ _ g⟩
 refine wpAny_bind (x_stmt1 ok cok xo hb (tv:=tv) inv1 hm1 heb (fun A' s' i'=>?_) (fun s2 inv2 hm2 k2=>?_) (hi _) (by rfl) hE (by rfl) (by rfl) (by rfl) (hpos _))
 ·show wpAny _ _ (spliced ((false,eval (.Name "self" p3) _) :: (false,eval (.Name "text" p4) _) :: [])) _ _ _
  refine Calls.spliced_cons (z3D ok i' (i:=0) rfl rfl fun v hv=>Calls.spliced_cons (z3D ok i' (i:=1) rfl rfl fun u hu=>Calls.spliced_nil ?_))
  refine VR.iExt hv fun yA=>?_; clear hv; subst yA
  refine VR.iStr hu fun _ yA=>?_; clear hu; subst yA
  exact ⟨rfl,_,rfl⟩
 ·rw [show execs [.Assign [.Attribute (.Name "self" q1) "text" q2] (.Name "text" q3) q4] (callEnvC fd s.heap.objs.size f) = (exec (.Assign [.Attribute (.Name "self" q1) "text" q2] (.Name "text" q3) q4) (callEnvC fd s.heap.objs.size f) >>= fun fl=>match fl with | .next=>execs [] (callEnvC fd s.heap.objs.size f) | fl=>pure fl) from k4A _ _ _]
  refine wpAny_bind (x_stmt2 (C:=C) (F:=fmOf fd s.heap.objs.size f stack ["self","text"]) ok cok xo (i:=0) (j:=1) rfl rfl inv2 hm2 heb rfl rfl (fun s3 inv3 hm3 k3=>?_))
  refine wpAny_pure ⟨rfl,inv3.toCInv.pop,hm3,fun b o hbe hbo=>k3 b o hbe (k2 b o hbe (keep b o hbo))⟩
theorem x_make (cok:C.Ok) {x:Ex} (xo:XOk C x) {fI:Addr} (hi:W.findIn C.K (.ref (C.exc x)) "__init__" = some (some (.ref fI))) (hf:W.typeIn C.K (.ref fI) = some (.type "function")) (h:XInit C x fI)
  {A:Around} {stack:List Env} {ρ:List Addr} {H:Hp} {s:Shared} {tv:List Nat} {tk:Tok} {R:Result→Shared→Prop} (hdep:A.depth + 1 < recursionLimit) (inv:CInv C stack ρ H s)
  (hR:∀ e s',s.heap.get? e = none→C.base.get? e = none→CInv C stack ρ H s'→(∃ d,k9H C s'.heap e x d)→(∀ b o,s.heap.get? b = some o→s'.heap.get? b = some o)→R (.ok (.ret (.ref e))) s') :
  codeAny (model C.prog C.w) A (.call (.ref (C.exc x)) ⟨[.str (⟨List.toArray tv⟩:Str) tk],[]⟩) R s:=by
 refine cX8 xo.obj fun nm q N bs bm hdct sn sub yA=>cX8 yA fun ab col dd k0 k1 k2 k3 k5 yB=>cA5 yB fun hC c1 c2 c3 c4=>?_; clear yA yB
 have X:=inv.inK cok
 have hCs:=inv.base _ _ hC
 have big:=inv.big cok
 obtain ⟨hh,g,d,t,os⟩:=s
 have k:∀ b o,hh.get? b = some o→((hh.push { cls:=.type "tuple",data:=.seq #[.str (⟨List.toArray tv⟩:Str) tk] }).push { cls:=.ref (C.exc x),data:=.fields #[.ref hh.objs.size,.none,.none,.none,.bool false,.none] }).get? b = some o :=
  fun b o e=>Heap.get?_push_of_some _ (Heap.get?_push_of_some _ e)
 have hn:=k3v hh (Nat.le_succ hh.objs.size)
 refine x_call hCs c1 c3 c4 (W.looks_findIn X hi) (fun self=>W.bind_fn X self hf) (by rw [sizeLine_eq]; simp) ?_
 refine codeAny_mono (h _ stack ρ H _ (hh.objs.size + 1) tv tk hdep (inv.grow (t:=t) k) ⟨hh.objs.size,by heap_get⟩ (k4v inv hn)) fun res s' hr=>?_
 refine cA4 hr fun yA=>?_; clear hr; subst yA; intro i1 i2 i3
 exact ⟨rfl,hR _ s' hn (k4v inv hn) i1 i2 fun b o hbo=>i3 b o (fun q=>by rw [q] at hbo; have:=hbo; rw [hn] at this; exact kNS this) (k b o hbo)⟩
end
section
variable {C:k1J} {F:Fm} {n:Nat}
theorem z4o {x:Ex} (xo:XOk C x) {A:Around} {E:Value→Shared→Prop} {s:Shared} {env:Env} {t:Sem Value} {Q:Flow→Shared→Prop}
  (h:wpAny (model C.prog C.w) A t (fun v s'=>∃ e,v = .ref e∧C.base.StaysIn s'.heap∧(∃ d,k9H C s'.heap e x d)∧wpAny (model C.prog C.w) A (raiseNew (.ref e):Sem Flow) Q E s') E s):wpAny (model C.prog C.w) A (raiseStmt env (some t) none) Q E s:=by
 refine cX8 xo.obj fun nm q N bs bm hdct sn sub yA=>cX8 yA fun ab col dd k0 k1 k2 k3 k5 yB=>cA5 yB fun hC0 c1 c2 c3 c4=>?_; clear yA yB
 have hcB:(Value.ref (C.exc x) :: bm).contains (.type "BaseException") = true:=by rw [w1c,c2,w1u]
 unfold raiseStmt
 refine wpAny_bind (wpAny_mono h (fun v s₁ h₁=>?_) fun Y Y x=>x)
 refine cX1 h₁ fun e yA=>cA4 yA fun yB=>?_; clear h₁ yA; subst yB; intro hb yC hE; refine cX2 yC fun dct t₀ he=>?_; clear yC
 have hC:=hb _ _ hC0
 obtain ⟨hp,g,d,tk,os⟩:=s₁
 dsimp only at hC he hE
 repeat (first | with_reducible refine wpAny_loadPart_at he ?_ | with_reducible refine wpAny_loadPart_at hC ?_ | (with_reducible refine wpAny_isSubtype_exc hC ?_; rw [hcB]) | wp_step)
 exact hE
structure z1G (C:k1J) (x:Ex) (nm:Str) (fI:Addr):Prop where
 ok:XOk C x
 glob:glob? C nm (.ref (C.exc x))
 keep:W.keepIn C.K (.ref (C.exc x)) = true
 find:W.findIn C.K (.ref (C.exc x)) "__init__" = some (some (.ref fI))
 fn:W.typeIn C.K (.ref fI) = some (.type "function")
 init:XInit C x fI
theorem z0b (ok:F.Ok C) (cok:C.Ok) {x:Ex} {nm:Str} {fI:Addr} (xr:z1G C x nm fI) {tv:List Nat} {st:Str} (hst:st = ⟨tv.toArray⟩) {k:Nat} {p1 p2 p3 p4:Pos} {A:Around} {ρ:List Addr} {reg:Reg} {H:Hp} {s:Shared} {Q:Flow→Shared→Prop} {E:Value→Shared→Prop}
  (hdep:A.depth + 1 < recursionLimit) (hfr:A.frames = some F.stack) (inv:k1O C F ρ reg H s)
  (hE:∀ e s',s.heap.get? e = none→C.base.get? e = none→k1O C F ρ reg H s'→(∃ d,k9H C s'.heap e x d)→(∀ b o,s.heap.get? b = some o→s'.heap.get? b = some o)→wpAny (model C.prog C.w) A (raiseNew (.ref e):Sem Flow) Q E s')
  (hx:F.env.kindOf nm = some .globalImplicit:=by rfl) (hd:(nm == ("__debug__":Str)) = false:=by decide +kernel) :
  wpAny (model C.prog C.w) A (exec (.Raise (some (.Call (.Name nm p1) [.Constant (.str st) k p2] [] p3)) none p4) F.env) Q E s:=by
 subst hst
 rw [arm_exec_Raise]
 refine wpAny_bind (wpAny_standAt ?_)
 show wpAny _ _ (raiseStmt F.env (some (eval (.Call (.Name nm p1) [.Constant (.str _) k p2] [] p3) F.env >>= fun v=>standAt p4 >>= fun Y=>pure v)) none) _ _ _
 refine z4o xr.ok (wpAny_bind ?_)
 rw [k5l]
 refine wpAny_bind (k6E ok cok inv hx xr.glob hd ?_)
 refine W.callWith_of (P:=C.K.In) rfl (W.keeps_K xr.keep) (k4a rfl ?_)
 show wpAny _ _ (spliced ((false,eval (.Constant (.str _) k p2) F.env) :: [])) _ _ _
 refine Calls.spliced_cons (wpAny_mkText (Calls.spliced_nil ?_))
 have inv1:=inv.toks (s.toks + 1)
 refine ⟨inv1.toCInv.inK cok,wpAny_call (x_make cok xr.ok xr.find xr.fn xr.init hdep inv1.toCInv fun e s' h1 h2 h3 h4 h5=>?_)⟩
 refine wpAny_bind (wpAny_standAt (wpAny_pure ⟨e,rfl,h3.base,h4,?_⟩))
 have es:s' = { s with heap:=s'.heap,toks:=s'.toks }:=by rw [h3.sh,inv.sh]
 refine hE e s' h1 h2 ?_ h4 h5
 have g:=inv.grow (t:=s'.toks) h5
 rw [← es] at g
 exact { toCInv:=h3,ns:=g.ns,off:=g.off,rm:=g.rm,cl:=g.cl }
noncomputable def k3N (x:Ex) (_:Reg):X (Fl × Reg):=X.throw x
theorem k2n (ok:F.Ok C) (cok:C.Ok) {x:Ex} {nm:Str} {fI:Addr} (xr:z1G C x nm fI) {tv:List Nat} {st:Str} (hst:st = ⟨tv.toArray⟩) {k:Nat} {p1 p2 p3 p4:Pos}
  (hx:F.env.kindOf nm = some .globalImplicit:=by rfl) (hd:(nm == ("__debug__":Str)) = false:=by decide +kernel) :
  SOk C F (n + 2) (.Raise (some (.Call (.Name nm p1) [.Constant (.str st) k p2] [] p3)) none p4) (k3N x):=by
 intro A ρ reg H s room inv P p
 refine z0b ok cok xr hst (by have:=room.depth; lia) room.frames inv (fun ea s' h1 h2 h3 h4 h5=>wpAny_raiseNew_none room.handled ?_) hx hd
 refine cX2 h4 fun dct t₀ he=>?_; clear h4
 exact ⟨x,ρ,H,p,h3.forget,⟨ea,rfl,.inl ⟨_,_,h1,h2,he,rfl,rfl,by simp,fun Y=>rfl,rfl⟩⟩,k1m.grow h5⟩
end
section
variable {C:k1J} {F:Fm} {n:Nat}
noncomputable def z5u (C:k1J) (h₀ h:Heap) (x:Ex) (ea:Addr):Prop:=ExS C h₀ h x ea (some .none)
theorem QE.land {A:Around} {ρ:List Addr} {h₀:Heap} {β:Type} {P:Po β} {e:Value} {s':Shared} (hst:∃ outer,F.stack = F.env :: outer) (hA:A.frames = some F.stack) (hf:∃ L,F.env.frame = some L) (h:QE C F P ρ h₀ e s')
  {Q:Unit→Shared→Prop} {E:Value→Shared→Prop} (hQ:∀ x ea ρ' H' s'',P (.error x) H'→e = .ref ea→k1O C F ρ' [] H' s''→z5u C h₀ s''.heap x ea→k1m F.fs F.mods ρ ρ' h₀ s''.heap→Q () s'') :
  wpAny (model C.prog C.w) A (noteFrame e F.env) (fun Y s₂=>wpAny (model C.prog C.w) A (setFlight e none) Q E s₂) E s':=by
 refine cX1 hf ?_; clear hf; intro L hf
 refine QE.note hst hA hf h fun x ea ρ' H' s'' p e inv' m' st'=>?_
 subst e
 exact z0C (fs:=F.fs) inv'.toCInv none m' fun h'' y'' kb' m''=>hQ x ea ρ' H' _ p rfl (inv'.thenX y'' kb') m'' (st'.thenX y'' inv'.toCInv.tupOff)
theorem z0c (ok:F.Ok C) (cok:C.Ok) {x:Ex} (xo:XOk C x) {nm:Str} (hg:glob? C nm (.ref (C.exc x))) {p pos:Pos} {b₀:Stmt} {suite:List Stmt} {A:Around} {ρ₀ ρ:List Addr} {h₀:Heap} {H:Hp} {s:Shared} {ea:Addr} {Q:Flow→Shared→Prop} {E:Value→Shared→Prop}
  (inv:k1O C F ρ [] H s) (hc:z5u C h₀ s.heap x ea) (st:k1m F.fs F.mods ρ₀ ρ h₀ s.heap)
  (hs:∀ s',k1O C F ρ [] H s'→z5u C h₀ s'.heap x ea→k1m F.fs F.mods ρ₀ ρ h₀ s'.heap →
   wpAny (model C.prog C.w) (A.mark (some (.ref ea))) (execs (b₀ :: suite) F.env) (fun f s''=>Q f s'') (notedBy (model C.prog C.w) (A.mark (some (.ref ea))) F.env (cameBackBy (model C.prog C.w) A F.env E)) s')
  (hx:F.env.kindOf nm = some .globalImplicit:=by rfl) (hd:(nm == ("__debug__":Str)) = false:=by decide +kernel) :
  wpAny (model C.prog C.w) A (handleBy (.ref ea) F.env [.ExceptHandler (some (.Name nm p)) none (b₀ :: suite) pos]) Q E s:=by
 refine cX8 xo.obj fun nmx q N bs bm hdct sn sub yA=>cX8 yA fun ab col dd k0 k1 k2 k3 k5 yB=>cA5 yB fun hC0 c1 c2 c3 c4=>?_; clear yA yB
 refine wpAny_handleBy_cons (codeAny_handlers_test (k6E ok cok inv hx hg hd ?_)) (by intro q; cases q)
 have hC:=inv.base _ _ hC0
 refine cX2 (id hc) fun oe vs yA=>cA8 yA fun e2 e3 e4 e5 e6 e7 e7' e8=>?_; clear yA
 have es:s = ⟨s.heap,s.gens,s.drawn,s.toks,s.os⟩:=rfl
 rw [es]
 refine wpAny_excMatches_sub_self hC e4 e5 c2 ?_
 show codeAny _ _ _ _ s
 refine codeAny_handlers_suite ?_
 refine z0C (fs:=F.fs) inv.toCInv none hc fun h' y kb m'=>?_
 refine wpAny_mono (hs _ (inv.thenX y kb) m' (st.thenX y inv.toCInv.tupOff)) (fun f s'' z=>z) fun Y Y z=>z
noncomputable def tryK (x:Ex) (Q:Po (Fl × Reg)):Po (Fl × Reg):=fun r h=>match r with
 | .ok p=>Q (.ok p) h
 | .error y=>y = x∧Q (.ok (.ret .none,[])) h
noncomputable def z2I (x:Ex) (cb:Reg→X (Fl × Reg)) (reg:Reg):X (Fl × Reg):=⟨fun Q h=>wp (cb reg) (tryK x Q) h,fun q y=>(cb reg).mono (fun r h z=>match r,z with
 | .ok _,z=>q _ _ z
 | .error _,z=>⟨z.1,q _ _ z.2⟩) y⟩
theorem PO.to {α β:Type} {P P':Po β} {Q:β→α→List Addr→Hp→Shared→Prop} {ρ:List Addr} {h₀:Heap} {a:α} {s':Shared} (x:PO C F P Q ρ h₀ a s') (k:∀ b H',P (.ok b) H'→P' (.ok b) H'):PO C F P' Q ρ h₀ a s':=match x with | ⟨b,ρ',H',p,q,st⟩=>⟨b,ρ',H',k _ _ p,q,st⟩
theorem z4p (ok:F.Ok C) (cok:C.Ok) {x:Ex} (xo:XOk C x) {nm:Str} (hg:glob? C nm (.ref (C.exc x))) {body:List Stmt} {cb:Reg→X (Fl × Reg)} {p p2 p3 pos pos':Pos} {k:Nat} (hb:z4O C F n body cb)
  (hst:∃ outer,F.stack = F.env :: outer:=by exact ⟨_,rfl⟩) (hx:F.env.kindOf nm = some .globalImplicit:=by rfl) (hd:(nm == ("__debug__":Str)) = false:=by decide +kernel) :
  SOk C F n (.Try body [.ExceptHandler (some (.Name nm p)) none [.Return (some (.Constant .none k p2)) p3] pos] [] [] pos') (z2I x cb):=by
 intro A ρ reg H s room inv P e
 refine wpAny_Try_except (wpAny_mono (hb A ρ reg H s room inv (tryK x P) e) (fun f s1 h1=>?_) fun e1 s1 h1=>?_)
 ·have h2:PO C F P (QS C F) ρ s.heap f s1:=h1.to fun Y Y p=>p
  cases f with
  | next=>exact wpAny_pure h2
  | _=>exact h2
 ·have hf:∃ L,F.env.frame = some L:=let ⟨_,_,L,_,_,h⟩:=ok.fr; ⟨L,h⟩
  refine QE.land hst room.frames hf h1 fun y ea ρ1 H1 s2 hr he inv2 hcau st2=>?_
  subst he
  refine cA2 hr fun hyx p=>?_; clear hr
  subst hyx
  refine z0c ok cok xo hg inv2 hcau st2 (fun s3 inv3 Y st3=>?_) hx hd
  rw [k4A]
  refine wpAny_bind ?_
  show wpAny _ _ (standAt p3 >>= fun Y=>pure Value.none >>= fun v=>pure (Flow.ret v)) _ _ _
  exact wpAny_bind (wpAny_standAt (wpAny_bind (wpAny_pure (wpAny_pure (wpAny_pure ⟨(.ret .none,[]),ρ1,H1,p,⟨.ret .none,inv3⟩,st3⟩)))))
end
theorem z0J:entryFor table "proto.unchain" = some Builtin.«proto.unchain»:=entryFor_of_tree (by kernel_rfl)
section
variable {C:k1J} {F:Fm} {n:Nat}
theorem z1H {A:Around} {s:Shared} {e:Value} {ea:Addr} {oe:Obj} {vs:Array Value} (he:s.heap.get? ea = some oe) (hd:oe.data = .fields vs) (h2:vs[2]? = some .none) {Q:Value→Shared→Prop} {E:Value→Shared→Prop} (hQ:Q .none s) :
  wpAny (model C.prog C.w) A (runValue (.builtin "proto.unchain" ⟨[e,.ref ea,.ref ea,.bool false],[]⟩)) Q E s:=by
 refine wpAny_runValue (codeAny_builtin z0J ?_)
 show wpAny _ _ (field (.ref ea) 2 >>= fun context=>_) _ _ _
 refine wpAny_bind (wpAny_field he hd h2 ?_)
 rw [if_pos (by decide)]
 refine wpAny_bind (wpAny_pure ?_)
 refine wpAny_pure ?_
 exact hQ
theorem k9I {A:Around} {s:Shared} {e ea:Addr} {oe:Obj} {vs:Array Value} {o:Obj} {ws:Array Value} (hh:A.handled = some (.ref ea)) (hne:ea≠e) (he:s.heap.get? ea = some oe) (hd:oe.data = .fields vs) (h2:vs[2]? = some .none) (ho:s.heap.get? e = some o) (hw:o.data = .fields ws) (hz:2 < ws.size)
  {Q:Flow→Shared→Prop} {E:Value→Shared→Prop} (hE:E (.ref e) { s with heap:=s.heap.update e (Obj.mapFields (·.setIfInBounds 2 (.ref ea))) }):wpAny (model C.prog C.w) A (raiseNew (.ref e):Sem Flow) Q E s:=by
 unfold raiseNew
 refine wpAny_bind (wpAny_handled ?_)
 rw [hh]
 dsimp only
 rw [if_pos (by simpa using hne)]
 refine wpAny_bind (wpAny_holding (z1H he hd h2 ?_))
 unfold updateField
 refine wpAny_bind (wpAny_bind (wpAny_load ho ?_))
 rw [hw]
 dsimp only
 rw [if_pos hz]
 exact wpAny_update ho (wpAny_throw hE)
noncomputable def z5v (Q:Po (Fl × Reg)):Po (Fl × Reg):=fun r h=>match r with
 | .ok p=>Q (.ok p) h
 | .error y=>y = .run∧Q (.error .lay) h
noncomputable def k8J (cb:Reg→X (Fl × Reg)) (reg:Reg):X (Fl × Reg):=⟨fun Q h=>wp (cb reg) (z5v Q) h,fun q y=>(cb reg).mono (fun r h z=>match r,z with
 | .ok _,z=>q _ _ z
 | .error _,z=>⟨z.1,q _ _ z.2⟩) y⟩
theorem z1I (ok:F.Ok C) (cok:C.Ok) (xo:XOk C .run) {nm nm2:Str} (hg:glob? C nm (.ref (C.exc .run))) {fI:Addr} (xr:z1G C .lay nm2 fI) {tv:List Nat} {stx:Str} (hstx:stx = ⟨tv.toArray⟩)
  {body:List Stmt} {cb:Reg→X (Fl × Reg)} {p p1 p2 p3 p4 pos pos':Pos} {k:Nat} (hb:z4O C F (n + 2) body cb)
  (hst:∃ outer,F.stack = F.env :: outer:=by exact ⟨_,rfl⟩) (hx:F.env.kindOf nm = some .globalImplicit:=by rfl) (hd:(nm == ("__debug__":Str)) = false:=by decide +kernel)
  (hx2:F.env.kindOf nm2 = some .globalImplicit:=by rfl) (hd2:(nm2 == ("__debug__":Str)) = false:=by decide +kernel) :
  SOk C F (n + 2) (.Try body [.ExceptHandler (some (.Name nm p)) none [.Raise (some (.Call (.Name nm2 p1) [.Constant (.str stx) k p2] [] p3)) none p4] pos] [] [] pos') (k8J cb):=by
 intro A ρ reg H s room inv P e
 refine wpAny_Try_except (wpAny_mono (hb A ρ reg H s room inv (z5v P) e) (fun f s1 h1=>?_) fun e1 s1 h1=>?_)
 ·have h2:PO C F P (QS C F) ρ s.heap f s1:=h1.to fun Y Y p=>p
  cases f with
  | next=>exact wpAny_pure h2
  | _=>exact h2
 ·have hf:∃ L,F.env.frame = some L:=let ⟨_,_,L,_,_,h⟩:=ok.fr; ⟨L,h⟩
  refine QE.land hst room.frames hf h1 fun y ea ρ1 H1 s2 hr he inv2 hcau st2=>?_
  subst he
  refine cA2 hr fun hyx p=>?_; clear hr
  subst hyx
  refine z0c ok cok xo hg inv2 hcau st2 (fun s3 inv3 hc3 st3=>?_) hx hd
  rw [k4A]
  refine wpAny_bind (z0b ok cok xr hstx (A:=A.mark (some (.ref ea))) (by have:=room.depth; show A.depth + 1 < _; lia) room.frames inv3 (fun e4 s4 f1 f2 inv4 f4 f5=>?_) hx2 hd2)
  refine cX2 (id hc3) fun oe vs yA=>cA8 yA fun c2 c3 c4 c5 c6 c7 c7' c8=>?_; clear yA
  refine cX2 f4 fun dct t₀ he4=>?_; clear f4
  have hne:ea≠e4:=fun q=>by subst q; rw [f1] at c4; exact kNS c4
  refine k9I rfl hne (f5 _ _ c4) c6 (c7' rfl) he4 rfl (by simp) (loopX (A':=A.mark (some (.ref ea))) hst room.frames hf ?_)
  have sd:=inv4.sideOf he4 rfl
  refine cA2 (inv4.side ok sd f2 (fun o w t=>by rw [he4] at w; refine k1f w fun yA=>?_; clear w; subst yA; simp [k4z] at t) (h':=s4.heap.update e4 (Obj.mapFields (·.setIfInBounds 2 (.ref ea)))) (t:=s4.toks) (fun b o hb hbo=>by rw [Heap.get?_update_other _ _ hb.symm]; exact hbo)) fun j1 j2=>?_
  have hn0:s.heap.get? e4 = none:=st3.none_of f1
  refine ⟨.lay,ρ1,H1,p,j1,⟨e4,rfl,.inl ⟨_,_,hn0,f2,Heap.get?_update_self _ he4 rfl,rfl,rfl,by simp,fun hx=>by (cases hx),by simp⟩⟩,(st3.trans (k1m.grow f5)).side hn0 fun b o hb hbo=>by rw [Heap.get?_update_other _ _ hb.symm]; exact hbo⟩
end
noncomputable def k2g {K:Type} [DecidableEq K] (a b:List (K × Int)):Bool:=a.length == b.length && a.all fun p=>decide (k0Q b p.1 = some p.2)
inductive k3B {K:Type}:List (K × Addr × Value)→List (K × Int)→Prop
 | nil:k3B [] []
 | cons {k:K} {a:Addr} {i:Int} {t:Tok} {xs ns}:k3B xs ns→k3B ((k,a,.int i t) :: xs) ((k,i) :: ns)
theorem k3B.length {K:Type} {xs:List (K × Addr × Value)} {ns:List (K × Int)} (x:k3B xs ns):xs.length = ns.length:=by
 induction x with
 | nil=>rfl
 | cons _ ih=>simp [ih]
theorem k3B.at {K:Type} {xs:List (K × Addr × Value)} {ns:List (K × Int)} (x:k3B xs ns):∀ {j:Nat} {p:K × Addr × Value},xs[j]? = some p→∃ i t,p.2.2 = .int i t∧ns[j]? = some (p.1,i):=by
 induction x with
 | nil=>intro j p h; simp at h
 | cons _ ih =>
  intro j p h
  cases j with
  | zero=>simp at h; subst h; exact ⟨_,_,rfl,rfl⟩
  | succ j=>exact ih (by simpa using h)
theorem k3B.keys {K:Type} {xs:List (K × Addr × Value)} {ns:List (K × Int)} (x:k3B xs ns):xs.map (·.1) = ns.map (·.1):=by
 induction x with
 | nil=>rfl
 | cons _ ih=>simp [ih]
theorem z5w {K:Type} [DecidableEq K] {α:Type} {l:List (K × α)} (hn:(l.map (·.1)).Nodup) {j:Nat} {k:K} {v:α} (h:l[j]? = some (k,v)):k0Q l k = some v:=by
 induction l generalizing j with
 | nil=>simp at h
 | cons p r ih =>
  unfold k0Q
  rw [w0P]
  simp only [w0f,w0J] at hn
  cases j with
  | zero=>simp at h; subst h; simp
  | succ j =>
   simp at h
   have:¬ p.1 = k:=fun e=>hn.1 (by rw [e]; exact w0b.mpr ⟨(k,v),w0z h,rfl⟩)
   simp only [this,decide_false]
   exact ih hn.2 h
theorem z1J {K:Type} [DecidableEq K] {α:Type} {l:List (K × α)} {k:K} (h:∀ (j:Nat) (v:α),l[j]?≠some (k,v)):k0Q l k = none:=by
 induction l with
 | nil=>rfl
 | cons p r ih =>
  unfold k0Q
  rw [w0P]
  have:¬ p.1 = k:=fun e=>h 0 p.2 (by simp [← e])
  simp only [this,decide_false]
  exact ih fun j v=>h (j + 1) v
section
variable {prog:Program} {w:World} {K:Type} [DecidableEq K] {knd:HeapKind prog w K} {A:Around} {E:Value→Shared→Prop} {s:Shared}
theorem z1K {nm:String} {a b:Addr} {oa ob:Obj} {es es':Array DictEntry} {ep ep':Nat} {na nb:List (K × Int)} (ha:(a == sysModules) = false) (hb:(b == sysModules) = false) (hoa:s.heap.get? a = some oa) (hda:oa.data = .dict es ep)
  (hob:s.heap.get? b = some ob) (hdb:ob.data = .dict es' ep') (hla:es.size = na.length) (hlb:es'.size = nb.length)
  (turn:∀ (x:Nat) (k:K) (iv:Int),na[x]? = some (k,iv)→∃ (e:DictEntry) (tv:Tok),es[x]? = some e∧e.val = .int iv tv∧∀ {Q:Option Nat→Shared→Prop},(k0Q nb k = none→Q none s)→(∀ (j:Nat) (e':DictEntry) (i':Int) (t':Tok),es'[j]? = some e'→e'.val = .int i' t'→k0Q nb k = some i'→Q (some j) s)→wpAny (model prog w) A (dictFind b e.key e.hash) Q E s)
  {Q:Bool→Shared→Prop} (h:Q (k2g na nb) s):wpAny (model prog w) A (Builtin.Dict.samePairs nm a b) Q E s:=by
 unfold Builtin.Dict.samePairs Builtin.Dict.showsAll
 rw [if_neg (by rw [ha]; exact w1i),if_neg (by rw [hb]; exact w1i)]
 refine wpAny_bind (wpAny_pure (wpAny_bind (wpAny_pure ?_)))
 refine wpAny_bind (wpAny_dictEntries hoa hda ?_)
 dsimp only
 refine wpAny_bind (wpAny_dictEntries hob hdb ?_)
 by_cases hsz:es.size = es'.size
 case neg =>
  rw [if_pos (by simpa using hsz)]
  have:k2g na nb = false:=by
   unfold k2g
   rw [show (na.length == nb.length) = false by rw [beq_eq_false_iff_ne,← hla,← hlb]; exact hsz]; rfl
  rw [this] at h
  exact wpAny_bind (wpAny_rule (wpAny_pure h))
 case pos =>
  rw [if_neg (by rw [hsz]; simp)]
  refine wpAny_bind (wpAny_dictEpoch hoa hda ?_)
  refine wpAny_bind ?_
  have hd:k2g na nb = na.all fun p=>decide (k0Q nb p.1 = some p.2):=by
   unfold k2g
   rw [show (na.length == nb.length) = true by rw [beq_iff_eq,← hla,← hlb]; exact hsz,w1X]
  rw [hd] at h
  rw [Std.Legacy.Range.forIn_eq_forIn_range']
  simp only [Std.Legacy.Range.size,Nat.sub_zero,Nat.add_sub_cancel,Nat.div_one]
  refine wpAny_forIn_list _
   (fun rest q s'=>s' = s∧q = (none,())∧∃ i,rest = List.range' i (es.size - i)∧i≤es.size∧(na.all fun p=>decide (k0Q nb p.1 = some p.2)) = (na.drop i).all fun p=>decide (k0Q nb p.1 = some p.2))
   _ ?_ ?_ _ _ ⟨rfl,rfl,0,by simp,w1t _,rfl⟩
  ·intro x rest q s' z4q; refine cA3 z4q fun yA=>?_; clear z4q; subst yA; intro yB; subst yB; intro yC; refine cX1 yC fun i yD=>cA3 yD fun hr hi hpre=>?_; clear yC yD
   have hlt:i < es.size:=by
    refine Or.elim (w1E i es.size) (fun h=>?_) fun h=>?_
    ·exact h
    ·rw [w2m h] at hr; simp at hr
   obtain ⟨rfl,hrest⟩:x = i∧rest = List.range' (i + 1) (es.size - (i + 1)):=by
    have e:es.size - i = (es.size - (i + 1)) + 1:=by lia
    rw [e,List.range'_succ] at hr
    injection hr with h1 h2
    exact ⟨h1,h2⟩
   have hxa:x < na.length:=by rw [← hla]; exact hlt
   obtain ⟨k,iv,hnx⟩:∃ k iv,na[x]? = some (k,iv):=⟨_,_,w0A hxa⟩
   refine cX2 (turn x k iv hnx) fun e tv yA=>cA3 yA fun hent hval find=>?_; clear yA
   have hdrop:na.drop x = (k,iv) :: na.drop (x + 1):=by
    refine cX1 (w0v.mp hnx) fun h1 h2=>?_
    rw [w1F h1,h2]
   rw [hdrop,w1Y] at hpre
   refine wpAny_bind (wpAny_dictEntries hoa hda ?_)
   rw [hent]
   dsimp only
   refine wpAny_bind (wpAny_holding (wpAny_bind (find (fun hz=>?_) fun j e' i' t' hent2 hv2 hz=>?_)))
   ·rw [hz] at hpre
    simp only [reduceCtorEq,decide_false,w1C] at hpre
    rw [hpre] at h
    refine wpAny_pure ?_
    rw [if_pos (by decide)]
    exact wpAny_pure (wpAny_pure h)
   ·rw [hz] at hpre
    refine wpAny_bind (wpAny_dictEntries hob hdb ?_)
    rw [hent2]
    dsimp only
    refine wpAny_holding ?_
    rw [hval,hv2]
    refine SeqAt.EqAt.int_int iv tv i' t' prog w _ _ ?_
    by_cases hii:iv = i'
    ·subst hii
     simp only [decide_true,w1X] at hpre
     rw [show (iv == iv) = true by simp,if_neg (by decide)]
     refine wpAny_bind (wpAny_dictEpoch hoa hda ?_)
     rw [if_neg (by simp)]
     exact wpAny_pure ⟨rfl,rfl,x + 1,hrest,hlt,hpre⟩
    ·rw [show (iv == i') = false by simpa using hii,if_pos (by decide)]
     have:decide (some i' = some iv) = false:=by simpa using fun q:i' = iv=>hii q.symm
     rw [this,w1C] at hpre
     rw [hpre] at h
     exact wpAny_pure (wpAny_pure h)
  ·intro q s' z2q; refine cA3 z2q fun yA=>?_; clear z2q; subst yA; intro yB; subst yB; intro yC; refine cX1 yC fun i yD=>cA3 yD fun hr hi hpre=>?_; clear yC yD
   have hin:i = es.size:=by
    refine Or.elim (w1E i es.size) (fun h=>?_) fun h=>?_
    ·have e:es.size - i = (es.size - (i + 1)) + 1:=by lia
     rw [e,List.range'_succ] at hr; exact nomatch hr
    ·exact Nat.le_antisymm hi h
   refine wpAny_pure ?_
   rw [hin,hla,List.drop_length] at hpre
   rw [hpre] at h
   exact h
theorem same_H {nm:String} {a b:Addr} {xa xb:List (K × Addr × Value)} {na nb:List (K × Int)} (hu:knd.room A) (ha:(a == sysModules) = false) (hb:(b == sysModules) = false) (da:s.heap.DictOfH knd a xa) (db:s.heap.DictOfH knd b xb) (va:k3B xa na) (vb:k3B xb nb)
  {Q:Bool→Shared→Prop} (h:Q (k2g na nb) s):wpAny (model prog w) A (Builtin.Dict.samePairs nm a b) Q E s:=by
 refine cX3 da fun oa es ep yA=>cA6 yA fun hoa hca hda hea hia hna=>?_; clear da yA
 refine cX3 db fun ob es' ep' yA=>cA6 yA fun hob hcb hdb heb hib hnb=>?_; clear db yA
 have hla:es.size = na.length:=by rw [← va.length]; have:=congrArg List.length hea; simpa using this
 have hlb:es'.size = nb.length:=by rw [← vb.length]; have:=congrArg List.length heb; simpa using this
 refine z1K ha hb hoa hda hob hdb hla hlb (fun x k iv hnx=>?_) h
 have hxa:x < xa.length:=by rw [va.length]; exact (w0v.mp hnx).1
 obtain ⟨k',ka,v,hkv⟩:∃ k ka v,xa[x]? = some (k,ka,v):=⟨_,_,_,w0A hxa⟩
 refine cX2 (va.at hkv) fun iv' tv yA=>cA2 yA fun hv hnx'=>?_; clear yA
 rw [hnx] at hnx'
 refine k1f hnx' fun e=>k2X e fun e1 e2=>?_
 subst e1 e2
 refine ⟨entryOfKey knd (k,ka,v),tv,by rw [entry_at hea,hkv]; rfl,hv,fun Q0 Q1=>?_⟩
 show wpAny _ _ (dictFind b (.ref ka) (knd.hash k)) _ _ _
 refine wpAny_dictFind_heap hu (hia _ (w0z hkv)) hob hdb heb hib hnb (fun hno=>Q0 (z1J fun j v hjv=>?_)) fun j p hj=>?_
 ·have hj:j < xb.length:=by rw [vb.length]; exact (w0v.mp hjv).1
  refine cX2 (vb.at (w0A hj)) fun i' t' yA=>cA2 yA fun _ h2=>?_; clear yA
  rw [hjv] at h2
  have ek:k = (xb[j]).1:=(Prod.mk.inj (Option.some.inj h2)).1
  exact hno j (xb[j]).2 (by rw [w0A hj,ek])
 ·refine cX2 (vb.at hj) fun i' t' yA=>cA2 yA fun hp2 hn2=>?_; clear yA
  exact Q1 j (entryOfKey knd (k,p)) i' t' (by rw [entry_at heb,hj]; rfl) hp2 (z5w (by rw [← vb.keys]; exact hnb) hn2)
theorem eq_H {a b:Addr} {xa xb:List (K × Addr × Value)} {na nb:List (K × Int)} (hu:knd.room A.in1) (hr:A.units < cLine) (ha:(a == sysModules) = false) (hb:(b == sysModules) = false) (da:s.heap.DictOfH knd a xa) (db:s.heap.DictOfH knd b xb) (va:k3B xa na) (vb:k3B xb nb)
  {Q:Value→Shared→Prop} (h:Q (.bool (k2g na nb)) s):wpAny (model prog w) A (compareOp .Eq (.ref a) (.ref b)) Q E s:=by
 refine wpAny_richCompare_same_room (op:=.Eq) da.typeIs db.typeIs PySem.F.slot_dict_eq (wpAny_call_entry PySem.F.slot_dict_eq da.typeIs PySem.F.entry_dict_eq ?_ (PySem.F.args_dict_eq_2 _ _)) hr
 show wpAny _ _ (Builtin.Dict.dictSlotArgs "__eq__" ⟨[.ref a,.ref b],[]⟩ >>= _) _ _ s
 refine wpAny_bind ?_
 unfold Builtin.Dict.dictSlotArgs
 refine wpAny_bind (wpAny_notOrdered_dict da.typeIs ?_)
 show wpAny _ _ (pure (Value.ref a,Value.ref b)) _ _ s
 refine wpAny_pure ?_
 refine wpAny_bind (wpAny_isInstance (T:="dict") db.typeIs PySem.F.sub_dict_dict ?_)
 simp only [w1j,w0p,if_false]
 refine wpAny_bind (wpAny_pure (wpAny_bind (wpAny_pure ?_)))
 refine wpAny_bind (same_H hu ha hb da db va vb ?_)
 refine wpAny_pure ⟨_,rfl,?_,?_⟩
 ·exact fun x=>nomatch x
 ·simpa using h
end
section
variable {prog:Program} {w:World}
theorem tup_same {A:Around} {E:Value→Shared→Prop} {s:Shared} {l b:Addr} {xs ys:List Value} (hl:s.heap.IsTuple l xs.toArray) (hb:s.heap.IsTuple b ys.toArray) (hlen:xs.length = ys.length) {e:Nat→Bool}
  (he:∀ (j:Nat) (x y:Value),xs[j]? = some x→ys[j]? = some y→∀ (A':Around) (Q:Bool→Shared→Prop) (E:Value→Shared→Prop),A'.units = A.units + 1→Q (e j) s→wpAny (model prog w) A' (eqBool x y) Q E s) {Q:Fin→Shared→Prop}
  (h:Q (.done (.ret (.bool ((List.range xs.length).all e)))) s) {A':Around} (hA:A'.units = A.units + 1):wpAny (model prog w) A' (Builtin.«tuple.__eq__» ⟨[.ref l,.ref b],[]⟩) Q E s:=by
 refine cX1 (id hl) fun yA yB=>?_; obtain ⟨cls,dd,data,sl⟩:=yA; refine cA3 yB fun ho hc yC=>cX1 yC fun n hd=>?_; clear yB yC
 refine cX1 (id hb) fun yA yB=>?_; obtain ⟨cls2,dd2,data2,sl2⟩:=yA; refine cA3 yB fun ho2 hc2 yC=>cX1 yC fun n2 hd2=>?_; clear yB yC
 simp only at hc hd hc2 hd2
 subst hc hd hc2 hd2
 obtain ⟨hp,g,d,tk,os⟩:=s
 have f2:=AutoSeq1.sub_tuple_tuple
 wp_walk using wpAny_loadPart' ho,wpAny_loadPart' ho2,wpAny_forIn_list _ (fun rest b s'=>b.1 = none∧s' = ⟨hp,g,d,tk,os⟩∧∃ i,rest = (xs.toArray.toList.zip ys.toArray.toList).drop i∧Q (.done (.ret (.bool (((List.range xs.length).drop i).all e)))) ⟨hp,g,d,tk,os⟩) _
 ·intro z0q rest bb s' z4q; obtain ⟨x,y⟩:=z0q; refine cA3 z4q fun hb' yA=>?_; clear z4q; subst yA; intro yB; refine cX1 yB fun i yC=>cA2 yC fun hz hR=>?_; clear yB yC
  have hZ:(xs.toArray.toList.zip ys.toArray.toList) = xs.zip ys:=rfl
  rw [hZ] at hz
  have hlt:i < (xs.zip ys).length:=by
   refine Or.elim (w1E i (xs.zip ys).length) (fun h'=>?_) fun h'=>?_
   ·exact h'
   ·rw [w2n h'] at hz; exact kCN hz
  have hxi:i < xs.length:=by rw [w2o] at hlt; lia
  rw [w1F hlt] at hz
  injection hz with hyx hrest
  have hx:xs[i]? = some x:=by
   have:=congrArg Prod.fst hyx
   simp at this
   rw [this]; exact w0A hxi
  have hy:ys[i]? = some y:=by
   have:=congrArg Prod.snd hyx
   simp at this
   rw [this]; exact w0A (by lia)
  have hdr:(List.range xs.length).drop i = i :: (List.range xs.length).drop (i + 1):=by
   rw [w1F (by simpa using hxi)]; simp
  rw [hdr,w1Y] at hR
  refine wpAny_bind (he i x y hx hy A' _ _ hA ?_)
  cases hei:e i with
  | true =>
   rw [hei,w1X] at hR
   rw [if_neg (by decide)]
   exact wpAny_pure ⟨rfl,rfl,i + 1,by rw [hZ]; exact hrest,hR⟩
  | false =>
   rw [hei,w1C] at hR
   rw [if_pos (by decide)]
   exact wpAny_bind (wpAny_pure (wpAny_pure (wpAny_pure hR)))
 ·intro z0q s' z2q; obtain ⟨b1,b2⟩:=z0q; refine cA3 z2q fun hb' yA=>?_; clear z2q; subst yA; intro yB; refine cX1 yB fun i yC=>cA2 yC fun hz hR=>?_; clear yB yC
  simp only at hb'
  subst hb'
  have hZ:(xs.toArray.toList.zip ys.toArray.toList) = xs.zip ys:=rfl
  rw [hZ] at hz
  have hge:xs.length≤i:=by
   refine Or.elim (w1E i (xs.zip ys).length) (fun h'=>?_) fun h'=>?_
   ·rw [w1F h'] at hz; exact kNC hz
   ·rw [w2o] at h'; lia
  rw [w2n (by simpa using hge)] at hR
  show wpAny _ _ (pure (Fin.done (Flow.ret (Value.bool (xs.toArray.size == ys.toArray.size)))):Sem Fin) _ _ _
  rw [show (xs.toArray.size == ys.toArray.size) = true by simp [hlen]]
  exact wpAny_pure hR
 ·exact ⟨rfl,rfl,0,rfl,by simpa using h⟩
theorem tup_eq {A:Around} {E:Value→Shared→Prop} {s:Shared} {l b:Addr} {xs ys:List Value} (hl:s.heap.IsTuple l xs.toArray) (hb:s.heap.IsTuple b ys.toArray) (hlen:xs.length = ys.length) (hu:A.units < cLine) {e:Nat→Bool}
  (he:∀ (j:Nat) (x y:Value),xs[j]? = some x→ys[j]? = some y→∀ (A':Around) (Q:Bool→Shared→Prop) (E:Value→Shared→Prop),A'.units = A.units + 1→Q (e j) s→wpAny (model prog w) A' (eqBool x y) Q E s) {Q:Value→Shared→Prop}
  (h:Q (.bool ((List.range xs.length).all e)) s):wpAny (model prog w) A (compareOp .Eq (.ref l) (.ref b)) Q E s:=by
 have hT:s.TypeIs (.ref l) "tuple":=cX1 hl fun o w=>⟨o,w.1,w.2.1⟩
 have hT2:s.TypeIs (.ref b) "tuple":=cX1 hb fun o w=>⟨o,w.1,w.2.1⟩
 refine wpAny_richCompare_same_room (op:=.Eq) hT hT2 PySem.F.slot_tuple_eq (wpAny_call_entry PySem.F.slot_tuple_eq hT PySem.F.entry_tuple_eq (tup_same (A:=A) hl hb hlen he ?_ rfl) (PySem.F.args_tuple_eq_2 _ _)) hu
 exact ⟨_,rfl,(fun x=>nomatch x),h⟩
theorem k8K {A:Around} {E:Value→Shared→Prop} {s:Shared} {l b:Addr} (hne:l≠b) {Q:Bool→Shared→Prop} {r:Bool} (h:∀ (Q':Value→Shared→Prop) (E':Value→Shared→Prop),Q' (.bool r) s→wpAny (model prog w) A (compareOp .Eq (.ref l) (.ref b)) Q' E' s) (hQ:Q r s) :
  wpAny (model prog w) A (eqBool (.ref l) (.ref b)) Q E s:=by
 unfold eqBool
 refine wpAny_holding ?_
 rw [if_neg (by simpa using hne)]
 exact wpAny_bind (h _ _ (wpAny_truthy_bool hQ))
end
inductive z3E {K:Type}:List (K × Value)→List (K × Int)→Prop
 | nil:z3E [] []
 | cons {k:K} {i:Int} {t:Tok} {xs ns}:z3E xs ns→z3E ((k,.int i t) :: xs) ((k,i) :: ns)
theorem z3E.length {K:Type} {xs:List (K × Value)} {ns:List (K × Int)} (x:z3E xs ns):xs.length = ns.length:=by
 induction x with
 | nil=>rfl
 | cons _ ih=>simp [ih]
theorem z3E.at {K:Type} {xs:List (K × Value)} {ns:List (K × Int)} (x:z3E xs ns):∀ {j:Nat} {p:K × Value},xs[j]? = some p→∃ i t,p.2 = .int i t∧ns[j]? = some (p.1,i):=by
 induction x with
 | nil=>intro j p h; simp at h
 | cons _ ih =>
  intro j p h
  cases j with
  | zero=>simp at h; subst h; exact ⟨_,_,rfl,rfl⟩
  | succ j=>exact ih (by simpa using h)
theorem z3E.keys {K:Type} {xs:List (K × Value)} {ns:List (K × Int)} (x:z3E xs ns):xs.map (·.1) = ns.map (·.1):=by
 induction x with
 | nil=>rfl
 | cons _ ih=>simp [ih]
section
variable {prog:Program} {w:World} {K:Type} [DecidableEq K] {knd:KeyKind prog w K} {A:Around} {E:Value→Shared→Prop} {s:Shared}
theorem same_D {nm:String} {a b:Addr} {xa xb:List (K × Value)} {na nb:List (K × Int)} (ha:(a == sysModules) = false) (hb:(b == sysModules) = false) (da:s.heap.DictOf knd a xa) (db:s.heap.DictOf knd b xb) (va:z3E xa na) (vb:z3E xb nb)
  {Q:Bool→Shared→Prop} (h:Q (k2g na nb) s):wpAny (model prog w) A (Builtin.Dict.samePairs nm a b) Q E s:=by
 refine cX3 da fun oa es ep yA=>cA6 yA fun hoa hca hda hka hea hna=>?_; clear da yA
 refine cX3 db fun ob es' ep' yA=>cA6 yA fun hob hcb hdb hkb heb hnb=>?_; clear db yA
 have hla:es.size = na.length:=by rw [← va.length]; have:=hea.length; simpa using this
 have hlb:es'.size = nb.length:=by rw [← vb.length]; have:=heb.length; simpa using this
 refine z1K ha hb hoa hda hob hdb hla hlb (fun x k iv hnx=>?_) h
 have hlt:x < es.size:=by rw [hla]; exact (w0v.mp hnx).1
 have hxa:x < xa.length:=by rw [va.length]; exact (w0v.mp hnx).1
 obtain ⟨k0,v,hkv⟩:∃ k v,xa[x]? = some (k,v):=⟨_,_,w0A hxa⟩
 refine cX2 (va.at hkv) fun iv' tv yA=>cA2 yA fun hv hnx'=>?_; clear yA
 rw [hnx] at hnx'
 refine k1f hnx' fun e=>k2X e fun e1 e2=>?_
 subst e1 e2
 obtain ⟨ex,hent⟩:∃ ex,es[x]? = some ex:=⟨_,Array.getElem?_eq_getElem hlt⟩
 refine cA2 (hea.get? (i:=x) (by rw [Array.getElem?_toList]; exact hent) hkv) fun hkey hval=>?_
 refine cX1 (hka ex (Array.mem_of_getElem? hent)) fun k' yA=>cA2 yA fun hk' hh=>?_; clear yA
 have ekk:k = k':=knd.inj _ _ _ hkey hk'
 rw [← ekk] at hh hk'
 refine ⟨ex,tv,hent,hval.trans hv,fun Q0 Q1=>?_⟩
 rw [hh]
 refine wpAny_dictFind_of hkey hob hdb hkb ?_
 cases hj:es'.findIdx? fun e=>knd.is k e.key with
 | none =>
  refine Q0 (z1J fun j v hjv=>?_)
  have hj2:j < xb.length:=by rw [vb.length]; exact (w0v.mp hjv).1
  refine cX2 (vb.at (w0A hj2)) fun i' t' yA=>cA2 yA fun _ h2=>?_; clear yA
  rw [hjv] at h2
  have ek:k = (xb[j]).1:=(Prod.mk.inj (Option.some.inj h2)).1
  have hje:j < es'.size:=by rw [hlb,← vb.length]; exact hj2
  refine cA2 (heb.get? (i:=j) (e:=es'[j]) (k:=(xb[j]).1) (v:=(xb[j]).2) (by rw [Array.getElem?_toList]; exact Array.getElem?_eq_getElem hje) (w0A hj2)) fun h3 _=>?_
  rw [← ek] at h3
  have:=Array.findIdx?_eq_none_iff.mp hj es'[j] (Array.getElem_mem hje)
  rw [h3] at this; exact kTF this
 | some j =>
  refine cX1 (Array.findIdx?_eq_some_iff_getElem.mp hj) fun hjlt yA=>cA2 yA fun hjk _=>?_; clear yA
  have hj2:j < xb.length:=by rw [vb.length,← hlb]; exact hjlt
  refine cA2 (heb.get? (i:=j) (e:=es'[j]) (k:=(xb[j]).1) (v:=(xb[j]).2) (by rw [Array.getElem?_toList]; exact Array.getElem?_eq_getElem hjlt) (w0A hj2)) fun h3 h4=>?_
  refine cX2 (vb.at (w0A hj2)) fun i' t' yA=>cA2 yA fun hp2 hn2=>?_; clear yA
  have ek:(xb[j]).1 = k:=knd.inj _ _ _ h3 hjk
  rw [ek] at hn2
  exact Q1 j (es'[j]) i' t' (Array.getElem?_eq_getElem hjlt) (h4.trans hp2) (z5w (by rw [← vb.keys]; exact hnb) hn2)
theorem eq_D {a b:Addr} {xa xb:List (K × Value)} {na nb:List (K × Int)} (hr:A.units < cLine) (ha:(a == sysModules) = false) (hb:(b == sysModules) = false) (da:s.heap.DictOf knd a xa) (db:s.heap.DictOf knd b xb) (va:z3E xa na) (vb:z3E xb nb)
  {Q:Value→Shared→Prop} (h:Q (.bool (k2g na nb)) s):wpAny (model prog w) A (compareOp .Eq (.ref a) (.ref b)) Q E s:=by
 refine wpAny_richCompare_same_room (op:=.Eq) da.typeIs db.typeIs PySem.F.slot_dict_eq (wpAny_call_entry PySem.F.slot_dict_eq da.typeIs PySem.F.entry_dict_eq ?_ (PySem.F.args_dict_eq_2 _ _)) hr
 show wpAny _ _ (Builtin.Dict.dictSlotArgs "__eq__" ⟨[.ref a,.ref b],[]⟩ >>= _) _ _ s
 refine wpAny_bind ?_
 unfold Builtin.Dict.dictSlotArgs
 refine wpAny_bind (wpAny_notOrdered_dict da.typeIs ?_)
 show wpAny _ _ (pure (Value.ref a,Value.ref b)) _ _ s
 refine wpAny_pure ?_
 refine wpAny_bind (wpAny_isInstance (T:="dict") db.typeIs PySem.F.sub_dict_dict ?_)
 simp only [w1j,w0p,if_false]
 refine wpAny_bind (wpAny_pure (wpAny_bind (wpAny_pure ?_)))
 refine wpAny_bind (same_D ha hb da db va vb ?_)
 refine wpAny_pure ⟨_,rfl,?_,?_⟩
 ·exact fun x=>nomatch x
 ·simpa using h
end
noncomputable def k2O {K:Type}:List (K × V)→Option (List (K × Int))
 | []=>some []
 | (k,.int i) :: r=>(k2O r).map ((k,i) :: ·)
 | _ :: _=>none
theorem toK_inj:Function.Injective toK:=by
 intro x y e
 cases x <;> cases y <;> simp [toK] at e <;> simp [e]
theorem z4r {a b:List (List Nat ⊕ Bool)} (h:a.map toK = b.map toK):a = b:=(w1S (fun x y=>@toK_inj x y)).mp h
theorem dget_map {K L:Type} [DecidableEq K] [DecidableEq L] {α:Type} (f:K→L) (hf:∀ a b,f a = f b→a = b) (l:List (K × α)) (k:K):k0Q (l.map fun p=>(f p.1,p.2)) (f k) = k0Q l k:=by
 induction l with
 | nil=>rfl
 | cons p r ih =>
  unfold k0Q at ih ⊢
  rw [w0f,w0P,w0P]
  by_cases q:p.1 = k
  ·simp [q]
  ·have:¬ f p.1 = f k:=fun e=>q (hf _ _ e)
   simp only [q,this,decide_false]
   exact ih
theorem z0d {K L:Type} [DecidableEq K] [DecidableEq L] (f:K→L) (hf:∀ a b,f a = f b→a = b) (a b:List (K × Int)):k2g (a.map fun p=>(f p.1,p.2)) (b.map fun p=>(f p.1,p.2)) = k2g a b:=by
 unfold k2g
 rw [w0u,w0u,List.all_map]
 congr 1
 apply congrArg (fun g=>List.all a g)
 funext p
 show decide (k0Q _ (f p.1) = some p.2) = _
 rw [dget_map f hf]
theorem k6o.ints {ρ:List Addr} {h:Heap} {es:List (List (List Nat ⊕ Bool) × V)} {kvs:List (List (Str ⊕ Bool) × Addr × Value)} (x:k6o ρ h es kvs):∀ {ns:List (List (List Nat ⊕ Bool) × Int)},k2O es = some ns→k3B kvs (ns.map fun p=>(p.1.map toK,p.2)):=by
 induction x with
 | nil=>intro ns h; cases h; exact .nil
 | @cons k V a v es kvs hv _ ih =>
  intro ns h
  cases hv with
  | int i t =>
   simp only [k2O,w0E] at h
   refine cX1 h fun ns' yA=>cA2 yA fun h1 yB=>?_; clear h yA; subst yB
   exact .cons (ih h1)
  | _=>cases h
theorem k5d.intv {ρ:List Addr} {h:Heap} {es:List (List Nat × V)} {kvs:List (Str × Value)} (x:k5d ρ h es kvs):∀ {ns:List (List Nat × Int)},k2O es = some ns→z3E kvs (ns.map fun p=>((⟨p.1.toArray⟩:Str),p.2)):=by
 induction x with
 | nil=>intro ns h; cases h; exact .nil
 | @cons k V v es kvs hv _ ih =>
  intro ns h
  cases hv with
  | int i t =>
   simp only [k2O,w0E] at h
   refine cX1 h fun ns' yA=>cA2 yA fun h1 yB=>?_; clear h yA; subst yB
   exact .cons (ih h1)
  | _=>cases h
noncomputable def iEq (a:Int):V→Option Bool
 | .int b=>some (a == b)
 | _=>none
noncomputable def dEq (d:List (List Nat × V)):O→Option Bool
 | .dict d'=>(k2O d).bind fun m=>(k2O d').map fun m'=>k2g m m'
 | _=>none
noncomputable def tEq (d:List (List (List Nat ⊕ Bool) × V)):O→Option Bool
 | .tdict d'=>(k2O d).bind fun m=>(k2O d').map fun m'=>k2g m m'
 | _=>none
noncomputable def oEq:O→O→Option Bool
 | .dict d=>dEq d
 | .tdict d=>tEq d
 | _=>fun Y=>none
noncomputable def lEq (h:Hp) (p:Nat):V→Option Bool
 | .loc q=>if p = q then none else h[p]?.bind fun x=>h[q]?.bind fun y=>oEq x y
 | _=>none
noncomputable def vEq (h:Hp):V→V→Option Bool
 | .int a=>iEq a
 | .loc p=>lEq h p
 | _=>fun Y=>none
noncomputable def vsEq (h:Hp):List V→List V→Option Bool
 | []=>fun l=>if l.isEmpty then some true else none
 | a :: as=>fun l=>match l with
  | b :: bs=>(vEq h a b).bind fun r=>(vsEq h as bs).map fun r'=>r && r'
  | []=>none
noncomputable def xTold (a b:V):X V:=onTup (fun as=>onTup (fun bs=>⟨fun Q h=>oK (vsEq h as bs) fun r=>Q (.ok (.bool r)) h,fun q x=>k2Y (fun Y y=>q _ _ y) x⟩) b) a
section
variable {C:k1J} {F:Fm} {n:Nat}
noncomputable def EqE (C:k1J) (u:Nat) (s:Shared) (x y:Value) (r:Bool):Prop:=∀ (A':Around) (Q:Bool→Shared→Prop) (E:Value→Shared→Prop),A'.units = u + 1→Q r s→wpAny (model C.prog C.w) A' (eqBool x y) Q E s
theorem k5n {α:Type} {p:Prop} {a:α} (e:none = some a):p:=(Option.noConfusion rfl (heq_of_eq e))
theorem o_eqE {ρ:List Addr} {H:Hp} {s:Shared} {reg:Reg} {k:Nat} (hk:k + 2 < cLine) (inv:k1O C F ρ reg H s) {x y:Nat} {u v:Addr} {o o':O} (hx:ρ[x]? = some u) (hy:ρ[y]? = some v) (ho:H[x]? = some o) (ho':H[y]? = some o') (hxy:x≠y) {r:Bool} (e:oEq o o' = some r):EqE C k s (.ref u) (.ref v) r:=by
 intro A' Q E hA hQ
 have hne:u≠v:=fun q=>hxy (by
  subst q
  exact (w1r (w0v.mp hx).1 inv.hm.nodup).mp (hx.trans hy.symm))
 have su:=inv.hm.notSys _ (w0z hx)
 have sv:=inv.hm.notSys _ (w0z hy)
 have r1:A'.units < cLine:=by clear hQ e ho ho' inv; lia
 have r2:A'.in1.units < cLine:=by
  have:A'.in1.units = A'.units + 1:=rfl
  clear hQ e ho ho' inv; lia
 have K1:=inv.hm.obj x u _ hx ho
 have K2:=inv.hm.obj y v _ hy ho'
 cases o with
 | dict d =>
  cases o' with
  | dict d' =>
   refine cX1 (w0W.mp e) fun m yA=>cA2 yA fun hm e1=>?_; clear yA
   refine cX1 (w0E.mp e1) fun m' yA=>cA2 yA fun hm' yB=>?_; clear yA; subst yB
   refine cX1 K1 fun kvs yA=>cA2 yA fun hda hent=>?_; clear K1 yA
   refine cX1 K2 fun kvs' yA=>cA2 yA fun hdb hent'=>?_; clear K2 yA
   refine k8K hne (fun Q' E' h=>?_) hQ
   refine eq_D r1 su sv hda.dictOf hdb.dictOf (hent.intv hm) (hent'.intv hm') ?_
   rw [z0d (fun k:List Nat=>(⟨k.toArray⟩:Str)) (fun a b e=>by injection e with e; simpa using e)]
   exact h
  | _=>exact k5n e
 | tdict d =>
  cases o' with
  | tdict d' =>
   refine cX1 (w0W.mp e) fun m yA=>cA2 yA fun hm e1=>?_; clear yA
   refine cX1 (w0E.mp e1) fun m' yA=>cA2 yA fun hm' yB=>?_; clear yA; subst yB
   refine cX1 K1 fun xs yA=>cA2 yA fun hda hent=>?_; clear K1 yA
   refine cX1 K2 fun xs' yA=>cA2 yA fun hdb hent'=>?_; clear K2 yA
   refine k8K hne (fun Q' E' h=>?_) hQ
   refine eq_H r2 r1 su sv hda hdb (hent.ints hm) (hent'.ints hm') ?_
   rw [z0d _ (fun a b=>z4r)]
   exact h
  | _=>exact k5n e
 | _=>exact k5n e
theorem v_eqE {ρ:List Addr} {H:Hp} {s:Shared} {reg:Reg} {k:Nat} (hk:k + 2 < cLine) (inv:k1O C F ρ reg H s) {a b:V} {x y:Value} (ha:VR ρ s.heap a x) (hb:VR ρ s.heap b y) {r:Bool} (e:vEq H a b = some r):EqE C k s x y r:=by
 cases ha with
 | int i t =>
  cases hb with
  | int j t'=>cases e; exact fun A' Q E hA hQ=>SeqAt.EqAt.int_int _ _ _ _ _ _ _ _ hQ
  | _=>exact k5n e
 | loc p u hp =>
  cases hb with
  | loc q v hq =>
   unfold vEq lEq at e
   dsimp only at e
   by_cases hpq:p = q
   ·rw [if_pos hpq] at e; exact kNS e
   ·rw [if_neg hpq] at e
    refine cX1 (w0W.mp e) fun o yA=>cA2 yA fun ho e=>?_; clear yA
    refine cX1 (w0W.mp e) fun o' yA=>cA2 yA fun ho' e=>?_; clear yA
    exact o_eqE hk inv hp hq ho ho' hpq e
  | _=>exact k5n e
 | _=>exact k5n e
structure AllE (C:k1J) (u:Nat) (s:Shared) (xs ys:List Value) (r:Bool) (f:Nat→Bool):Prop where
 len:xs.length = ys.length
 at':∀ j x y,xs[j]? = some x→ys[j]? = some y→EqE C u s x y (f j)
 all:(List.range xs.length).all f = r
theorem vs_eqE {ρ:List Addr} {H:Hp} {s:Shared} {reg:Reg} {k:Nat} (hk:k + 2 < cLine) (inv:k1O C F ρ reg H s) {as:List V}:∀ {bs:List V} {xs ys:List Value},VRs ρ s.heap as xs→VRs ρ s.heap bs ys→∀ {r:Bool},vsEq H as bs = some r→∃ f,AllE C k s xs ys r f:=by
 induction as with
 | nil =>
  intro bs xs ys ha hb r e
  refine VRs.iNil ha fun yA=>?_; clear ha; subst yA
  cases bs with
  | nil=>refine VRs.iNil hb fun yA=>?_; clear hb; subst yA; cases e; exact ⟨fun Y=>true,rfl,fun j x y h=>k5n h,rfl⟩
  | cons _ _=>exact k5n e
 | cons a as ih =>
  intro bs xs ys ha hb r e
  refine VRs.eCons ha fun Y Y h1 h2=>?_
  cases hb with
  | nil=>exact k5n e
  | cons g1 g2 =>
   refine cX1 (w0W.mp e) fun r1 yA=>cA2 yA fun e1 e=>?_; clear yA
   refine cX1 (w0E.mp e) fun r2 yA=>cA2 yA fun e2 yB=>?_; clear yA; subst yB
   refine cX1 (ih h2 g2 e2) fun f hf=>?_
   refine ⟨fun | 0=>r1 | j + 1=>f j,congrArg (· + 1) hf.len,fun j x y hx hy=>?_,?_⟩
   ·cases j with
    | zero=>cases hx; cases hy; exact v_eqE hk inv h1 g1 e1
    | succ j=>exact hf.at' j x y hx hy
   ·rw [w0s,w2i,w1Y,List.all_map]
    exact congrArg (r1 && ·) hf.all
theorem op_told:k9T C F n (compareOp .Eq) xTold:=by
 intro A ρ reg H s a b va vb room inv ha hb
 refine k0e.onTup fun as ea=>k0e.onTup fun bs eb P p=>k5Z p fun r e1 p1=>?_
 subst ea eb
 refine VR.eTup ha fun la ia hia va=>?_
 refine VR.eTup hb fun lb ib hib vb=>?_
 refine cX1 (vs_eqE (k:=A.units) (by have:=room.units; lia) inv va vb e1) fun f hf=>?_
 refine tup_eq (e:=f) hia hib hf.len (by have:=room.units; lia) hf.at' ?_
 rw [hf.all]
 exact ⟨_,ρ,H,p1,⟨.bool _,inv⟩,k1m.refl _ _ _ _⟩
end
section
variable {C:k1J} {F:Fm} {n:Nat}
noncomputable def z5x (k1 k2:List Nat) (c1 c2:Reg→X V) (reg:Reg):X V:=c1 reg >>= fun v1=>c2 reg >>= fun v2=>k3r (.dict [(k1,v1),(k2,v2)])
theorem z5y (ok:F.Ok C) (cok:C.Ok) {k1 k2:List Nat} {x1 x2:Str} (h1:x1 = ⟨k1.toArray⟩) (h2:x2 = ⟨k2.toArray⟩) (hne:k1≠k2) {a1 a2:Nat} {p1 p2 pos:Pos} {e1 e2:Expr} {c1 c2:Reg→X V} (he1:EOk C F n e1 c1) (he2:EOk C F n e2 c2) :
  EOk C F n (.Dict [some (.Constant (.str x1) a1 p1),some (.Constant (.str x2) a2 p2)] [e1,e2] pos) (z5x k1 k2 c1 c2):=by
 subst h1 h2
 intro A ρ reg H s room inv P e
 refine PySem.wpAny_Dict_any rfl rfl (by simp) (by simp) ?_
 show wpAny _ _ (evalPairs [(eval (.Constant (.str _) a1 p1) F.env,(eval e1 F.env >>= fun x=>standAt pos >>= fun Y=>pure x)),(eval (.Constant (.str _) a2 p2) F.env,(eval e2 F.env >>= fun x=>standAt pos >>= fun Y=>pure x))]) _ _ _
 have k0:∀ a o,s.heap.get? a = some o→(s.heap.push { cls:=.type "dict",data:=.dict #[] }).get? a = some o:=fun a o e=>Heap.get?_push_of_some _ e
 have hD:=k3v s.heap (w0l s.heap.objs.size)
 have gD:(s.heap.push { cls:=.type "dict",data:=.dict #[] }).get? s.heap.objs.size = some { cls:=.type "dict",data:=.dict #[] }:=Heap.get?_push_size _ rfl
 have sd0:k6C C F ρ s.heap.objs.size:=by
  refine ⟨fun m=>?_,fun m=>?_,fun m=>?_⟩
  ·refine cX1 (inv.hm.there m) fun ob yA=>cA2 yA fun g _=>?_; clear yA; rw [hD] at g; exact kNS g
  ·refine cA2 (inv.off _ m) fun _ yA=>cX1 yA fun o yB=>cA2 yB fun g _=>?_; clear yA yB; rw [hD] at g; exact kNS g
  ·refine cX1 (w0T.mp m) fun e' yA=>cA2 yA fun he' hf=>?_; clear yA
   refine cA2 (inv.frs e' he') fun _ yA=>cX4 yA fun L o es n' yB=>cA5 yB fun f1 f2 f3 f4 f5=>?_; clear yA yB
   rw [f1] at hf; refine k1f hf fun yA=>?_; clear hf; subst yA
   rw [hD] at f4; exact kNS f4
 have inv0:=inv.heap k0
 have st0:k1m F.fs F.mods ρ ρ s.heap (s.heap.push { cls:=.type "dict",data:=.dict #[] }):=k1m.grow k0
 unfold evalPairs
 refine wpAny_bind (wpAny_mkText ?_)
 refine wpAny_bind (wpAny_holding (wpAny_bind ?_))
 refine k0e.seqFrom (he1 A ρ reg H _ room (inv0.toks (s.toks + 1))) st0 e fun v1 u1 ρ1 H1 s1 q1 l1 st1 e1=>?_
 refine wpAny_bind (wpAny_standAt (wpAny_pure ?_))
 unfold evalPairs
 refine wpAny_bind (wpAny_holding (wpAny_bind (wpAny_mkText ?_)))
 refine wpAny_bind (wpAny_holding (wpAny_bind ?_))
 refine k0e.seqFrom (he2 A ρ1 reg H1 _ room (q1.2.toks (s1.toks + 1))) st1 e1 fun v2 u2 ρ2 H2 s2 q2 l2 st2 e2=>?_
 have gD2:=l2.keep _ _ (l1.keep _ _ gD sd0.1 sd0.2.1 sd0.2.2) (k6C.step l1 sd0 gD).1 sd0.2.1 sd0.2.2
 have sd2:k6C C F ρ2 s.heap.objs.size:=k6C.step (l1.trans l2) sd0 gD
 refine wpAny_bind (wpAny_standAt (wpAny_pure ?_))
 unfold evalPairs
 refine wpAny_bind (wpAny_holding (wpAny_pure (wpAny_pure (wpAny_pure ?_))))
 have hat:s2.heap.DictAt (strKind C.prog C.w) s.heap.objs.size [] ([]:List (Str × Value)).length:=⟨_,#[],gD2,⟨rfl,rfl,rfl⟩,rfl,fun e he=>by simp at he,.nil,w0L⟩
 have hb:=k4v inv.toCInv hD
 have nt:∀ (h:Heap),(∃ kvs,h.DictAt (strKind C.prog C.w) s.heap.objs.size kvs kvs.length)→∀ o,h.get? s.heap.objs.size = some o→¬ k4z o:=fun h ⟨kvs,hh⟩ o w t=>by
  refine cX2 hh fun o' es' yA=>cA3 yA fun ho' hc' _=>?_; clear hh yA
  rw [w] at ho'; refine k1f ho' fun yA=>?_; clear ho'; subst yA
  rw [k4z,hc'.1] at t
  exact absurd t.1 (by decide)
 unfold storeAll
 simp only [List.forIn_cons,List.forIn_nil]
 refine wpAny_bind (wpAny_bind (k5P (k2D _ _) hat (fun h3 hat3 sb3=>wpAny_pure ?_) (by simp)))
 refine cA3 (q2.2.sideStep ok sd2 hb (nt s2.heap ⟨_,hat⟩) (t:=s2.toks + 1) sb3 hD st2) fun inv3 st3 tup3=>?_
 refine wpAny_bind (wpAny_bind (k5P (s:={ s2 with heap:=h3,toks:=s2.toks + 1 }) (k2D _ _) hat3 (fun h4 hat4 sb4=>wpAny_pure ?_) (by rw [show (stored ([]:List (Str × Value)) (⟨k1.toArray⟩:Str) u1).length = 1 from rfl]; lia)))
 refine cA3 (inv3.sideStep ok sd2 hb (nt h3 ⟨_,hat3⟩) (t:=s2.toks + 1 + 1) sb4 hD st3) fun inv4 st4 tup4=>?_
 have hk:¬ (⟨k1.toArray⟩:Str) = ⟨k2.toArray⟩:=fun q=>hne (by injection q with q; simpa using q)
 have es:stored (stored ([]:List (Str × Value)) (⟨k1.toArray⟩:Str) u1) ⟨k2.toArray⟩ u2 = [(⟨k1.toArray⟩,u1),(⟨k2.toArray⟩,u2)]:=by
  unfold stored
  simp [hk]
 rw [es] at hat4
 have big:mainGlobals < s.heap.objs.size:=inv.toCInv.big cok
 have hns:(s.heap.objs.size == sysModules) = false:=beq_eq_false_iff_ne.mpr fun w=>by
  have h1:sysModules < mainGlobals:=by decide +kernel
  exact absurd w (w1b (w1Q h1 big))
 have w1:VR ρ2 h4 v1 u1:=((q1.1.step l2).mono (w0m _) tup3).mono (w0m _) tup4
 have w2:VR ρ2 h4 v2 u2:=(q2.1.mono (w0m _) tup3).mono (w0m _) tup4
 refine cA2 (inv4.adopt (o:=.dict [(k1,v1),(k2,v2)]) sd2 hb hns ⟨_,hat4,.cons (w1.mono ⟨_,rfl⟩ fun Y Y e Y=>e) (.cons (w2.mono ⟨_,rfl⟩ fun Y Y e Y=>e) .nil)⟩ st4 hD) fun y stf=>?_
 exact wpAny_pure ⟨_,_,_,e2,⟨.loc _ _ (by rw [← inv4.hm.len,w0C (w0l _)]; simp),y⟩,stf⟩
end
theorem z5z {prog:Program} {w:World} {A:Around} {E:Value→Shared→Prop} {s:Shared} {b:Bool} {Q:Int→Shared→Prop} (h:Q (if b then 1 else 0) { s with toks:=s.toks + 1 }):wpAny (model prog w) A (PySem.pyHash (.bool b)) Q E s:=by
 show wpAny _ _ (pyHashByItsType (.bool b)) _ _ _
 unfold pyHashByItsType
 have hT:s.TypeIs (.bool b) "bool":=rfl
 have hv:[Value.bool b].any Value.onHeap = false:=rfl
 refine wpAny_bind ?_
 rw [cRoomFor,if_neg (by rw [hv]; exact w1i)]
 refine wpAny_pure ?_
 refine wpAny_bind (wpAny_specialOf hT PySem.F.slot_bool_hash.lookup ?_)
 rw [if_neg (by decide)]
 refine wpAny_bind (wpAny_specialOf hT PySem.F.slot_bool_hash.lookup ?_)
 rw [if_neg (by decide)]
 refine wpAny_bind (wpAny_callSpecialIfBoundUnlessNone?_slot hT PySem.F.slot_bool_hash (wpAny_call_entry PySem.F.slot_bool_hash hT PySem.F.entry_int_hash ?_ (PySem.F.args_int_hash_1 _)))
 cases b with
 | true =>
  show wpAny _ _ (do ret (← mkInt 1)) _ _ s
  refine wpAny_ret_mkInt ?_
  exact wpAny_pure h
 | false =>
  show wpAny _ _ (do ret (← mkInt 0)) _ _ s
  refine wpAny_ret_mkInt ?_
  exact wpAny_pure h
noncomputable def sbIs:Str ⊕ Bool→Value→Bool
 | .inl x,v=>Value.isStrOf x v
 | .inr b,v=>v == .bool b
noncomputable def sbKind (prog:Program) (w:World):KeyKind prog w (Str ⊕ Bool) where
 is:=sbIs
 hash:=fun | .inl x=>hashStr w x | .inr b=>if b then 1 else 0
 inj:=fun v a b ha hb=>by
  cases a with
  | inl x =>
   cases b with
   | inl y=>rw [Value.isStrOf_inj v x y ha hb]
   | inr c =>
    refine cX1 (Value.isStrOf_shape ha) fun t yA=>?_; subst yA
    simp [sbIs] at hb
  | inr c =>
   cases b with
   | inl y =>
    refine cX1 (Value.isStrOf_shape hb) fun t yA=>?_; subst yA
    simp [sbIs] at ha
   | inr d =>
    simp [sbIs] at ha hb
    rw [ha] at hb
    simpa using hb
 byValue:=fun k v h=>by
  cases k with
  | inl x=>refine cX1 (Value.isStrOf_shape h) fun t yA=>?_; subst yA; rfl
  | inr b=>simp [sbIs] at h; subst h; rfl
 pyHash:=fun {A E s k v Q} hv h=>by
  cases k with
  | inl x=>refine cX1 (Value.isStrOf_shape hv) fun t yA=>?_; subst yA; exact wpAny_pyHash_str h
  | inr b=>simp [sbIs] at hv; subst hv; exact z5z h
 eqBool:=fun {A E s a b u v Q} hu hv h=>by
  cases a with
  | inl x =>
   refine cX1 (Value.isStrOf_shape hu) fun t yA=>?_; subst yA
   cases b with
   | inl y =>
    refine cX1 (Value.isStrOf_shape hv) fun t' yA=>?_; subst yA
    refine wpAny_eqBool_str ?_
    simpa using h
   | inr c =>
    simp [sbIs] at hv; subst hv
    exact SeqAt.EqAt.str_bool x t c prog w E Q (by simpa using h)
  | inr c =>
   simp [sbIs] at hu; subst hu
   cases b with
   | inl y =>
    refine cX1 (Value.isStrOf_shape hv) fun t' yA=>?_; subst yA
    exact SeqAt.EqAt.bool_str c y t' prog w E Q (by simpa using h)
   | inr d =>
    simp [sbIs] at hv; subst hv
    exact SeqAt.EqAt.bool_bool c d prog w E Q (by
     have:decide ((Sum.inr c:Str ⊕ Bool) = Sum.inr d) = (c == d):=by cases c <;> cases d <;> simp
     rw [← this]; exact h)
 «strs»:=fun k x t v h=>by
  cases k with
  | inl y=>exact (strKind prog w).«strs» y x t v h
  | inr b=>simp [sbIs] at h
noncomputable def sb (prog:Program) (w:World):SB prog w where
 knd:=sbKind prog w
 isS:=fun Y Y=>rfl
 isB:=fun b v=>by show (v == .bool b) = true↔_; simp
section
variable {C:k1J} {F:Fm} {n:Nat}
theorem z0K (i:Int) (k:Nat) (p pos:Pos):EOk C F n (.UnaryOp .USub (.Constant (.int i) k p) pos) (cI (-i)):=by
 intro A ρ reg H s _ inv
 refine k0e.prim0 (wpAny_UnaryOp (wpAny_mkInt ?_))
 exact P.neg_int ⟨ρ,⟨.int _ _,inv.toks _⟩,k1m.refl _ _ _ _⟩
end
noncomputable def noEx (_:Nat):Option (List V):=none
theorem k6t {C:k1J}:ExtOk C noEx:=fun Y Y h=>by cases h
noncomputable def exL (a:Nat) (xs:List V) (b:Nat):Option (List V):=if b = a then some xs else none
@[elab_as_elim] theorem ll1 {α:Type} {P:List α→Prop} {l:List α} (h:l.length = 1) (f:∀ a,P [a]):P l:=by
 cases l with
 | nil=>cases h
 | cons a l=>cases l with
  | nil=>exact f a
  | cons b l=>cases h
@[elab_as_elim] theorem ll2 {α:Type} {P:List α→Prop} {l:List α} (h:l.length = 2) (f:∀ a b,P [a,b]):P l:=by
 cases l with
 | nil=>cases h
 | cons a l=>exact ll1 (P:=fun l=>P (a :: l)) (Nat.succ.inj h) (f a)
@[elab_as_elim] theorem ll3 {α:Type} {P:List α→Prop} {l:List α} (h:l.length = 3) (f:∀ a b c,P [a,b,c]):P l:=by
 cases l with
 | nil=>cases h
 | cons a l=>exact ll2 (P:=fun l=>P (a :: l)) (Nat.succ.inj h) (f a)
@[elab_as_elim] theorem ll4 {α:Type} {P:List α→Prop} {l:List α} (h:l.length = 4) (f:∀ a b c d,P [a,b,c,d]):P l:=by
 cases l with
 | nil=>cases h
 | cons a l=>exact ll3 (P:=fun l=>P (a :: l)) (Nat.succ.inj h) (f a)
@[elab_as_elim] theorem ll5 {α:Type} {P:List α→Prop} {l:List α} (h:l.length = 5) (f:∀ a b c d e,P [a,b,c,d,e]):P l:=by
 cases l with
 | nil=>cases h
 | cons a l=>exact ll4 (P:=fun l=>P (a :: l)) (Nat.succ.inj h) (f a)
@[elab_as_elim] theorem ll6 {α:Type} {P:List α→Prop} {l:List α} (h:l.length = 6) (f:∀ a b c d e f,P [a,b,c,d,e,f]):P l:=by
 cases l with
 | nil=>cases h
 | cons a l=>exact ll5 (P:=fun l=>P (a :: l)) (Nat.succ.inj h) (f a)
noncomputable abbrev mkC (w:World) (base:Heap) (mg mb:Str→Option Value) (d:Drawn) (os:OsState):k1J :=
 { prog:=PySem.Challenge.rw_sa0212_01.row.prog,w:=w,K:=Mine.K w.params,base:=base,mg:=mg,mb:=mb,g:=#[],d:=d,os:=os,cls:=fun | 0=>103 | _=>124,exc:=fun | .run=>56 | .lay=>44,sb:=sb _ w }
section
variable {w:World} {base:Heap} {mg mb:Str→Option Value} {d:Drawn} {os:OsState}
theorem k6K:glob? (mkC w base mg mb d os) "LayoutFault" (.ref 44):=by unfold glob?; kernel_rfl
theorem z0e:glob? (mkC w base mg mb d os) "RunFault" (.ref 56):=by unfold glob?; kernel_rfl
theorem z1L:glob? (mkC w base mg mb d os) "INTEGER" (.int 0 252):=by unfold glob?; kernel_rfl
theorem z3F:glob? (mkC w base mg mb d os) "DOUBLE" (.int 2 254):=by unfold glob?; kernel_rfl
theorem z5A:glob? (mkC w base mg mb d os) "COMPLEX" (.int 3 256):=by unfold glob?; kernel_rfl
theorem k2q:glob? (mkC w base mg mb d os) "CHARACTER" (.int 5 258):=by unfold glob?; kernel_rfl
theorem z4s:glob? (mkC w base mg mb d os) "units_of" (.ref 65):=by unfold glob?; kernel_rfl
theorem k8L:glob? (mkC w base mg mb d os) "unit_size" (.ref 72):=by unfold glob?; kernel_rfl
theorem g_extent:glob? (mkC w base mg mb d os) "extent" (.ref 79):=by unfold glob?; kernel_rfl
theorem k8M:glob? (mkC w base mg mb d os) "element_place" (.ref 86):=by unfold glob?; kernel_rfl
theorem g_Space:glob? (mkC w base mg mb d os) "Space" (.ref 103):=by unfold glob?; kernel_rfl
theorem g_Layout:glob? (mkC w base mg mb d os) "Layout" (.ref 124):=by unfold glob?; kernel_rfl
theorem k2P:glob? (mkC w base mg mb d os) "is_text_thing" (.ref 135):=by unfold glob?; kernel_rfl
theorem k6L:glob? (mkC w base mg mb d os) "size_of" (.ref 142):=by unfold glob?; kernel_rfl
theorem k7o:glob? (mkC w base mg mb d os) "thing_of" (.ref 149):=by unfold glob?; kernel_rfl
theorem k8N:glob? (mkC w base mg mb d os) "offset_in" (.ref 156):=by unfold glob?; kernel_rfl
theorem k4w:glob? (mkC w base mg mb d os) "class_of" (.ref 163):=by unfold glob?; kernel_rfl
theorem k6M:glob? (mkC w base mg mb d os) "join_points" (.ref 170):=by unfold glob?; kernel_rfl
theorem k9J:glob? (mkC w base mg mb d os) "join_commons" (.ref 177):=by unfold glob?; kernel_rfl
theorem z1M:glob? (mkC w base mg mb d os) "join_group" (.ref 184):=by unfold glob?; kernel_rfl
theorem z0L:glob? (mkC w base mg mb d os) "block_roots" (.ref 191):=by unfold glob?; kernel_rfl
theorem z0M:glob? (mkC w base mg mb d os) "block_sizes" (.ref 198):=by unfold glob?; kernel_rfl
theorem z0N:glob? (mkC w base mg mb d os) "note_blocks" (.ref 205):=by unfold glob?; kernel_rfl
theorem k7I:glob? (mkC w base mg mb d os) "take_units" (.ref 212):=by unfold glob?; kernel_rfl
theorem z1N:glob? (mkC w base mg mb d os) "classes_of" (.ref 219):=by unfold glob?; kernel_rfl
theorem k8O:glob? (mkC w base mg mb d os) "put_place" (.ref 226):=by unfold glob?; kernel_rfl
theorem z2J:glob? (mkC w base mg mb d os) "lay_class" (.ref 231):=by unfold glob?; kernel_rfl
theorem z5B:glob? (mkC w base mg mb d os) "lay_out" (.ref 238):=by unfold glob?; kernel_rfl
theorem z4t:glob? (mkC w base mg mb d os) "lay_unit" (.ref 245):=by unfold glob?; kernel_rfl
theorem k2Q:glob? (mkC w base mg mb d os) "_law_names" (.str "ABCD" 596):=by unfold glob?; kernel_rfl
theorem z2K:glob? (mkC w base mg mb d os) "_law_rest" (.ref 246):=by unfold glob?; kernel_rfl
theorem k1p:glob? (mkC w base mg mb d os) "_law_dole" (.ref 253):=by unfold glob?; kernel_rfl
theorem k8P:glob? (mkC w base mg mb d os) "_law_item" (.ref 260):=by unfold glob?; kernel_rfl
theorem z1O:glob? (mkC w base mg mb d os) "_law_group" (.ref 265):=by unfold glob?; kernel_rfl
theorem z2L:glob? (mkC w base mg mb d os) "_law_unit" (.ref 270):=by unfold glob?; kernel_rfl
theorem z0O:glob? (mkC w base mg mb d os) "_law_turned" (.ref 275):=by unfold glob?; kernel_rfl
theorem k8Q:glob? (mkC w base mg mb d os) "_law_laid" (.ref 282):=by unfold glob?; kernel_rfl
theorem k8R:glob? (mkC w base mg mb d os) "_law_told" (.ref 287):=by unfold glob?; kernel_rfl
theorem z0P:boot? (mkC w base mg mb d os) "len" (.builtin "len"):=⟨by kernel_rfl,by decide +kernel,by decide,by decide +kernel,by simp⟩
theorem b_max:boot? (mkC w base mg mb d os) "max" (.builtin "max"):=⟨by kernel_rfl,by decide +kernel,by decide,by decide +kernel,by simp⟩
theorem b_min:boot? (mkC w base mg mb d os) "min" (.builtin "min"):=⟨by kernel_rfl,by decide +kernel,by decide,by decide +kernel,by simp⟩
theorem b_sum:boot? (mkC w base mg mb d os) "sum" (.builtin "sum"):=⟨by kernel_rfl,by decide +kernel,by decide,by decide +kernel,by simp⟩
theorem k7p:boot? (mkC w base mg mb d os) "range" (.type "range"):=⟨by kernel_rfl,by decide +kernel,by decide,by decide +kernel,by simp⟩
theorem z2M:boot? (mkC w base mg mb d os) "Exception" (.type "Exception"):=⟨by kernel_rfl,by decide +kernel,by decide,by decide +kernel,by simp⟩
noncomputable def z1P:List Int:=[1,0,3,1,0,0,2,2,2,0,2,0,0,0,1,0,2,1,0,1,0,1,0,0,1,2,0,0,0,2,1,0,0,1,0,3,0,0,0,2,0,0,1,0,0,0,0,1,0,0,3,0,1,0]
noncomputable def z0f:V:=.tup (z1P.map .int)
noncomputable def restT:List (Int × Nat):=z1P.zipIdx 598
theorem z3G {ρ:List Addr} {h:Heap}:∀ (l:List (Int × Nat)),VRs ρ h (l.map fun p=>V.int p.1) (l.map fun p=>Value.int p.1 p.2)
 | []=>.nil
 | p :: r=>.cons (.int _ _) (z3G r)
theorem rest_at (P:Params):(Mine.K P).lookup 246 = some { cls:=.type "tuple",data:=.seq (restT.map fun p=>Value.int p.1 p.2).toArray }:=by kernel_rfl
theorem z5C (cok:(mkC w base mg mb d os).Ok):∀ ρ h,(mkC w base mg mb d os).base.StaysIn h→VR ρ h z0f (.ref 246):=by
 intro ρ h hb
 have h1:=hb _ _ (cok.inK _ _ (rest_at w.params))
 have e:z0f = .tup (restT.map fun p=>V.int p.1):=by
  unfold z0f restT
  congr 1
 rw [e]
 exact .tup _ _ _ ⟨_,h1,rfl,_,rfl⟩ (z3G restT)
theorem z0Q:∀ k,k8A (mkC w base mg mb d os) k "name":=fun k=>by cases k <;> exact ⟨by kernel_rfl,by kernel_rfl,none,by kernel_rfl,by kernel_rfl⟩
theorem set_name:∀ k,k8a (mkC w base mg mb d os) k "name":=fun k=>by cases k <;> exact ⟨by kernel_rfl,by kernel_rfl,by kernel_rfl,by kernel_rfl⟩
theorem k2U:∀ k,k8A (mkC w base mg mb d os) k "things":=fun k=>by cases k <;> exact ⟨by kernel_rfl,by kernel_rfl,none,by kernel_rfl,by kernel_rfl⟩
theorem z4u:∀ k,k8a (mkC w base mg mb d os) k "things":=fun k=>by cases k <;> exact ⟨by kernel_rfl,by kernel_rfl,by kernel_rfl,by kernel_rfl⟩
theorem z2N:∀ k,k8A (mkC w base mg mb d os) k "commons":=fun k=>by cases k <;> exact ⟨by kernel_rfl,by kernel_rfl,none,by kernel_rfl,by kernel_rfl⟩
theorem z2O:∀ k,k8a (mkC w base mg mb d os) k "commons":=fun k=>by cases k <;> exact ⟨by kernel_rfl,by kernel_rfl,by kernel_rfl,by kernel_rfl⟩
theorem z4v:∀ k,k8A (mkC w base mg mb d os) k "equivs":=fun k=>by cases k <;> exact ⟨by kernel_rfl,by kernel_rfl,none,by kernel_rfl,by kernel_rfl⟩
theorem z4w:∀ k,k8a (mkC w base mg mb d os) k "equivs":=fun k=>by cases k <;> exact ⟨by kernel_rfl,by kernel_rfl,by kernel_rfl,by kernel_rfl⟩
theorem cls_kept:∀ k,k8A (mkC w base mg mb d os) k "kept":=fun k=>by cases k <;> exact ⟨by kernel_rfl,by kernel_rfl,none,by kernel_rfl,by kernel_rfl⟩
theorem set_kept:∀ k,k8a (mkC w base mg mb d os) k "kept":=fun k=>by cases k <;> exact ⟨by kernel_rfl,by kernel_rfl,by kernel_rfl,by kernel_rfl⟩
theorem z0g:∀ k,k8A (mkC w base mg mb d os) k "places":=fun k=>by cases k <;> exact ⟨by kernel_rfl,by kernel_rfl,none,by kernel_rfl,by kernel_rfl⟩
theorem z4x:∀ k,k8a (mkC w base mg mb d os) k "places":=fun k=>by cases k <;> exact ⟨by kernel_rfl,by kernel_rfl,by kernel_rfl,by kernel_rfl⟩
theorem k8S:∀ k,k8A (mkC w base mg mb d os) k "numeric":=fun k=>by cases k <;> exact ⟨by kernel_rfl,by kernel_rfl,none,by kernel_rfl,by kernel_rfl⟩
theorem k8T:∀ k,k8a (mkC w base mg mb d os) k "numeric":=fun k=>by cases k <;> exact ⟨by kernel_rfl,by kernel_rfl,by kernel_rfl,by kernel_rfl⟩
theorem k6g:∀ k,k8A (mkC w base mg mb d os) k "characters":=fun k=>by cases k <;> exact ⟨by kernel_rfl,by kernel_rfl,none,by kernel_rfl,by kernel_rfl⟩
theorem k6h:∀ k,k8a (mkC w base mg mb d os) k "characters":=fun k=>by cases k <;> exact ⟨by kernel_rfl,by kernel_rfl,by kernel_rfl,by kernel_rfl⟩
theorem k4x:∀ k,k8A (mkC w base mg mb d os) k "blocks":=fun k=>by cases k <;> exact ⟨by kernel_rfl,by kernel_rfl,none,by kernel_rfl,by kernel_rfl⟩
theorem z4y:∀ k,k8a (mkC w base mg mb d os) k "blocks":=fun k=>by cases k <;> exact ⟨by kernel_rfl,by kernel_rfl,by kernel_rfl,by kernel_rfl⟩
theorem k7q:∀ k,k8A (mkC w base mg mb d os) k "clears":=fun k=>by cases k <;> exact ⟨by kernel_rfl,by kernel_rfl,none,by kernel_rfl,by kernel_rfl⟩
theorem z4z:∀ k,k8a (mkC w base mg mb d os) k "clears":=fun k=>by cases k <;> exact ⟨by kernel_rfl,by kernel_rfl,by kernel_rfl,by kernel_rfl⟩
end
section
variable {w:World} {base:Heap} {mg mb:Str→Option Value} {d:Drawn} {os:OsState}
noncomputable def k8U:Reg→X (Fl × Reg) :=
 (k0H (k0p (k1g k0V (k0d 0) (cS [97,116])) (k0l 2))
 (k0H (k0p (k1g k4T (k0d 2) (cI 1)) (k7Z (k0d 0) (cS [97,116])))
 (k0H (k0p (cIf (k2L xLt (k0d 2) (k3w z3B (k0f (k1g k0V (k0d 0) (cS [114,111,119])) k0T))) (k1g k0V (k0d 0) (cS [114,111,119])) (cG z0f)) (k0l 3))
 (k0H (k5A (cIf (k2L xLt (k0d 2) (k3w z3B (k0f (k0d 3) k0T))) (k1g xMod (k1g k0V (k0d 3) (k0d 2)) (k0d 1)) (cI 0)))
 k1s))))
noncomputable def k0I:List V→X V:=k3a 2 4 (k8U)
theorem k1e (cok:(mkC w base mg mb d os).Ok):k0n (mkC w base mg mb d os) 1 (.ref 253) (k0I):=by
 refine k1D (rn:=["crate","many","spot","row"]) (k:=2) cok (f:=253) (fo:=_) (fd:=_) rfl rfl ?hcode rfl rfl rfl rfl (fun vals h=>?hbind) (by decide) (by decide +kernel) ?hkind ?hcn rfl rfl rfl (fun L stack ok=>?body)
 case hcode=>kernel_rfl
 case hbind=>exact ll2 h (fun Y Y=>rfl)
 case hkind=>intro x hx; simp only [List.take,w0c,w0i,or_false] at hx; (refine Or.elim hx (fun yY=>?_) fun yZ=>?_ <;> clear hx; rotate_left; subst yZ; rotate_right; subst yY) <;> first | exact .inl rfl | exact .inr ⟨rfl,rfl⟩
 case hcn=>decide +kernel
 case body =>
  exact (k0c (k0j (k0G (k0a ok 0 rfl) (k2Z [97,116] rfl _ _) k0F) (k0h ok 2 rfl))
   (k0c (k0j (k1b (k0a ok 2 rfl) (k0A 1 _ _) (k2k cok)) (k3b ok (k0a ok 0 rfl) (k2Z [97,116] rfl _ _)))
   (k0c (k0j (k3x (k0U (k0a ok 2 rfl) (k2i ok cok k6J (k0b (k0G (k0a ok 0 rfl) (k2Z [114,111,119] rfl _ _) k0F) k0i) z0P) (z1v)) (k0G (k0a ok 0 rfl) (k2Z [114,111,119] rfl _ _) k0F) (k1G ok cok z0f z2K (z5C cok))) (k0h ok 3 rfl))
   (k0c (k0Y (k3x (k0U (k0a ok 2 rfl) (k2i ok cok k6J (k0b (k0a ok 3 rfl) k0i) z0P) (z1v)) (k1b (k0G (k0a ok 3 rfl) (k0a ok 2 rfl) k0F) (k0a ok 1 rfl) (z4W)) (k0A 0 _ _)))
   k0k))))
noncomputable def z0h:Reg→X (Fl × Reg) :=
 (k0H (k0p (cI 0) (k0l 2))
 (k0H (z5i (k2L xIn (k0d 1) (k0d 0)) (k0H (k0p (k1g k0V (k0d 0) (k0d 1)) (k1o 2 (k0q (k0l 1) (k0q (k0l 3) k1n))))
 (k0H (xAug 2 (k0d 3) z4Z)
 k1s)))
 (k0H (k5A (k3e (k0f (k0d 1) (k0f (k0d 2) k0T))))
 k1s)))
noncomputable def k2E:List V→X V:=k3a 2 4 (z0h)
theorem k3Q (cok:(mkC w base mg mb d os).Ok):k0n (mkC w base mg mb d os) 1 (.ref 163) (k2E):=by
 refine k1D (rn:=["above","name","distance","gap"]) (k:=2) cok (f:=163) (fo:=_) (fd:=_) rfl rfl ?hcode rfl rfl rfl rfl (fun vals h=>?hbind) (by decide) (by decide +kernel) ?hkind ?hcn rfl rfl rfl (fun L stack ok=>?body)
 case hcode=>kernel_rfl
 case hbind=>exact ll2 h (fun Y Y=>rfl)
 case hkind=>intro x hx; simp only [List.take,w0c,w0i,or_false] at hx; (refine Or.elim hx (fun yY=>?_) fun yZ=>?_ <;> clear hx; rotate_left; subst yZ; rotate_right; subst yY) <;> first | exact .inl rfl | exact .inr ⟨rfl,rfl⟩
 case hcn=>decide +kernel
 case body =>
  exact (k0c (k0j (k0A 0 _ _) (k0h ok 2 rfl))
   (k0c (z5k ok (k0U (k0a ok 1 rfl) (k0a ok 0 rfl) (z4b)) (k0c (k0j (k0G (k0a ok 0 rfl) (k0a ok 1 rfl) k0F) (k0Z (k0v (k0h ok 1 rfl) (k0v (k0h ok 3 rfl) k1y))))
   (k0c (z0E ok 2 rfl (k0a ok 3 rfl) z5a)
   k0k)))
   (k0c (k0Y (k0R (k0b (k0a ok 1 rfl) (k0b (k0a ok 2 rfl) k0i))))
   k0k)))
noncomputable def k5D:Reg→X (Fl × Reg) :=
 (k0H (k5A (k1g xEq (k1g k0V (k0d 0) (cI 0)) (cG (.int 5))))
 k1s)
noncomputable def k1A:List V→X V:=k3a 1 1 (k5D)
theorem k2A (cok:(mkC w base mg mb d os).Ok):k0n (mkC w base mg mb d os) 1 (.ref 135) (k1A):=by
 refine k1D (rn:=["thing"]) (k:=1) cok (f:=135) (fo:=_) (fd:=_) rfl rfl ?hcode rfl rfl rfl rfl (fun vals h=>?hbind) (by decide) (by decide +kernel) ?hkind ?hcn rfl rfl rfl (fun L stack ok=>?body)
 case hcode=>kernel_rfl
 case hbind=>exact ll1 h (fun Y=>rfl)
 case hkind=>intro x hx; simp only [List.take,w0c,w0i,or_false] at hx; rcases hx with rfl <;> first | exact .inl rfl | exact .inr ⟨rfl,rfl⟩
 case hcn=>decide +kernel
 case body =>
  exact (k0c (k0Y (k6p (k0G (k0a ok 0 rfl) (k0A 0 _ _) k0F) (k1G ok cok (.int 5) k2q (fun Y Y Y=>.int _ _)) (k4U)))
   k0k)
noncomputable def z0i:Reg→X (Fl × Reg) :=
 (k0H (xIf (k2L xEq (k0d 0) (cG (.int 5))) (k0H (k5A (cI 0))
 k1s) k1s)
 (k0H (xIf (tOr (k2L xEq (k0d 0) (cG (.int 2))) (tOr (k2L xEq (k0d 0) (cG (.int 3))) tF)) (k0H (k5A (cI 2))
 k1s) k1s)
 (k0H (k5A (cI 1))
 k1s)))
noncomputable def k5S:List V→X V:=k3a 1 1 (z0i)
theorem z2P (cok:(mkC w base mg mb d os).Ok):k0n (mkC w base mg mb d os) 1 (.ref 65) (k5S):=by
 refine k1D (rn:=["kind"]) (k:=1) cok (f:=65) (fo:=_) (fd:=_) rfl rfl ?hcode rfl rfl rfl rfl (fun vals h=>?hbind) (by decide) (by decide +kernel) ?hkind ?hcn rfl rfl rfl (fun L stack ok=>?body)
 case hcode=>kernel_rfl
 case hbind=>exact ll1 h (fun Y=>rfl)
 case hkind=>intro x hx; simp only [List.take,w0c,w0i,or_false] at hx; rcases hx with rfl <;> first | exact .inl rfl | exact .inr ⟨rfl,rfl⟩
 case hcn=>decide +kernel
 case body =>
  exact (k0c (k2f (k0U (k0a ok 0 rfl) (k1G ok cok (.int 5) k2q (fun Y Y Y=>.int _ _)) (k4U)) (k0c (k0Y (k0A 0 _ _))
   k0k) k0k)
   (k0c (k2f (k4r (k4V (k0U (k0a ok 0 rfl) (k1G ok cok (.int 2) z3F (fun Y Y Y=>.int _ _)) (k4U)) (k4V (k0U (k0a ok 0 rfl) (k1G ok cok (.int 3) z5A (fun Y Y Y=>.int _ _)) (k4U)) k4C))) (k0c (k0Y (k0A 2 _ _))
   k0k) k0k)
   (k0c (k0Y (k0A 1 _ _))
   k0k)))
noncomputable def k8V:Reg→X (Fl × Reg) :=
 (k0H (xIf (k2L xEq (k0d 0) (cG (.int 5))) (k0H (k5A (k0d 1))
 k1s) k1s)
 (k0H (k5A (k1c k5S (k0f (k0d 0) k0T)))
 k1s))
noncomputable def k4D:List V→X V:=k3a 2 2 (k8V)
theorem k7J (cok:(mkC w base mg mb d os).Ok):k0n (mkC w base mg mb d os) 2 (.ref 72) (k4D):=by
 refine k1D (rn:=["kind","length"]) (k:=2) cok (f:=72) (fo:=_) (fd:=_) rfl rfl ?hcode rfl rfl rfl rfl (fun vals h=>?hbind) (by decide) (by decide +kernel) ?hkind ?hcn rfl rfl rfl (fun L stack ok=>?body)
 case hcode=>kernel_rfl
 case hbind=>exact ll2 h (fun Y Y=>rfl)
 case hkind=>intro x hx; simp only [List.take,w0c,w0i,or_false] at hx; (refine Or.elim hx (fun yY=>?_) fun yZ=>?_ <;> clear hx; rotate_left; subst yZ; rotate_right; subst yY) <;> first | exact .inl rfl | exact .inr ⟨rfl,rfl⟩
 case hcn=>decide +kernel
 case body =>
  exact (k0c (k2f (k0U (k0a ok 0 rfl) (k1G ok cok (.int 5) k2q (fun Y Y Y=>.int _ _)) (k4U)) (k0c (k0Y (k0a ok 1 rfl))
   k0k) k0k)
   (k0c (k0Y (k0B ok cok (k0n.fn ok (k0n.less (z2P cok) (by decide))) (k0b (k0a ok 0 rfl) k0i) z4s (by kernel_rfl)))
   k0k))
noncomputable def z3H:Reg→X (Fl × Reg) :=
 (k0H (k0p (cI 1) (k0l 1))
 (k0H (k5z (k5c (k0d 0)) (k1o 2 (k0q (k0l 2) (k0q (k0l 3) k1n))) (k0H (xIf (k2L xIs (k0d 3) k8o) (k0H (k5A k8o)
 k1s) k1s)
 (k0H (xAug 1 (k1g k4T (k1g z1u (k0d 3) (k0d 2)) (cI 1)) xMul)
 k1s)))
 (k0H (k5A (k0d 1))
 k1s)))
noncomputable def k8g:List V→X V:=k3a 1 4 (z3H)
theorem z5D (cok:(mkC w base mg mb d os).Ok):k0n (mkC w base mg mb d os) 1 (.ref 79) (k8g):=by
 refine k1D (rn:=["dims","count","low","high"]) (k:=1) cok (f:=79) (fo:=_) (fd:=_) rfl rfl ?hcode rfl rfl rfl rfl (fun vals h=>?hbind) (by decide) (by decide +kernel) ?hkind ?hcn rfl rfl rfl (fun L stack ok=>?body)
 case hcode=>kernel_rfl
 case hbind=>exact ll1 h (fun Y=>rfl)
 case hkind=>intro x hx; simp only [List.take,w0c,w0i,or_false] at hx; rcases hx with rfl <;> first | exact .inl rfl | exact .inr ⟨rfl,rfl⟩
 case hcn=>decide +kernel
 case body =>
  exact (k0c (k0j (k0A 1 _ _) (k0h ok 1 rfl))
   (k0c (k1N ok (k1v (k0a ok 0 rfl)) (k0Z (k0v (k0h ok 2 rfl) (k0v (k0h ok 3 rfl) k1y))) (k0c (k2f (k0U (k0a ok 3 rfl) (k4p _ _) (z4a)) (k0c (k0Y (k4p _ _))
   k0k) k0k)
   (k0c (z0E ok 1 rfl (k1b (k1b (k0a ok 3 rfl) (k0a ok 2 rfl) (k5e)) (k0A 1 _ _) (k2k cok)) z5b)
   k0k)))
   (k0c (k0Y (k0a ok 1 rfl))
   k0k)))
end
section
variable {w:World} {base:Heap} {mg mb:Str→Option Value} {d:Drawn} {os:OsState}
theorem x_lay (cok:(mkC w base mg mb d os).Ok):XOk (mkC w base mg mb d os) .lay where
 obj:=⟨_,_,_,_,_,_,_,_,_,_,_,_,_,_,_,_,cok.inK _ _ rfl,by decide,by decide,by decide,by decide⟩
 set:=⟨by kernel_rfl,by kernel_rfl,by kernel_rfl,_,rfl,rfl,[.ref 44,.ref 31],rfl,by simp⟩
 get:=by kernel_rfl
theorem x_run (cok:(mkC w base mg mb d os).Ok):XOk (mkC w base mg mb d os) .run where
 obj:=⟨_,_,_,_,_,_,_,_,_,_,_,_,_,_,_,_,cok.inK _ _ rfl,by decide,by decide,by decide,by decide⟩
 set:=⟨by kernel_rfl,by kernel_rfl,by kernel_rfl,_,rfl,rfl,[.ref 56,.ref 31],rfl,by simp⟩
 get:=by kernel_rfl
theorem xi (cok:(mkC w base mg mb d os).Ok) {x:Ex} (xo:XOk (mkC w base mg mb d os) x):XInit (mkC w base mg mb d os) x 28:=by
 refine x_init cok xo z2M (f:=28) (fo:=_) (fd:=_) rfl rfl ?hcode rfl rfl rfl rfl (fun vals h=>?hbind) ?hkind ?hcn rfl rfl rfl rfl (fun L=>rfl) (fun L=>rfl)
 case hcode=>kernel_rfl
 case hbind=>exact ll2 h (fun Y Y=>rfl)
 case hkind=>intro x hx; simp only [List.take,w0c,w0i,or_false] at hx; (refine Or.elim hx (fun yY=>?_) fun yZ=>?_ <;> clear hx; rotate_left; subst yZ; rotate_right; subst yY) <;> exact .inl rfl
 case hcn=>decide +kernel
theorem k1u (cok:(mkC w base mg mb d os).Ok):z1G (mkC w base mg mb d os) .lay "LayoutFault" 28 :=
 ⟨x_lay cok,k6K,by kernel_rfl,by kernel_rfl,by kernel_rfl,xi cok (x_lay cok)⟩
theorem k7r (cok:(mkC w base mg mb d os).Ok):z1G (mkC w base mg mb d os) .run "RunFault" 28 :=
 ⟨x_run cok,z0e,by kernel_rfl,by kernel_rfl,by kernel_rfl,xi cok (x_run cok)⟩
end
section
variable {w:World} {base:Heap} {mg mb:Str→Option Value} {d:Drawn} {os:OsState}
noncomputable def k6N:Reg→X (Fl × Reg) :=
 (k0H (k0p k8u (k6H [112,108,97,99,101,115] (k0d 0)))
 (k0H (k0p (cI 0) (k6H [110,117,109,101,114,105,99] (k0d 0)))
 (k0H (k0p (cI 0) (k6H [99,104,97,114,97,99,116,101,114,115] (k0d 0)))
 (k0H (k0p k4J (k6H [98,108,111,99,107,115] (k0d 0)))
 (k0H (k0p k4J (k6H [99,108,101,97,114,115] (k0d 0)))
 k1s)))))
noncomputable def k5o:List V→X V:=k3a 1 1 (k6N)
theorem k9K (cok:(mkC w base mg mb d os).Ok):k0n (mkC w base mg mb d os) 1 (.ref 121) (k5o):=by
 refine k1D (rn:=["self"]) (k:=1) cok (f:=121) (fo:=_) (fd:=_) rfl rfl ?hcode rfl rfl rfl rfl (fun vals h=>?hbind) (by decide) (by decide +kernel) ?hkind ?hcn rfl rfl rfl (fun L stack ok=>?body)
 case hcode=>kernel_rfl
 case hbind=>exact ll1 h (fun Y=>rfl)
 case hkind=>intro x hx; simp only [List.take,w0c,w0i,or_false] at hx; rcases hx with rfl <;> first | exact .inl rfl | exact .inr ⟨rfl,rfl⟩
 case hcn=>decide +kernel
 case body =>
  exact (k0c (k0j (k7j cok) (k3n ok cok [112,108,97,99,101,115] rfl (k0a ok 0 rfl) z4x))
   (k0c (k0j (k0A 0 _ _) (k3n ok cok [110,117,109,101,114,105,99] rfl (k0a ok 0 rfl) k8T))
   (k0c (k0j (k0A 0 _ _) (k3n ok cok [99,104,97,114,97,99,116,101,114,115] rfl (k0a ok 0 rfl) k6h))
   (k0c (k0j (k2M cok) (k3n ok cok [98,108,111,99,107,115] rfl (k0a ok 0 rfl) z4y))
   (k0c (k0j (k2M cok) (k3n ok cok [99,108,101,97,114,115] rfl (k0a ok 0 rfl) z4z))
   k0k)))))
noncomputable def k8h:List V→X V:=xMake 1 k5o
theorem z5E (cok:(mkC w base mg mb d os).Ok):k0n (mkC w base mg mb d os) 2 (.ref 124) k8h:=z3x cok (c:=1) (by kernel_rfl) (by kernel_rfl) (by kernel_rfl) (k9K cok)
noncomputable def z0j:Reg→X (Fl × Reg) :=
 (k0H (xIf (k2L k9W (k0d 1) (k2K [116,104,105,110,103,115] (k0d 0))) (k0H (k3N .lay)
 k1s) k1s)
 (k0H (k5A (k1g k0V (k2K [116,104,105,110,103,115] (k0d 0)) (k0d 1)))
 k1s))
noncomputable def k3R:List V→X V:=k3a 2 2 (z0j)
theorem k6u (cok:(mkC w base mg mb d os).Ok):k0n (mkC w base mg mb d os) 3 (.ref 149) (k3R):=by
 refine k1D (rn:=["space","name"]) (k:=2) cok (f:=149) (fo:=_) (fd:=_) rfl rfl ?hcode rfl rfl rfl rfl (fun vals h=>?hbind) (by decide) (by decide +kernel) ?hkind ?hcn rfl rfl rfl (fun L stack ok=>?body)
 case hcode=>kernel_rfl
 case hbind=>exact ll2 h (fun Y Y=>rfl)
 case hkind=>intro x hx; simp only [List.take,w0c,w0i,or_false] at hx; (refine Or.elim hx (fun yY=>?_) fun yZ=>?_ <;> clear hx; rotate_left; subst yZ; rotate_right; subst yY) <;> first | exact .inl rfl | exact .inr ⟨rfl,rfl⟩
 case hcn=>decide +kernel
 case body =>
  exact (k0c (k2f (k0U (k0a ok 1 rfl) (k1t cok [116,104,105,110,103,115] rfl (k0a ok 0 rfl) k2U) (k8d)) (k0c (k2n ok cok (k1u cok) (tv:=[110,111,32,115,116,111,114,97,103,101]) rfl)
   k0k) k0k)
   (k0c (k0Y (k0G (k1t cok [116,104,105,110,103,115] rfl (k0a ok 0 rfl) k2U) (k0a ok 1 rfl) k0F))
   k0k))
noncomputable def k6O:Reg→X (Fl × Reg) :=
 (k0H (k0p (k1c k2E (k0f (k0d 0) (k0f (k0d 1) k0T))) (k1o 2 (k0q (k0l 5) (k0q (k0l 6) k1n))))
 (k0H (k0p (k1c k2E (k0f (k0d 0) (k0f (k0d 3) k0T))) (k1o 2 (k0q (k0l 7) (k0q (k0l 8) k1n))))
 (k0H (k0p (k1g z1u (k1g z1u (k1g k4T (k0d 6) (k0d 2)) (k0d 8)) (k0d 4)) (k0l 9))
 (k0H (xIf (k2L xNe (k0d 5) (k0d 7)) (k0H (k0p (k3e (k0f (k0d 5) (k0f (k0d 9) k0T))) (k7Z (k0d 0) (k0d 7)))
 k1s) (k0H (xIf (k2L xNe (k0d 9) (cI 0)) (k0H (k3N .lay)
 k1s) k1s)
 k1s))
 k1s))))
noncomputable def k2V:List V→X V:=k3a 5 10 (k6O)
theorem k6i (cok:(mkC w base mg mb d os).Ok):k0n (mkC w base mg mb d os) 3 (.ref 170) (k2V):=by
 refine k1D (rn:=["above","one","one_at","other","other_at","root","distance","other_root","other_distance","gap"]) (k:=5) cok (f:=170) (fo:=_) (fd:=_) rfl rfl ?hcode rfl rfl rfl rfl (fun vals h=>?hbind) (by decide) (by decide +kernel) ?hkind ?hcn rfl rfl rfl (fun L stack ok=>?body)
 case hcode=>kernel_rfl
 case hbind=>exact ll5 h (fun Y Y Y Y Y=>rfl)
 case hkind=>intro x hx; simp only [List.take,w0c,w0i,or_false] at hx; (refine Or.elim hx (fun yY=>?_) fun yZ=>?_ <;> clear hx; rotate_left; (refine Or.elim yZ ?_ ?_ <;> clear yZ; rotate_left; (intro yZ; refine Or.elim yZ ?_ ?_ <;> clear yZ; rotate_left; (intro yZ; refine Or.elim yZ ?_ ?_ <;> clear yZ; rotate_left; (intro yZ; subst yZ); rotate_right; (intro yY; subst yY)); rotate_right; (intro yY; subst yY)); rotate_right; (intro yY; subst yY)); rotate_right; subst yY) <;> first | exact .inl rfl | exact .inr ⟨rfl,rfl⟩
 case hcn=>decide +kernel
 case body =>
  exact (k0c (k0j (k0B ok cok (k0n.fn ok (k0n.less (k3Q cok) (by decide))) (k0b (k0a ok 0 rfl) (k0b (k0a ok 1 rfl) k0i)) k4w (by kernel_rfl)) (k0Z (k0v (k0h ok 5 rfl) (k0v (k0h ok 6 rfl) k1y))))
   (k0c (k0j (k0B ok cok (k0n.fn ok (k0n.less (k3Q cok) (by decide))) (k0b (k0a ok 0 rfl) (k0b (k0a ok 3 rfl) k0i)) k4w (by kernel_rfl)) (k0Z (k0v (k0h ok 7 rfl) (k0v (k0h ok 8 rfl) k1y))))
   (k0c (k0j (k1b (k1b (k1b (k0a ok 6 rfl) (k0a ok 2 rfl) (k2k cok)) (k0a ok 8 rfl) (k5e)) (k0a ok 4 rfl) (k5e)) (k0h ok 9 rfl))
   (k0c (k2f (k0U (k0a ok 5 rfl) (k0a ok 7 rfl) (k8w)) (k0c (k0j (k0R (k0b (k0a ok 5 rfl) (k0b (k0a ok 9 rfl) k0i))) (k3b ok (k0a ok 0 rfl) (k0a ok 7 rfl)))
   k0k) (k0c (k2f (k0U (k0a ok 9 rfl) (k0A 0 _ _) (k8w)) (k0c (k2n ok cok (k1u cok) (tv:=[116,119,111,32,112,108,97,99,101,115]) rfl)
   k0k) k0k)
   k0k))
   k0k))))
noncomputable def z1Q:Reg→X (Fl × Reg) :=
 (k0H (k0p (k0d 0) (k1o 3 (k0q (k0l 1) (k0q (k0l 2) (k0q (k0l 3) k1n)))))
 (k0H (k5z (k5c (k0d 3)) (k1o 2 (k0q (k0l 4) (k0q (k0l 5) k1n))) (k0H (xIf (tOr (k2L xIs (k0d 5) k8o) (tOr (k2L xLt (k0d 5) (k0d 4)) tF)) (k0H (k3N .lay)
 k1s) k1s)
 k1s))
 (k0H (k5A (k1g xMul (k1c k4D (k0f (k0d 1) (k0f (k0d 2) k0T))) (k1c k8g (k0f (k0d 3) k0T))))
 k1s)))
noncomputable def k3g:List V→X V:=k3a 1 6 (z1Q)
theorem k5T (cok:(mkC w base mg mb d os).Ok):k0n (mkC w base mg mb d os) 3 (.ref 142) (k3g):=by
 refine k1D (rn:=["thing","kind","length","dims","low","high"]) (k:=1) cok (f:=142) (fo:=_) (fd:=_) rfl rfl ?hcode rfl rfl rfl rfl (fun vals h=>?hbind) (by decide) (by decide +kernel) ?hkind ?hcn rfl rfl rfl (fun L stack ok=>?body)
 case hcode=>kernel_rfl
 case hbind=>exact ll1 h (fun Y=>rfl)
 case hkind=>intro x hx; simp only [List.take,w0c,w0i,or_false] at hx; rcases hx with rfl <;> first | exact .inl rfl | exact .inr ⟨rfl,rfl⟩
 case hcn=>decide +kernel
 case body =>
  exact (k0c (k0j (k0a ok 0 rfl) (k0Z (k0v (k0h ok 1 rfl) (k0v (k0h ok 2 rfl) (k0v (k0h ok 3 rfl) k1y)))))
   (k0c (k1N ok (k1v (k0a ok 3 rfl)) (k0Z (k0v (k0h ok 4 rfl) (k0v (k0h ok 5 rfl) k1y))) (k0c (k2f (k4r (k4V (k0U (k0a ok 5 rfl) (k4p _ _) (z4a)) (k4V (k0U (k0a ok 5 rfl) (k0a ok 4 rfl) (z1v)) k4C))) (k0c (k2n ok cok (k1u cok) (tv:=[100,105,109,101,110,115,105,111,110]) rfl)
   k0k) k0k)
   k0k))
   (k0c (k0Y (k1b (k0B ok cok (k0n.fn ok (k0n.less (k7J cok) (by decide))) (k0b (k0a ok 1 rfl) (k0b (k0a ok 2 rfl) k0i)) k8L (by kernel_rfl)) (k0B ok cok (k0n.fn ok (k0n.less (z5D cok) (by decide))) (k0b (k0a ok 3 rfl) k0i) g_extent (by kernel_rfl)) (z4V)))
   k0k)))
noncomputable def k6j:Reg→X (Fl × Reg) :=
 (k0H (k0p k4J (k0l 2))
 (k0H (k0p k4J (k0l 3))
 (k0H (k0p (k4S k0T) (k0l 4))
 (k0H (k5z (k5c (k2K [99,111,109,109,111,110,115] (k0d 0))) (k1o 2 (k0q (k0l 5) (k0q (k0l 6) k1n))) (k0H (k5z (k5c (k0d 6)) (k0l 7) (k0H (k0p (k1c k3R (k0f (k0d 0) (k0f (k0d 7) k0T))) (k0l 8))
 (k0H (xIf (k2L xIn (k0d 7) (k0d 4)) (k0H (k3N .lay)
 k1s) k1s)
 (k0H (k4c (k5m k3A k3o (k0d 4) (k0f (k0d 7) k0T)))
 (k0H (xIf (k2L xNe (k5m k6s xSetD (k0d 2) (k0f (k0d 5) (k0f (k1c k1A (k0f (k0d 8) k0T)) k0T))) (k1c k1A (k0f (k0d 8) k0T))) (k0H (k3N .lay)
 k1s) k1s)
 (k0H (k0p (k5m k6s xGet (k0d 3) (k0f (k0d 5) (k0f (cI 0) k0T))) (k0l 9))
 (k0H (k4c (k1c k2V (k0f (k0d 1) (k0f (k1g k4T (cS [47]) (k0d 5)) (k0f (k0d 9) (k0f (k0d 7) (k0f (cI 0) k0T)))))))
 (k0H (k0p (k1g k4T (k0d 9) (k1c k3g (k0f (k0d 8) k0T))) (k7Z (k0d 3) (k0d 5)))
 k1s))))))))
 k1s))
 (k0H (k5A (k0d 2))
 k1s)))))
noncomputable def k3h:List V→X V:=k3a 2 10 (k6j)
theorem k8W (cok:(mkC w base mg mb d os).Ok):k0n (mkC w base mg mb d os) 4 (.ref 177) (k3h):=by
 refine k1D (rn:=["space","above","sorts","ends","seen","block","names","name","thing","at"]) (k:=2) cok (f:=177) (fo:=_) (fd:=_) rfl rfl ?hcode rfl rfl rfl rfl (fun vals h=>?hbind) (by decide) (by decide +kernel) ?hkind ?hcn rfl rfl rfl (fun L stack ok=>?body)
 case hcode=>kernel_rfl
 case hbind=>exact ll2 h (fun Y Y=>rfl)
 case hkind=>intro x hx; simp only [List.take,w0c,w0i,or_false] at hx; (refine Or.elim hx (fun yY=>?_) fun yZ=>?_ <;> clear hx; rotate_left; subst yZ; rotate_right; subst yY) <;> first | exact .inl rfl | exact .inr ⟨rfl,rfl⟩
 case hcn=>decide +kernel
 case body =>
  exact (k0c (k0j (k2M cok) (k0h ok 2 rfl))
   (k0c (k0j (k2M cok) (k0h ok 3 rfl))
   (k0c (k0j (k2G cok k0i) (k0h ok 4 rfl))
   (k0c (k1N ok (k1v (k1t cok [99,111,109,109,111,110,115] rfl (k0a ok 0 rfl) z2N)) (k0Z (k0v (k0h ok 5 rfl) (k0v (k0h ok 6 rfl) k1y))) (k0c (k1N ok (k1v (k0a ok 6 rfl)) (k0h ok 7 rfl) (k0c (k0j (k0B ok cok (k0n.fn ok (k0n.less (k6u cok) (by decide))) (k0b (k0a ok 0 rfl) (k0b (k0a ok 7 rfl) k0i)) k7o (by kernel_rfl)) (k0h ok 8 rfl))
   (k0c (k2f (k0U (k0a ok 7 rfl) (k0a ok 4 rfl) (z4b)) (k0c (k2n ok cok (k1u cok) (tv:=[116,119,105,99,101,32,105,110,32,99,111,109,109,111,110]) rfl)
   k0k) k0k)
   (k0c (k2s (k2u (k0a ok 4 rfl) k4e (k0b (k0a ok 7 rfl) k0i) (k4f ok) PySem.F.plainAttrs_list PySem.F.slot_list_append PySem.F.type_list_append))
   (k0c (k2f (k0U (k2u (k0a ok 2 rfl) k8H (k0b (k0a ok 5 rfl) (k0b (k0B ok cok (k0n.fn ok (k0n.less (k2A cok) (by decide))) (k0b (k0a ok 8 rfl) k0i) k2P (by kernel_rfl)) k0i)) (fn_setd ok) PySem.F.plainAttrs_dict PySem.F.slot_dict_setdefault PySem.F.type_dict_setdefault) (k0B ok cok (k0n.fn ok (k0n.less (k2A cok) (by decide))) (k0b (k0a ok 8 rfl) k0i) k2P (by kernel_rfl)) (k8w)) (k0c (k2n ok cok (k1u cok) (tv:=[109,105,120,101,100]) rfl)
   k0k) k0k)
   (k0c (k0j (k2u (k0a ok 3 rfl) k8H (k0b (k0a ok 5 rfl) (k0b (k0A 0 _ _) k0i)) fn_get PySem.F.plainAttrs_dict PySem.F.slot_dict_get PySem.F.type_dict_get) (k0h ok 9 rfl))
   (k0c (k2s (k0B ok cok (k0n.fn ok (k0n.less (k6i cok) (by decide))) (k0b (k0a ok 1 rfl) (k0b (k1b (k2Z [47] rfl _ _) (k0a ok 5 rfl) (k2k cok)) (k0b (k0a ok 9 rfl) (k0b (k0a ok 7 rfl) (k0b (k0A 0 _ _) k0i))))) k6M (by kernel_rfl)))
   (k0c (k0j (k1b (k0a ok 9 rfl) (k0B ok cok (k0n.fn ok (k0n.less (k5T cok) (by decide))) (k0b (k0a ok 8 rfl) k0i) k6L (by kernel_rfl)) (k2k cok)) (k3b ok (k0a ok 3 rfl) (k0a ok 5 rfl)))
   k0k))))))))
   k0k))
   (k0c (k0Y (k0a ok 2 rfl))
   k0k)))))
noncomputable def k6P:Reg→X (Fl × Reg) :=
 (k0H (k0p k4J (k0l 2))
 (k0H (k5z (k5c (k0d 0)) (k0l 3) (k0H (k0p (k1c k2E (k0f (k0d 1) (k0f (k1g k4T (cS [47]) (k0d 3)) k0T))) (k1o 2 (k0q (k0l 4) (k0q (k0l 5) k1n))))
 (k0H (xIf (k2L xIn (k0d 4) (k0d 2)) (k0H (k3N .lay)
 k1s) k1s)
 (k0H (k0p (k3e (k0f (k0d 3) (k0f (k0d 5) k0T))) (k7Z (k0d 2) (k0d 4)))
 k1s))))
 (k0H (k5A (k0d 2))
 k1s)))
noncomputable def k3C:List V→X V:=k3a 2 6 (k6P)
theorem k9L (cok:(mkC w base mg mb d os).Ok):k0n (mkC w base mg mb d os) 3 (.ref 191) (k3C):=by
 refine k1D (rn:=["sorts","above","found","block","root","distance"]) (k:=2) cok (f:=191) (fo:=_) (fd:=_) rfl rfl ?hcode rfl rfl rfl rfl (fun vals h=>?hbind) (by decide) (by decide +kernel) ?hkind ?hcn rfl rfl rfl (fun L stack ok=>?body)
 case hcode=>kernel_rfl
 case hbind=>exact ll2 h (fun Y Y=>rfl)
 case hkind=>intro x hx; simp only [List.take,w0c,w0i,or_false] at hx; (refine Or.elim hx (fun yY=>?_) fun yZ=>?_ <;> clear hx; rotate_left; subst yZ; rotate_right; subst yY) <;> first | exact .inl rfl | exact .inr ⟨rfl,rfl⟩
 case hcn=>decide +kernel
 case body =>
  exact (k0c (k0j (k2M cok) (k0h ok 2 rfl))
   (k0c (k1N ok (k1v (k0a ok 0 rfl)) (k0h ok 3 rfl) (k0c (k0j (k0B ok cok (k0n.fn ok (k0n.less (k3Q cok) (by decide))) (k0b (k0a ok 1 rfl) (k0b (k1b (k2Z [47] rfl _ _) (k0a ok 3 rfl) (k2k cok)) k0i)) k4w (by kernel_rfl)) (k0Z (k0v (k0h ok 4 rfl) (k0v (k0h ok 5 rfl) k1y))))
   (k0c (k2f (k0U (k0a ok 4 rfl) (k0a ok 2 rfl) (z4b)) (k0c (k2n ok cok (k1u cok) (tv:=[116,119,111,32,98,108,111,99,107,115]) rfl)
   k0k) k0k)
   (k0c (k0j (k0R (k0b (k0a ok 3 rfl) (k0b (k0a ok 5 rfl) k0i))) (k3b ok (k0a ok 2 rfl) (k0a ok 4 rfl)))
   k0k))))
   (k0c (k0Y (k0a ok 2 rfl))
   k0k)))
noncomputable def k6Q:Reg→X (Fl × Reg) :=
 (k0H (k5z (k5c (k0d 1)) (k0l 3) (k0H (xIf (k2L k9W (k0d 3) (k0d 0)) (k0H (k0p (k3e (k0f (k1g k0V (k0d 1) (k0d 3)) (k0f (k1g k0V (k0d 2) (k0d 3)) k0T))) (k7Z (k0d 0) (k0d 3)))
 (k0H xCont
 k1s)) k1s)
 (k0H (k0p (k1g k0V (k0d 0) (k0d 3)) (k1o 2 (k0q (k0l 4) (k0q (k0l 5) k1n))))
 (k0H (xIf (k2L xNe (k0d 4) (k1g k0V (k0d 1) (k0d 3))) (k0H (k3N .lay)
 k1s) k1s)
 (k0H (xIf (z2u (k2L xNe (k0d 3) (cS [])) (z2u (k2L xNe (k0d 5) (k1g k0V (k0d 2) (k0d 3))) tT)) (k0H (k3N .lay)
 k1s) k1s)
 (k0H (k0p (k3e (k0f (k0d 4) (k0f (k3w xMax (k0f (k0d 5) (k0f (k1g k0V (k0d 2) (k0d 3)) k0T))) k0T))) (k7Z (k0d 0) (k0d 3)))
 k1s))))))
 k1s)
noncomputable def k3D:List V→X V:=k3a 3 6 (k6Q)
theorem k9M (cok:(mkC w base mg mb d os).Ok):k0n (mkC w base mg mb d os) 3 (.ref 205) (k3D):=by
 refine k1D (rn:=["blocks","sorts","sizes","block","is_character","size"]) (k:=3) cok (f:=205) (fo:=_) (fd:=_) rfl rfl ?hcode rfl rfl rfl rfl (fun vals h=>?hbind) (by decide) (by decide +kernel) ?hkind ?hcn rfl rfl rfl (fun L stack ok=>?body)
 case hcode=>kernel_rfl
 case hbind=>exact ll3 h (fun Y Y Y=>rfl)
 case hkind=>intro x hx; simp only [List.take,w0c,w0i,or_false] at hx; (refine Or.elim hx (fun yY=>?_) fun yZ=>?_ <;> clear hx; rotate_left; (refine Or.elim yZ ?_ ?_ <;> clear yZ; rotate_left; (intro yZ; subst yZ); rotate_right; (intro yY; subst yY)); rotate_right; subst yY) <;> first | exact .inl rfl | exact .inr ⟨rfl,rfl⟩
 case hcn=>decide +kernel
 case body =>
  exact (k0c (k1N ok (k1v (k0a ok 1 rfl)) (k0h ok 3 rfl) (k0c (k2f (k0U (k0a ok 3 rfl) (k0a ok 0 rfl) (k8d)) (k0c (k0j (k0R (k0b (k0G (k0a ok 1 rfl) (k0a ok 3 rfl) k0F) (k0b (k0G (k0a ok 2 rfl) (k0a ok 3 rfl) k0F) k0i))) (k3b ok (k0a ok 0 rfl) (k0a ok 3 rfl)))
   (k0c z1w
   k0k)) k0k)
   (k0c (k0j (k0G (k0a ok 0 rfl) (k0a ok 3 rfl) k0F) (k0Z (k0v (k0h ok 4 rfl) (k0v (k0h ok 5 rfl) k1y))))
   (k0c (k2f (k0U (k0a ok 4 rfl) (k0G (k0a ok 1 rfl) (k0a ok 3 rfl) k0F) (k8w)) (k0c (k2n ok cok (k1u cok) (tv:=[109,105,120,101,100]) rfl)
   k0k) k0k)
   (k0c (k2f (k4r (k4q (k0U (k0a ok 3 rfl) (k2Z [] rfl _ _) (k8w)) (k4q (k0U (k0a ok 5 rfl) (k0G (k0a ok 2 rfl) (k0a ok 3 rfl) k0F) (k8w)) k4K))) (k0c (k2n ok cok (k1u cok) (tv:=[99,111,109,109,111,110,32,115,105,122,101,115]) rfl)
   k0k) k0k)
   (k0c (k0j (k0R (k0b (k0a ok 4 rfl) (k0b (k2i ok cok z3C (k0b (k0a ok 5 rfl) (k0b (k0G (k0a ok 2 rfl) (k0a ok 3 rfl) k0F) k0i)) b_max) k0i))) (k3b ok (k0a ok 0 rfl) (k0a ok 3 rfl)))
   k0k))))))
   k0k)
noncomputable def k7K:Reg→X (Fl × Reg) :=
 (k0H (k0p k4J (k0l 3))
 (k0H (k5z (k5c (k2K [116,104,105,110,103,115] (k0d 0))) (k0l 4) (k0H (k0p (k1c k2E (k0f (k0d 1) (k0f (k0d 4) k0T))) (k1o 2 (k0q (k0l 5) (k0q (k0l 6) k1n))))
 (k0H (xIf (k2L k9W (k0d 5) (k0d 2)) (k0H (xIf (k2L k9W (k0d 5) (k0d 3)) (k0H (k0p (k4S k0T) (k7Z (k0d 3) (k0d 5)))
 k1s) k1s)
 (k0H (k4c (k5m k3A k3o (k1g k0V (k0d 3) (k0d 5)) (k0f (k3e (k0f (k0d 4) (k0f (k0d 6) k0T))) k0T)))
 k1s)) k1s)
 k1s)))
 (k0H (k5A (k0d 3))
 k1s)))
noncomputable def k4M:List V→X V:=k3a 3 7 (k7K)
theorem z0R (cok:(mkC w base mg mb d os).Ok):k0n (mkC w base mg mb d os) 2 (.ref 219) (k4M):=by
 refine k1D (rn:=["space","above","roots","found","name","root","distance"]) (k:=3) cok (f:=219) (fo:=_) (fd:=_) rfl rfl ?hcode rfl rfl rfl rfl (fun vals h=>?hbind) (by decide) (by decide +kernel) ?hkind ?hcn rfl rfl rfl (fun L stack ok=>?body)
 case hcode=>kernel_rfl
 case hbind=>exact ll3 h (fun Y Y Y=>rfl)
 case hkind=>intro x hx; simp only [List.take,w0c,w0i,or_false] at hx; (refine Or.elim hx (fun yY=>?_) fun yZ=>?_ <;> clear hx; rotate_left; (refine Or.elim yZ ?_ ?_ <;> clear yZ; rotate_left; (intro yZ; subst yZ); rotate_right; (intro yY; subst yY)); rotate_right; subst yY) <;> first | exact .inl rfl | exact .inr ⟨rfl,rfl⟩
 case hcn=>decide +kernel
 case body =>
  exact (k0c (k0j (k2M cok) (k0h ok 3 rfl))
   (k0c (k1N ok (k1v (k1t cok [116,104,105,110,103,115] rfl (k0a ok 0 rfl) k2U)) (k0h ok 4 rfl) (k0c (k0j (k0B ok cok (k0n.fn ok (k0n.less (k3Q cok) (by decide))) (k0b (k0a ok 1 rfl) (k0b (k0a ok 4 rfl) k0i)) k4w (by kernel_rfl)) (k0Z (k0v (k0h ok 5 rfl) (k0v (k0h ok 6 rfl) k1y))))
   (k0c (k2f (k0U (k0a ok 5 rfl) (k0a ok 2 rfl) (k8d)) (k0c (k2f (k0U (k0a ok 5 rfl) (k0a ok 3 rfl) (k8d)) (k0c (k0j (k2G cok k0i) (k3b ok (k0a ok 3 rfl) (k0a ok 5 rfl)))
   k0k) k0k)
   (k0c (k2s (k2u (k0G (k0a ok 3 rfl) (k0a ok 5 rfl) k0F) k4e (k0b (k0R (k0b (k0a ok 4 rfl) (k0b (k0a ok 6 rfl) k0i))) k0i) (k4f ok) PySem.F.plainAttrs_list PySem.F.slot_list_append PySem.F.type_list_append))
   k0k)) k0k)
   k0k)))
   (k0c (k0Y (k0a ok 3 rfl))
   k0k)))
noncomputable def k7L:Reg→X (Fl × Reg) :=
 (k0H (k0p (cIf (tVal (k0d 1)) (k2K [99,104,97,114,97,99,116,101,114,115] (k0d 0)) (k2K [110,117,109,101,114,105,99] (k0d 0))) (k0l 4))
 (k0H (xIf (k2L xGt (k1g k4T (k0d 4) (k0d 2)) (k0d 3)) (k0H (k3N .lay)
 k1s) k1s)
 (k0H (xIf (tVal (k0d 1)) (k0H (k0p (k1g k4T (k0d 4) (k0d 2)) (k6H [99,104,97,114,97,99,116,101,114,115] (k0d 0)))
 k1s) (k0H (k0p (k1g k4T (k0d 4) (k0d 2)) (k6H [110,117,109,101,114,105,99] (k0d 0)))
 k1s))
 (k0H (k5A (k0d 4))
 k1s))))
noncomputable def k3s:List V→X V:=k3a 4 5 (k7L)
theorem k6R (cok:(mkC w base mg mb d os).Ok):k0n (mkC w base mg mb d os) 3 (.ref 212) (k3s):=by
 refine k1D (rn:=["made","is_character","size","most","address"]) (k:=4) cok (f:=212) (fo:=_) (fd:=_) rfl rfl ?hcode rfl rfl rfl rfl (fun vals h=>?hbind) (by decide) (by decide +kernel) ?hkind ?hcn rfl rfl rfl (fun L stack ok=>?body)
 case hcode=>kernel_rfl
 case hbind=>exact ll4 h (fun Y Y Y Y=>rfl)
 case hkind=>intro x hx; simp only [List.take,w0c,w0i,or_false] at hx; (refine Or.elim hx (fun yY=>?_) fun yZ=>?_ <;> clear hx; rotate_left; (refine Or.elim yZ ?_ ?_ <;> clear yZ; rotate_left; (intro yZ; refine Or.elim yZ ?_ ?_ <;> clear yZ; rotate_left; (intro yZ; subst yZ); rotate_right; (intro yY; subst yY)); rotate_right; (intro yY; subst yY)); rotate_right; subst yY) <;> first | exact .inl rfl | exact .inr ⟨rfl,rfl⟩
 case hcn=>decide +kernel
 case body =>
  exact (k0c (k0j (k3x (z4X (k0a ok 1 rfl)) (k1t cok [99,104,97,114,97,99,116,101,114,115] rfl (k0a ok 0 rfl) k6g) (k1t cok [110,117,109,101,114,105,99] rfl (k0a ok 0 rfl) k8S)) (k0h ok 4 rfl))
   (k0c (k2f (k0U (k1b (k0a ok 4 rfl) (k0a ok 2 rfl) (k2k cok)) (k0a ok 3 rfl) (op_gt)) (k0c (k2n ok cok (k1u cok) (tv:=[116,111,111,32,108,97,114,103,101]) rfl)
   k0k) k0k)
   (k0c (k2f (z4X (k0a ok 1 rfl)) (k0c (k0j (k1b (k0a ok 4 rfl) (k0a ok 2 rfl) (k2k cok)) (k3n ok cok [99,104,97,114,97,99,116,101,114,115] rfl (k0a ok 0 rfl) k6h))
   k0k) (k0c (k0j (k1b (k0a ok 4 rfl) (k0a ok 2 rfl) (k2k cok)) (k3n ok cok [110,117,109,101,114,105,99] rfl (k0a ok 0 rfl) k8T))
   k0k))
   (k0c (k0Y (k0a ok 4 rfl))
   k0k))))
noncomputable def k8X:Reg→X (Fl × Reg) :=
 (k0H (k0p (k1g k0V (k2K [116,104,105,110,103,115] (k0d 1)) (k0d 2)) (k1o 3 (k0q (k0l 4) (k0q (k0l 5) (k0q (k0l 6) k1n)))))
 (k0H (k0p (k3e (k0f (k0d 4) (k0f (k0d 3) (k0f (k0d 5) (k0f (k0d 6) k0T))))) (k7Z (k2K [112,108,97,99,101,115] (k0d 0)) (k3e (k0f (k2K [110,97,109,101] (k0d 1)) (k0f (k0d 2) k0T)))))
 k1s))
noncomputable def k4E:List V→X V:=k3a 4 7 (k8X)
theorem k7M (cok:(mkC w base mg mb d os).Ok):k0n (mkC w base mg mb d os) 1 (.ref 226) (k4E):=by
 refine k1D (rn:=["made","space","name","address","kind","length","dims"]) (k:=4) cok (f:=226) (fo:=_) (fd:=_) rfl rfl ?hcode rfl rfl rfl rfl (fun vals h=>?hbind) (by decide) (by decide +kernel) ?hkind ?hcn rfl rfl rfl (fun L stack ok=>?body)
 case hcode=>kernel_rfl
 case hbind=>exact ll4 h (fun Y Y Y Y=>rfl)
 case hkind=>intro x hx; simp only [List.take,w0c,w0i,or_false] at hx; (refine Or.elim hx (fun yY=>?_) fun yZ=>?_ <;> clear hx; rotate_left; (refine Or.elim yZ ?_ ?_ <;> clear yZ; rotate_left; (intro yZ; refine Or.elim yZ ?_ ?_ <;> clear yZ; rotate_left; (intro yZ; subst yZ); rotate_right; (intro yY; subst yY)); rotate_right; (intro yY; subst yY)); rotate_right; subst yY) <;> first | exact .inl rfl | exact .inr ⟨rfl,rfl⟩
 case hcn=>decide +kernel
 case body =>
  exact (k0c (k0j (k0G (k1t cok [116,104,105,110,103,115] rfl (k0a ok 1 rfl) k2U) (k0a ok 2 rfl) k0F) (k0Z (k0v (k0h ok 4 rfl) (k0v (k0h ok 5 rfl) (k0v (k0h ok 6 rfl) k1y)))))
   (k0c (k0j (k0R (k0b (k0a ok 4 rfl) (k0b (k0a ok 3 rfl) (k0b (k0a ok 5 rfl) (k0b (k0a ok 6 rfl) k0i))))) (k3b ok (k1t cok [112,108,97,99,101,115] rfl (k0a ok 0 rfl) z0g) (k0R (k0b (k1t cok [110,97,109,101] rfl (k0a ok 1 rfl) z0Q) (k0b (k0a ok 2 rfl) k0i)))))
   k0k))
end
section
variable {w:World} {base:Heap} {mg mb:Str→Option Value} {d:Drawn} {os:OsState}
noncomputable def k8Y:Reg→X (Fl × Reg) :=
 (k0H (k0p (k3w xMin (k0f (k3z 2 [] (k5c (k0d 2)) (k1o 2 (k0q (k0l 0) (k0q (k0l 1) k1n))) tT (k2H (k0d 1)) (.list [])) k0T)) (k0l 6))
 (k0H (k0p (k3w xMax (k0f (k3z 2 [1] (k5c (k0d 2)) (k1o 2 (k0q (k0l 0) (k0q (k0l 1) k1n))) tT (k2H (k1g k4T (k0d 1) (k1c k3g (k0f (k1g k0V (k2K [116,104,105,110,103,115] (k0d 2)) (k0d 0)) k0T)))) (.list [])) k0T)) (k0l 7))
 (k0H (k0p (k1c k1A (k0f (k1g k0V (k2K [116,104,105,110,103,115] (k0d 1)) (k1g k0V (k1g k0V (k0d 2) (cI 0)) (cI 0))) k0T)) (k0l 8))
 (k0H (k0p (k1c k3s (k0f (k0d 0) (k0f (k0d 8) (k0f (k1g z1u (k0d 7) (k0d 6)) (k0f (k0d 3) k0T))))) (k0l 9))
 (k0H (k5z (k5c (k0d 2)) (k1o 2 (k0q (k0l 4) (k0q (k0l 5) k1n))) (k0H (k4c (k1c k4E (k0f (k0d 0) (k0f (k0d 1) (k0f (k0d 4) (k0f (k1g z1u (k1g k4T (k0d 9) (k0d 5)) (k0d 6)) k0T))))))
 k1s))
 (k0H (xIf (k2L xEq (k3z 2 [1] (k5c (k0d 2)) (k1o 2 (k0q (k0l 0) (k0q (k0l 1) k1n))) (k2L xIn (k0d 0) (k2K [107,101,112,116] (k0d 2))) (k2H (k0d 0)) (.list [])) (k4S k0T)) (k0H (k4c (k5m k3A k3o (k1g k0V (k2K [99,108,101,97,114,115] (k0d 0)) (k2K [110,97,109,101] (k0d 1))) (k0f (k3e (k0f (k0d 8) (k0f (k0d 9) (k0f (k1g z1u (k1g k4T (k0d 9) (k0d 7)) (k0d 6)) k0T)))) k0T)))
 k1s) k1s)
 k1s))))))
noncomputable def k5p:List V→X V:=k3a 4 10 (k8Y)
theorem z1R (cok:(mkC w base mg mb d os).Ok):k0n (mkC w base mg mb d os) 4 (.ref 231) (k5p):=by
 refine k1D (rn:=["made","space","members","most","name","distance","low","high","is_character","address"]) (k:=4) cok (f:=231) (fo:=_) (fd:=_) rfl rfl ?hcode rfl rfl rfl rfl (fun vals h=>?hbind) (by decide) (by decide +kernel) ?hkind ?hcn rfl rfl rfl (fun L stack ok=>?body)
 case hcode=>kernel_rfl
 case hbind=>exact ll4 h (fun Y Y Y Y=>rfl)
 case hkind=>intro x hx; simp only [List.take,w0c,w0i,or_false] at hx; (refine Or.elim hx (fun yY=>?_) fun yZ=>?_ <;> clear hx; rotate_left; (refine Or.elim yZ ?_ ?_ <;> clear yZ; rotate_left; (intro yZ; refine Or.elim yZ ?_ ?_ <;> clear yZ; rotate_left; (intro yZ; subst yZ); rotate_right; (intro yY; subst yY)); rotate_right; (intro yY; subst yY)); rotate_right; subst yY) <;> first | exact .inl rfl | exact .inr ⟨rfl,rfl⟩
 case hcn=>decide +kernel
 case body =>
  exact (k0c (k0j (k2i ok cok fn_min (k0b (k2N ok cok (k3y.mk (cl:=[]) (tn:=["name","distance"]) (idx:=[]) rfl rfl (by decide +kernel) (by decide +kernel) (fun p hp=>by simp at hp) (fun p hp=>by simp at hp) (by show [("name":Str),("distance":Str)].Nodup; decide +kernel) rfl) (k1v (k0a ok 2 rfl)) (fun K ok1=>⟨(k0Z (k0v (k0h ok1 0 rfl) (k0v (k0h ok1 1 rfl) k1y))),k5C,(k0a ok1 1 rfl)⟩) (k5R (k4d (k1V (by decide)) (k4d (k1V (by decide)) k8f)))) k0i) b_min) (k0h ok 6 rfl))
   (k0c (k0j (k2i ok cok z3C (k0b (k2N ok cok (k3y.mk (cl:=[("space",L + 1)]) (tn:=["name","distance"]) (idx:=[1]) rfl rfl (by decide +kernel) (by decide +kernel) (fun p hp=>by (simp only [w0c,w0i,or_false] at hp; rcases hp with rfl <;> exact ⟨rfl,rfl⟩)) (fun p hp=>by (simp only [w0c,w0i,or_false] at hp; rcases hp with rfl <;> rfl)) (by show [("name":Str),("distance":Str),("space":Str)].Nodup; decide +kernel) rfl) (k1v (k0a ok 2 rfl)) (fun K ok1=>⟨(k0Z (k0v (k0h ok1 0 rfl) (k0v (k0h ok1 1 rfl) k1y))),k5C,(k1b (k0a ok1 1 rfl) (k0B ok1 cok (k0n.fn ok1 (k0n.less (k5T cok) (by decide))) (k0b (k0G (k1t cok [116,104,105,110,103,115] rfl (k0a ok1 2 rfl) k2U) (k0a ok1 0 rfl) k0F) k0i) k6L (by kernel_rfl)) (k2k cok))⟩) (k5R (k4d (k1V (by decide)) (k4d (k1V (by decide)) k8f)))) k0i) b_max) (k0h ok 7 rfl))
   (k0c (k0j (k0B ok cok (k0n.fn ok (k0n.less (k2A cok) (by decide))) (k0b (k0G (k1t cok [116,104,105,110,103,115] rfl (k0a ok 1 rfl) k2U) (k0G (k0G (k0a ok 2 rfl) (k0A 0 _ _) k0F) (k0A 0 _ _) k0F) k0F) k0i) k2P (by kernel_rfl)) (k0h ok 8 rfl))
   (k0c (k0j (k0B ok cok (k0n.fn ok (k0n.less (k6R cok) (by decide))) (k0b (k0a ok 0 rfl) (k0b (k0a ok 8 rfl) (k0b (k1b (k0a ok 7 rfl) (k0a ok 6 rfl) (k5e)) (k0b (k0a ok 3 rfl) k0i)))) k7I (by kernel_rfl)) (k0h ok 9 rfl))
   (k0c (k1N ok (k1v (k0a ok 2 rfl)) (k0Z (k0v (k0h ok 4 rfl) (k0v (k0h ok 5 rfl) k1y))) (k0c (k2s (k0B ok cok (k0n.fn ok (k0n.less (k7M cok) (by decide))) (k0b (k0a ok 0 rfl) (k0b (k0a ok 1 rfl) (k0b (k0a ok 4 rfl) (k0b (k1b (k1b (k0a ok 9 rfl) (k0a ok 5 rfl) (k2k cok)) (k0a ok 6 rfl) (k5e)) k0i)))) k8O (by kernel_rfl)))
   k0k))
   (k0c (k2f (k0U (k2N ok cok (k3y.mk (cl:=[("space",L + 1)]) (tn:=["name","distance"]) (idx:=[1]) rfl rfl (by decide +kernel) (by decide +kernel) (fun p hp=>by (simp only [w0c,w0i,or_false] at hp; rcases hp with rfl <;> exact ⟨rfl,rfl⟩)) (fun p hp=>by (simp only [w0c,w0i,or_false] at hp; rcases hp with rfl <;> rfl)) (by show [("name":Str),("distance":Str),("space":Str)].Nodup; decide +kernel) rfl) (k1v (k0a ok 2 rfl)) (fun K ok1=>⟨(k0Z (k0v (k0h ok1 0 rfl) (k0v (k0h ok1 1 rfl) k1y))),(k8F (k0U (k0a ok1 0 rfl) (k1t cok [107,101,112,116] rfl (k0a ok1 2 rfl) cls_kept) (z4b))),(k0a ok1 0 rfl)⟩) (k5R (k4d (k1V (by decide)) (k4d (k1V (by decide)) k8f)))) (k2G cok k0i) (k4U)) (k0c (k2s (k2u (k0G (k1t cok [99,108,101,97,114,115] rfl (k0a ok 0 rfl) k7q) (k1t cok [110,97,109,101] rfl (k0a ok 1 rfl) z0Q) k0F) k4e (k0b (k0R (k0b (k0a ok 8 rfl) (k0b (k0a ok 9 rfl) (k0b (k1b (k1b (k0a ok 9 rfl) (k0a ok 7 rfl) (k2k cok)) (k0a ok 6 rfl) (k5e)) k0i)))) k0i) (k4f ok) PySem.F.plainAttrs_list PySem.F.slot_list_append PySem.F.type_list_append))
   k0k) k0k)
   k0k))))))
noncomputable def z0k:Reg→X (Fl × Reg) :=
 (k0H (k0p (k4S k0T) (k7Z (k2K [99,108,101,97,114,115] (k0d 0)) (k2K [110,97,109,101] (k0d 1))))
 (k0H (k5z (k5c (k2K [116,104,105,110,103,115] (k0d 1))) (k0l 5) (k0H (k0p (k1c k2E (k0f (k0d 2) (k0f (k0d 5) k0T))) (k1o 2 (k0q (k0l 6) (k0q (k0l 7) k1n))))
 (k0H (xIf (k2L xIn (k0d 6) (k0d 3)) (k0H (k0p (k1g k0V (k0d 3) (k0d 6)) (k1o 2 (k0q (k0l 8) (k0q (k0l 9) k1n))))
 (k0H (k4c (k1c k4E (k0f (k0d 0) (k0f (k0d 1) (k0f (k0d 5) (k0f (k1g z1u (k1g k4T (k1g k0V (k1g k0V (k2K [98,108,111,99,107,115] (k0d 0)) (k0d 8)) (cI 1)) (k0d 7)) (k0d 9)) k0T))))))
 k1s)) k1s)
 k1s)))
 (k0H (k0p (k1c k4M (k0f (k0d 1) (k0f (k0d 2) (k0f (k0d 3) k0T)))) (k0l 10))
 (k0H (k5z (k5c (k0d 10)) (k0l 6) (k0H (k4c (k1c k5p (k0f (k0d 0) (k0f (k0d 1) (k0f (k1g k0V (k0d 10) (k0d 6)) (k0f (k0d 4) k0T))))))
 k1s))
 k1s))))
noncomputable def k5h:List V→X V:=k3a 5 11 (z0k)
theorem z2Q (cok:(mkC w base mg mb d os).Ok):k0n (mkC w base mg mb d os) 5 (.ref 245) (k5h):=by
 refine k1D (rn:=["made","space","above","roots","most","name","root","distance","block","begin","classes"]) (k:=5) cok (f:=245) (fo:=_) (fd:=_) rfl rfl ?hcode rfl rfl rfl rfl (fun vals h=>?hbind) (by decide) (by decide +kernel) ?hkind ?hcn rfl rfl rfl (fun L stack ok=>?body)
 case hcode=>kernel_rfl
 case hbind=>exact ll5 h (fun Y Y Y Y Y=>rfl)
 case hkind=>intro x hx; simp only [List.take,w0c,w0i,or_false] at hx; (refine Or.elim hx (fun yY=>?_) fun yZ=>?_ <;> clear hx; rotate_left; (refine Or.elim yZ ?_ ?_ <;> clear yZ; rotate_left; (intro yZ; refine Or.elim yZ ?_ ?_ <;> clear yZ; rotate_left; (intro yZ; refine Or.elim yZ ?_ ?_ <;> clear yZ; rotate_left; (intro yZ; subst yZ); rotate_right; (intro yY; subst yY)); rotate_right; (intro yY; subst yY)); rotate_right; (intro yY; subst yY)); rotate_right; subst yY) <;> first | exact .inl rfl | exact .inr ⟨rfl,rfl⟩
 case hcn=>decide +kernel
 case body =>
  exact (k0c (k0j (k2G cok k0i) (k3b ok (k1t cok [99,108,101,97,114,115] rfl (k0a ok 0 rfl) k7q) (k1t cok [110,97,109,101] rfl (k0a ok 1 rfl) z0Q)))
   (k0c (k1N ok (k1v (k1t cok [116,104,105,110,103,115] rfl (k0a ok 1 rfl) k2U)) (k0h ok 5 rfl) (k0c (k0j (k0B ok cok (k0n.fn ok (k0n.less (k3Q cok) (by decide))) (k0b (k0a ok 2 rfl) (k0b (k0a ok 5 rfl) k0i)) k4w (by kernel_rfl)) (k0Z (k0v (k0h ok 6 rfl) (k0v (k0h ok 7 rfl) k1y))))
   (k0c (k2f (k0U (k0a ok 6 rfl) (k0a ok 3 rfl) (z4b)) (k0c (k0j (k0G (k0a ok 3 rfl) (k0a ok 6 rfl) k0F) (k0Z (k0v (k0h ok 8 rfl) (k0v (k0h ok 9 rfl) k1y))))
   (k0c (k2s (k0B ok cok (k0n.fn ok (k0n.less (k7M cok) (by decide))) (k0b (k0a ok 0 rfl) (k0b (k0a ok 1 rfl) (k0b (k0a ok 5 rfl) (k0b (k1b (k1b (k0G (k0G (k1t cok [98,108,111,99,107,115] rfl (k0a ok 0 rfl) k4x) (k0a ok 8 rfl) k0F) (k0A 1 _ _) k0F) (k0a ok 7 rfl) (k2k cok)) (k0a ok 9 rfl) (k5e)) k0i)))) k8O (by kernel_rfl)))
   k0k)) k0k)
   k0k)))
   (k0c (k0j (k0B ok cok (k0n.fn ok (k0n.less (z0R cok) (by decide))) (k0b (k0a ok 1 rfl) (k0b (k0a ok 2 rfl) (k0b (k0a ok 3 rfl) k0i))) z1N (by kernel_rfl)) (k0h ok 10 rfl))
   (k0c (k1N ok (k1v (k0a ok 10 rfl)) (k0h ok 6 rfl) (k0c (k2s (k0B ok cok (k0n.fn ok (k0n.less (z1R cok) (by decide))) (k0b (k0a ok 0 rfl) (k0b (k0a ok 1 rfl) (k0b (k0G (k0a ok 10 rfl) (k0a ok 6 rfl) k0F) (k0b (k0a ok 4 rfl) k0i)))) z2J (by kernel_rfl)))
   k0k))
   k0k))))
noncomputable def k5E:Reg→X (Fl × Reg) :=
 (k0H (k0p (k0d 0) (k1o 4 (k0q (k0l 2) (k0q (k0l 3) (k0q (k0l 4) (k0q (k0l 5) k1n))))))
 (k0H (xIf (k2L xNe (k3w z3B (k0f (k0d 1) k0T)) (k3w z3B (k0f (k0d 5) k0T))) (k0H (k3N .run)
 k1s) k1s)
 (k0H (k0p (cI 0) (k0l 6))
 (k0H (k0p (cI 1) (k0l 7))
 (k0H (k5z (k5B (k0f (k3w z3B (k0f (k0d 5) k0T)) k0T)) (k0l 8) (k0H (k0p (k1g k0V (k0d 5) (k0d 8)) (k1o 2 (k0q (k0l 9) (k0q (k0l 10) k1n))))
 (k0H (xIf (tOr (k2L xLt (k1g k0V (k0d 1) (k0d 8)) (k0d 9)) (tOr (z2u (k2L k9V (k0d 10) k8o) (z2u (k2L xGt (k1g k0V (k0d 1) (k0d 8)) (k0d 10)) tT)) tF)) (k0H (k3N .run)
 k1s) k1s)
 (k0H (xAug 6 (k1g xMul (k1g z1u (k1g k0V (k0d 1) (k0d 8)) (k0d 9)) (k0d 7)) z4Z)
 (k0H (xIf (k2L k9V (k0d 10) k8o) (k0H (xAug 7 (k1g k4T (k1g z1u (k0d 10) (k0d 9)) (cI 1)) xMul)
 k1s) k1s)
 k1s)))))
 (k0H (k5A (k3e (k0f (k0d 2) (k0f (k1g k4T (k0d 3) (k1g xMul (k0d 6) (k1c k4D (k0f (k0d 2) (k0f (k0d 4) k0T))))) (k0f (k0d 4) (k0f (k3e k0T) k0T))))))
 k1s))))))
noncomputable def k3E:List V→X V:=k3a 2 11 (k5E)
theorem k8c (cok:(mkC w base mg mb d os).Ok):k0n (mkC w base mg mb d os) 3 (.ref 86) (k3E):=by
 refine k1D (rn:=["place","subscripts","kind","address","length","dims","offset","stride","k","low","high"]) (k:=2) cok (f:=86) (fo:=_) (fd:=_) rfl rfl ?hcode rfl rfl rfl rfl (fun vals h=>?hbind) (by decide) (by decide +kernel) ?hkind ?hcn rfl rfl rfl (fun L stack ok=>?body)
 case hcode=>kernel_rfl
 case hbind=>exact ll2 h (fun Y Y=>rfl)
 case hkind=>intro x hx; simp only [List.take,w0c,w0i,or_false] at hx; (refine Or.elim hx (fun yY=>?_) fun yZ=>?_ <;> clear hx; rotate_left; subst yZ; rotate_right; subst yY) <;> first | exact .inl rfl | exact .inr ⟨rfl,rfl⟩
 case hcn=>decide +kernel
 case body =>
  exact (k0c (k0j (k0a ok 0 rfl) (k0Z (k0v (k0h ok 2 rfl) (k0v (k0h ok 3 rfl) (k0v (k0h ok 4 rfl) (k0v (k0h ok 5 rfl) k1y))))))
   (k0c (k2f (k0U (k2i ok cok k6J (k0b (k0a ok 1 rfl) k0i) z0P) (k2i ok cok k6J (k0b (k0a ok 5 rfl) k0i) z0P) (k8w)) (k0c (k2n ok cok (k7r cok) (tv:=[115,117,98,115,99,114,105,112,116]) rfl)
   k0k) k0k)
   (k0c (k0j (k0A 0 _ _) (k0h ok 6 rfl))
   (k0c (k0j (k0A 1 _ _) (k0h ok 7 rfl))
   (k0c (k1N ok (k5f ok cok (k0b (k2i ok cok k6J (k0b (k0a ok 5 rfl) k0i) z0P) k0i) k7p) (k0h ok 8 rfl) (k0c (k0j (k0G (k0a ok 5 rfl) (k0a ok 8 rfl) k0F) (k0Z (k0v (k0h ok 9 rfl) (k0v (k0h ok 10 rfl) k1y))))
   (k0c (k2f (k4r (k4V (k0U (k0G (k0a ok 1 rfl) (k0a ok 8 rfl) k0F) (k0a ok 9 rfl) (z1v)) (k4V (k4r (k4q (k0U (k0a ok 10 rfl) (k4p _ _) (z3s)) (k4q (k0U (k0G (k0a ok 1 rfl) (k0a ok 8 rfl) k0F) (k0a ok 10 rfl) (op_gt)) k4K))) k4C))) (k0c (k2n ok cok (k7r cok) (tv:=[115,117,98,115,99,114,105,112,116]) rfl)
   k0k) k0k)
   (k0c (z0E ok 6 rfl (k1b (k1b (k0G (k0a ok 1 rfl) (k0a ok 8 rfl) k0F) (k0a ok 9 rfl) (k5e)) (k0a ok 7 rfl) (z4V)) z5a)
   (k0c (k2f (k0U (k0a ok 10 rfl) (k4p _ _) (z3s)) (k0c (z0E ok 7 rfl (k1b (k1b (k0a ok 10 rfl) (k0a ok 9 rfl) (k5e)) (k0A 1 _ _) (k2k cok)) z5b)
   k0k) k0k)
   k0k)))))
   (k0c (k0Y (k0R (k0b (k0a ok 2 rfl) (k0b (k1b (k0a ok 3 rfl) (k1b (k0a ok 6 rfl) (k0B ok cok (k0n.fn ok (k0n.less (k7J cok) (by decide))) (k0b (k0a ok 2 rfl) (k0b (k0a ok 4 rfl) k0i)) k8L (by kernel_rfl)) (z4V)) (k2k cok)) (k0b (k0a ok 4 rfl) (k0b (k0R k0i) k0i))))))
   k0k))))))
noncomputable def k8Z:Reg→X (Fl × Reg) :=
 (k0H (k0p (k0d 0) (k1o 3 (k0q (k0l 3) (k0q (k0l 4) (k0q (k0l 5) k1n)))))
 (k0H (k0p (cI 0) (k0l 6))
 (k0H (xIf (k2L xNe (k0d 1) (k4S k0T)) (k0H (k8J (k0H (k0p (k1g k0V (k1c k3E (k0f (k3e (k0f (k0d 3) (k0f (cI 0) (k0f (k0d 4) (k0f (k0d 5) k0T))))) (k0f (k0d 1) k0T))) (cI 1)) (k0l 6))
 k1s))
 k1s) k1s)
 (k0H (xIf (tOr (k2L xLt (k0d 2) (cI 1)) (tOr (k2L xGt (k0d 2) (k3w xMax (k0f (k0d 4) (k0f (cI 1) k0T)))) tF)) (k0H (k3N .lay)
 k1s) k1s)
 (k0H (xIf (k2L xNe (k0d 3) (cG (.int 5))) (k0H (k5A (k0d 6))
 k1s) k1s)
 (k0H (k5A (k1g z1u (k1g k4T (k0d 6) (k0d 2)) (cI 1)))
 k1s))))))
noncomputable def k4F:List V→X V:=k3a 3 7 (k8Z)
theorem k7N (cok:(mkC w base mg mb d os).Ok):k0n (mkC w base mg mb d os) 4 (.ref 156) (k4F):=by
 refine k1D (rn:=["thing","subscripts","first","kind","length","dims","offset"]) (k:=3) cok (f:=156) (fo:=_) (fd:=_) rfl rfl ?hcode rfl rfl rfl rfl (fun vals h=>?hbind) (by decide) (by decide +kernel) ?hkind ?hcn rfl rfl rfl (fun L stack ok=>?body)
 case hcode=>kernel_rfl
 case hbind=>exact ll3 h (fun Y Y Y=>rfl)
 case hkind=>intro x hx; simp only [List.take,w0c,w0i,or_false] at hx; (refine Or.elim hx (fun yY=>?_) fun yZ=>?_ <;> clear hx; rotate_left; (refine Or.elim yZ ?_ ?_ <;> clear yZ; rotate_left; (intro yZ; subst yZ); rotate_right; (intro yY; subst yY)); rotate_right; subst yY) <;> first | exact .inl rfl | exact .inr ⟨rfl,rfl⟩
 case hcn=>decide +kernel
 case body =>
  exact (k0c (k0j (k0a ok 0 rfl) (k0Z (k0v (k0h ok 3 rfl) (k0v (k0h ok 4 rfl) (k0v (k0h ok 5 rfl) k1y)))))
   (k0c (k0j (k0A 0 _ _) (k0h ok 6 rfl))
   (k0c (k2f (k0U (k0a ok 1 rfl) (k2G cok k0i) (k8w)) (k0c (z1I ok cok (k7r cok).ok z0e (k1u cok) (tv:=[115,117,98,115,99,114,105,112,116]) rfl (k0c (k0j (k0G (k0B ok cok (k0n.fn ok (k0n.less (k8c cok) (by decide))) (k0b (k0R (k0b (k0a ok 3 rfl) (k0b (k0A 0 _ _) (k0b (k0a ok 4 rfl) (k0b (k0a ok 5 rfl) k0i))))) (k0b (k0a ok 1 rfl) k0i)) k8M (by kernel_rfl)) (k0A 1 _ _) k0F) (k0h ok 6 rfl))
   k0k))
   k0k) k0k)
   (k0c (k2f (k4r (k4V (k0U (k0a ok 2 rfl) (k0A 1 _ _) (z1v)) (k4V (k0U (k0a ok 2 rfl) (k2i ok cok z3C (k0b (k0a ok 4 rfl) (k0b (k0A 1 _ _) k0i)) b_max) (op_gt)) k4C))) (k0c (k2n ok cok (k1u cok) (tv:=[115,117,98,115,116,114,105,110,103]) rfl)
   k0k) k0k)
   (k0c (k2f (k0U (k0a ok 3 rfl) (k1G ok cok (.int 5) k2q (fun Y Y Y=>.int _ _)) (k8w)) (k0c (k0Y (k0a ok 6 rfl))
   k0k) k0k)
   (k0c (k0Y (k1b (k1b (k0a ok 6 rfl) (k0a ok 2 rfl) (k2k cok)) (k0A 1 _ _) (k5e)))
   k0k))))))
noncomputable def k7O:Reg→X (Fl × Reg) :=
 (k0H (k0p (k1g k0V (k0d 2) (cI 0)) (k1o 3 (k0q (k0l 3) (k0q (k0l 4) (k0q (k0l 5) k1n)))))
 (k0H (k0p (k1c k3R (k0f (k0d 0) (k0f (k0d 3) k0T))) (k0l 6))
 (k0H (k0p (k1c k4F (k0f (k0d 6) (k0f (k0d 4) (k0f (k0d 5) k0T)))) (k0l 7))
 (k0H (k5z (k5c (k5g (k4n noEx) (k0d 2) (k7n (cI 1)) cNo cNo)) (k1o 3 (k0q (k0l 8) (k0q (k0l 9) (k0q (k0l 10) k1n)))) (k0H (k0p (k1c k3R (k0f (k0d 0) (k0f (k0d 8) k0T))) (k0l 11))
 (k0H (xIf (k2L xNe (k1c k1A (k0f (k0d 11) k0T)) (k1c k1A (k0f (k0d 6) k0T))) (k0H (k3N .lay)
 k1s) k1s)
 (k0H (k4c (k1c k2V (k0f (k0d 1) (k0f (k0d 3) (k0f (k0d 7) (k0f (k0d 8) (k0f (k1c k4F (k0f (k0d 11) (k0f (k0d 9) (k0f (k0d 10) k0T)))) k0T)))))))
 k1s))))
 k1s))))
noncomputable def k4g:List V→X V:=k3a 3 12 (k7O)
theorem z0S (cok:(mkC w base mg mb d os).Ok):k0n (mkC w base mg mb d os) 5 (.ref 184) (k4g):=by
 refine k1D (rn:=["space","above","group","first","first_subscripts","first_sign","thing","at","name","subscripts","sign","other"]) (k:=3) cok (f:=184) (fo:=_) (fd:=_) rfl rfl ?hcode rfl rfl rfl rfl (fun vals h=>?hbind) (by decide) (by decide +kernel) ?hkind ?hcn rfl rfl rfl (fun L stack ok=>?body)
 case hcode=>kernel_rfl
 case hbind=>exact ll3 h (fun Y Y Y=>rfl)
 case hkind=>intro x hx; simp only [List.take,w0c,w0i,or_false] at hx; (refine Or.elim hx (fun yY=>?_) fun yZ=>?_ <;> clear hx; rotate_left; (refine Or.elim yZ ?_ ?_ <;> clear yZ; rotate_left; (intro yZ; subst yZ); rotate_right; (intro yY; subst yY)); rotate_right; subst yY) <;> first | exact .inl rfl | exact .inr ⟨rfl,rfl⟩
 case hcn=>decide +kernel
 case body =>
  exact (k0c (k0j (k0G (k0a ok 2 rfl) (k0A 0 _ _) k0F) (k0Z (k0v (k0h ok 3 rfl) (k0v (k0h ok 4 rfl) (k0v (k0h ok 5 rfl) k1y)))))
   (k0c (k0j (k0B ok cok (k0n.fn ok (k0n.less (k6u cok) (by decide))) (k0b (k0a ok 0 rfl) (k0b (k0a ok 3 rfl) k0i)) k7o (by kernel_rfl)) (k0h ok 6 rfl))
   (k0c (k0j (k0B ok cok (k0n.fn ok (k0n.less (k7N cok) (by decide))) (k0b (k0a ok 6 rfl) (k0b (k0a ok 4 rfl) (k0b (k0a ok 5 rfl) k0i))) k8N (by kernel_rfl)) (k0h ok 7 rfl))
   (k0c (k1N ok (k1v (k3f (k0a ok 2 rfl) (k4Y (k0A 1 _ _)) k2t k2t (k6f cok k6t (ops:=(fun o i=>[i,o])) (fun Y Y=>rfl)))) (k0Z (k0v (k0h ok 8 rfl) (k0v (k0h ok 9 rfl) (k0v (k0h ok 10 rfl) k1y)))) (k0c (k0j (k0B ok cok (k0n.fn ok (k0n.less (k6u cok) (by decide))) (k0b (k0a ok 0 rfl) (k0b (k0a ok 8 rfl) k0i)) k7o (by kernel_rfl)) (k0h ok 11 rfl))
   (k0c (k2f (k0U (k0B ok cok (k0n.fn ok (k0n.less (k2A cok) (by decide))) (k0b (k0a ok 11 rfl) k0i) k2P (by kernel_rfl)) (k0B ok cok (k0n.fn ok (k0n.less (k2A cok) (by decide))) (k0b (k0a ok 6 rfl) k0i) k2P (by kernel_rfl)) (k8w)) (k0c (k2n ok cok (k1u cok) (tv:=[109,105,120,101,100]) rfl)
   k0k) k0k)
   (k0c (k2s (k0B ok cok (k0n.fn ok (k0n.less (k6i cok) (by decide))) (k0b (k0a ok 1 rfl) (k0b (k0a ok 3 rfl) (k0b (k0a ok 7 rfl) (k0b (k0a ok 8 rfl) (k0b (k0B ok cok (k0n.fn ok (k0n.less (k7N cok) (by decide))) (k0b (k0a ok 11 rfl) (k0b (k0a ok 9 rfl) (k0b (k0a ok 10 rfl) k0i))) k8N (by kernel_rfl)) k0i))))) k6M (by kernel_rfl)))
   k0k))))
   k0k))))
noncomputable def k6S:Reg→X (Fl × Reg) :=
 (k0H (k0p k4J (k0l 3))
 (k0H (k5z (k5c (k2K [116,104,105,110,103,115] (k0d 0))) (k0l 4) (k0H (k0p (k1c k2E (k0f (k0d 1) (k0f (k0d 4) k0T))) (k1o 2 (k0q (k0l 5) (k0q (k0l 6) k1n))))
 (k0H (xIf (k2L xIn (k0d 5) (k0d 2)) (k0H (k0p (k1g k0V (k0d 2) (k0d 5)) (k1o 2 (k0q (k0l 7) (k0q (k0l 8) k1n))))
 (k0H (xIf (k2L xLt (k0d 6) (k0d 8)) (k0H (k3N .lay)
 k1s) k1s)
 (k0H (k0p (k3w xMax (k0f (k5m k6s xGet (k0d 3) (k0f (k0d 7) (k0f (cI 0) k0T))) (k0f (k1g k4T (k1g z1u (k0d 6) (k0d 8)) (k1c k3g (k0f (k1g k0V (k2K [116,104,105,110,103,115] (k0d 0)) (k0d 4)) k0T))) k0T))) (k7Z (k0d 3) (k0d 7)))
 k1s))) k1s)
 k1s)))
 (k0H (k5A (k0d 3))
 k1s)))
noncomputable def k3F:List V→X V:=k3a 3 9 (k6S)
theorem k9N (cok:(mkC w base mg mb d os).Ok):k0n (mkC w base mg mb d os) 4 (.ref 198) (k3F):=by
 refine k1D (rn:=["space","above","roots","sizes","name","root","distance","block","begin"]) (k:=3) cok (f:=198) (fo:=_) (fd:=_) rfl rfl ?hcode rfl rfl rfl rfl (fun vals h=>?hbind) (by decide) (by decide +kernel) ?hkind ?hcn rfl rfl rfl (fun L stack ok=>?body)
 case hcode=>kernel_rfl
 case hbind=>exact ll3 h (fun Y Y Y=>rfl)
 case hkind=>intro x hx; simp only [List.take,w0c,w0i,or_false] at hx; (refine Or.elim hx (fun yY=>?_) fun yZ=>?_ <;> clear hx; rotate_left; (refine Or.elim yZ ?_ ?_ <;> clear yZ; rotate_left; (intro yZ; subst yZ); rotate_right; (intro yY; subst yY)); rotate_right; subst yY) <;> first | exact .inl rfl | exact .inr ⟨rfl,rfl⟩
 case hcn=>decide +kernel
 case body =>
  exact (k0c (k0j (k2M cok) (k0h ok 3 rfl))
   (k0c (k1N ok (k1v (k1t cok [116,104,105,110,103,115] rfl (k0a ok 0 rfl) k2U)) (k0h ok 4 rfl) (k0c (k0j (k0B ok cok (k0n.fn ok (k0n.less (k3Q cok) (by decide))) (k0b (k0a ok 1 rfl) (k0b (k0a ok 4 rfl) k0i)) k4w (by kernel_rfl)) (k0Z (k0v (k0h ok 5 rfl) (k0v (k0h ok 6 rfl) k1y))))
   (k0c (k2f (k0U (k0a ok 5 rfl) (k0a ok 2 rfl) (z4b)) (k0c (k0j (k0G (k0a ok 2 rfl) (k0a ok 5 rfl) k0F) (k0Z (k0v (k0h ok 7 rfl) (k0v (k0h ok 8 rfl) k1y))))
   (k0c (k2f (k0U (k0a ok 6 rfl) (k0a ok 8 rfl) (z1v)) (k0c (k2n ok cok (k1u cok) (tv:=[97,104,101,97,100,32,111,102,32,99,111,109,109,111,110]) rfl)
   k0k) k0k)
   (k0c (k0j (k2i ok cok z3C (k0b (k2u (k0a ok 3 rfl) k8H (k0b (k0a ok 7 rfl) (k0b (k0A 0 _ _) k0i)) fn_get PySem.F.plainAttrs_dict PySem.F.slot_dict_get PySem.F.type_dict_get) (k0b (k1b (k1b (k0a ok 6 rfl) (k0a ok 8 rfl) (k5e)) (k0B ok cok (k0n.fn ok (k0n.less (k5T cok) (by decide))) (k0b (k0G (k1t cok [116,104,105,110,103,115] rfl (k0a ok 0 rfl) k2U) (k0a ok 4 rfl) k0F) k0i) k6L (by kernel_rfl)) (k2k cok)) k0i)) b_max) (k3b ok (k0a ok 3 rfl) (k0a ok 7 rfl)))
   k0k))) k0k)
   k0k)))
   (k0c (k0Y (k0a ok 3 rfl))
   k0k)))
noncomputable def z1S:Reg→X (Fl × Reg) :=
 (k0H (k0p (k1c k8h k0T) (k0l 2))
 (k0H (k0p k4J (k0l 3))
 (k0H (k0p (k4S k0T) (k0l 4))
 (k0H (k5z (k5c (k0d 0)) (k0l 5) (k0H (k0p k4J (k0l 6))
 (k0H (k0p (k1c k3h (k0f (k0d 5) (k0f (k0d 6) k0T))) (k0l 7))
 (k0H (k5z (k5c (k2K [101,113,117,105,118,115] (k0d 5))) (k0l 8) (k0H (k4c (k1c k4g (k0f (k0d 5) (k0f (k0d 6) (k0f (k0d 8) k0T)))))
 k1s))
 (k0H (k0p (k1c k3C (k0f (k0d 7) (k0f (k0d 6) k0T))) (k0l 9))
 (k0H (k4c (k1c k3D (k0f (k0d 3) (k0f (k0d 7) (k0f (k1c k3F (k0f (k0d 5) (k0f (k0d 6) (k0f (k0d 9) k0T)))) k0T)))))
 (k0H (k4c (k5m k3A k3o (k0d 4) (k0f (k3e (k0f (k0d 6) (k0f (k0d 9) k0T))) k0T)))
 k1s)))))))
 (k0H (k5z (k5c (k0d 3)) (k0l 10) (k0H (k0p (k1g k0V (k0d 3) (k0d 10)) (k1o 2 (k0q (k0l 11) (k0q (k0l 12) k1n))))
 (k0H (k0p (k3e (k0f (k0d 11) (k0f (k1c k3s (k0f (k0d 2) (k0f (k0d 11) (k0f (k0d 12) (k0f (k0d 1) k0T))))) (k0f (k0d 12) k0T)))) (k7Z (k2K [98,108,111,99,107,115] (k0d 2)) (k0d 10)))
 k1s)))
 (k0H (k5z (k5B (k0f (k3w z3B (k0f (k0d 0) k0T)) k0T)) (k0l 13) (k0H (k4c (k1c k5h (k0f (k0d 2) (k0f (k1g k0V (k0d 0) (k0d 13)) (k0f (k1g k0V (k1g k0V (k0d 4) (k0d 13)) (cI 0)) (k0f (k1g k0V (k1g k0V (k0d 4) (k0d 13)) (cI 1)) (k0f (k0d 1) k0T)))))))
 k1s))
 (k0H (k5A (k0d 2))
 k1s)))))))
noncomputable def k6T:List V→X V:=k3a 2 14 (z1S)
theorem z4A (cok:(mkC w base mg mb d os).Ok):k0n (mkC w base mg mb d os) 6 (.ref 238) (k6T):=by
 refine k1D (rn:=["spaces","most","made","blocks","joins","space","above","sorts","group","roots","block","is_character","size","k"]) (k:=2) cok (f:=238) (fo:=_) (fd:=_) rfl rfl ?hcode rfl rfl rfl rfl (fun vals h=>?hbind) (by decide) (by decide +kernel) ?hkind ?hcn rfl rfl rfl (fun L stack ok=>?body)
 case hcode=>kernel_rfl
 case hbind=>exact ll2 h (fun Y Y=>rfl)
 case hkind=>intro x hx; simp only [List.take,w0c,w0i,or_false] at hx; (refine Or.elim hx (fun yY=>?_) fun yZ=>?_ <;> clear hx; rotate_left; subst yZ; rotate_right; subst yY) <;> first | exact .inl rfl | exact .inr ⟨rfl,rfl⟩
 case hcn=>decide +kernel
 case body =>
  exact (k0c (k0j (k0B ok cok (k0n.fn ok (k0n.less (z5E cok) (by decide))) k0i g_Layout (by kernel_rfl)) (k0h ok 2 rfl))
   (k0c (k0j (k2M cok) (k0h ok 3 rfl))
   (k0c (k0j (k2G cok k0i) (k0h ok 4 rfl))
   (k0c (k1N ok (k1v (k0a ok 0 rfl)) (k0h ok 5 rfl) (k0c (k0j (k2M cok) (k0h ok 6 rfl))
   (k0c (k0j (k0B ok cok (k0n.fn ok (k0n.less (k8W cok) (by decide))) (k0b (k0a ok 5 rfl) (k0b (k0a ok 6 rfl) k0i)) k9J (by kernel_rfl)) (k0h ok 7 rfl))
   (k0c (k1N ok (k1v (k1t cok [101,113,117,105,118,115] rfl (k0a ok 5 rfl) z4v)) (k0h ok 8 rfl) (k0c (k2s (k0B ok cok (k0n.fn ok (k0n.less (z0S cok) (by decide))) (k0b (k0a ok 5 rfl) (k0b (k0a ok 6 rfl) (k0b (k0a ok 8 rfl) k0i))) z1M (by kernel_rfl)))
   k0k))
   (k0c (k0j (k0B ok cok (k0n.fn ok (k0n.less (k9L cok) (by decide))) (k0b (k0a ok 7 rfl) (k0b (k0a ok 6 rfl) k0i)) z0L (by kernel_rfl)) (k0h ok 9 rfl))
   (k0c (k2s (k0B ok cok (k0n.fn ok (k0n.less (k9M cok) (by decide))) (k0b (k0a ok 3 rfl) (k0b (k0a ok 7 rfl) (k0b (k0B ok cok (k0n.fn ok (k0n.less (k9N cok) (by decide))) (k0b (k0a ok 5 rfl) (k0b (k0a ok 6 rfl) (k0b (k0a ok 9 rfl) k0i))) z0M (by kernel_rfl)) k0i))) z0N (by kernel_rfl)))
   (k0c (k2s (k2u (k0a ok 4 rfl) k4e (k0b (k0R (k0b (k0a ok 6 rfl) (k0b (k0a ok 9 rfl) k0i))) k0i) (k4f ok) PySem.F.plainAttrs_list PySem.F.slot_list_append PySem.F.type_list_append))
   k0k)))))))
   (k0c (k1N ok (k1v (k0a ok 3 rfl)) (k0h ok 10 rfl) (k0c (k0j (k0G (k0a ok 3 rfl) (k0a ok 10 rfl) k0F) (k0Z (k0v (k0h ok 11 rfl) (k0v (k0h ok 12 rfl) k1y))))
   (k0c (k0j (k0R (k0b (k0a ok 11 rfl) (k0b (k0B ok cok (k0n.fn ok (k0n.less (k6R cok) (by decide))) (k0b (k0a ok 2 rfl) (k0b (k0a ok 11 rfl) (k0b (k0a ok 12 rfl) (k0b (k0a ok 1 rfl) k0i)))) k7I (by kernel_rfl)) (k0b (k0a ok 12 rfl) k0i)))) (k3b ok (k1t cok [98,108,111,99,107,115] rfl (k0a ok 2 rfl) k4x) (k0a ok 10 rfl)))
   k0k)))
   (k0c (k1N ok (k5f ok cok (k0b (k2i ok cok k6J (k0b (k0a ok 0 rfl) k0i) z0P) k0i) k7p) (k0h ok 13 rfl) (k0c (k2s (k0B ok cok (k0n.fn ok (k0n.less (z2Q cok) (by decide))) (k0b (k0a ok 2 rfl) (k0b (k0G (k0a ok 0 rfl) (k0a ok 13 rfl) k0F) (k0b (k0G (k0G (k0a ok 4 rfl) (k0a ok 13 rfl) k0F) (k0A 0 _ _) k0F) (k0b (k0G (k0G (k0a ok 4 rfl) (k0a ok 13 rfl) k0F) (k0A 1 _ _) k0F) (k0b (k0a ok 1 rfl) k0i))))) z4t (by kernel_rfl)))
   k0k))
   (k0c (k0Y (k0a ok 2 rfl))
   k0k)))))))
noncomputable def k7P:Reg→X (Fl × Reg) :=
 (k0H (k0p (k0d 1) (k6H [110,97,109,101] (k0d 0)))
 (k0H (k0p (k0d 2) (k6H [116,104,105,110,103,115] (k0d 0)))
 (k0H (k0p (k0d 3) (k6H [99,111,109,109,111,110,115] (k0d 0)))
 (k0H (k0p (k0d 4) (k6H [101,113,117,105,118,115] (k0d 0)))
 (k0H (k0p (k0d 5) (k6H [107,101,112,116] (k0d 0)))
 k1s)))))
noncomputable def k5F:List V→X V:=k3a 6 6 (k7P)
theorem z0T (cok:(mkC w base mg mb d os).Ok):k0n (mkC w base mg mb d os) 1 (.ref 100) (k5F):=by
 refine k1D (rn:=["self","name","things","commons","equivs","kept"]) (k:=6) cok (f:=100) (fo:=_) (fd:=_) rfl rfl ?hcode rfl rfl rfl rfl (fun vals h=>?hbind) (by decide) (by decide +kernel) ?hkind ?hcn rfl rfl rfl (fun L stack ok=>?body)
 case hcode=>kernel_rfl
 case hbind=>exact ll6 h (fun Y Y Y Y Y Y=>rfl)
 case hkind=>intro x hx; simp only [List.take,w0c,w0i,or_false] at hx; (refine Or.elim hx (fun yY=>?_) fun yZ=>?_ <;> clear hx; rotate_left; (refine Or.elim yZ ?_ ?_ <;> clear yZ; rotate_left; (intro yZ; refine Or.elim yZ ?_ ?_ <;> clear yZ; rotate_left; (intro yZ; refine Or.elim yZ ?_ ?_ <;> clear yZ; rotate_left; (intro yZ; refine Or.elim yZ ?_ ?_ <;> clear yZ; rotate_left; (intro yZ; subst yZ); rotate_right; (intro yY; subst yY)); rotate_right; (intro yY; subst yY)); rotate_right; (intro yY; subst yY)); rotate_right; (intro yY; subst yY)); rotate_right; subst yY) <;> first | exact .inl rfl | exact .inr ⟨rfl,rfl⟩
 case hcn=>decide +kernel
 case body =>
  exact (k0c (k0j (k0a ok 1 rfl) (k3n ok cok [110,97,109,101] rfl (k0a ok 0 rfl) set_name))
   (k0c (k0j (k0a ok 2 rfl) (k3n ok cok [116,104,105,110,103,115] rfl (k0a ok 0 rfl) z4u))
   (k0c (k0j (k0a ok 3 rfl) (k3n ok cok [99,111,109,109,111,110,115] rfl (k0a ok 0 rfl) z2O))
   (k0c (k0j (k0a ok 4 rfl) (k3n ok cok [101,113,117,105,118,115] rfl (k0a ok 0 rfl) z4w))
   (k0c (k0j (k0a ok 5 rfl) (k3n ok cok [107,101,112,116] rfl (k0a ok 0 rfl) set_kept))
   k0k)))))
noncomputable def z0U:List V→X V:=xMake 0 k5F
theorem ok_Space (cok:(mkC w base mg mb d os).Ok):k0n (mkC w base mg mb d os) 2 (.ref 103) z0U:=z3x cok (c:=0) (by kernel_rfl) (by kernel_rfl) (by kernel_rfl) (z0T cok)
noncomputable def k9a:Reg→X (Fl × Reg) :=
 (k0H (k0p (k4S k0T) (k0l 2))
 (k0H (k5z (k5c (k0d 0)) (k1o 2 (k0q (k0l 3) (k0q (k0l 4) k1n))) (k0H (k0p (k0d 4) (k1o 4 (k0q (k0l 5) (k0q (k0l 6) (k0q (k0l 7) (k0q (k0l 8) k1n))))))
 (k0H (k4c (k5m k3A k3o (k0d 2) (k0f (k1c z0U (k0f (k0d 3) (k0f (k0d 5) (k0f (k0d 6) (k0f (k0d 7) (k0f (k0d 8) k0T)))))) k0T)))
 k1s)))
 (k0H (z2I .lay (k0H (k5A (k1c k6T (k0f (k0d 2) (k0f (k0d 1) k0T))))
 k1s))
 k1s)))
noncomputable def k4G:List V→X V:=k3a 2 9 (k9a)
theorem k7Q (cok:(mkC w base mg mb d os).Ok):k0n (mkC w base mg mb d os) 7 (.ref 282) (k4G):=by
 refine k1D (rn:=["rows","room","spaces","name","unit","things","commons","groups","kept"]) (k:=2) cok (f:=282) (fo:=_) (fd:=_) rfl rfl ?hcode rfl rfl rfl rfl (fun vals h=>?hbind) (by decide) (by decide +kernel) ?hkind ?hcn rfl rfl rfl (fun L stack ok=>?body)
 case hcode=>kernel_rfl
 case hbind=>exact ll2 h (fun Y Y=>rfl)
 case hkind=>intro x hx; simp only [List.take,w0c,w0i,or_false] at hx; (refine Or.elim hx (fun yY=>?_) fun yZ=>?_ <;> clear hx; rotate_left; subst yZ; rotate_right; subst yY) <;> first | exact .inl rfl | exact .inr ⟨rfl,rfl⟩
 case hcn=>decide +kernel
 case body =>
  exact (k0c (k0j (k2G cok k0i) (k0h ok 2 rfl))
   (k0c (k1N ok (k1v (k0a ok 0 rfl)) (k0Z (k0v (k0h ok 3 rfl) (k0v (k0h ok 4 rfl) k1y))) (k0c (k0j (k0a ok 4 rfl) (k0Z (k0v (k0h ok 5 rfl) (k0v (k0h ok 6 rfl) (k0v (k0h ok 7 rfl) (k0v (k0h ok 8 rfl) k1y))))))
   (k0c (k2s (k2u (k0a ok 2 rfl) k4e (k0b (k0B ok cok (k0n.fn ok (k0n.less (ok_Space cok) (by decide))) (k0b (k0a ok 3 rfl) (k0b (k0a ok 5 rfl) (k0b (k0a ok 6 rfl) (k0b (k0a ok 7 rfl) (k0b (k0a ok 8 rfl) k0i))))) g_Space (by kernel_rfl)) k0i) (k4f ok) PySem.F.plainAttrs_list PySem.F.slot_list_append PySem.F.type_list_append))
   k0k)))
   (k0c (z4p ok cok (k1u cok).ok k6K (k0c (k0Y (k0B ok cok (k0n.fn ok (k0n.less (z4A cok) (by decide))) (k0b (k0a ok 2 rfl) (k0b (k0a ok 1 rfl) k0i)) z5B (by kernel_rfl)))
   k0k))
   k0k)))
end
section
variable {w:World} {base:Heap} {mg mb:Str→Option Value} {d:Drawn} {os:OsState}
noncomputable def k9b:Reg→X (Fl × Reg) :=
 (k0H (z2A (k3e (k0f k4J (k0f k8u k0T))) 2 3)
 (k0H (k5z (k5c (k0d 1)) (k1o 2 (k0q (k0l 4) (k0q (k0l 5) k1n))) (k0H (k5z (k5c (cG (.str [65,66,67,68]))) (k0l 6) (k0H (k0p (k1g k0V (k2K [112,108,97,99,101,115] (k0d 0)) (k3e (k0f (k0d 4) (k0f (k0d 6) k0T)))) (k1o 4 (k0q (k0l 7) (k0q (k0l 8) (k0q (k0l 9) (k0q (k0l 10) k1n))))))
 (k0H (k0p (k3e (k0f (k1g xEq (k0d 7) (cG (.int 5))) (k0f (k0d 8) (k0f (k1g k4T (k0d 8) (k1c k3g (k0f (k3e (k0f (k0d 7) (k0f (k0d 9) (k0f (k0d 10) k0T)))) k0T))) k0T)))) (k7Z (k0d 2) (k1g k4T (k0d 4) (k0d 6))))
 k1s)))
 (k0H (k5z (k5c (k3e (k0f (cB false) (k0f (cB true) k0T)))) (k0l 11) (k0H (k0p (k3w xSum (k0f (k3z 1 [11] (k5c (k1g k0V (k2K [99,108,101,97,114,115] (k0d 0)) (k0d 4))) (k0l 0) (k2L xEq (k1g k0V (k0d 0) (cI 0)) (k0d 1)) (k2H (k1g z1u (k1g k0V (k0d 0) (cI 2)) (k1g k0V (k0d 0) (cI 1)))) (.list [])) k0T)) (k7Z (k0d 3) (k3e (k0f (k0d 4) (k0f (k0d 11) k0T)))))
 k1s))
 k1s)))
 (k0H (k5z (k5c (k2K [98,108,111,99,107,115] (k0d 0))) (k0l 12) (k0H (k0p (k1g k0V (k2K [98,108,111,99,107,115] (k0d 0)) (k0d 12)) (k1o 3 (k0q (k0l 11) (k0q (k0l 8) (k0q (k0l 13) k1n)))))
 (k0H (k0p (k3e (k0f (k0d 11) (k0f (k0d 8) (k0f (k1g k4T (k0d 8) (k0d 13)) k0T)))) (k7Z (k0d 2) (k1g k4T (cS [47]) (k0d 12))))
 k1s)))
 (k0H (k0p k8u (k0l 14))
 (k0H (k5z (k5c (k0d 2)) (k0l 6) (k0H (k5z (k5c (k0d 2)) (k0l 15) (k0H (z2A (k3e (k0f (k1g k0V (k0d 2) (k0d 6)) (k0f (k1g k0V (k0d 2) (k0d 15)) k0T))) 16 17)
 (k0H (xIf (z2u (k2L xEq (k1g k0V (k0d 16) (cI 0)) (k1g k0V (k0d 17) (cI 0))) (z2u (k2L xLt (k1g k0V (k0d 16) (cI 1)) (k1g k0V (k0d 17) (cI 2))) (z2u (k2L xLt (k1g k0V (k0d 17) (cI 1)) (k1g k0V (k0d 16) (cI 2))) tT))) (k0H (k0p (k1g z1u (k1g k0V (k0d 17) (cI 1)) (k1g k0V (k0d 16) (cI 1))) (k7Z (k0d 14) (k3e (k0f (k0d 6) (k0f (k0d 15) k0T)))))
 k1s) k1s)
 k1s)))
 k1s))
 (k0H (k5A (k3e (k0f (k2K [110,117,109,101,114,105,99] (k0d 0)) (k0f (k2K [99,104,97,114,97,99,116,101,114,115] (k0d 0)) (k0f (k3z 1 [0] (k5c (k2K [98,108,111,99,107,115] (k0d 0))) (k0l 0) tT (k9X (k0d 0) (k1g k0V (k1g k0V (k2K [98,108,111,99,107,115] (k0d 1)) (k0d 0)) (cI 2))) (.dict [])) (k0f (k0d 3) (k0f (k0d 14) k0T)))))))
 k1s))))))
noncomputable def k3S:List V→X V:=k3a 2 18 (k9b)
theorem k7R (cok:(mkC w base mg mb d os).Ok):k0n (mkC w base mg mb d os) 4 (.ref 287) (k3S):=by
 refine k1D (rn:=["made","rows","spans","lost","name","unit","one","kind","address","length","dims","is_text","block","size","laps","other","a","b"]) (k:=2) cok (f:=287) (fo:=_) (fd:=_) rfl rfl ?hcode rfl rfl rfl rfl (fun vals h=>?hbind) (by decide) (by decide +kernel) ?hkind ?hcn rfl rfl rfl (fun L stack ok=>?body)
 case hcode=>kernel_rfl
 case hbind=>exact ll2 h (fun Y Y=>rfl)
 case hkind=>intro x hx; simp only [List.take,w0c,w0i,or_false] at hx; (refine Or.elim hx (fun yY=>?_) fun yZ=>?_ <;> clear hx; rotate_left; subst yZ; rotate_right; subst yY) <;> first | exact .inl rfl | exact .inr ⟨rfl,rfl⟩
 case hcn=>decide +kernel
 case body =>
  exact (k0c (k8e ok 2 3 (k0R (k0b (k2M cok) (k0b (k7j cok) k0i))) rfl rfl)
   (k0c (k1N ok (k1v (k0a ok 1 rfl)) (k0Z (k0v (k0h ok 4 rfl) (k0v (k0h ok 5 rfl) k1y))) (k0c (k1N ok (k1v (k1G ok cok (.str [65,66,67,68]) k2Q (fun Y Y Y=>.str _ _))) (k0h ok 6 rfl) (k0c (k0j (k0G (k1t cok [112,108,97,99,101,115] rfl (k0a ok 0 rfl) z0g) (k0R (k0b (k0a ok 4 rfl) (k0b (k0a ok 6 rfl) k0i))) k0F) (k0Z (k0v (k0h ok 7 rfl) (k0v (k0h ok 8 rfl) (k0v (k0h ok 9 rfl) (k0v (k0h ok 10 rfl) k1y))))))
   (k0c (k0j (k0R (k0b (k6p (k0a ok 7 rfl) (k1G ok cok (.int 5) k2q (fun Y Y Y=>.int _ _)) (k4U)) (k0b (k0a ok 8 rfl) (k0b (k1b (k0a ok 8 rfl) (k0B ok cok (k0n.fn ok (k0n.less (k5T cok) (by decide))) (k0b (k0R (k0b (k0a ok 7 rfl) (k0b (k0a ok 9 rfl) (k0b (k0a ok 10 rfl) k0i)))) k0i) k6L (by kernel_rfl)) (k2k cok)) k0i)))) (k3b ok (k0a ok 2 rfl) (k1b (k0a ok 4 rfl) (k0a ok 6 rfl) (k2k cok))))
   k0k)))
   (k0c (k1N ok (k1v (k0R (k0b (z3r false _ _) (k0b (z3r true _ _) k0i)))) (k5O ok 11 rfl) (k0c (k0j (k2i ok cok fn_sum (k0b (k2N ok cok (k3y.mk (cl:=[("is_text",L + 2)]) (tn:=["row"]) (idx:=[11]) rfl rfl (by decide +kernel) (by decide +kernel) (fun p hp=>by (simp only [w0c,w0i,or_false] at hp; rcases hp with rfl <;> exact ⟨rfl,rfl⟩)) (fun p hp=>by (simp only [w0c,w0i,or_false] at hp; rcases hp with rfl <;> rfl)) (by show [("row":Str),("is_text":Str)].Nodup; decide +kernel) rfl) (k1v (k0G (k1t cok [99,108,101,97,114,115] rfl (k0a ok 0 rfl) k7q) (k0a ok 4 rfl) k0F)) (fun K ok1=>⟨(k0h ok1 0 rfl),(k8F (k0U (k0G (k0a ok1 0 rfl) (k0A 0 _ _) k0F) (k0a ok1 1 rfl) (k4U))),(k1b (k0G (k0a ok1 0 rfl) (k0A 2 _ _) k0F) (k0G (k0a ok1 0 rfl) (k0A 1 _ _) k0F) (k5e))⟩) (k1V (by decide))) k0i) b_sum) (k3b ok (k0a ok 3 rfl) (k0R (k0b (k0a ok 4 rfl) (k0b (k0a ok 11 rfl) k0i)))))
   k0k))
   k0k)))
   (k0c (k1N ok (k1v (k1t cok [98,108,111,99,107,115] rfl (k0a ok 0 rfl) k4x)) (k0h ok 12 rfl) (k0c (k0j (k0G (k1t cok [98,108,111,99,107,115] rfl (k0a ok 0 rfl) k4x) (k0a ok 12 rfl) k0F) (k0Z (k0v (k5O ok 11 rfl) (k0v (k0h ok 8 rfl) (k0v (k0h ok 13 rfl) k1y)))))
   (k0c (k0j (k0R (k0b (k0a ok 11 rfl) (k0b (k0a ok 8 rfl) (k0b (k1b (k0a ok 8 rfl) (k0a ok 13 rfl) (k2k cok)) k0i)))) (k3b ok (k0a ok 2 rfl) (k1b (k2Z [47] rfl _ _) (k0a ok 12 rfl) (k2k cok))))
   k0k)))
   (k0c (k0j (k7j cok) (k0h ok 14 rfl))
   (k0c (k1N ok (k1v (k0a ok 2 rfl)) (k0h ok 6 rfl) (k0c (k1N ok (k1v (k0a ok 2 rfl)) (k0h ok 15 rfl) (k0c (k8e ok 16 17 (k0R (k0b (k0G (k0a ok 2 rfl) (k0a ok 6 rfl) k0F) (k0b (k0G (k0a ok 2 rfl) (k0a ok 15 rfl) k0F) k0i))) rfl rfl)
   (k0c (k2f (k4r (k4q (k0U (k0G (k0a ok 16 rfl) (k0A 0 _ _) k0F) (k0G (k0a ok 17 rfl) (k0A 0 _ _) k0F) (k4U)) (k4q (k0U (k0G (k0a ok 16 rfl) (k0A 1 _ _) k0F) (k0G (k0a ok 17 rfl) (k0A 2 _ _) k0F) (z1v)) (k4q (k0U (k0G (k0a ok 17 rfl) (k0A 1 _ _) k0F) (k0G (k0a ok 16 rfl) (k0A 2 _ _) k0F) (z1v)) k4K)))) (k0c (k0j (k1b (k0G (k0a ok 17 rfl) (k0A 1 _ _) k0F) (k0G (k0a ok 16 rfl) (k0A 1 _ _) k0F) (k5e)) (k3b ok (k0a ok 14 rfl) (k0R (k0b (k0a ok 6 rfl) (k0b (k0a ok 15 rfl) k0i)))))
   k0k) k0k)
   k0k)))
   k0k))
   (k0c (k0Y (k0R (k0b (k1t cok [110,117,109,101,114,105,99] rfl (k0a ok 0 rfl) k8S) (k0b (k1t cok [99,104,97,114,97,99,116,101,114,115] rfl (k0a ok 0 rfl) k6g) (k0b (k7H ok cok (k3y.mk (cl:=[("made",L + 1)]) (tn:=["block"]) (idx:=[0]) rfl rfl (by decide +kernel) (by decide +kernel) (fun p hp=>by (simp only [w0c,w0i,or_false] at hp; rcases hp with rfl <;> exact ⟨rfl,rfl⟩)) (fun p hp=>by (simp only [w0c,w0i,or_false] at hp; rcases hp with rfl <;> rfl)) (by show [("block":Str),("made":Str)].Nodup; decide +kernel) rfl) (k1v (k1t cok [98,108,111,99,107,115] rfl (k0a ok 0 rfl) k4x)) (fun K ok1=>⟨(k0h ok1 0 rfl),k5C,(k0a ok1 0 rfl),(k0G (k0G (k1t cok [98,108,111,99,107,115] rfl (k0a ok1 1 rfl) k4x) (k0a ok1 0 rfl) k0F) (k0A 2 _ _) k0F)⟩) (k1V (by decide))) (k0b (k0a ok 3 rfl) (k0b (k0a ok 14 rfl) k0i)))))))
   k0k))))))
noncomputable def k9c:Reg→X (Fl × Reg) :=
 (k0H (k0p (k1g k0V (k0d 2) (k1c k0I (k0f (k0d 0) (k0f (k3w z3B (k0f (k0d 2) k0T)) k0T)))) (k0l 3))
 (k0H (k0p (k1g k0V (k0d 1) (k0d 3)) (k1o 3 (k0q (k0l 4) (k0q (k0l 5) (k0q (k0l 6) k1n)))))
 (k0H (k0p (k4S k0T) (k0l 7))
 (k0H (xIf (z2u (k2L xNe (k0d 6) (k3e k0T)) (z2u (k2L xEq (k1c k0I (k0f (k0d 0) (k0f (cI 2) k0T))) (cI 1)) tT)) (k0H (k0p (cIf (k2L xEq (k1c k0I (k0f (k0d 0) (k0f (cI 8) k0T))) (cI 6)) (k4S (k0f (cI 4) k0T)) (k4S (k0f (k1g k4T (cI 1) (k1c k0I (k0f (k0d 0) (k0f (k1g k0V (k1g k0V (k0d 6) (cI 0)) (cI 1)) k0T)))) k0T))) (k0l 7))
 k1s) k1s)
 (k0H (k5A (k3e (k0f (k0d 3) (k0f (k0d 7) (k0f (cIf (k2L xEq (k0d 4) (cG (.int 5))) (k1g k4T (cI 1) (k1c k0I (k0f (k0d 0) (k0f (cI 2) k0T)))) (cI 1)) k0T)))))
 k1s)))))
noncomputable def k3T:List V→X V:=k3a 3 8 (k9c)
theorem k7S (cok:(mkC w base mg mb d os).Ok):k0n (mkC w base mg mb d os) 2 (.ref 260) (k3T):=by
 refine k1D (rn:=["crate","things","among","name","kind","length","dims","subscripts"]) (k:=3) cok (f:=260) (fo:=_) (fd:=_) rfl rfl ?hcode rfl rfl rfl rfl (fun vals h=>?hbind) (by decide) (by decide +kernel) ?hkind ?hcn rfl rfl rfl (fun L stack ok=>?body)
 case hcode=>kernel_rfl
 case hbind=>exact ll3 h (fun Y Y Y=>rfl)
 case hkind=>intro x hx; simp only [List.take,w0c,w0i,or_false] at hx; (refine Or.elim hx (fun yY=>?_) fun yZ=>?_ <;> clear hx; rotate_left; (refine Or.elim yZ ?_ ?_ <;> clear yZ; rotate_left; (intro yZ; subst yZ); rotate_right; (intro yY; subst yY)); rotate_right; subst yY) <;> first | exact .inl rfl | exact .inr ⟨rfl,rfl⟩
 case hcn=>decide +kernel
 case body =>
  exact (k0c (k0j (k0G (k0a ok 2 rfl) (k0B ok cok (k0n.fn ok (k0n.less (k1e cok) (by decide))) (k0b (k0a ok 0 rfl) (k0b (k2i ok cok k6J (k0b (k0a ok 2 rfl) k0i) z0P) k0i)) k1p (by kernel_rfl)) k0F) (k0h ok 3 rfl))
   (k0c (k0j (k0G (k0a ok 1 rfl) (k0a ok 3 rfl) k0F) (k0Z (k0v (k0h ok 4 rfl) (k0v (k0h ok 5 rfl) (k0v (k0h ok 6 rfl) k1y)))))
   (k0c (k0j (k2G cok k0i) (k0h ok 7 rfl))
   (k0c (k2f (k4r (k4q (k0U (k0a ok 6 rfl) (k0R k0i) (k8w)) (k4q (k0U (k0B ok cok (k0n.fn ok (k0n.less (k1e cok) (by decide))) (k0b (k0a ok 0 rfl) (k0b (k0A 2 _ _) k0i)) k1p (by kernel_rfl)) (k0A 1 _ _) (k4U)) k4K))) (k0c (k0j (k3x (k0U (k0B ok cok (k0n.fn ok (k0n.less (k1e cok) (by decide))) (k0b (k0a ok 0 rfl) (k0b (k0A 8 _ _) k0i)) k1p (by kernel_rfl)) (k0A 6 _ _) (k4U)) (k2G cok (k0b (k0A 4 _ _) k0i)) (k2G cok (k0b (k1b (k0A 1 _ _) (k0B ok cok (k0n.fn ok (k0n.less (k1e cok) (by decide))) (k0b (k0a ok 0 rfl) (k0b (k0G (k0G (k0a ok 6 rfl) (k0A 0 _ _) k0F) (k0A 1 _ _) k0F) k0i)) k1p (by kernel_rfl)) (k2k cok)) k0i))) (k0h ok 7 rfl))
   k0k) k0k)
   (k0c (k0Y (k0R (k0b (k0a ok 3 rfl) (k0b (k0a ok 7 rfl) (k0b (k3x (k0U (k0a ok 4 rfl) (k1G ok cok (.int 5) k2q (fun Y Y Y=>.int _ _)) (k4U)) (k1b (k0A 1 _ _) (k0B ok cok (k0n.fn ok (k0n.less (k1e cok) (by decide))) (k0b (k0a ok 0 rfl) (k0b (k0A 2 _ _) k0i)) k1p (by kernel_rfl)) (k2k cok)) (k0A 1 _ _)) k0i)))))
   k0k)))))
noncomputable def k7T:Reg→X (Fl × Reg) :=
 (k0H (k0p (k4S (k0f (k1c k3T (k0f (k0d 0) (k0f (k0d 1) (k0f (cG (.str [65,66,67,68])) k0T)))) k0T)) (k0l 2))
 (k0H (k0p (k1g xEq (k1g k0V (k1g k0V (k0d 1) (k1g k0V (k1g k0V (k0d 2) (cI 0)) (cI 0))) (cI 0)) (cG (.int 5))) (k0l 3))
 (k0H (k0p (k3z 1 [1,3] (k5c (cG (.str [65,66,67,68]))) (k0l 0) (k2L xEq (k1g xEq (k1g k0V (k1g k0V (k0d 1) (k0d 0)) (cI 0)) (cG (.int 5))) (k0d 2)) (k2H (k0d 0)) (.list [])) (k0l 4))
 (k0H (k5z (k5B (k0f (k1g k4T (cI 1) (k1c k0I (k0f (k0d 0) (k0f (cI 2) k0T)))) k0T)) (k0l 5) (k0H (k4c (k5m k3A k3o (k0d 2) (k0f (k1c k3T (k0f (k0d 0) (k0f (k0d 1) (k0f (cIf (k2L xEq (k1c k0I (k0f (k0d 0) (k0f (cI 6) k0T))) (cI 5)) (cG (.str [65,66,67,68])) (k0d 4)) k0T)))) k0T)))
 k1s))
 (k0H (k5A (k0d 2))
 k1s)))))
noncomputable def k4h:List V→X V:=k3a 2 6 (k7T)
theorem z0V (cok:(mkC w base mg mb d os).Ok):k0n (mkC w base mg mb d os) 3 (.ref 265) (k4h):=by
 refine k1D (rn:=["crate","things","row","is_text","alike","turn"]) (k:=2) cok (f:=265) (fo:=_) (fd:=_) rfl rfl ?hcode rfl rfl rfl rfl (fun vals h=>?hbind) (by decide) (by decide +kernel) ?hkind ?hcn rfl rfl rfl (fun L stack ok=>?body)
 case hcode=>kernel_rfl
 case hbind=>exact ll2 h (fun Y Y=>rfl)
 case hkind=>intro x hx; simp only [List.take,w0c,w0i,or_false] at hx; (refine Or.elim hx (fun yY=>?_) fun yZ=>?_ <;> clear hx; rotate_left; subst yZ; rotate_right; subst yY) <;> first | exact .inl rfl | exact .inr ⟨rfl,rfl⟩
 case hcn=>decide +kernel
 case body =>
  exact (k0c (k0j (k2G cok (k0b (k0B ok cok (k0n.fn ok (k0n.less (k7S cok) (by decide))) (k0b (k0a ok 0 rfl) (k0b (k0a ok 1 rfl) (k0b (k1G ok cok (.str [65,66,67,68]) k2Q (fun Y Y Y=>.str _ _)) k0i))) k8P (by kernel_rfl)) k0i)) (k0h ok 2 rfl))
   (k0c (k0j (k6p (k0G (k0G (k0a ok 1 rfl) (k0G (k0G (k0a ok 2 rfl) (k0A 0 _ _) k0F) (k0A 0 _ _) k0F) k0F) (k0A 0 _ _) k0F) (k1G ok cok (.int 5) k2q (fun Y Y Y=>.int _ _)) (k4U)) (k5O ok 3 rfl))
   (k0c (k4L ok cok (k3y.mk (cl:=[("things",L + 1),("is_text",L + 2)]) (tn:=["name"]) (idx:=[1,3]) rfl rfl (by decide +kernel) (by decide +kernel) (fun p hp=>by (simp only [w0c,w0i,or_false] at hp; (refine Or.elim hp (fun yY=>?_) fun yZ=>?_ <;> clear hp; rotate_left; subst yZ; rotate_right; subst yY) <;> exact ⟨rfl,rfl⟩)) (fun p hp=>by (simp only [w0c,w0i,or_false] at hp; (refine Or.elim hp (fun yY=>?_) fun yZ=>?_ <;> clear hp; rotate_left; subst yZ; rotate_right; subst yY) <;> rfl)) (by show [("name":Str),("things":Str),("is_text":Str)].Nodup; decide +kernel) rfl) (k0h ok 4 rfl) (k1v (k1G ok cok (.str [65,66,67,68]) k2Q (fun Y Y Y=>.str _ _))) (fun K ok1=>⟨(k0h ok1 0 rfl),(k8F (k0U (k6p (k0G (k0G (k0a ok1 1 rfl) (k0a ok1 0 rfl) k0F) (k0A 0 _ _) k0F) (k1G ok1 cok (.int 5) k2q (fun Y Y Y=>.int _ _)) (k4U)) (k0a ok1 2 rfl) (k4U))),(k0a ok1 0 rfl)⟩) (k1V (by decide)))
   (k0c (k1N ok (k5f ok cok (k0b (k1b (k0A 1 _ _) (k0B ok cok (k0n.fn ok (k0n.less (k1e cok) (by decide))) (k0b (k0a ok 0 rfl) (k0b (k0A 2 _ _) k0i)) k1p (by kernel_rfl)) (k2k cok)) k0i) k7p) (k0h ok 5 rfl) (k0c (k2s (k2u (k0a ok 2 rfl) k4e (k0b (k0B ok cok (k0n.fn ok (k0n.less (k7S cok) (by decide))) (k0b (k0a ok 0 rfl) (k0b (k0a ok 1 rfl) (k0b (k3x (k0U (k0B ok cok (k0n.fn ok (k0n.less (k1e cok) (by decide))) (k0b (k0a ok 0 rfl) (k0b (k0A 6 _ _) k0i)) k1p (by kernel_rfl)) (k0A 5 _ _) (k4U)) (k1G ok cok (.str [65,66,67,68]) k2Q (fun Y Y Y=>.str _ _)) (k0a ok 4 rfl)) k0i))) k8P (by kernel_rfl)) k0i) (k4f ok) PySem.F.plainAttrs_list PySem.F.slot_list_append PySem.F.type_list_append))
   k0k))
   (k0c (k0Y (k0a ok 2 rfl))
   k0k)))))
noncomputable def k9d:Reg→X (Fl × Reg) :=
 (k0H (z2A (k3e (k0f k4J (k0f (k4S k0T) k0T))) 1 2)
 (k0H (k5z (k5c (cG (.str [65,66,67,68]))) (k0l 3) (k0H (k0p (k1g k0V (k3e (k0f (cG (.int 0)) (k0f (cG (.int 2)) (k0f (cG (.int 5)) (k0f (cG (.int 0)) k0T))))) (k1c k0I (k0f (k0d 0) (k0f (cI 4) k0T)))) (k0l 4))
 (k0H (k0p (cIf (k2L xEq (k0d 4) (cG (.int 5))) (k1g k4T (cI 1) (k1c k0I (k0f (k0d 0) (k0f (cI 3) k0T)))) (cI 0)) (k0l 5))
 (k0H (k0p (k1c k0I (k0f (k0d 0) (k0f (cI 4) k0T))) (k0l 6))
 (k0H (k0p (k3e (k0f (k0d 4) (k0f (k0d 5) (k0f (cIf (k2L xEq (k0d 6) (cI 0)) (k3e k0T) (k3e (k0f (k3e (k0f (cI 1) (k0f (k0d 6) k0T))) k0T))) k0T)))) (k7Z (k0d 1) (k0d 3)))
 k1s)))))
 (k0H (k5z (k5B (k0f (k1c k0I (k0f (k0d 0) (k0f (cI 3) k0T))) k0T)) (k0l 7) (k0H (k0p (k1g k0V (k3e (k0f (cS [88]) (k0f (cS []) k0T))) (k1c k0I (k0f (k0d 0) (k0f (cI 2) k0T)))) (k0l 8))
 (k0H (k4c (k5m k3A k3o (k0d 2) (k0f (k3e (k0f (k0d 8) (k0f (k3z 1 [0] (k5B (k0f (k1g k4T (cI 1) (k1c k0I (k0f (k0d 0) (k0f (cI 2) k0T)))) k0T)) (k0l 0) tT (k2H (k1g k0V (cG (.str [65,66,67,68])) (k1c k0I (k0f (k0d 1) (k0f (cI 4) k0T))))) (.list [])) k0T))) k0T)))
 k1s)))
 (k0H (k0p (k4S k0T) (k0l 9))
 (k0H (k5z (k5B (k0f (k1g k4T (cI 1) (k1c k0I (k0f (k0d 0) (k0f (cI 2) k0T)))) k0T)) (k0l 7) (k0H (k4c (k5m k3A k3o (k0d 9) (k0f (k1c k4h (k0f (k0d 0) (k0f (k0d 1) k0T))) k0T)))
 k1s))
 (k0H (k5A (k3e (k0f (k0d 1) (k0f (k0d 2) (k0f (k0d 9) (k0f (k5g (k4n noEx) (k4S (k0f (cS [65]) (k0f (cS [67]) k0T))) cNo (k7n (k1c k0I (k0f (k0d 0) (k0f (cI 3) k0T)))) cNo) k0T))))))
 k1s))))))
noncomputable def k5q:List V→X V:=k3a 1 10 (k9d)
theorem z1T (cok:(mkC w base mg mb d os).Ok):k0n (mkC w base mg mb d os) 4 (.ref 270) (k5q):=by
 refine k1D (rn:=["crate","things","commons","name","kind","length","many","turn","block","groups"]) (k:=1) cok (f:=270) (fo:=_) (fd:=_) rfl rfl ?hcode rfl rfl rfl rfl (fun vals h=>?hbind) (by decide) (by decide +kernel) ?hkind ?hcn rfl rfl rfl (fun L stack ok=>?body)
 case hcode=>kernel_rfl
 case hbind=>exact ll1 h (fun Y=>rfl)
 case hkind=>intro x hx; simp only [List.take,w0c,w0i,or_false] at hx; rcases hx with rfl <;> first | exact .inl rfl | exact .inr ⟨rfl,rfl⟩
 case hcn=>decide +kernel
 case body =>
  exact (k0c (k8e ok 1 2 (k0R (k0b (k2M cok) (k0b (k2G cok k0i) k0i))) rfl rfl)
   (k0c (k1N ok (k1v (k1G ok cok (.str [65,66,67,68]) k2Q (fun Y Y Y=>.str _ _))) (k0h ok 3 rfl) (k0c (k0j (k0G (k0R (k0b (k1G ok cok (.int 0) z1L (fun Y Y Y=>.int _ _)) (k0b (k1G ok cok (.int 2) z3F (fun Y Y Y=>.int _ _)) (k0b (k1G ok cok (.int 5) k2q (fun Y Y Y=>.int _ _)) (k0b (k1G ok cok (.int 0) z1L (fun Y Y Y=>.int _ _)) k0i))))) (k0B ok cok (k0n.fn ok (k0n.less (k1e cok) (by decide))) (k0b (k0a ok 0 rfl) (k0b (k0A 4 _ _) k0i)) k1p (by kernel_rfl)) k0F) (k0h ok 4 rfl))
   (k0c (k0j (k3x (k0U (k0a ok 4 rfl) (k1G ok cok (.int 5) k2q (fun Y Y Y=>.int _ _)) (k4U)) (k1b (k0A 1 _ _) (k0B ok cok (k0n.fn ok (k0n.less (k1e cok) (by decide))) (k0b (k0a ok 0 rfl) (k0b (k0A 3 _ _) k0i)) k1p (by kernel_rfl)) (k2k cok)) (k0A 0 _ _)) (k0h ok 5 rfl))
   (k0c (k0j (k0B ok cok (k0n.fn ok (k0n.less (k1e cok) (by decide))) (k0b (k0a ok 0 rfl) (k0b (k0A 4 _ _) k0i)) k1p (by kernel_rfl)) (k0h ok 6 rfl))
   (k0c (k0j (k0R (k0b (k0a ok 4 rfl) (k0b (k0a ok 5 rfl) (k0b (k3x (k0U (k0a ok 6 rfl) (k0A 0 _ _) (k4U)) (k0R k0i) (k0R (k0b (k0R (k0b (k0A 1 _ _) (k0b (k0a ok 6 rfl) k0i))) k0i))) k0i)))) (k3b ok (k0a ok 1 rfl) (k0a ok 3 rfl)))
   k0k)))))
   (k0c (k1N ok (k5f ok cok (k0b (k0B ok cok (k0n.fn ok (k0n.less (k1e cok) (by decide))) (k0b (k0a ok 0 rfl) (k0b (k0A 3 _ _) k0i)) k1p (by kernel_rfl)) k0i) k7p) (k0h ok 7 rfl) (k0c (k0j (k0G (k0R (k0b (k2Z [88] rfl _ _) (k0b (k2Z [] rfl _ _) k0i))) (k0B ok cok (k0n.fn ok (k0n.less (k1e cok) (by decide))) (k0b (k0a ok 0 rfl) (k0b (k0A 2 _ _) k0i)) k1p (by kernel_rfl)) k0F) (k0h ok 8 rfl))
   (k0c (k2s (k2u (k0a ok 2 rfl) k4e (k0b (k0R (k0b (k0a ok 8 rfl) (k0b (k2N ok cok (k3y.mk (cl:=[("crate",L + 1)]) (tn:=["one"]) (idx:=[0]) rfl rfl (by decide +kernel) (by decide +kernel) (fun p hp=>by (simp only [w0c,w0i,or_false] at hp; rcases hp with rfl <;> exact ⟨rfl,rfl⟩)) (fun p hp=>by (simp only [w0c,w0i,or_false] at hp; rcases hp with rfl <;> rfl)) (by show [("one":Str),("crate":Str)].Nodup; decide +kernel) rfl) (k5f ok cok (k0b (k1b (k0A 1 _ _) (k0B ok cok (k0n.fn ok (k0n.less (k1e cok) (by decide))) (k0b (k0a ok 0 rfl) (k0b (k0A 2 _ _) k0i)) k1p (by kernel_rfl)) (k2k cok)) k0i) k7p) (fun K ok1=>⟨(k0h ok1 0 rfl),k5C,(k0G (k1G ok1 cok (.str [65,66,67,68]) k2Q (fun Y Y Y=>.str _ _)) (k0B ok1 cok (k0n.fn ok1 (k0n.less (k1e cok) (by decide))) (k0b (k0a ok1 1 rfl) (k0b (k0A 4 _ _) k0i)) k1p (by kernel_rfl)) k0F)⟩) (k1V (by decide))) k0i))) k0i) (k4f ok) PySem.F.plainAttrs_list PySem.F.slot_list_append PySem.F.type_list_append))
   k0k)))
   (k0c (k0j (k2G cok k0i) (k0h ok 9 rfl))
   (k0c (k1N ok (k5f ok cok (k0b (k1b (k0A 1 _ _) (k0B ok cok (k0n.fn ok (k0n.less (k1e cok) (by decide))) (k0b (k0a ok 0 rfl) (k0b (k0A 2 _ _) k0i)) k1p (by kernel_rfl)) (k2k cok)) k0i) k7p) (k0h ok 7 rfl) (k0c (k2s (k2u (k0a ok 9 rfl) k4e (k0b (k0B ok cok (k0n.fn ok (k0n.less (z0V cok) (by decide))) (k0b (k0a ok 0 rfl) (k0b (k0a ok 1 rfl) k0i)) z1O (by kernel_rfl)) k0i) (k4f ok) PySem.F.plainAttrs_list PySem.F.slot_list_append PySem.F.type_list_append))
   k0k))
   (k0c (k0Y (k0R (k0b (k0a ok 1 rfl) (k0b (k0a ok 2 rfl) (k0b (k0a ok 9 rfl) (k0b (k3f (k2G cok (k0b (k2Z [65] rfl _ _) (k0b (k2Z [67] rfl _ _) k0i))) k2t (k4Y (k0B ok cok (k0n.fn ok (k0n.less (k1e cok) (by decide))) (k0b (k0a ok 0 rfl) (k0b (k0A 3 _ _) k0i)) k1p (by kernel_rfl))) k2t (k6f cok k6t (ops:=(fun o i=>[i,o])) (fun Y Y=>rfl))) k0i))))))
   k0k))))))
noncomputable def k6U:Reg→X (Fl × Reg) :=
 (k0H (k0p (k0d 0) (k1o 4 (k0q (k0l 2) (k0q (k0l 3) (k0q (k0l 4) (k0q (k0l 5) k1n))))))
 (k0H (k0p (k1g k4T (k3z 1 [] (k5c (k0d 3)) (k0l 0) (k2L xEq (k1g k0V (k0d 0) (cI 0)) (cS [])) (k2H (k0d 0)) (.list [])) (k3z 1 [] (k5c (k0d 3)) (k0l 0) (k2L xEq (k1g k0V (k0d 0) (cI 0)) (cS [88])) (k2H (k0d 0)) (.list []))) (k0l 6))
 (k0H (k0p (k3z 1 [1] (k5c (k5g (k4n noEx) (k0d 4) cNo cNo (k7n (cI (-1))))) (k0l 0) tT (k2H (k1g k4T (k5g (k4n noEx) (k0d 0) (k7n (k1g xMod (k0d 1) (k3w z3B (k0f (k0d 0) k0T)))) cNo cNo) (k5g (k4n noEx) (k0d 0) cNo (k7n (k1g xMod (k0d 1) (k3w z3B (k0f (k0d 0) k0T)))) cNo))) (.list [])) (k0l 7))
 (k0H (k5A (k3e (k0f (k3z 1 [2] (k5c (k5g (k4n noEx) (cG (.str [65,66,67,68])) cNo cNo (k7n (cI (-1))))) (k0l 0) tT (k9X (k0d 0) (k1g k0V (k0d 1) (k0d 0))) (.dict [])) (k0f (k0d 6) (k0f (k0d 7) (k0f (k5g (k4n noEx) (k0d 5) cNo cNo (k7n (cI (-1)))) k0T))))))
 k1s))))
noncomputable def k4s:List V→X V:=k3a 2 8 (k6U)
theorem k9O (cok:(mkC w base mg mb d os).Ok):k0n (mkC w base mg mb d os) 1 (.ref 275) (k4s):=by
 refine k1D (rn:=["unit","by","things","commons","groups","kept","others","ties"]) (k:=2) cok (f:=275) (fo:=_) (fd:=_) rfl rfl ?hcode rfl rfl rfl rfl (fun vals h=>?hbind) (by decide) (by decide +kernel) ?hkind ?hcn rfl rfl rfl (fun L stack ok=>?body)
 case hcode=>kernel_rfl
 case hbind=>exact ll2 h (fun Y Y=>rfl)
 case hkind=>intro x hx; simp only [List.take,w0c,w0i,or_false] at hx; (refine Or.elim hx (fun yY=>?_) fun yZ=>?_ <;> clear hx; rotate_left; subst yZ; rotate_right; subst yY) <;> first | exact .inl rfl | exact .inr ⟨rfl,rfl⟩
 case hcn=>decide +kernel
 case body =>
  exact (k0c (k0j (k0a ok 0 rfl) (k0Z (k0v (k5O ok 2 rfl) (k0v (k0h ok 3 rfl) (k0v (k0h ok 4 rfl) (k0v (k0h ok 5 rfl) k1y))))))
   (k0c (k0j (k1b (k2N ok cok (k3y.mk (cl:=[]) (tn:=["row"]) (idx:=[]) rfl rfl (by decide +kernel) (by decide +kernel) (fun p hp=>by simp at hp) (fun p hp=>by simp at hp) (by show [("row":Str)].Nodup; decide +kernel) rfl) (k1v (k0a ok 3 rfl)) (fun K ok1=>⟨(k0h ok1 0 rfl),(k8F (k0U (k0G (k0a ok1 0 rfl) (k0A 0 _ _) k0F) (k2Z [] rfl _ _) (k4U))),(k0a ok1 0 rfl)⟩) (k1V (by decide))) (k2N ok cok (k3y.mk (cl:=[]) (tn:=["row"]) (idx:=[]) rfl rfl (by decide +kernel) (by decide +kernel) (fun p hp=>by simp at hp) (fun p hp=>by simp at hp) (by show [("row":Str)].Nodup; decide +kernel) rfl) (k1v (k0a ok 3 rfl)) (fun K ok1=>⟨(k0h ok1 0 rfl),(k8F (k0U (k0G (k0a ok1 0 rfl) (k0A 0 _ _) k0F) (k2Z [88] rfl _ _) (k4U))),(k0a ok1 0 rfl)⟩) (k1V (by decide))) (k2k cok)) (k0h ok 6 rfl))
   (k0c (k4L ok cok (k3y.mk (cl:=[("by",L + 1)]) (tn:=["group"]) (idx:=[1]) rfl rfl (by decide +kernel) (by decide +kernel) (fun p hp=>by (simp only [w0c,w0i,or_false] at hp; rcases hp with rfl <;> exact ⟨rfl,rfl⟩)) (fun p hp=>by (simp only [w0c,w0i,or_false] at hp; rcases hp with rfl <;> rfl)) (by show [("group":Str),("by":Str)].Nodup; decide +kernel) rfl) (k0h ok 7 rfl) (k1v (k3f (k0a ok 4 rfl) k2t k2t (k4Y (z0K 1 _ _ _)) (k6f cok k6t (ops:=(fun o i=>[o,i])) (fun Y Y=>rfl)))) (fun K ok1=>⟨(k0h ok1 0 rfl),k5C,(k1b (k3f (k0a ok1 0 rfl) (k4Y (k1b (k0a ok1 1 rfl) (k2i ok1 cok k6J (k0b (k0a ok1 0 rfl) k0i) z0P) (z4W))) k2t k2t (k6f cok k6t (ops:=(fun o i=>[i,o])) (fun Y Y=>rfl))) (k3f (k0a ok1 0 rfl) k2t (k4Y (k1b (k0a ok1 1 rfl) (k2i ok1 cok k6J (k0b (k0a ok1 0 rfl) k0i) z0P) (z4W))) k2t (k6f cok k6t (ops:=(fun o i=>[i,o])) (fun Y Y=>rfl))) (k2k cok))⟩) (k1V (by decide)))
   (k0c (k0Y (k0R (k0b (k7H ok cok (k3y.mk (cl:=[("things",L + 2)]) (tn:=["name"]) (idx:=[2]) rfl rfl (by decide +kernel) (by decide +kernel) (fun p hp=>by (simp only [w0c,w0i,or_false] at hp; rcases hp with rfl <;> exact ⟨rfl,rfl⟩)) (fun p hp=>by (simp only [w0c,w0i,or_false] at hp; rcases hp with rfl <;> rfl)) (by show [("name":Str),("things":Str)].Nodup; decide +kernel) rfl) (k1v (k3f (k1G ok cok (.str [65,66,67,68]) k2Q (fun Y Y Y=>.str _ _)) k2t k2t (k4Y (z0K 1 _ _ _)) (k6f cok k6t (ops:=(fun o i=>[o,i])) (fun Y Y=>rfl)))) (fun K ok1=>⟨(k0h ok1 0 rfl),k5C,(k0a ok1 0 rfl),(k0G (k0a ok1 1 rfl) (k0a ok1 0 rfl) k0F)⟩) (k1V (by decide))) (k0b (k0a ok 6 rfl) (k0b (k0a ok 7 rfl) (k0b (k3f (k0a ok 5 rfl) k2t k2t (k4Y (z0K 1 _ _ _)) (k6f cok k6t (ops:=(fun o i=>[o,i])) (fun Y Y=>rfl))) k0i))))))
   k0k))))
noncomputable def c_law (a:Nat) (xs:List V):Reg→X (Fl × Reg) :=
 (k0H (k0p (z5x [114,111,119] [97,116] (k5g (k4n (exL a xs)) (k0d 0) cNo (k7n (cI 60)) cNo) (cI 0)) (k0l 1))
 (k0H (k0p (k3z 1 [1] (k5c (k5g (k4n (exL a xs)) (k3e (k0f (cS [85]) (k0f (cS [86]) k0T))) cNo (k7n (k1g k4T (cI 1) (k1c k0I (k0f (k0d 1) (k0f (cI 2) k0T))))) cNo)) (k0l 0) tT (k2H (k3e (k0f (k0d 0) (k0f (k1c k5q (k0f (k0d 1) k0T)) k0T)))) (.list [])) (k0l 2))
 (k0H (k0p (k1c k0I (k0f (k0d 1) (k0f (cI 3) k0T))) (k0l 3))
 (k0H (k0p (cIf (k2L xEq (k1c k0I (k0f (k0d 1) (k0f (cI 4) k0T))) (cI 3)) (cI 12) (cI 200)) (k0l 4))
 (k0H (k0p (k3z 2 [3] (k5c (k5g (k4n (exL a xs)) (k0d 2) cNo cNo (k7n (cI (-1))))) (k1o 2 (k0q (k0l 0) (k0q (k0l 1) k1n))) tT (k2H (k3e (k0f (k0d 0) (k0f (k1c k4s (k0f (k0d 1) (k0f (k0d 2) k0T))) k0T)))) (.list [])) (k0l 5))
 (k0H (z2A (k3e (k0f (k1c k4G (k0f (k0d 2) (k0f (k0d 4) k0T))) (k0f (k1c k4G (k0f (k0d 5) (k0f (k0d 4) k0T))) k0T))) 6 7)
 (k0H (xIf (tOr (k2L xIs (k0d 6) k8o) (tOr (k2L xIs (k0d 7) k8o) tF)) (k0H (k5A (cAnd2 (k1g xIs (k0d 6) k8o) (k1g xIs (k0d 7) k8o)))
 k1s) k1s)
 (k0H (k5A (k1g xTold (k1c k3S (k0f (k0d 6) (k0f (k0d 2) k0T))) (k1c k3S (k0f (k0d 7) (k0f (k0d 5) k0T)))))
 k1s))))))))
noncomputable def f_law (a:Nat) (xs:List V):List V→X V:=k3a 1 8 (c_law a xs)
theorem ok_law (cok:(mkC w base mg mb d os).Ok) {a:Nat} {xs:List V} (hex:ExtOk (mkC w base mg mb d os) (exL a xs)):k0n (mkC w base mg mb d os) 8 (.ref 292) (f_law a xs):=by
 refine k1D (rn:=["script","crate","rows","by","room","others","made","turned"]) (k:=1) cok (f:=292) (fo:=_) (fd:=_) rfl rfl ?hcode rfl rfl rfl rfl (fun vals h=>?hbind) (by decide) (by decide +kernel) ?hkind ?hcn rfl rfl rfl (fun L stack ok=>?body)
 case hcode=>kernel_rfl
 case hbind=>exact ll1 h (fun Y=>rfl)
 case hkind=>intro x hx; simp only [List.take,w0c,w0i,or_false] at hx; rcases hx with rfl <;> first | exact .inl rfl | exact .inr ⟨rfl,rfl⟩
 case hcn=>decide +kernel
 case body =>
  exact (k0c (k0j (z5y ok cok (k1:=[114,111,119]) (k2:=[97,116]) rfl rfl (by decide) (k3f (k0a ok 0 rfl) k2t (k4Y (k0A 60 _ _)) k2t (k6f cok hex (ops:=(fun o i=>[i,o])) (fun Y Y=>rfl))) (k0A 0 _ _)) (k5O ok 1 rfl))
   (k0c (k4L ok cok (k3y.mk (cl:=[("crate",L + 1)]) (tn:=["name"]) (idx:=[1]) rfl rfl (by decide +kernel) (by decide +kernel) (fun p hp=>by (simp only [w0c,w0i,or_false] at hp; rcases hp with rfl <;> exact ⟨rfl,rfl⟩)) (fun p hp=>by (simp only [w0c,w0i,or_false] at hp; rcases hp with rfl <;> rfl)) (by show [("name":Str),("crate":Str)].Nodup; decide +kernel) rfl) (k0h ok 2 rfl) (k1v (k3f (k0R (k0b (k2Z [85] rfl _ _) (k0b (k2Z [86] rfl _ _) k0i))) k2t (k4Y (k1b (k0A 1 _ _) (k0B ok cok (k0n.fn ok (k0n.less (k1e cok) (by decide))) (k0b (k0a ok 1 rfl) (k0b (k0A 2 _ _) k0i)) k1p (by kernel_rfl)) (k2k cok))) k2t (k6f cok hex (ops:=(fun o i=>[i,o])) (fun Y Y=>rfl)))) (fun K ok1=>⟨(k0h ok1 0 rfl),k5C,(k0R (k0b (k0a ok1 0 rfl) (k0b (k0B ok1 cok (k0n.fn ok1 (k0n.less (z1T cok) (by decide))) (k0b (k0a ok1 1 rfl) k0i) z2L (by kernel_rfl)) k0i)))⟩) (k1V (by decide)))
   (k0c (k0j (k0B ok cok (k0n.fn ok (k0n.less (k1e cok) (by decide))) (k0b (k0a ok 1 rfl) (k0b (k0A 3 _ _) k0i)) k1p (by kernel_rfl)) (k5O ok 3 rfl))
   (k0c (k0j (k3x (k0U (k0B ok cok (k0n.fn ok (k0n.less (k1e cok) (by decide))) (k0b (k0a ok 1 rfl) (k0b (k0A 4 _ _) k0i)) k1p (by kernel_rfl)) (k0A 3 _ _) (k4U)) (k0A 12 _ _) (k0A 200 _ _)) (k0h ok 4 rfl))
   (k0c (k4L ok cok (k3y.mk (cl:=[("by",L + 2)]) (tn:=["name","unit"]) (idx:=[3]) rfl rfl (by decide +kernel) (by decide +kernel) (fun p hp=>by (simp only [w0c,w0i,or_false] at hp; rcases hp with rfl <;> exact ⟨rfl,rfl⟩)) (fun p hp=>by (simp only [w0c,w0i,or_false] at hp; rcases hp with rfl <;> rfl)) (by show [("name":Str),("unit":Str),("by":Str)].Nodup; decide +kernel) rfl) (k0h ok 5 rfl) (k1v (k3f (k0a ok 2 rfl) k2t k2t (k4Y (z0K 1 _ _ _)) (k6f cok hex (ops:=(fun o i=>[o,i])) (fun Y Y=>rfl)))) (fun K ok1=>⟨(k0Z (k0v (k0h ok1 0 rfl) (k0v (k0h ok1 1 rfl) k1y))),k5C,(k0R (k0b (k0a ok1 0 rfl) (k0b (k0B ok1 cok (k0n.fn ok1 (k0n.less (k9O cok) (by decide))) (k0b (k0a ok1 1 rfl) (k0b (k0a ok1 2 rfl) k0i)) z0O (by kernel_rfl)) k0i)))⟩) (k5R (k4d (k1V (by decide)) (k4d (k1V (by decide)) k8f))))
   (k0c (k8e ok 6 7 (k0R (k0b (k0B ok cok (k0n.fn ok (k0n.less (k7Q cok) (by decide))) (k0b (k0a ok 2 rfl) (k0b (k0a ok 4 rfl) k0i)) k8Q (by kernel_rfl)) (k0b (k0B ok cok (k0n.fn ok (k0n.less (k7Q cok) (by decide))) (k0b (k0a ok 5 rfl) (k0b (k0a ok 4 rfl) k0i)) k8Q (by kernel_rfl)) k0i))) rfl rfl)
   (k0c (k2f (k4r (k4V (k0U (k0a ok 6 rfl) (k4p _ _) (z4a)) (k4V (k0U (k0a ok 7 rfl) (k4p _ _) (z4a)) k4C))) (k0c (k0Y (eok_and2 (k6p (k0a ok 6 rfl) (k4p _ _) (z4a)) (k6p (k0a ok 7 rfl) (k4p _ _) (z4a))))
   k0k) k0k)
   (k0c (k0Y (k6p (k0B ok cok (k0n.fn ok (k0n.less (k7R cok) (by decide))) (k0b (k0a ok 6 rfl) (k0b (k0a ok 2 rfl) k0i)) k8R (by kernel_rfl)) (k0B ok cok (k0n.fn ok (k0n.less (k7R cok) (by decide))) (k0b (k0a ok 7 rfl) (k0b (k0a ok 5 rfl) k0i)) k8R (by kernel_rfl)) (op_told)))
   k0k))))))))
end
@[simp] theorem tryK_ok (x:Ex) (Q:Po (Fl × Reg)) (p:Fl × Reg) (h:Hp):tryK x Q (.ok p) h = Q (.ok p) h:=rfl
@[simp] theorem tryK_err (x y:Ex) (Q:Po (Fl × Reg)) (h:Hp):tryK x Q (.error y) h = (y = x∧Q (.ok (.ret .none,[])) h):=rfl
@[simp] theorem tryrK_ok (Q:Po (Fl × Reg)) (p:Fl × Reg) (h:Hp):z5v Q (.ok p) h = Q (.ok p) h:=rfl
@[simp] theorem tryrK_err (y:Ex) (Q:Po (Fl × Reg)) (h:Hp):z5v Q (.error y) h = (y = .run∧Q (.error .lay) h):=rfl
@[simp] theorem k2F (Q:Po V) (v:V) (reg:Reg) (h:Hp):clK Q (.ok (.ret v,reg)) h = Q (.ok v) h:=rfl
@[simp] theorem k4N (Q:Po V) (reg:Reg) (h:Hp):clK Q (.ok (.next,reg)) h = Q (.ok .none) h:=rfl
@[simp] theorem k3G (Q:Po V) (e:Ex) (h:Hp):clK Q (.error e) h = Q (.error e) h:=rfl
@[simp] theorem k0s (i:Nat) (reg:Reg) (Q:Po V) (h:Hp):wp (k0d i reg) Q h = oK ((reg[i]?).join) (fun v=>Q (.ok v) h):=rfl
@[simp] theorem k0x (i:Nat) (v:V) (reg:Reg) (Q:Po Reg) (h:Hp):wp (k0l i v reg) Q h = Q (.ok (reg.set i (some v))) h:=rfl
noncomputable def asgK (ts:List V→Reg→X Reg) (r:List V) (Q:Po Reg):Po Reg:=bK (fun reg'=>ts r reg') Q
@[simp] theorem k1H (reg:Reg) (Q:Po Reg) (h:Hp):wp (k1n [] reg) Q h = Q (.ok reg) h:=rfl
@[simp] theorem k1w (c:V→Reg→X Reg) (ts:List V→Reg→X Reg) (v:V) (r:List V) (reg:Reg) (Q:Po Reg) (h:Hp) :
  wp (k0q c ts (v :: r) reg) Q h = wp (c v reg) (asgK ts r Q) h:=rfl
@[simp] theorem k2j (ts:List V→Reg→X Reg) (r:List V) (Q:Po Reg) (reg:Reg) (h:Hp):asgK ts r Q (.ok reg) h = wp (ts r reg) Q h:=rfl
@[simp] theorem k1I (k:Nat) (ts:List V→Reg→X Reg) (vs:List V) (reg:Reg) (Q:Po Reg) (h:Hp):wp (k1o k ts (.tup vs) reg) Q h = (vs.length = k∧wp (ts vs reg) Q h):=rfl
noncomputable def sK (d:Reg→X (Fl × Reg)) (Q:Po (Fl × Reg)):Po (Fl × Reg):=bK (fun p=>match p.1 with
 | .next=>d p.2
 | _=>Pure.pure p) Q
@[simp] theorem k0L (c d:Reg→X (Fl × Reg)) (reg:Reg) (Q:Po (Fl × Reg)) (h:Hp):wp (k0H c d reg) Q h = wp (c reg) (sK d Q) h:=rfl
@[simp] theorem k0o (d:Reg→X (Fl × Reg)) (Q:Po (Fl × Reg)) (reg:Reg) (h:Hp):sK d Q (.ok (.next,reg)) h = wp (d reg) Q h:=rfl
@[simp] theorem k3O (d:Reg→X (Fl × Reg)) (Q:Po (Fl × Reg)) (v:V) (reg:Reg) (h:Hp):sK d Q (.ok (.ret v,reg)) h = Q (.ok (.ret v,reg)) h:=rfl
@[simp] theorem sK_cont (d:Reg→X (Fl × Reg)) (Q:Po (Fl × Reg)) (reg:Reg) (h:Hp):sK d Q (.ok (.cont,reg)) h = Q (.ok (.cont,reg)) h:=rfl
@[simp] theorem k2l (d:Reg→X (Fl × Reg)) (Q:Po (Fl × Reg)) (e:Ex) (h:Hp):sK d Q (.error e) h = Q (.error e) h:=rfl
@[simp] theorem k1Q (reg:Reg) (Q:Po (Fl × Reg)) (h:Hp):wp (k1s reg) Q h = Q (.ok (.next,reg)) h:=rfl
noncomputable def aK (t:V→Reg→X Reg) (reg:Reg) (Q:Po (Fl × Reg)):Po V:=bK (fun v=>t v reg >>= fun reg'=>Pure.pure (.next,reg')) Q
noncomputable def nK (Q:Po (Fl × Reg)):Po Reg:=bK (fun reg'=>Pure.pure (.next,reg')) Q
@[simp] theorem k0y (c:Reg→X V) (t:V→Reg→X Reg) (reg:Reg) (Q:Po (Fl × Reg)) (h:Hp):wp (k0p c t reg) Q h = wp (c reg) (aK t reg Q) h:=rfl
@[simp] theorem k1q (t:V→Reg→X Reg) (reg:Reg) (Q:Po (Fl × Reg)) (v:V) (h:Hp):aK t reg Q (.ok v) h = wp (t v reg) (nK Q) h:=rfl
@[simp] theorem z1U (t:V→Reg→X Reg) (reg:Reg) (Q:Po (Fl × Reg)) (e:Ex) (h:Hp):aK t reg Q (.error e) h = Q (.error e) h:=rfl
@[simp] theorem k1r (Q:Po (Fl × Reg)) (reg:Reg) (h:Hp):nK Q (.ok reg) h = Q (.ok (.next,reg)) h:=rfl
@[simp] theorem nK_err (Q:Po (Fl × Reg)) (e:Ex) (h:Hp):nK Q (.error e) h = Q (.error e) h:=rfl
noncomputable def swK (i j:Nat) (reg:Reg) (Q:Po (Fl × Reg)):Po V:=bK (onTup (args2 fun a b=>Pure.pure (.next,(reg.set j (some b)).set i (some a)))) Q
@[simp] theorem z3I (c:Reg→X V) (i j:Nat) (reg:Reg) (Q:Po (Fl × Reg)) (h:Hp):wp (z2A c i j reg) Q h = wp (c reg) (swK i j reg Q) h:=rfl
@[simp] theorem z1V (i j:Nat) (reg:Reg) (Q:Po (Fl × Reg)) (a b:V) (h:Hp):swK i j reg Q (.ok (.tup [a,b])) h = Q (.ok (.next,(reg.set j (some b)).set i (some a))) h:=rfl
@[simp] theorem swK_err (i j:Nat) (reg:Reg) (Q:Po (Fl × Reg)) (e:Ex) (h:Hp):swK i j reg Q (.error e) h = Q (.error e) h:=rfl
@[simp] theorem q_aug (i:Nat) (c:Reg→X V) (f:V→V→X V) (reg:Reg) (Q:Po (Fl × Reg)) (h:Hp) :
  wp (xAug i c f reg) Q h = wp (k0d i reg) (bK (fun a=>c reg >>= fun b=>f a b >>= fun v=>Pure.pure (Fl.next,reg.set i (some v))) Q) h:=rfl
@[simp] theorem z0W (ct:Reg→X Bool) (cb co:Reg→X (Fl × Reg)) (reg:Reg) (Q:Po (Fl × Reg)) (h:Hp):wp (xIf ct cb co reg) Q h = wp (ct reg) (bK (fun x=>if x then cb reg else co reg) Q) h:=rfl
@[simp] theorem k6v (c:Reg→X V) (reg:Reg) (Q:Po (Fl × Reg)) (h:Hp):wp (k5A c reg) Q h = wp (c reg) (rK (fun v=>(Fl.ret v,reg)) Q) h:=rfl
@[simp] theorem q_cont (reg:Reg) (Q:Po (Fl × Reg)) (h:Hp):wp (xCont reg) Q h = Q (.ok (.cont,reg)) h:=rfl
@[simp] theorem k3P (c:Reg→X V) (reg:Reg) (Q:Po (Fl × Reg)) (h:Hp):wp (k4c c reg) Q h = wp (c reg) (rK (fun Y=>(Fl.next,reg)) Q) h:=rfl
@[simp] theorem k5r (x:Ex) (reg:Reg) (Q:Po (Fl × Reg)) (h:Hp):wp (k3N x reg) Q h = Q (.error x) h:=rfl
@[simp] theorem q_tryRet (x:Ex) (cb:Reg→X (Fl × Reg)) (reg:Reg) (Q:Po (Fl × Reg)) (h:Hp):wp (z2I x cb reg) Q h = wp (cb reg) (tryK x Q) h:=rfl
@[simp] theorem q_tryRaise (cb:Reg→X (Fl × Reg)) (reg:Reg) (Q:Po (Fl × Reg)) (h:Hp):wp (k8J cb reg) Q h = wp (cb reg) (z5v Q) h:=rfl
theorem z5F {α:Type} (c:X α) (Q:Po α) (h:Hp):wp (k4X c) Q h = wp c (okK Q) h:=rfl
section
variable (reg:Reg) (Q:Po V) (h:Hp)
@[simp] theorem z5G:wp (k8o reg) Q h = Q (.ok .none) h:=rfl
@[simp] theorem k4k (i:Int):wp (cI i reg) Q h = Q (.ok (.int i)) h:=rfl
@[simp] theorem q_cB (b:Bool):wp (cB b reg) Q h = Q (.ok (.bool b)) h:=rfl
@[simp] theorem q_cS (t:List Nat):wp (cS t reg) Q h = Q (.ok (.str t)) h:=rfl
@[simp] theorem z4B (v:V):wp (cG v reg) Q h = Q (.ok v) h:=rfl
@[simp] theorem k1i (f:V→V→X V) (cl cr:Reg→X V):wp (k1g f cl cr reg) Q h = wp (cl reg) (bK (fun a=>cr reg >>= fun b=>f a b) Q) h:=rfl
@[simp] theorem q_cAnd2 (ca cb:Reg→X V):wp (cAnd2 ca cb reg) Q h = wp (ca reg) (bK (fun v=>k7D v >>= fun t=>if t then cb reg else Pure.pure v) Q) h:=rfl
@[simp] theorem z0X (ct:Reg→X Bool) (cb co:Reg→X V):wp (cIf ct cb co reg) Q h = wp (ct reg) (bK (fun x=>if x then cb reg else co reg) Q) h:=rfl
@[simp] theorem k0C (Q:Po (List V)):wp (k0T reg) Q h = Q (.ok []) h:=rfl
@[simp] theorem k0z (c:Reg→X V) (d:Reg→X (List V)) (Q:Po (List V)):wp (k0f c d reg) Q h = wp (c reg) (coK d reg Q) h:=rfl
@[simp] theorem k0E (d:Reg→X (List V)) (Q:Po (List V)) (v:V):coK d reg Q (.ok v) h = wp (d reg) (rK (v :: ·) Q) h:=rfl
@[simp] theorem z2R (d:Reg→X (List V)) (Q:Po (List V)) (e:Ex):coK d reg Q (.error e) h = Q (.error e) h:=rfl
@[simp] theorem k2h (c:Reg→X (List V)):wp (k3e c reg) Q h = wp (c reg) (rK V.tup Q) h:=rfl
@[simp] theorem k3U (c:Reg→X (List V)):wp (k4S c reg) Q h = wp (c reg) (bK (fun vs=>k3r (.list vs)) Q) h:=rfl
@[simp] theorem k3H (o:O):wp (k3r o) Q h = Q (.ok (.loc h.length)) (h ++ [o]):=rfl
@[simp] theorem k3Z:wp (k4J reg) Q h = Q (.ok (.loc h.length)) (h ++ [.dict []]):=rfl
@[simp] theorem k9e:wp (k8u reg) Q h = Q (.ok (.loc h.length)) (h ++ [.tdict []]):=rfl
@[simp] theorem k2v (name:List Nat) (c:Reg→X V):wp (k2K name c reg) Q h = wp (c reg) (bK (fun o=>k7l name o) Q) h:=rfl
@[simp] theorem k9f (Q:Po (Option Int)):wp (cNo reg) Q h = Q (.ok none) h:=rfl
@[simp] theorem k4t (f:V→Option Int→Option Int→Option Int→X V) (co:Reg→X V) (cl cu cs:Reg→X (Option Int)) :
  wp (k5g f co cl cu cs reg) Q h = wp (co reg) (bK (fun a=>cl reg >>= fun lo=>cu reg >>= fun hi=>cs reg >>= fun st=>f a lo hi st) Q) h:=rfl
@[simp] theorem k4l (chk:V→X Unit) (g:List V→X V) (co:Reg→X V) (ca:Reg→X (List V)):wp (k5m chk g co ca reg) Q h = wp (co reg) (bK (fun r=>chk r >>= fun Y=>ca reg >>= fun vs=>g (r :: vs)) Q) h:=rfl
noncomputable def caK (g:List V→X V) (Q:Po V):Po (List V):=bK g Q
@[simp] theorem k0K (g:List V→X V) (ca:Reg→X (List V)):wp (k1c g ca reg) Q h = wp (ca reg) (caK g Q) h:=rfl
@[simp] theorem k0D (g:List V→X V) (ca:Reg→X (List V)):wp (k3w g ca reg) Q h = wp (ca reg) (caK (fun vs=>g vs) Q) h:=rfl
@[simp] theorem k0W (g:List V→X V) (vs:List V):caK g Q (.ok vs) h = wp (g vs) Q h:=rfl
@[simp] theorem z5H (g:List V→X V) (e:Ex):caK g Q (.error e) h = Q (.error e) h:=rfl
@[simp] theorem k2a (f:V→V→X V) (cl cr:Reg→X V) (Q:Po Bool):wp (k2L f cl cr reg) Q h = wp (cl reg) (bK (fun a=>cr reg >>= fun b=>f a b >>= fun v=>k7D v) Q) h:=rfl
@[simp] theorem z1W (c d:Reg→X Bool) (Q:Po Bool):wp (z2u c d reg) Q h = wp (c reg) (bK (fun b=>if b then d reg else Pure.pure false) Q) h:=rfl
@[simp] theorem q_tOr (c d:Reg→X Bool) (Q:Po Bool):wp (tOr c d reg) Q h = wp (c reg) (bK (fun b=>if b then Pure.pure true else d reg) Q) h:=rfl
@[simp] theorem q_tT (Q:Po Bool):wp (tT reg) Q h = Q (.ok true) h:=rfl
@[simp] theorem q_tF (Q:Po Bool):wp (tF reg) Q h = Q (.ok false) h:=rfl
@[simp] theorem q_tVal (c:Reg→X V) (Q:Po Bool):wp (tVal c reg) Q h = wp (c reg) (bK (fun v=>k7D v) Q) h:=rfl
@[simp] theorem k6V (ca:Reg→X (List V)) (Q:Po It):wp (k5B ca reg) Q h = wp (ca reg) (bK (fun vs=>z5h vs) Q) h:=rfl
@[simp] theorem k2d (c:Reg→X V) (Q:Po It):wp (k5c c reg) Q h = wp (c reg) (bK (fun v=>z5g v) Q) h:=rfl
@[simp] theorem k4H (co ci:Reg→X V) (v:V) (Q:Po Reg):wp (k7Z co ci v reg) Q h = wp (co reg) (bK (fun a=>ci reg >>= fun b=>xPut a b v >>= fun Y=>Pure.pure reg) Q) h:=rfl
@[simp] theorem k4Z (name:List Nat) (co:Reg→X V) (v:V) (Q:Po Reg):wp (k6H name co v reg) Q h = wp (co reg) (bK (fun a=>k6G name a v >>= fun Y=>Pure.pure reg) Q) h:=rfl
@[simp] theorem k2B (ci:Reg→X It) (ct:V→Reg→X Reg) (cb:Reg→X (Fl × Reg)) (Q:Po (Fl × Reg)):wp (k5z ci ct cb reg) Q h = wp (ci reg) (bK (fun it=>k8b ct cb it 64 0 reg) Q) h:=rfl
@[simp] theorem k6W (c:Reg→X V) (Q:Po (Option Int)):wp (k7n c reg) Q h = wp (c reg) (bK (fun v=>match v with
 | .int i=>Pure.pure (some i)
 | _=>X.stuck) Q) h:=rfl
@[simp] theorem q_dict2 (k1 k2:List Nat) (c1 c2:Reg→X V):wp (z5x k1 k2 c1 c2 reg) Q h = wp (c1 reg) (bK (fun v1=>c2 reg >>= fun v2=>k3r (.dict [(k1,v1),(k2,v2)])) Q) h:=rfl
@[simp] theorem k2W (t:Nat) (idx:List Nat) (ci:Reg→X It) (ct:V→Reg→X Reg) (cf:Reg→X Bool) (emit:Reg→O→X O) (o₀:O) :
  wp (k3z t idx ci ct cf emit o₀ reg) Q h = wp (ci reg) (bK (fun it=>k4X (k6r ct cf emit it 64 0 (k4j t idx reg) o₀) >>= k3r) Q) h:=rfl
theorem q_make (c:Nat) (g:List V→X V) (args:List V):wp (xMake c g args) Q h = wp (g (.loc (h.length + 1) :: args)) (mkK Q (h.length + 1)) (h ++ [.dict []] ++ [.inst c h.length]):=rfl
@[simp] theorem mkK_none (l:Nat):mkK Q l (.ok .none) h = Q (.ok (.loc l)) h:=rfl
@[simp] theorem mkK_err (l:Nat) (e:Ex):mkK Q l (.error e) h = Q (.error e) h:=rfl
end
section
variable (Q:Po V) (h:Hp)
@[simp] theorem k1x (b:Bool) (Q:Po Bool) (h:Hp):wp (k7D (.bool b)) Q h = Q (.ok b) h:=rfl
@[simp] theorem k4o (a b:Int):wp (k4T (.int a) (.int b)) Q h = Q (.ok (.int (a + b))) h:=rfl
@[simp] theorem z3J (a b:List Nat):wp (k4T (.str a) (.str b)) Q h = (a.length + b.length≤1000∧Q (.ok (.str (a ++ b))) h):=rfl
@[simp] theorem q_addL (a b:Nat):wp (k4T (.loc a) (.loc b)) Q h = wp (xCat a b) Q h:=rfl
@[simp] theorem z1X (a b:Int):wp (z1u (.int a) (.int b)) Q h = Q (.ok (.int (a - b))) h:=rfl
@[simp] theorem q_mul (a b:Int):wp (xMul (.int a) (.int b)) Q h = ((-2147483648 < b∧b < 2147483648)∧Q (.ok (.int (a * b))) h):=rfl
@[simp] theorem q_mod (a b:Int):wp (xMod (.int a) (.int b)) Q h = (b≠0∧Q (.ok (.int (a.fmod b))) h):=rfl
@[simp] theorem q_lt (a b:Int):wp (xLt (.int a) (.int b)) Q h = Q (.ok (.bool (decide (a < b)))) h:=rfl
@[simp] theorem q_gt (a b:Int):wp (xGt (.int a) (.int b)) Q h = Q (.ok (.bool (decide (b < a)))) h:=rfl
@[simp] theorem q_iadd (a b:Int):wp (z4Z (.int a) (.int b)) Q h = Q (.ok (.int (a + b))) h:=rfl
@[simp] theorem k9P (a b:Int):wp (xEq (.int a) (.int b)) Q h = Q (.ok (.bool (a == b))) h:=rfl
@[simp] theorem q_eqS (a b:List Nat):wp (xEq (.str a) (.str b)) Q h = Q (.ok (.bool (a == b))) h:=rfl
@[simp] theorem q_eqB (a b:Bool):wp (xEq (.bool a) (.bool b)) Q h = Q (.ok (.bool (a == b))) h:=rfl
@[simp] theorem q_neI (a b:Int):wp (xNe (.int a) (.int b)) Q h = Q (.ok (.bool (a != b))) h:=rfl
@[simp] theorem q_neS (a b:List Nat):wp (xNe (.str a) (.str b)) Q h = Q (.ok (.bool (a != b))) h:=rfl
@[simp] theorem q_neB (a b:Bool):wp (xNe (.bool a) (.bool b)) Q h = Q (.ok (.bool (a != b))) h:=rfl
@[simp] theorem q_neT (a b:List V):wp (xNe (.tup a) (.tup b)) Q h = oK (k4B a b) (fun r=>Q (.ok (.bool (!r))) h):=rfl
@[simp] theorem q_eqL (a b:Nat):wp (xEq (.loc a) (.loc b)) Q h = oK h[a]? (fun x=>oK h[b]? (fun y=>∃ vs,x = .list vs∧y = .list []∧Q (.ok (.bool vs.isEmpty)) h)):=rfl
@[simp] theorem q_neL (a b:Nat):wp (xNe (.loc a) (.loc b)) Q h = oK h[a]? (fun x=>oK h[b]? (fun y=>oK (k1K x y) (fun r=>Q (.ok (.bool (!r))) h))):=rfl
@[simp] theorem q_isNN:wp (xIs .none .none) Q h = Q (.ok (.bool true)) h:=rfl
@[simp] theorem q_isLN (a:Nat):wp (xIs (.loc a) .none) Q h = Q (.ok (.bool false)) h:=rfl
@[simp] theorem q_isIN (a:Int):wp (xIs (.int a) .none) Q h = Q (.ok (.bool false)) h:=rfl
@[simp] theorem q_isnNN:wp (k9V .none .none) Q h = Q (.ok (.bool false)) h:=rfl
@[simp] theorem q_isnLN (a:Nat):wp (k9V (.loc a) .none) Q h = Q (.ok (.bool true)) h:=rfl
@[simp] theorem q_isnIN (a:Int):wp (k9V (.int a) .none) Q h = Q (.ok (.bool true)) h:=rfl
@[simp] theorem q_in (k:List Nat) (d:Nat):wp (xIn (.str k) (.loc d)) Q h = oK h[d]? (fun o=>oK (oMem k o) (fun b=>Q (.ok (.bool b)) h)):=rfl
@[simp] theorem z2S (k:List Nat) (d:Nat):wp (k9W (.str k) (.loc d)) Q h = oK h[d]? (fun o=>oK (oMem k o) (fun b=>Q (.ok (.bool (!b))) h)):=rfl
@[simp] theorem k1R (l:Nat) (i:V):wp (k0V (.loc l) i) Q h = oK h[l]? (fun o=>oK (z0F o i) (fun v=>Q (.ok v) h)):=rfl
@[simp] theorem k3c (vs:List V) (k:Int):wp (k0V (.tup vs) (.int k)) Q h = ((0≤k∧k < 4096)∧oK vs[k.toNat]? (fun v=>Q (.ok v) h)):=rfl
@[simp] theorem q_itemS (s:List Nat) (k:Int):wp (k0V (.str s) (.int k)) Q h = ((0≤k∧k < 4096)∧oK s[k.toNat]? (fun c=>Q (.ok (.str [c])) h)):=rfl
@[simp] theorem k6w (l:Nat) (i v:V) (Q:Po Unit):wp (xPut (.loc l) i v) Q h = oK h[l]? (fun o=>oK (oPut v o i) (fun o'=>Q (.ok ()) (h.set l o'))):=rfl
@[simp] theorem k6k (name:List Nat) (l:Nat):wp (k7l name (.loc l)) Q h = oK (k3m h l) (fun p=>oK (k0Q p.2 name) (fun v=>Q (.ok v) h)):=rfl
@[simp] theorem z5I (name:List Nat) (l:Nat) (v:V) (Q:Po Unit):wp (k6G name (.loc l) v) Q h = oK (k3m h l) (fun p=>p.2.length≤500∧Q (.ok ()) (h.set p.1 (.dict (k2c p.2 name v)))):=rfl
@[simp] theorem k9g (k:Int) (Q:Po It):wp (z5h [.int k]) Q h = ((0≤k∧k < 4096)∧Q (.ok (.rng k.toNat)) h):=rfl
@[simp] theorem k1S (l:Nat) (Q:Po It):wp (z5g (.loc l)) Q h = oK h[l]? (fun o=>match o with
  | .list _=>Q (.ok (.list l)) h
  | .dict es=>Q (.ok (.dict l es.length)) h
  | _=>False):=rfl
@[simp] theorem z5J (vs:List V) (Q:Po It):wp (z5g (.tup vs)) Q h = Q (.ok (.tup vs)) h:=rfl
@[simp] theorem z0Y (cs:List Nat) (Q:Po It):wp (z5g (.str cs)) Q h = (cs.all (· < 128)∧Q (.ok (.str cs)) h):=rfl
@[simp] theorem z0l (l:Nat):wp (z3B [.loc l]) Q h = oK (h[l]?.bind oLen) (fun k=>k≤4096∧Q (.ok (.int k)) h):=rfl
@[simp] theorem q_lenT (vs:List V):wp (z3B [.tup vs]) Q h = (vs.length≤4096∧Q (.ok (.int vs.length)) h):=rfl
@[simp] theorem q_lenS (vs:List Nat):wp (z3B [.str vs]) Q h = (vs.length≤4096∧Q (.ok (.int vs.length)) h):=rfl
@[simp] theorem q_max2 (a b:Int):wp (xMax [.int a,.int b]) Q h = Q (.ok (.int (max a b))) h:=rfl
@[simp] theorem q_maxL (l:Nat):wp (xMax [.loc l]) Q h = oK (h[l]?.bind k9G) (fun ns=>ns≠[]∧Q (.ok (.int (k9Z ns))) h):=rfl
@[simp] theorem q_minL (l:Nat):wp (xMin [.loc l]) Q h = oK (h[l]?.bind k9G) (fun ns=>ns≠[]∧Q (.ok (.int (z0H ns))) h):=rfl
@[simp] theorem q_sumL (l:Nat):wp (xSum [.loc l]) Q h = oK (h[l]?.bind k9G) (fun ns=>Q (.ok (.int ns.sum)) h):=rfl
@[simp] theorem k3I (l:Nat) (Q:Po Unit):wp (k3A (.loc l)) Q h = oK h[l]? (fun o=>match o with
  | .list _=>Q (.ok ()) h
  | _=>False):=rfl
@[simp] theorem k8i (l:Nat) (Q:Po Unit):wp (k6s (.loc l)) Q h = oK h[l]? (fun o=>match o with
  | .dict _=>Q (.ok ()) h
  | _=>False):=rfl
@[simp] theorem k3J (l:Nat) (v:V):wp (k3o [.loc l,v]) Q h = oK h[l]? (fun o=>oK (oApp v o) (fun o'=>Q (.ok .none) (h.set l o'))):=rfl
@[simp] theorem q_get (l:Nat) (k:List Nat) (d:V):wp (xGet [.loc l,.str k,d]) Q h = oK h[l]? (fun o=>oK (oGet k d o) (fun v=>Q (.ok v) h)):=rfl
@[simp] theorem z5K (l:Nat) (k:List Nat) (d:V):wp (xSetD [.loc l,.str k,d]) Q h = oK h[l]? (fun o=>oK (z2H k d o) (fun p=>Q (.ok p.1) (h.set l p.2))):=rfl
@[simp] theorem q_cat (a b:Nat):wp (xCat a b) Q h = oK h[a]? (fun x=>oK h[b]? (fun y=>∃ xs ys,x = .list xs∧y = .list ys∧xs.length + ys.length≤4096∧Q (.ok (.loc h.length)) (h ++ [.list (xs ++ ys)]))):=rfl
@[simp] theorem k5s (ex:Nat→Option (List V)) (l:Nat) (lo hi st:Option Int):wp (k4n ex (.loc l) lo hi st) Q h = oK h[l]? (fun o=>∃ xs,o = .list xs∧xs.length≤4096∧oK (k5w xs lo hi st) (fun ys=>Q (.ok (.loc h.length)) (h ++ [.list ys]))):=rfl
end
theorem z0m {α:Type} {xs:List α} {a:Int} (h:0≤a∧a.toNat≤xs.length):k5w xs (some a) none none = some (xs.drop a.toNat):=by
 unfold k5w slOf
 dsimp only
 rw [if_pos ⟨rfl,rfl,h⟩]; rfl
theorem k7s {α:Type} {xs:List α} {a:Int} (h:0≤a):k5w xs none (some a) none = some (xs.take a.toNat):=by
 unfold k5w slOf
 dsimp only
 rw [if_pos ⟨rfl,h⟩]; rfl
@[simp] theorem oInt_int {α:Type} (f:Int→Option α) (i:Int):oInt f (.int i) = f i:=rfl
@[simp] theorem q_onStr {α:Type} (k:List Nat→X α) (i:List Nat) (Q:Po α) (h:Hp):wp (onStr k (.str i)) Q h = wp (k i) Q h:=rfl
@[simp] theorem q_onInt {α:Type} (k:Int→X α) (i:Int) (Q:Po α) (h:Hp):wp (onInt k (.int i)) Q h = wp (k i) Q h:=rfl
@[simp] theorem k2C (v:V) (es:List (List Nat × V)) (s:List Nat):oPut v (.dict es) (.str s) = if es.length≤4000 then some (.dict (k2c es s v)) else none:=rfl
@[simp] theorem k7t (v:V) (es:List (List (List Nat ⊕ Bool) × V)) (ks:List V):oPut v (.tdict es) (.tup ks) = if es.length≤4000 then (k5u ks).map fun k=>.tdict (k2c es k v) else none:=rfl
@[simp] theorem k5U (vs:List V) (k:Int):z0F (.list vs) (.int k) = if 0≤k∧k < 4096 then vs[k.toNat]? else none:=rfl
@[simp] theorem k1j (es:List (List Nat × V)) (s:List Nat):z0F (.dict es) (.str s) = k0Q es s:=rfl
@[simp] theorem z2T (es:List (List (List Nat ⊕ Bool) × V)) (ks:List V):z0F (.tdict es) (.tup ks) = (k5u ks).bind fun k=>k0Q es k:=rfl
@[simp] theorem k5i (es:List (List Nat × V)) (s:List Nat):oMem s (.dict es) = some (k0Q es s).isSome:=rfl
@[simp] theorem k9h (vs:List V) (s:List Nat):oMem s (.list vs) = (strs? vs).map fun ss=>ss.contains s:=rfl
@[simp] theorem k2R (vs:List V) (v:V):oApp v (.list vs) = if vs.length≤4000 then some (.list (vs ++ [v])) else none:=rfl
@[simp] theorem z1Y (es:List (List Nat × V)) (k:List Nat) (d:V):oGet k d (.dict es) = some ((k0Q es k).getD d):=rfl
@[simp] theorem k5G (vs:List V):oLen (.list vs) = some vs.length:=rfl
@[simp] theorem k7u (vs:List V):k9G (.list vs) = k9Y vs:=rfl
namespace T
section
variable {K α:Type} [DecidableEq K]
@[simp] theorem dget_nil (k:K):k0Q ([]:List (K × α)) k = none:=(rfl)
theorem k1d (a:K) (b:α) (r:List (K × α)) (k:K):k0Q ((a,b) :: r) k = if a = k then some b else k0Q r k:=by
 unfold k0Q
 rw [w0P]
 by_cases e:a = k <;> simp [e]
theorem k3V (l r:List (K × α)) (k:K):k0Q (l ++ r) k = (k0Q l k).or (k0Q r k):=by
 induction l with
 | nil=>simp
 | cons p l ih =>
  obtain ⟨a,b⟩:=p
  rw [w0o,k1d,k1d,ih]
  split <;> rfl
theorem k1T {l:List (K × α)} {k:K}:(k0Q l k).isSome = true↔k∈l.map (·.1):=by
 induction l with
 | nil=>simp
 | cons p l ih =>
  obtain ⟨a,b⟩:=p
  rw [k1d]
  by_cases e:a = k
  ·simp [e]
  ·rw [if_neg e,ih]; simp [Ne.symm e]
theorem k1W {l:List (K × α)} {k:K}:k0Q l k = none↔k∉l.map (·.1):=by
 rw [← k1T]
 cases k0Q l k <;> simp
theorem k4O {l:List (K × α)} {k:K} {v:α} (h:k0Q l k = some v):(k,v)∈l:=by
 induction l with
 | nil=>simp at h
 | cons p l ih =>
  obtain ⟨a,b⟩:=p
  rw [k1d] at h
  by_cases e:a = k
  ·rw [if_pos e] at h; refine k1f h fun yA=>?_; clear h; subst yA; subst e; exact .head _
  ·rw [if_neg e] at h; exact .tail _ (ih h)
theorem k1k {l:List (K × α)} (hn:(l.map (·.1)).Nodup) {k:K} {v:α} (h:(k,v)∈l):k0Q l k = some v:=by
 induction l with
 | nil=>simp at h
 | cons p l ih =>
  obtain ⟨a,b⟩:=p
  simp only [w0f,w0J] at hn
  rw [k1d]
  refine Or.elim (w0c.mp h) (fun e=>?_) fun h'=>?_
  ·refine k2X e fun yA yB=>?_; clear e; subst yA; subst yB; simp
  ·have:a≠k:=fun e=>hn.1 (e ▸ w0b.mpr ⟨(k,v),h',rfl⟩)
   rw [if_neg this]; exact ih hn.2 h'
theorem k2I {es:List (K × α)} {k:K} (h:k0Q es k = none) (v:α):k2c es k v = es ++ [(k,v)]:=by
 unfold k2c
 rw [if_neg]
 rw [k1W] at h
 simp only [w1T,not_exists,not_and,decide_eq_true_eq]
 intro p hp e
 exact h (w0b.mpr ⟨p,hp,e⟩)
theorem k5V {es:List (K × α)} {k:K} {o:α} (h:k0Q es k = some o) (v:α):k2c es k v = es.map (fun e=>if e.1 = k then (e.1,v) else e):=by
 unfold k2c
 rw [if_pos]
 simp only [w1T,decide_eq_true_eq]
 exact ⟨(k,o),k4O h,rfl⟩
theorem z5L (es:List (K × α)) (k:K) (v:α):(k2c es k v).map (·.1) = if k∈es.map (·.1) then es.map (·.1) else es.map (·.1) ++ [k]:=by
 by_cases e:k∈es.map (·.1)
 ·rw [if_pos e]
  refine cX1 (w0K.mp (k1T.mpr e)) fun o ho=>?_
  rw [k5V ho,w0k]
  refine w1G fun p Y=>?_
  simp only [Function.comp]
  split <;> rfl
 ·rw [if_neg e,k2I (k1W.mpr e)]; simp
set_option tactic.hygienic true in
theorem z0n {es:List (K × α)} (hn:(es.map (·.1)).Nodup) (k:K) (v:α):((k2c es k v).map (·.1)).Nodup:=by
 rw [z5L]
 split
 ·exact hn
 ·rename_i e
  rw [w0w]
  refine ⟨hn,by simp,fun a ha b hb=>?_⟩
  simp at hb; subst hb; rintro rfl; exact e ha
theorem dget_upd (es:List (K × α)) (k:K) (v:α) (k':K):k0Q (es.map (fun e=>if e.1 = k then (e.1,v) else e)) k' = if k = k' then (k0Q es k').map (fun Y=>v) else k0Q es k':=by
 induction es with
 | nil=>simp
 | cons p l ih =>
  obtain ⟨a,b⟩:=p
  rw [w0f,k1d]
  by_cases q:a = k
  ·subst q
   rw [if_pos rfl,k1d,ih]
   by_cases r:a = k' <;> simp [r]
  ·rw [if_neg q,k1d,ih]
   by_cases r:a = k'
   ·subst r; simp [Ne.symm q]
   ·simp [r]
@[simp] theorem k2o (es:List (K × α)) (k:K) (v:α) (k':K):k0Q (k2c es k v) k' = if k = k' then some v else k0Q es k':=by
 cases e:k0Q es k with
 | none =>
  rw [k2I e,k3V,k1d]
  by_cases q:k = k'
  ·subst q; rw [e]; simp
  ·simp [q]
 | some o =>
  rw [k5V e,dget_upd]
  by_cases q:k = k'
  ·subst q; rw [e]; simp
  ·simp [q]
end
structure k0M (S:List Nat) (h h':Hp):Prop where
 len:h.length≤h'.length
 eq:∀ i,i < h.length→i∉S→h'[i]? = h[i]?
theorem k0M.refl (S:List Nat) (h:Hp):k0M S h h:=⟨w0l _,fun Y Y Y=>rfl⟩
theorem k0M.trans {S:List Nat} {h h₁ h₂:Hp} (x:k0M S h h₁) (y:k0M S h₁ h₂):k0M S h h₂ :=
 ⟨w1B x.len y.len,fun i hi hs=>by rw [y.eq i (w1R hi x.len) hs,x.eq i hi hs]⟩
theorem k0M.mono {S S':List Nat} {h h':Hp} (x:k0M S h h') (k:∀ i,i∈S→i∈S'∨h.length≤i):k0M S' h h' :=
 ⟨x.len,fun i hi hs=>x.eq i hi fun hm=>(k i hm).elim hs fun q=>by lia⟩
theorem k0M.trans' {S S':List Nat} {h h₁ h₂:Hp} (x:k0M S h h₁) (y:k0M S' h₁ h₂) (k:∀ i,i∈S'→i∈S∨h.length≤i):k0M S h h₂ :=
 ⟨w1B x.len y.len,fun i hi hs=>by
  rw [y.eq i (w1R hi x.len) (fun hm=>(k i hm).elim hs fun q=>by lia),x.eq i hi hs]⟩
theorem k0M.alloc (S:List Nat) (h:Hp) (o:O):k0M S h (h ++ [o]) :=
 ⟨by simp,fun i hi Y=>by rw [w0D hi]⟩
theorem k0M.set {S:List Nat} {l:Nat} (hl:l∈S) (h:Hp) (o:O):k0M S h (h.set l o) :=
 ⟨by simp,fun i hi hs=>by rw [w1h]; rintro rfl; exact hs hl⟩
theorem k0t {h:Hp} {l:Nat} {o:O} (e:h[l]? = some o):l < h.length:=(w0v.mp e).1
theorem k0M.get {S:List Nat} {h h':Hp} (x:k0M S h h') {l:Nat} {o:O} (e:h[l]? = some o) (hl:l∉S):h'[l]? = some o:=by
 rw [x.eq l (k0t e) hl]; exact e
theorem k0w {h:Hp} {l:Nat} {o:O} (e:h[l]? = some o) (o':O):(h ++ [o'])[l]? = some o:=by
 rw [w0D (k0t e)]; exact e
theorem k0X (h:Hp) (o:O):(h ++ [o])[h.length]? = some o:=by simp
theorem k0m {h:Hp} {l k:Nat} {o:O} (e:h[l]? = some o) (hk:k≠l) (o':O):(h.set k o')[l]? = some o:=by
 rw [w1h hk]; exact e
theorem k0J {h:Hp} {l:Nat} {o:O} (e:h[l]? = some o) (o':O):(h.set l o')[l]? = some o':=by
 rw [w1q (k0t e)]
theorem k3p {h:Hp} {l:Nat} {vs:List V} (e:h[l]? = some (.list vs)) (i:Nat):k1Z (.list l) i h = some vs[i]?:=by
 unfold k1Z; dsimp only; rw [e]
theorem it_tup (vs:List V) (i:Nat) (h:Hp):k1Z (.tup vs) i h = some vs[i]?:=(rfl)
theorem k5a {h:Hp} {l:Nat} {es:List (List Nat × V)} (e:h[l]? = some (.dict es)) (i:Nat):k1Z (.dict l es.length) i h = some ((es.map fun e=>V.str e.1)[i]?):=by
 unfold k1Z; dsimp only; rw [e]; dsimp only; rw [if_pos rfl,w0H]
theorem z3K (cs:List Nat) (i:Nat) (h:Hp):k1Z (.str cs) i h = some ((cs.map fun c=>V.str [c])[i]?):=by
 unfold k1Z; dsimp only; rw [w0H]
theorem z1Z (k i:Nat) (h:Hp):k1Z (.rng k) i h = some (((List.range k).map fun i:Nat=>V.int (i:Int))[i]?):=by
 unfold k1Z; dsimp only
 by_cases e:i < k
 ·rw [if_pos e]; simp [w2p e]
 ·rw [if_neg e,w1Z (by simp; lia)]
noncomputable def k9Q (J:Reg→Hp→Prop) (Q:Po (Fl × Reg)):Po (Fl × Reg):=fun r h=>match r with
 | .ok (.next,reg)=>J reg h
 | .ok (.cont,reg)=>J reg h
 | .ok (.brk,_)=>False
 | .ok (.ret v,reg)=>Q (.ok (.ret v,reg)) h
 | .error e=>Q (.error e) h
@[simp] theorem k0S (J:Reg→Hp→Prop) (Q:Po (Fl × Reg)) (reg:Reg) (h:Hp):k9Q J Q (.ok (.next,reg)) h = J reg h:=rfl
@[simp] theorem z4C (J:Reg→Hp→Prop) (Q:Po (Fl × Reg)) (reg:Reg) (h:Hp):k9Q J Q (.ok (.cont,reg)) h = J reg h:=rfl
@[simp] theorem loopK_ret (J:Reg→Hp→Prop) (Q:Po (Fl × Reg)) (v:V) (reg:Reg) (h:Hp):k9Q J Q (.ok (.ret v,reg)) h = Q (.ok (.ret v,reg)) h:=rfl
@[simp] theorem k2p (J:Reg→Hp→Prop) (Q:Po (Fl × Reg)) (e:Ex) (h:Hp):k9Q J Q (.error e) h = Q (.error e) h:=rfl
theorem loopK_to {J:Reg→Hp→Prop} {rest:Reg→X (Fl × Reg)} {Q:Po (Fl × Reg)} {r:Except Ex (Fl × Reg)} {h:Hp} (x:k9Q J Q r h) (k:∀ reg h,J reg h→wp (rest reg) Q h):bK (z1y rest) Q r h:=match r,x with
 | .ok (.next,_),x=>k _ _ x
 | .ok (.cont,_),x=>k _ _ x
 | .ok (.ret _,_),x=>x
 | .error _,x=>x
theorem body_to {m:X Reg} {cb:Reg→X (Fl × Reg)} {J:Reg→Hp→Prop} {rest:Reg→X (Fl × Reg)} {Q:Po (Fl × Reg)} {h:Hp} (hb:wp m (bK cb (k9Q J Q)) h) (k:∀ reg h,J reg h→wp (rest reg) Q h):wp (m >>= fun reg'=>cb reg' >>= z1y rest) Q h :=
 m.mono (fun r _ x=>match r,x with
  | .ok a,x=>(cb a).mono (fun _ _ y=>loopK_to y k) x
  | .error _,x=>x) hb
theorem z0Z (ct:V→Reg→X Reg) (cb:Reg→X (Fl × Reg)) (it:It) (k i:Nat) (reg:Reg) (Q:Po (Fl × Reg)) (h:Hp):wp (k8b ct cb it (k + 1) i reg) Q h = wp (z2D ct cb (k8b ct cb it k (i + 1)) reg (k1Z it i h)) Q h:=by
 rw [z3z]; exact z3o _ _ _
theorem z5M {α:Type} {ct:V→Reg→X Reg} {cb:Reg→X (Fl × Reg)} {it:It} {Q:Po (Fl × Reg)} (xs:List α) (enc:α→V) (I:List α→Reg→Hp→Prop)
  (hit:∀ pre suf reg h,xs = pre ++ suf→I pre reg h→k1Z it pre.length h = some ((xs.map enc)[pre.length]?))
  (hbody:∀ pre x suf reg h,xs = pre ++ x :: suf→I pre reg h→wp (ct (enc x) reg) (bK cb (k9Q (I (pre ++ [x])) Q)) h)
  (hend:∀ reg h,I xs reg h→Q (.ok (.next,reg)) h)
  (suf pre:List α) (k:Nat) (reg:Reg) (h:Hp) (e:xs = pre ++ suf) (hk:suf.length < k) (hI:I pre reg h):wp (k8b ct cb it k pre.length reg) Q h:=by
 induction suf generalizing pre k reg h with
 | nil =>
  cases k with
  | zero=>exact absurd hk (w1H _)
  | succ k =>
   have e1:=hit pre [] reg h e hI
   rw [w0M] at e
   subst e
   rw [w1Z (by rw [w0u]; exact w0l _)] at e1
   rw [z0Z,e1]
   exact hend _ _ hI
 | cons x suf ih =>
  cases k with
  | zero=>exact absurd hk (w1H _)
  | succ k =>
   have e1:=hit pre (x :: suf) reg h e hI
   have e2:(xs.map enc)[pre.length]? = some (enc x):=by subst e; simp
   rw [e2] at e1
   rw [z0Z,e1]
   refine body_to (hbody pre x suf reg h e hI) fun reg' h' hI'=>?_
   have:=ih (pre ++ [x]) k reg' h' (by simp [e]) (w2q hk) hI'
   rwa [w0t] at this
theorem k4m {α:Type} {ct:V→Reg→X Reg} {cb:Reg→X (Fl × Reg)} {it:It} {Q:Po (Fl × Reg)} (xs:List α) (enc:α→V) (I:List α→Reg→Hp→Prop) {reg:Reg} {h:Hp}
  (hlen:xs.length < 64)
  (hit:∀ pre suf reg h,xs = pre ++ suf→I pre reg h→k1Z it pre.length h = some ((xs.map enc)[pre.length]?))
  (h0:I [] reg h)
  (hbody:∀ pre x suf reg h,xs = pre ++ x :: suf→I pre reg h→wp (ct (enc x) reg) (bK cb (k9Q (I (pre ++ [x])) Q)) h)
  (hend:∀ reg h,I xs reg h→Q (.ok (.next,reg)) h) :
  wp (k8b ct cb it 64 0 reg) Q h:=z5M xs enc I hit hbody hend xs [] 64 reg h rfl hlen h0
noncomputable def z2a (ct:V→Reg→X Reg) (cb:Reg→X (Fl × Reg)) (it:It) (k i:Nat) (Q:Po (Fl × Reg)):Po (Fl × Reg):=fun r h=>match r with
 | .ok (.next,reg)=>wp (k8b ct cb it k i reg) Q h
 | .ok (.cont,reg)=>wp (k8b ct cb it k i reg) Q h
 | .ok (.brk,reg)=>Q (.ok (.next,reg)) h
 | .ok (.ret v,reg)=>Q (.ok (.ret v,reg)) h
 | .error e=>Q (.error e) h
section
variable {ct:V→Reg→X Reg} {cb:Reg→X (Fl × Reg)} {it:It} {k i:Nat} {Q:Po (Fl × Reg)} {reg:Reg} {h:Hp}
@[simp] theorem loopF_next:z2a ct cb it k i Q (.ok (.next,reg)) h = wp (k8b ct cb it k i reg) Q h:=rfl
@[simp] theorem loopF_cont:z2a ct cb it k i Q (.ok (.cont,reg)) h = wp (k8b ct cb it k i reg) Q h:=rfl
@[simp] theorem loopF_ret (v:V):z2a ct cb it k i Q (.ok (.ret v,reg)) h = Q (.ok (.ret v,reg)) h:=rfl
@[simp] theorem loopF_err (e:Ex):z2a ct cb it k i Q (.error e) h = Q (.error e) h:=rfl
theorem k5W (e:k1Z it i h = some none):wp (k8b ct cb it (k + 1) i reg) Q h = Q (.ok (.next,reg)) h:=by
 rw [z0Z,e]
 rfl
theorem loopF_is (r:Except Ex (Fl × Reg)) (h:Hp):bK (z1y (k8b ct cb it k i)) Q r h = z2a ct cb it k i Q r h:=match r with
 | .ok (.next,_)=>rfl
 | .ok (.cont,_)=>rfl
 | .ok (.brk,_)=>rfl
 | .ok (.ret _,_)=>rfl
 | .error _=>rfl
theorem z0o {v:V} (e:k1Z it i h = some (some v)):wp (k8b ct cb it (k + 1) i reg) Q h = wp (ct v reg) (bK cb (z2a ct cb it k (i + 1) Q)) h:=by
 rw [z0Z,e,← (funext fun r=>funext fun h=>loopF_is r h:bK (z1y (k8b ct cb it k (i + 1))) Q = _)]
 refine congrArg (fun K=>wp (ct v reg) K h) ?_
 funext r h'
 cases r <;> rfl
noncomputable def z1a (Q:Po (Fl × Reg)):Po (Fl × Reg):=fun r h=>match r with
 | .ok (.next,reg)=>Q (.ok (.next,reg)) h
 | .ok (.cont,reg)=>Q (.ok (.next,reg)) h
 | .ok (.brk,reg)=>Q (.ok (.next,reg)) h
 | .ok (.ret v,reg)=>Q (.ok (.ret v,reg)) h
 | .error e=>Q (.error e) h
@[simp] theorem loop0_next:z1a Q (.ok (.next,reg)) h = Q (.ok (.next,reg)) h:=rfl
@[simp] theorem loop0_cont:z1a Q (.ok (.cont,reg)) h = Q (.ok (.next,reg)) h:=rfl
@[simp] theorem loop0_ret (v:V):z1a Q (.ok (.ret v,reg)) h = Q (.ok (.ret v,reg)) h:=rfl
@[simp] theorem loop0_err (e:Ex):z1a Q (.error e) h = Q (.error e) h:=rfl
theorem q_forT0:wp (k8b ct cb (.tup []) 64 0 reg) Q h = Q (.ok (.next,reg)) h:=k5W (k:=63) rfl
theorem q_forT1 (v:V):wp (k8b ct cb (.tup [v]) 64 0 reg) Q h = wp (ct v reg) (bK cb (z1a Q)) h:=by
 rw [z0o (k:=63) (v:=v) rfl]
 have:z2a ct cb (.tup [v]) 63 (0 + 1) Q = z1a Q:=by
  funext r h
  rcases r with e | ⟨fl,reg⟩
  ·rfl
  ·cases fl <;> first | rfl | exact k5W (k:=62) rfl
 rw [this]
theorem z2U:wp (k8b ct cb (.rng 1) 64 0 reg) Q h = wp (ct (.int 0) reg) (bK cb (z1a Q)) h:=by
 rw [z0o (k:=63) (v:=.int 0) rfl]
 have:z2a ct cb (.rng 1) 63 (0 + 1) Q = z1a Q:=by
  funext r h
  rcases r with e | ⟨fl,reg⟩
  ·rfl
  ·cases fl <;> first | rfl | exact k5W (k:=62) rfl
 rw [this]
theorem q_forR0:wp (k8b ct cb (.rng 0) 64 0 reg) Q h = Q (.ok (.next,reg)) h:=k5W (k:=63) rfl
end
noncomputable def k9i (ct:V→Reg→X Reg) (cf:Reg→X Bool) (emit:Reg→O→X O) (v:V) (reg:Reg) (o:O):X (Reg × O) :=
 ct v reg >>= fun reg'=>cf reg' >>= fun b=>if b then emit reg' o >>= fun o'=>Pure.pure (reg',o') else Pure.pure (reg',o)
noncomputable def z4D (J:Reg→O→Hp→Prop):Po (Reg × O):=fun r h=>match r with
 | .ok p=>J p.1 p.2 h
 | .error _=>False
@[simp] theorem k4P (J:Reg→O→Hp→Prop) (reg:Reg) (o:O) (h:Hp):z4D J (.ok (reg,o)) h = J reg o h:=rfl
theorem z2b (ct:V→Reg→X Reg) (cf:Reg→X Bool) (emit:Reg→O→X O) (it:It) (k i:Nat) (reg:Reg) (o:O) (Q:Po O) (h:Hp):wp (k6r ct cf emit it (k + 1) i reg o) Q h = wp (compTurn ct cf emit (k6r ct cf emit it k (i + 1)) reg o (k1Z it i h)) Q h:=by
 rw [z1C]; exact z3o _ _ _
theorem comp_to {ct:V→Reg→X Reg} {cf:Reg→X Bool} {emit:Reg→O→X O} {v:V} {reg:Reg} {o:O} {J:Reg→O→Hp→Prop} {rest:Reg→O→X O} {P:Po O} {h:Hp} (hb:wp (k9i ct cf emit v reg o) (z4D J) h) (k:∀ reg' o' h',J reg' o' h'→wp (rest reg' o') P h') :
  wp (compTurn ct cf emit rest reg o (some (some v))) P h :=
 (ct v reg).mono (fun r _ q=>match r,q with
  | .ok reg',q=>(cf reg').mono (fun r _ q=>match r,q with
   | .ok true,q=>(emit reg' o).mono (fun r _ q=>match r,q with
    | .ok _,q=>k _ _ _ q) q
   | .ok false,q=>k _ _ _ q) q) hb
noncomputable def compR (J:Reg→O→Hp→Prop):Po O:=fun r h=>match r with
 | .ok o=>∃ reg,J reg o h
 | .error _=>False
theorem z4E {α:Type} {ct:V→Reg→X Reg} {cf:Reg→X Bool} {emit:Reg→O→X O} {it:It} (xs:List α) (enc:α→V) (I:List α→Reg→O→Hp→Prop)
  (hit:∀ pre suf reg o h,xs = pre ++ suf→I pre reg o h→k1Z it pre.length h = some ((xs.map enc)[pre.length]?))
  (hbody:∀ pre x suf reg o h,xs = pre ++ x :: suf→I pre reg o h→wp (k9i ct cf emit (enc x) reg o) (z4D (I (pre ++ [x]))) h)
  (suf pre:List α) (k:Nat) (reg:Reg) (o:O) (h:Hp) (e:xs = pre ++ suf) (hk:suf.length < k) (hI:I pre reg o h):wp (k6r ct cf emit it k pre.length reg o) (compR (I xs)) h:=by
 induction suf generalizing pre k reg o h with
 | nil =>
  cases k with
  | zero=>exact absurd hk (w1H _)
  | succ k =>
   have e1:=hit pre [] reg o h e hI
   rw [w0M] at e
   subst e
   rw [w1Z (by rw [w0u]; exact w0l _)] at e1
   rw [z2b,e1]
   exact ⟨reg,hI⟩
 | cons x suf ih =>
  cases k with
  | zero=>exact absurd hk (w1H _)
  | succ k =>
   have e1:=hit pre (x :: suf) reg o h e hI
   have e2:(xs.map enc)[pre.length]? = some (enc x):=by subst e; simp
   rw [e2] at e1
   rw [z2b,e1]
   refine comp_to (hbody pre x suf reg o h e hI) fun reg' o' h' hI'=>?_
   have:=ih (pre ++ [x]) k reg' o' h' (by simp [e]) (w2q hk) hI'
   rwa [w0t] at this
theorem z0p {α:Type} {ct:V→Reg→X Reg} {cf:Reg→X Bool} {emit:Reg→O→X O} {it:It} {Q:Po V} (xs:List α) (enc:α→V) (I:List α→Reg→O→Hp→Prop) {reg:Reg} {o:O} {h:Hp}
  (hlen:xs.length < 64)
  (hit:∀ pre suf reg o h,xs = pre ++ suf→I pre reg o h→k1Z it pre.length h = some ((xs.map enc)[pre.length]?))
  (h0:I [] reg o h)
  (hbody:∀ pre x suf reg o h,xs = pre ++ x :: suf→I pre reg o h→wp (k9i ct cf emit (enc x) reg o) (z4D (I (pre ++ [x]))) h)
  (hend:∀ reg o h,I xs reg o h→Q (.ok (.loc h.length)) (h ++ [o])) :
  wp (k4X (k6r ct cf emit it 64 0 reg o) >>= k3r) Q h:=by
 rw [k0r,z5F]
 have e0:=z4E xs enc I hit hbody xs [] 64 reg o h rfl hlen h0
 rw [w0q] at e0
 refine k8n e0 fun r h' q=>?_
 cases r with
 | error e=>exact q.elim
 | ok o' =>
  refine cX1 q fun reg' hI=>?_; clear q
  exact hend _ _ _ hI
theorem k9j {α:Type} {ct:V→Reg→X Reg} {cf:Reg→X Bool} {ce:Reg→X V} {it:It} {Q:Po V} (xs:List α) (enc:α→V) (p:α→Bool) (f:α→V) (J:Reg→Prop) {reg:Reg} {h:Hp}
  (hlen:xs.length < 64)
  (hit:∀ i,k1Z it i h = some ((xs.map enc)[i]?))
  (h0:J reg)
  (hbody:∀ x,x∈xs→∀ reg,J reg→wp (ct (enc x) reg) (fun r h'=>∃ reg',r = .ok reg'∧h' = h∧J reg' ∧
   wp (cf reg') (fun b h'=>b = .ok (p x)∧h' = h) h∧(p x = true→wp (ce reg') (fun v h'=>v = .ok (f x)∧h' = h) h)) h)
  (hend:Q (.ok (.loc h.length)) (h ++ [.list ((xs.filter p).map f)])) :
  wp (k4X (k6r ct cf (k2H ce) it 64 0 reg (.list [])) >>= k3r) Q h:=by
 refine z0p xs enc (fun pre reg o h'=>h' = h∧J reg∧o = .list ((pre.filter p).map f)) hlen (fun pre suf reg o h' e hI=>?_) ⟨rfl,h0,rfl⟩ (fun pre x suf reg o h' e hI=>?_) (fun reg o h' hI=>?_)
 ·refine cA3 hI fun yA=>?_; clear hI; subst yA; intro _ _; exact hit _
 ·refine cA3 hI fun yA=>?_; clear hI; subst yA; intro hJ yB; subst yB
  unfold k9i
  rw [k0r]
  refine k8n (hbody x (by rw [e]; simp) reg hJ) fun r h1 q=>?_
  refine cX1 q fun reg' yA=>cA5 yA fun yB=>?_; clear q yA; subst yB; intro yC; subst yC; intro hJ' hcf hce
  rw [k0u,k0r]
  refine k8n hcf fun b h2 q=>?_
  refine cA2 q fun yA=>?_; clear q; subst yA; intro yB; subst yB
  rw [k0u,k2w]
  cases hp:p x with
  | false =>
   rw [if_neg (by simp),k0P,k4P]
   refine ⟨rfl,hJ',?_⟩
   rw [w0V]
   simp [hp]
  | true =>
   rw [if_pos rfl,k0r]
   show wp (ce reg' >>= fun v=>Pure.pure (O.list ((pre.filter p).map f ++ [v]))) _ _
   rw [q_map]
   refine k8n (hce hp) fun v h3 q=>?_
   refine cA2 q fun yA=>?_; clear q; subst yA; intro yB; subst yB
   rw [k0O,k0u,k0P,k4P]
   refine ⟨rfl,hJ',?_⟩
   rw [w0V]
   simp [hp]
 ·refine cA3 hI fun yA=>?_; clear hI; subst yA; intro _ yB; subst yB; exact hend
end T
namespace T
noncomputable abbrev Nm:=List Nat
structure Th where
 kind:Int
 len:Int
 many:Nat
noncomputable def k5j (m:Nat):List V:=if m = 0 then [] else [.tup [.int 1,.int m]]
noncomputable def k6X (m:Nat):V:=.tup (k5j m)
noncomputable def k2z (t:Th):V:=.tup [.int t.kind,.int t.len,k6X t.many]
noncomputable def Th.unit (t:Th):Int:=if t.kind = 5 then t.len else if t.kind = 2 then 2 else 1
noncomputable def Th.size (t:Th):Int:=t.unit * (if t.many = 0 then 1 else t.many)
noncomputable def Th.txt (t:Th):Bool:=t.kind == 5
structure Th.Ok (t:Th):Prop where
 kind:t.kind = 0∨t.kind = 2∨t.kind = 5
 len0:0≤t.len
 len3:t.len≤3
 len5:t.kind = 5→1≤t.len
 many:t.many≤3
set_option tactic.hygienic true in
theorem Th.Ok.unit_pos {t:Th} (x:t.Ok):1≤t.unit∧t.unit≤3:=by
 have:=x.len3
 unfold Th.unit
 split
 ·rename_i e; have:=x.len5 e; lia
 ·split <;> lia
set_option tactic.hygienic true in
theorem Th.Ok.size_pos {t:Th} (x:t.Ok):1≤t.size:=by
 have h:=x.unit_pos
 unfold Th.size
 split
 ·lia
 ·rename_i e
  have:(1:Int)≤t.many:=by lia
  have:=Int.mul_le_mul h.1 this (by lia) (by lia)
  lia
theorem z4F (k:Int) (Q:Po V) (h:Hp):wp (k5S [.int k]) Q h = Q (.ok (.int (if k = 5 then 0 else if k = 2∨k = 3 then 2 else 1))) h:=by
 unfold k5S z0i
 rw [k1z]
 by_cases e:k = 5
 ·simp [k0r,k0P,e]
 ·by_cases e2:k = 2
  ·simp [k0r,k0P,e,e2]
  ·by_cases e3:k = 3
   ·simp [k0r,k0P,e,e2,e3]
   ·simp [k0r,k0P,e,e2,e3]
theorem k6x {t:Th} (x:t.Ok) (Q:Po V) (h:Hp):wp (k4D [.int t.kind,.int t.len]) Q h = Q (.ok (.int t.unit)) h:=by
 unfold k4D k8V Th.unit
 rw [k1z]
 (refine Or.elim x.kind (fun e=>?_) fun yZ=>?_; rotate_left; (refine Or.elim yZ (fun e=>?_) fun e=>?_ <;> clear yZ); rotate_right) <;> simp [k0r,k0P,e,z4F]
theorem k5H (t:Th) (Q:Po V) (h:Hp):wp (k1A [k2z t]) Q h = Q (.ok (.bool t.txt)) h:=by
 unfold k1A k5D k2z Th.txt
 rw [k1z]
 simp [k0r,k0P]
section
variable {ct:V→Reg→X Reg} {cb:Reg→X (Fl × Reg)} {Q:Po (Fl × Reg)} {reg:Reg} {h:Hp} {m:Nat}
theorem z5N (e:m = 0):wp (k8b ct cb (.tup (k5j m)) 64 0 reg) Q h = Q (.ok (.next,reg)) h:=by
 unfold k5j; rw [if_pos e,q_forT0]
theorem z5O (e:m≠0):wp (k8b ct cb (.tup (k5j m)) 64 0 reg) Q h = wp (ct (.tup [.int 1,.int m]) reg) (bK cb (z1a Q)) h:=by
 unfold k5j; rw [if_neg e,q_forT1]
end
theorem w_extent {m:Nat} (hm:m≤3) (Q:Po V) (h:Hp):wp (k8g [k6X m]) Q h = Q (.ok (.int (if m = 0 then 1 else m))) h:=by
 unfold k8g z3H k6X
 rw [k1z]
 by_cases e:m = 0
 ·simp [e,k0r,k0P,z5N]
 ·have h1:(m:Int) < 2147483648:=by lia
  have h2:-2147483648 < (m:Int):=by lia
  simp [e,k0r,k0P,z5O,h1,h2]
theorem k6Y {t:Th} (x:t.Ok) (Q:Po V) (h:Hp):wp (k3g [k2z t]) Q h = Q (.ok (.int t.size)) h:=by
 unfold k3g z1Q k2z Th.size k6X
 rw [k1z]
 have hm:=x.many
 have he:=fun (Q:Po V) (h:Hp)=>w_extent hm Q h
 unfold k6X at he
 by_cases e:t.many = 0
 ·simp [k0r,k0P,z5N e,k6x x,he]
  simp [e]
 ·have h1:¬ (t.many:Int) < 1:=by lia
  have h2:(t.many:Int) < 2147483648:=by lia
  have h3:-2147483648 < (t.many:Int):=by lia
  simp [k0r,k0P,z5O e,k6x x,he,h1]
  simp [e,h2,h3]
end T
namespace T
noncomputable def Th.step (t:Th) (subs:List Int):Option Int:=match subs with
 | []=>some 0
 | [s]=>if t.many = 0∨s < 1∨(t.many:Int) < s then none else some ((s - 1) * t.unit)
 | _=>none
noncomputable def Th.off (t:Th) (subs:List Int) (sign:Int):Option Int:=match t.step subs with
 | none=>none
 | some o=>if sign < 1∨max t.len 1 < sign then none else some (if t.kind = 5 then o + sign - 1 else o)
theorem k9k {t:Th} (x:t.Ok) {s:Nat} {a:Int} {h:Hp} (hs:h[s]? = some (.list [.int a])) (Q:Po V) :
  wp (k3E [.tup [.int t.kind,.int 0,.int t.len,k6X t.many],.loc s]) Q h =
   if t.many = 0∨a < 1∨(t.many:Int) < a then Q (.error .run) h else Q (.ok (.tup [.int t.kind,.int ((a - 1) * t.unit),.int t.len,.tup []])) h:=by
 unfold k3E k5E k6X
 rw [k1z]
 by_cases e:t.many = 0
 ·simp [k0r,k0P,hs]
  simp [e,k5j]
 ·have hm:=x.many
  have h2:(t.many:Int) < 2147483648:=by lia
  have h3:-2147483648 < (t.many:Int):=by lia
  have hl:(k5j t.many).length = 1:=by unfold k5j; rw [if_neg e]; rfl
  have hg:(k5j t.many)[0]? = some (.tup [.int 1,.int t.many]):=by unfold k5j; rw [if_neg e]; rfl
  by_cases e1:a < 1
  ·simp [k0r,k0P,hs,e,e1,hl,hg,z2U,-getElem?_pos]
  ·by_cases e2:(t.many:Int) < a
   ·simp [k0r,k0P,hs,e,e1,e2,hl,hg,z2U,-getElem?_pos]
   ·have h4:t.unit < 2147483648:=by have:=x.unit_pos; lia
    have h5:-2147483648 < t.unit:=by have:=x.unit_pos; lia
    simp [k0r,k0P,hs,e,e1,e2,hl,hg,z2U,-getElem?_pos,k6x x,h2,h3,h4,h5]
theorem k9l {t:Th} (x:t.Ok) {s:Nat} {subs:List Int} (hn:subs.length≤1) {h:Hp} (hs:h[s]? = some (.list (subs.map .int))) (sign:Int) (Q:Po V) :
  wp (k4F [k2z t,.loc s,.int sign]) Q h = match t.off subs sign with
   | some o=>Q (.ok (.int o)) (h ++ [.list []])
   | none=>Q (.error .lay) (h ++ [.list []]):=by
 unfold k4F k8Z Th.off k2z
 rw [k1z]
 match subs,hn,hs with
 | [],_,hs =>
  have h1:=k0w hs (.list [])
  simp only [w0n] at h1
  by_cases e:sign < 1∨max t.len 1 < sign
  ·by_cases e1:sign < 1
   ·simp [k0r,k0P,h1,k1K,Th.step,e1]
   ·have e2:=e.resolve_left e1
    simp [k0r,k0P,h1,k1K,Th.step,e1,e2]
  ·have e1:¬ sign < 1:=fun q=>e (.inl q)
   have e2:¬ max t.len 1 < sign:=fun q=>e (.inr q)
   by_cases e5:t.kind = 5
   ·simp [k0r,k0P,h1,k1K,Th.step,e1,e2,e5]
   ·simp [k0r,k0P,h1,k1K,Th.step,e1,e2,e5]
 | [a],_,hs =>
  have h1:=k0w hs (.list [])
  simp only [w0f,w0n] at h1
  have hh:=fun Q=>k9k x h1 Q
  by_cases e0:t.many = 0∨a < 1∨(t.many:Int) < a
  ·simp only [if_pos e0] at hh
   simp [k0r,k0P,h1,k1K,Th.step,hh,e0]
  ·simp only [if_neg e0] at hh
   by_cases e:sign < 1∨max t.len 1 < sign
   ·by_cases e1:sign < 1
    ·simp [k0r,k0P,h1,k1K,Th.step,hh,e0,e1]
    ·have e2:=e.resolve_left e1
     simp [k0r,k0P,h1,k1K,Th.step,hh,e0,e1,e2]
   ·have e1:¬ sign < 1:=fun q=>e (.inl q)
    have e2:¬ max t.len 1 < sign:=fun q=>e (.inr q)
    by_cases e5:t.kind = 5
    ·rw [e5] at hh
     simp [k0r,k0P,h1,k1K,Th.step,hh,e0,e1,e2,e5]
    ·simp [k0r,k0P,h1,k1K,Th.step,hh,e0,e1,e2,e5]
noncomputable abbrev Ab:=List (Nm × (Nm × Int))
noncomputable def k3K (es:Ab):List (Nm × V):=es.map fun e=>(e.1,.tup [.str e.2.1,.int e.2.2])
theorem k7v (es:Ab) (x:Nm):k0Q (k3K es) x = (k0Q es x).map fun p=>.tup [.str p.1,.int p.2]:=by
 induction es with
 | nil=>rfl
 | cons e es ih =>
  obtain ⟨a,b⟩:=e
  unfold k3K at ih ⊢
  rw [w0f,k1d,k1d,ih]
  split <;> rfl
inductive k6a (es:Ab):Nm→Nat→Nm→Int→Prop
 | root {x:Nm}:k0Q es x = none→k6a es x 0 x 0
 | step {x p r:Nm} {g d:Int} {k:Nat}:k0Q es x = some (p,g)→k6a es p k r d→k6a es x (k + 1) r (g + d)
theorem k6a.dead {es:Ab} {x r:Nm} {k:Nat} {d:Int} (c:k6a es x k r d):k0Q es r = none:=by
 induction c with
 | root h=>exact h
 | step _ _ ih=>exact ih
theorem z5P (ctest:Reg→X Bool) (cb:Reg→X (Fl × Reg)) (k:Nat) (reg:Reg) (Q:Po (Fl × Reg)) (h:Hp) :
  wp (k7F ctest cb (k + 1) reg) Q h = wp (ctest reg) (bK (fun b=>if b then cb reg >>= fun p=>match p.1 with
   | .next | .cont=>k7F ctest cb k p.2
   | .brk=>Pure.pure (.next,p.2)
   | .ret v=>Pure.pure (.ret v,p.2)
  else Pure.pure (.next,reg)) Q) h:=by
 unfold k7F; exact z3o _ _ _
theorem z2c {es:Ab} {a:Nat} {h:Hp} (ha:h[a]? = some (.dict (k3K es))) {x r:Nm} {k:Nat} {d:Int} (c:k6a es x k r d):∀ (fuel:Nat) (dist:Int) (g:Option V),k < fuel →
  ∃ g',∀ (Q:Po (Fl × Reg)),wp (k7F (k2L xIn (k0d 1) (k0d 0)) (k0H (k0p (k1g k0V (k0d 0) (k0d 1)) (k1o 2 (k0q (k0l 1) (k0q (k0l 3) k1n)))) (k0H (xAug 2 (k0d 3) z4Z) k1s)) fuel
   [some (.loc a),some (.str x),some (.int dist),g]) Q h = Q (.ok (.next,[some (.loc a),some (.str r),some (.int (dist + d)),g'])) h:=by
 induction c with
 | root e =>
  intro fuel dist g hk
  obtain ⟨fuel,rfl⟩:∃ f,fuel = f + 1:=⟨fuel - 1,by lia⟩
  refine ⟨g,fun Q=>?_⟩
  rw [z5P]
  simp [k0r,k0P,ha,k7v,e]
 | @step x p r gg d k e c ih =>
  intro fuel dist g hk
  obtain ⟨fuel,rfl⟩:∃ f,fuel = f + 1:=⟨fuel - 1,by lia⟩
  refine cX1 (ih fuel (dist + gg) (some (.int gg)) (by lia)) fun g' hg=>?_
  refine ⟨g',fun Q=>?_⟩
  rw [z5P]
  simp [k0r,k0P,ha,k7v,e,hg,Int.add_assoc]
theorem k3W {es:Ab} {a:Nat} {h:Hp} (ha:h[a]? = some (.dict (k3K es))) {x r:Nm} {k:Nat} {d:Int} (c:k6a es x k r d) (hk:k < 64) (Q:Po V) :
  wp (k2E [.loc a,.str x]) Q h = Q (.ok (.tup [.str r,.int d])) h:=by
 refine cX1 (z2c ha c 64 0 none hk) fun g' hg=>?_
 unfold k2E z0h
 rw [k1z]
 simp [k0r,k0P,z5i,hg]
end T
namespace T
theorem k6a.det {es:Ab} {x r r':Nm} {k k':Nat} {d d':Int} (c:k6a es x k r d) (c':k6a es x k' r' d'):r = r'∧d = d':=by
 induction c generalizing k' d' with
 | root e =>
  cases c' with
  | root=>exact ⟨rfl,rfl⟩
  | step e'=>rw [e] at e'; exact kNS e'
 | step e _ ih =>
  cases c' with
  | root e'=>rw [e] at e'; exact kSN e'
  | step e' c' =>
   rw [e] at e'
   refine k1f e' fun yA=>?_; clear e'; refine k2X yA fun yB yC=>?_; clear yA; subst yB; subst yC
   refine cA2 (ih c') fun h1 h2=>?_
   exact ⟨h1,by rw [h2]⟩
structure AbR (es:Ab) (S:(Nm→Int)→Prop) (rt:Nm→Nm) (ds:Nm→Int):Prop where
 chain:∀ x,∃ k,k≤es.length∧k6a es x k (rt x) (ds x)
 rep:∀ φ,S φ↔∀ x,φ x = φ (rt x) + ds x
theorem AbR.idem {es:Ab} {S:(Nm→Int)→Prop} {rt:Nm→Nm} {ds:Nm→Int} (A:AbR es S rt ds) (x:Nm):rt (rt x) = rt x∧ds (rt x) = 0:=by
 refine cX1 (A.chain x) fun k yA=>cA2 yA fun _ c=>?_; clear yA
 refine cX1 (A.chain (rt x)) fun k' yA=>cA2 yA fun _ c'=>?_; clear yA
 exact c'.det (.root c.dead)
theorem AbR.empty:AbR [] (fun Y=>True) id (fun Y=>0) :=
 ⟨fun x=>⟨0,w0l _,.root rfl⟩,fun φ=>⟨fun Y x=>by simp,fun Y=>trivial⟩⟩
theorem k6a.grow {es:Ab} {x r:Nm} {k:Nat} {d:Int} (c:k6a es x k r d) {q p:Nm} {g:Int} (hq:k0Q es q = none) (hp:k0Q es p = none) (hpq:p≠q) :
  if r = q then k6a (es ++ [(q,(p,g))]) x (k + 1) p (d + g) else k6a (es ++ [(q,(p,g))]) x k r d:=by
 induction c with
 | @root x e =>
  by_cases h:x = q
  ·rw [if_pos h]
   subst h
   have:k6a (es ++ [(x,(p,g))]) x 1 p (g + 0):=.step (by rw [k3V,e,k1d,if_pos rfl]; rfl) (.root (by rw [k3V,hp,k1d,if_neg (Ne.symm hpq)]; rfl))
   have e2:(0:Int) + g = g + 0:=by lia
   rw [e2]; exact this
  ·rw [if_neg h]
   exact .root (by rw [k3V,e,k1d,if_neg (Ne.symm h)]; rfl)
 | @step x p' r g' d' k e c ih =>
  have e':k0Q (es ++ [(q,(p,g))]) x = some (p',g'):=by rw [k3V,e]; rfl
  by_cases h:r = q
  ·rw [if_pos h] at ih ⊢
   rw [Int.add_assoc]
   exact .step e' ih
  ·rw [if_neg h] at ih ⊢
   exact .step e' ih
theorem AbR.same {es:Ab} {S S':(Nm→Int)→Prop} {rt:Nm→Nm} {ds:Nm→Int} (A:AbR es S rt ds) {x y:Nm} {a b:Int} (hS:∀ φ,S' φ↔S φ∧φ x + a = φ y + b)
  (hr:rt x = rt y) (hg:ds x + a - ds y - b = 0):AbR es S' rt ds :=
 ⟨A.chain,fun φ=>by
  rw [hS]
  constructor
  ·exact fun h=>(A.rep φ).mp h.1
  ·intro h
   refine ⟨(A.rep φ).mpr h,?_⟩
   rw [h x,h y,hr]; lia⟩
theorem AbR.clash {es:Ab} {S S':(Nm→Int)→Prop} {rt:Nm→Nm} {ds:Nm→Int} (A:AbR es S rt ds) {x y:Nm} {a b:Int} (hS:∀ φ,S' φ↔S φ∧φ x + a = φ y + b)
  (hr:rt x = rt y) (hg:ds x + a - ds y - b≠0) (φ:Nm→Int):¬ S' φ:=by
 rw [hS]
 intro z0q; refine cA2 z0q fun h1 h2=>?_; clear z0q
 have h:=(A.rep φ).mp h1
 rw [h x,h y,hr] at h2
 lia
theorem AbR.new {es:Ab} {S S':(Nm→Int)→Prop} {rt:Nm→Nm} {ds:Nm→Int} (A:AbR es S rt ds) {x y:Nm} {a b:Int} (hS:∀ φ,S' φ↔S φ∧φ x + a = φ y + b)
  (hr:rt x≠rt y):AbR (es ++ [(rt y,(rt x,ds x + a - ds y - b))]) S' (fun z=>if rt z = rt y then rt x else rt z) (fun z=>if rt z = rt y then ds z + (ds x + a - ds y - b) else ds z):=by
 refine cX1 (A.chain x) fun _ yA=>cA2 yA fun _ cx=>?_; clear yA
 refine cX1 (A.chain y) fun _ yA=>cA2 yA fun _ cy=>?_; clear yA
 refine ⟨fun z=>?_,fun φ=>?_⟩
 ·refine cX1 (A.chain z) fun k yA=>cA2 yA fun hk c=>?_; clear yA
  have g:=c.grow (g:=ds x + a - ds y - b) cy.dead cx.dead hr
  by_cases h:rt z = rt y
  ·rw [if_pos h] at g
   simp only [if_pos h]
   exact ⟨k + 1,by simp; lia,g⟩
  ·rw [if_neg h] at g
   simp only [if_neg h]
   exact ⟨k,by simp; lia,g⟩
 ·rw [hS,A.rep]
  constructor
  ·intro z0q z; refine cA2 z0q fun h1 h2=>?_; clear z0q
   by_cases h:rt z = rt y
   ·simp only [if_pos h]
    have hz:=h1 z
    have hx:=h1 x
    have hy:=h1 y
    rw [h] at hz
    lia
   ·simp only [if_neg h]; exact h1 z
  ·intro h
   have hry:φ (rt y) = φ (rt x) + (ds x + a - ds y - b):=by
    have:=h (rt y)
    simp only [(A.idem y).1,(A.idem y).2,if_true] at this
    lia
   have h1:∀ z,φ z = φ (rt z) + ds z:=fun z=>by
    have:=h z
    by_cases q:rt z = rt y
    ·simp only [if_pos q] at this
     rw [q]; lia
    ·simp only [if_neg q] at this; exact this
   refine ⟨h1,?_⟩
   have hx:=h1 x
   have hy:=h1 y
   lia
theorem z3L {h:Hp} {a:Nat} {o:O} (e:h[a]? = some o):h.set a o = h:=by
 apply List.ext_getElem?
 intro i
 by_cases q:a = i
 ·subst q; rw [w1q (k0t e),e]
 ·rw [w1h q]
theorem k6Z {es:Ab} {a:Nat} {h:Hp} (ha:h[a]? = some (.dict (k3K es))) {S S':(Nm→Int)→Prop} {rt:Nm→Nm} {ds:Nm→Int} (A:AbR es S rt ds) (hl:es.length < 60)
  {x y:Nm} {i j:Int} (hS:∀ φ,S' φ↔S φ∧φ x + i = φ y + j) {Q:Po V}
  (h1:∀ es' rt' ds',AbR es' S' rt' ds'→es'.length≤es.length + 1→Q (.ok .none) (h.set a (.dict (k3K es'))))
  (h2:(∀ φ,¬ S' φ)→Q (.error .lay) h):wp (k2V [.loc a,.str x,.int i,.str y,.int j]) Q h:=by
 unfold k2V k6O
 rw [k1z]
 refine ⟨rfl,?_⟩
 refine cX1 (A.chain x) fun kx yA=>cA2 yA fun lx cx=>?_; clear yA
 refine cX1 (A.chain y) fun ky yA=>cA2 yA fun ly cy=>?_; clear yA
 by_cases hr:rt x = rt y
 ·by_cases hg:ds x + i - ds y - j = 0
  ·simp [k0r,k0P,k3W ha cx (by lia),k3W ha cy (by lia),hr,hg]
   have:=h1 es rt ds (A.same hS hr hg) (by lia)
   rw [z3L ha] at this
   exact this
  ·simp [k0r,k0P,k3W ha cx (by lia),k3W ha cy (by lia),hr,hg]
   exact h2 (A.clash hS hr hg)
 ·have hb:(rt x == rt y) = false:=beq_eq_false_iff_ne.mpr hr
  have hl':(k3K es).length≤4000:=by unfold k3K; simp; lia
  simp [k0r,k0P,k3W ha cx (by lia),k3W ha cy (by lia),hr,hb,bne,ha,hl']
  have:=h1 _ _ _ (A.new hS hr) (by simp)
  have e:k3K (es ++ [(rt y,(rt x,ds x + i - ds y - j))]) = k2c (k3K es) (rt y) (V.tup [V.str (rt x),V.int (ds x + i - ds y - j)]):=by
   rw [k2I (by rw [k7v,cy.dead]; rfl)]
   unfold k3K
   simp
  rw [e] at this
  exact this
end T
namespace T
structure Item where
 nm:Nm
 subs:List Int
 sign:Int
 loc:Nat
structure Com where
 blk:Nm
 names:List Nm
 loc:Nat
structure Grp where
 items:List Item
 loc:Nat
structure Un where
 ord:List Nm
 th:Nm→Th
 com:List Com
 grp:List Grp
 kept:List Nm
noncomputable def names:List Nm:=[[65],[66],[67],[68]]
structure Un.Ok (u:Un):Prop where
 ord:∀ n,n∈u.ord↔n∈names
 nd:u.ord.Nodup
 ordlen:u.ord.length = 4
 th:∀ n,(u.th n).Ok
 blk:∀ p,p∈u.com→p.blk = [88]∨p.blk = []
 comn:∀ p,p∈u.com→∀ n,n∈p.names→n∈names
 coml:u.com.length≤2
 comnl:∀ p,p∈u.com→p.names.length≤2
 grpl:u.grp.length≤2
 grp1:∀ g,g∈u.grp→g.items≠[]∧g.items.length≤3
 item:∀ g,g∈u.grp→∀ i,i∈g.items→i.nm∈names∧i.subs.length≤1
 keptl:u.kept.length≤3
noncomputable def k1a (i:Item):V:=.tup [.str i.nm,.loc i.loc,.int i.sign]
noncomputable def k2J (p:Com):V:=.tup [.str p.blk,.loc p.loc]
noncomputable def k3L (p:Grp):V:=.loc p.loc
noncomputable def k1F {α:Type} (f:α→V) (es:List (Nm × α)):List (Nm × V):=es.map fun e=>(e.1,f e.2)
theorem k1h {α:Type} (f:α→V) (es:List (Nm × α)) (k:Nm):k0Q (k1F f es) k = (k0Q es k).map f:=by
 induction es with
 | nil=>rfl
 | cons e es ih =>
  obtain ⟨a,b⟩:=e
  unfold k1F at ih ⊢
  rw [w0f,k1d,k1d,ih]
  split <;> rfl
theorem k3i {α:Type} (f:α→V) (es:List (Nm × α)) (k:Nm) (v:α):k2c (k1F f es) k (f v) = k1F f (k2c es k v):=by
 cases e:k0Q es k with
 | none =>
  rw [k2I e,k2I (by rw [k1h,e]; rfl)]
  unfold k1F; simp
 | some o =>
  rw [k5V e,k5V (o:=f o) (by rw [k1h,e]; rfl)]
  unfold k1F
  rw [w0k,w0k]
  refine w1G fun p Y=>?_
  simp only [Function.comp]
  split <;> rfl
theorem k1B {α:Type} (f:α→V) (es:List (Nm × α)):(k1F f es).length = es.length:=by unfold k1F; simp
theorem k9m {α:Type} (f:α→V) (es:List (Nm × α)):(k1F f es).map (fun e=>V.str e.1) = (es.map (·.1)).map V.str:=by unfold k1F; simp
structure k2b (h:Hp) (b t c g k:Nat) (u:Un):Prop where
 tb:t < b
 ht:h[t]? = some (.dict (u.ord.map fun n=>(n,k2z (u.th n))))
 cb:c < b
 hc:h[c]? = some (.list (u.com.map k2J))
 hcs:∀ p,p∈u.com→p.loc < b∧h[p.loc]? = some (.list (p.names.map .str))
 gb:g < b
 hg:h[g]? = some (.list (u.grp.map k3L))
 hgs:∀ p,p∈u.grp→p.loc < b∧h[p.loc]? = some (.list (p.items.map k1a))
 his:∀ p,p∈u.grp→∀ i,i∈p.items→i.loc < b∧h[i.loc]? = some (.list (i.subs.map .int))
 kb:k < b
 hk:h[k]? = some (.list (u.kept.map .str))
noncomputable def kName:Nm:=[110,97,109,101]
noncomputable def z1b:Nm:=[116,104,105,110,103,115]
noncomputable def k8j:Nm:=[99,111,109,109,111,110,115]
noncomputable def z1c:Nm:=[101,113,117,105,118,115]
noncomputable def kKept:Nm:=[107,101,112,116]
structure k2m (h:Hp) (b s:Nat) (nm:Nm) (d t c g k:Nat) (u:Un):Prop where
 sb:s < b
 hs:h[s]? = some (.inst 0 d)
 db:d < b
 hd:h[d]? = some (.dict [(kName,.str nm),(z1b,.loc t),(k8j,.loc c),(z1c,.loc g),(kKept,.loc k)])
 un:k2b h b t c g k u
noncomputable def k3d (S:List Nat) (b:Nat):Prop:=∀ i,i∈S→b≤i
theorem k0M.getB {S:List Nat} {b:Nat} {h h':Hp} (x:k0M S h h') (hS:k3d S b) {l:Nat} {o:O} (e:h[l]? = some o) (hl:l < b):h'[l]? = some o :=
 x.get e fun q=>by have:=hS l q; lia
theorem k2b.keep {S:List Nat} {h h':Hp} {b t c g k:Nat} {u:Un} (x:k2b h b t c g k u) (y:k0M S h h') (hS:k3d S b):k2b h' b t c g k u where
 tb:=x.tb
 ht:=y.getB hS x.ht x.tb
 cb:=x.cb
 hc:=y.getB hS x.hc x.cb
 hcs:=fun p hp=>⟨(x.hcs p hp).1,y.getB hS (x.hcs p hp).2 (x.hcs p hp).1⟩
 gb:=x.gb
 hg:=y.getB hS x.hg x.gb
 hgs:=fun p hp=>⟨(x.hgs p hp).1,y.getB hS (x.hgs p hp).2 (x.hgs p hp).1⟩
 his:=fun p hp i hi=>⟨(x.his p hp i hi).1,y.getB hS (x.his p hp i hi).2 (x.his p hp i hi).1⟩
 kb:=x.kb
 hk:=y.getB hS x.hk x.kb
theorem k2m.keep {S:List Nat} {h h':Hp} {b s d t c g k:Nat} {nm:Nm} {u:Un} (x:k2m h b s nm d t c g k u) (y:k0M S h h') (hS:k3d S b):k2m h' b s nm d t c g k u :=
 ⟨x.sb,y.getB hS x.hs x.sb,x.db,y.getB hS x.hd x.db,x.un.keep y hS⟩
theorem k2m.fields {h:Hp} {b s d t c g k:Nat} {nm:Nm} {u:Un} (x:k2m h b s nm d t c g k u) :
  k3m h s = some (d,[(kName,.str nm),(z1b,.loc t),(k8j,.loc c),(z1c,.loc g),(kKept,.loc k)]):=by
 unfold k3m; rw [x.hs]; dsimp only; rw [x.hd]
section
variable {h:Hp} {b s d t c g k:Nat} {nm:Nm} {u:Un} (x:k2m h b s nm d t c g k u) (Q:Po V)
include x
theorem k2m.name:wp (k7l [110,97,109,101] (.loc s)) Q h = Q (.ok (.str nm)) h:=by
 rw [k6k,x.fields,k0g]; rfl
theorem k2m.things:wp (k7l [116,104,105,110,103,115] (.loc s)) Q h = Q (.ok (.loc t)) h:=by
 rw [k6k,x.fields,k0g]; rfl
theorem k2m.commons:wp (k7l [99,111,109,109,111,110,115] (.loc s)) Q h = Q (.ok (.loc c)) h:=by
 rw [k6k,x.fields,k0g]; rfl
theorem k2m.equivs:wp (k7l [101,113,117,105,118,115] (.loc s)) Q h = Q (.ok (.loc g)) h:=by
 rw [k6k,x.fields,k0g]; rfl
theorem k2m.kept:wp (k7l [107,101,112,116] (.loc s)) Q h = Q (.ok (.loc k)) h:=by
 rw [k6k,x.fields,k0g]; rfl
end
theorem k2S {α:Type} (l:List Nm) (f:Nm→α) {n:Nm} (hn:n∈l):k0Q (l.map fun n=>(n,f n)) n = some (f n):=by
 induction l with
 | nil=>simp at hn
 | cons a l ih =>
  rw [w0f,k1d]
  by_cases e:a = n
  ·rw [if_pos e,e]
  ·rw [if_neg e]
   refine Or.elim (w0c.mp hn) (fun q=>?_) fun q=>?_
   ·exact absurd q.symm e
   ·exact ih q
theorem k2b.thing {h:Hp} {b t c g k:Nat} {u:Un} (x:k2b h b t c g k u) (ok:u.Ok) {n:Nm} (hn:n∈names) (Q:Po V):wp (k0V (.loc t) (.str n)) Q h = Q (.ok (k2z (u.th n))) h:=by
 rw [k1R,x.ht,k0g,k1j,k2S u.ord (fun n=>k2z (u.th n)) ((ok.ord n).mpr hn),k0g]
theorem k4y {h:Hp} {b s d t c g k:Nat} {nm:Nm} {u:Un} (x:k2m h b s nm d t c g k u) (ok:u.Ok) {n:Nm} (hn:n∈names) (Q:Po V) :
  wp (k3R [.loc s,.str n]) Q h = Q (.ok (k2z (u.th n))) h:=by
 unfold k3R z0j
 rw [k1z]
 have hd:=k2S u.ord (fun n=>k2z (u.th n)) ((ok.ord n).mpr hn)
 simp [k0r,k0P,x.things,x.un.ht,hd]
noncomputable def Un.pairs (u:Un):List (Nm × Nm):=u.com.flatMap fun p=>p.names.map fun n=>(p.blk,n)
noncomputable def k1U (l:List Com):List (Nm × Nm):=l.flatMap fun p=>p.names.map fun n=>(p.blk,n)
noncomputable def k1P (ps:List (Nm × Nm)) (b:Nm):List Nm:=(ps.filter fun p=>p.1 = b).map (·.2)
noncomputable def sizes (th:Nm→Th) (ns:List Nm):Int:=(ns.map fun n=>(th n).size).sum
noncomputable def BSat (th:Nm→Th) (φ:Nm→Int) (base:Int):Int→List Nm→Prop
 | _,[]=>True
 | at',n :: r=>base + at' = φ n∧BSat th φ base (at' + (th n).size) r
noncomputable def k4Q (th:Nm→Th) (ps:List (Nm × Nm)) (φ:Nm→Int):Prop:=∀ b,BSat th φ (φ (47 :: b)) 0 (k1P ps b)
structure k7w (th:Nm→Th) (ps:List (Nm × Nm)):Prop where
 nd:(ps.map (·.2)).Nodup
 pure:∀ p,p∈ps→∀ q,q∈ps→p.1 = q.1→(th p.2).txt = (th q.2).txt
theorem k7a (th:Nm→Th) (φ:Nm→Int) (base:Int) (n:Nm):∀ (l:List Nm) (a:Int),BSat th φ base a (l ++ [n])↔BSat th φ base a l∧base + (a + sizes th l) = φ n
 | [],a=>by simp [BSat,sizes]
 | m :: l,a=>by
  rw [w0o,BSat,BSat,k7a th φ base n l,and_assoc]
  simp only [sizes,w0f,w0Q,Int.add_assoc]
theorem k4u (ps:List (Nm × Nm)) (b n c:Nm):k1P (ps ++ [(b,n)]) c = if b = c then k1P ps c ++ [n] else k1P ps c:=by
 unfold k1P
 rw [w0V]
 by_cases e:b = c <;> simp [e]
theorem k9n (th:Nm→Th) (ps:List (Nm × Nm)) (b n:Nm) (φ:Nm→Int):k4Q th (ps ++ [(b,n)]) φ↔k4Q th ps φ∧φ (47 :: b) + sizes th (k1P ps b) = φ n + 0:=by
 unfold k4Q
 constructor
 ·intro h
  refine ⟨fun c=>?_,?_⟩
  ·have:=h c
   rw [k4u] at this
   by_cases e:b = c
   ·rw [if_pos e,k7a] at this; exact this.1
   ·rw [if_neg e] at this; exact this
  ·have:=h b
   rw [k4u,if_pos rfl,k7a] at this
   have:=this.2
   lia
 ·intro z0q c; refine cA2 z0q fun h1 h2=>?_; clear z0q
  rw [k4u]
  by_cases e:b = c
  ·subst e
   rw [if_pos rfl,k7a]
   exact ⟨h1 b,by lia⟩
  ·rw [if_neg e]; exact h1 c
theorem k4Q.pre {th:Nm→Th} {ps qs:List (Nm × Nm)} {φ:Nm→Int} (h:k4Q th (ps ++ qs) φ):k4Q th ps φ:=by
 induction qs generalizing ps with
 | nil=>simpa using h
 | cons q qs ih =>
  obtain ⟨b,n⟩:=q
  have:ps ++ (b,n) :: qs = (ps ++ [(b,n)]) ++ qs:=by simp
  rw [this] at h
  exact ((k9n th ps b n φ).mp (ih h)).1
end T
namespace T
theorem z1d (l:List Nm):strs? (l.map V.str) = some l:=by
 induction l with
 | nil=>rfl
 | cons a l ih=>rw [w0f,strs?,ih]; rfl
structure k7b (th:Nm→Th) (ps:List (Nm × Nm)) (so:List (Nm × Bool)):Prop where
 nd:(so.map (·.1)).Nodup
 get:∀ b s,k0Q so b = some s↔∃ n,(b,n)∈ps∧s = (th n).txt
structure JcSt (th:Nm→Th) (a l2 l3 l4:Nat) (hs h:Hp) (ps:List (Nm × Nm)) (so:List (Nm × Bool)) (en:List (Nm × Int)) (es:Ab) (rt:Nm→Nm) (ds:Nm→Int):Prop where
 keep:k0M [a,l2,l3,l4] hs h
 h2:h[l2]? = some (.dict (k1F .bool so))
 h3:h[l3]? = some (.dict (k1F .int en))
 h4:h[l4]? = some (.list ((ps.map (·.2)).map .str))
 ha:h[a]? = some (.dict (k3K es))
 soR:k7b th ps so
 enR:∀ b,(k0Q en b).getD 0 = sizes th (k1P ps b)
 ok:k7w th ps
 ab:AbR es (k4Q th ps) rt ds
 esl:es.length≤ps.length
 sol:so.length≤ps.length
 enl:en.length≤ps.length
theorem z4G {th:Nm→Th} {ps:List (Nm × Nm)} {b n:Nm} (h:k7w th ps) (hn:n∉ps.map (·.2)) (hs:∀ m,(b,m)∈ps→(th m).txt = (th n).txt):k7w th (ps ++ [(b,n)]) where
 nd:=by
  rw [w0j,w0w]
  refine ⟨h.nd,by simp,fun x hx y hy=>?_⟩
  simp at hy; subst hy; rintro rfl; exact hn hx
 pure:=fun p hp q hq e=>by
  refine Or.elim (w0g.mp hp) (fun hp=>?_) fun hp=>?_ <;> refine Or.elim (w0g.mp hq) (fun hq=>?_) fun hq=>?_
  ·exact h.pure p hp q hq e
  ·rw [w0h] at hq; subst hq
   have e':p.1 = b:=e
   exact hs p.2 (by rw [← e']; exact hp)
  ·rw [w0h] at hp; subst hp
   have e':b = q.1:=e
   exact (hs q.2 (by rw [e']; exact hq)).symm
  ·rw [w0h] at hp hq; subst hp; subst hq; rfl
noncomputable def k3X {α:Type} (es:List (Nm × α)) (k:Nm) (v:α):List (Nm × α):=if (k0Q es k).isSome then es else k2c es k v
theorem z2V {th:Nm→Th} {ps:List (Nm × Nm)} {so:List (Nm × Bool)} (h:k7b th ps so) {b n:Nm} (hs:∀ m,(b,m)∈ps→(th m).txt = (th n).txt) :
  k7b th (ps ++ [(b,n)]) (k3X so b (th n).txt):=by
 unfold k3X
 cases e:k0Q so b with
 | some s =>
  simp only [w1k,if_true]
  refine ⟨h.nd,fun c s'=>?_⟩
  rw [h.get]
  refine cX1 ((h.get b s).mp e) fun m yA=>cA2 yA fun hm yB=>?_; clear yA; subst yB
  constructor
  ·intro z0q; refine cX1 z0q fun k yA=>cA2 yA fun hk yB=>?_; clear z0q yA; subst yB; exact ⟨k,by simp [hk],rfl⟩
  ·intro z0q; refine cX1 z0q fun k yA=>cA2 yA fun hk yB=>?_; clear z0q yA; subst yB
   refine Or.elim (w0g.mp hk) (fun hk=>?_) fun hk=>?_
   ·exact ⟨k,hk,rfl⟩
   ·simp at hk; refine cA2 hk fun yA=>?_; clear hk; subst yA; intro yB; subst yB
    exact ⟨m,hm,(hs m hm).symm⟩
 | none =>
  simp only [w1l,w0p,if_false]
  refine ⟨z0n h.nd _ _,fun c s'=>?_⟩
  rw [k2o]
  have hno:∀ m,(b,m)∉ps:=fun m hm=>by
   have:=(h.get b _).mpr ⟨m,hm,rfl⟩
   rw [e] at this; exact kNS this
  by_cases q:b = c
  ·subst q
   rw [if_pos rfl]
   constructor
   ·intro e; refine k1f e fun yA=>?_; clear e; subst yA; exact ⟨n,by simp,rfl⟩
   ·intro z0q; refine cX1 z0q fun k yA=>cA2 yA fun hk yB=>?_; clear z0q yA; subst yB
    refine Or.elim (w0g.mp hk) (fun hk=>?_) fun hk=>?_
    ·exact absurd hk (hno k)
    ·simp at hk; subst hk; rfl
  ·rw [if_neg q,h.get]
   constructor
   ·intro z0q; refine cX1 z0q fun k yA=>cA2 yA fun hk yB=>?_; clear z0q yA; subst yB; exact ⟨k,by simp [hk],rfl⟩
   ·intro z0q; refine cX1 z0q fun k yA=>cA2 yA fun hk yB=>?_; clear z0q yA; subst yB
    refine Or.elim (w0g.mp hk) (fun hk=>?_) fun hk=>?_
    ·exact ⟨k,hk,rfl⟩
    ·simp at hk; exact absurd hk.1.symm q
noncomputable def jcBody:Reg→X (Fl × Reg) :=
 (k0H (k0p (k1c k3R (k0f (k0d 0) (k0f (k0d 7) k0T))) (k0l 8))
 (k0H (xIf (k2L xIn (k0d 7) (k0d 4)) (k0H (k3N .lay)
 k1s) k1s)
 (k0H (k4c (k5m k3A k3o (k0d 4) (k0f (k0d 7) k0T)))
 (k0H (xIf (k2L xNe (k5m k6s xSetD (k0d 2) (k0f (k0d 5) (k0f (k1c k1A (k0f (k0d 8) k0T)) k0T))) (k1c k1A (k0f (k0d 8) k0T))) (k0H (k3N .lay)
 k1s) k1s)
 (k0H (k0p (k5m k6s xGet (k0d 3) (k0f (k0d 5) (k0f (cI 0) k0T))) (k0l 9))
 (k0H (k4c (k1c k2V (k0f (k0d 1) (k0f (k1g k4T (cS [47]) (k0d 5)) (k0f (k0d 9) (k0f (k0d 7) (k0f (cI 0) k0T)))))))
 (k0H (k0p (k1g k4T (k0d 9) (k1c k3g (k0f (k0d 8) k0T))) (k7Z (k0d 3) (k0d 5)))
 k1s)))))))
theorem w_jcBody {b s d t c g k:Nat} {nm:Nm} {u:Un} {a l2 l3 l4:Nat} {hs h:Hp} {ps:List (Nm × Nm)} {so:List (Nm × Bool)} {en:List (Nm × Int)} {es:Ab} {rt:Nm→Nm} {ds:Nm→Int}
  (ok:u.Ok) (sp:k2m h b s nm d t c g k u) (x:JcSt u.th a l2 l3 l4 hs h ps so en es rt ds) (hlen:ps.length < 50) (hb:k3d [a,l2,l3,l4] b)
  (n12:a≠l2) (n13:a≠l3) (n14:a≠l4) (n23:l2≠l3) (n24:l2≠l4) (n34:l3≠l4) {bk n:Nm} (hbk:bk.length≤1) (hn:n∈names) {g6 g8 g9:Option V} {Q:Po (Fl × Reg)}
  (h1:∀ h' so' en' es' rt' ds',JcSt u.th a l2 l3 l4 hs h' (ps ++ [(bk,n)]) so' en' es' rt' ds'→∀ g8 g9,Q (.ok (.next,[some (.loc s),some (.loc a),some (.loc l2),some (.loc l3),some (.loc l4),some (.str bk),g6,some (.str n),g8,g9])) h')
  (h2:∀ h',k0M [a,l2,l3,l4] hs h'→(∀ qs,k7w u.th (ps ++ (bk,n) :: qs)→∀ φ,¬ k4Q u.th (ps ++ (bk,n) :: qs) φ)→Q (.error .lay) h') :
  wp (jcBody [some (.loc s),some (.loc a),some (.loc l2),some (.loc l3),some (.loc l4),some (.str bk),g6,some (.str n),g8,g9]) Q h:=by
 unfold jcBody
 have L2:=k0t x.h2
 have L3:=k0t x.h3
 have L4:=k0t x.h4
 have La:=k0t x.ha
 by_cases e1:n∈ps.map (·.2)
 ·have e1':(ps.map (·.2)).contains n = true:=by rw [w0N]; exact e1
  have e1'':oMem n (.list ((ps.map (·.2)).map V.str)) = some true:=by rw [k9h,z1d,w0x,e1']
  simp only [k0L,k0y,k0K,k0D,k0z,k0s,rg0,rgS,w0a,k0g,k0E,k0C,k0O,k0W,k4y sp ok hn,k1q,k0x,k1r,k0o,w0e,w0d,z0W,k2a,k0u,k0r,q_in,x.h4,e1'',k1x,if_true,k5r,k2l,k2w]
  refine h2 h x.keep fun qs hq φ Y=>?_
  have:=hq.nd
  rw [w0j,w0w] at this
  exact this.2.2 n e1 n (by simp) rfl
 ·have e1':(ps.map (·.2)).contains n = false:=by
   rw [w1I]; intro q; rw [w0N] at q; exact e1 q
  have e1'':oMem n (.list ((ps.map (·.2)).map V.str)) = some false:=by rw [k9h,z1d,w0x,e1']
  have hl4:((ps.map (·.2)).map V.str).length≤4000:=by simp; lia
  have hh2:=k0m x.h2 n24.symm (.list (((ps.map (·.2)).map V.str) ++ [.str n]))
  have K1:=k0M.set (S:=[a,l2,l3,l4]) (by simp) h (.list (((ps.map (·.2)).map V.str) ++ [V.str n]):O) (l:=l4)
  have hso:(k1F V.bool so).length≤4000:=by rw [k1B]; have:=x.sol; lia
  have hen:(k1F V.int en).length≤4000:=by rw [k1B]; have:=x.enl; lia
  generalize hX:(O.list (((ps.map (·.2)).map V.str) ++ [V.str n])) = X4 at hh2 K1
  by_cases e2:∀ m,(bk,m)∈ps→(u.th m).txt = (u.th n).txt
  ·have e3:∃ v,z2H bk (.bool (u.th n).txt) (.dict (k1F V.bool so)) = some (v,.dict (k1F V.bool (k3X so bk (u.th n).txt)))∧v = .bool (u.th n).txt:=by
    unfold z2H k3X
    dsimp only
    rw [if_pos hso,k1h]
    cases e:k0Q so bk with
    | some s =>
     refine cX1 ((x.soR.get bk s).mp e) fun m yA=>cA2 yA fun hm yB=>?_; clear yA; subst yB
     exact ⟨_,rfl,by rw [e2 m hm]⟩
    | none=>exact ⟨_,by rw [k3i]; rfl,rfl⟩
   refine cX1 e3 ?_; clear e3; intro v yA; refine cA2 yA fun e3 yB=>?_; clear yA; subst yB
   have K2:=K1.trans (k0M.set (S:=[a,l2,l3,l4]) (by simp) (h.set l4 X4) (.dict (k1F V.bool (k3X so bk (u.th n).txt))) (l:=l2))
   have g2:((h.set l4 X4).set l2 (.dict (k1F V.bool (k3X so bk (u.th n).txt))))[l2]? = some (.dict (k1F V.bool (k3X so bk (u.th n).txt))):=k0J hh2 _
   have g3:((h.set l4 X4).set l2 (.dict (k1F V.bool (k3X so bk (u.th n).txt))))[l3]? = some (.dict (k1F .int en)):=k0m (k0m x.h3 n34.symm _) n23 _
   have g4:((h.set l4 X4).set l2 (.dict (k1F V.bool (k3X so bk (u.th n).txt))))[l4]? = some X4:=k0m (k0J x.h4 _) n24 _
   have ga:((h.set l4 X4).set l2 (.dict (k1F V.bool (k3X so bk (u.th n).txt))))[a]? = some (.dict (k3K es)):=k0m (k0m x.ha n14.symm _) n12.symm _
   generalize hH:(h.set l4 X4).set l2 (.dict (k1F V.bool (k3X so bk (u.th n).txt))) = H1 at K2 g2 g3 g4 ga
   have e4:oGet bk (.int 0) (.dict (k1F V.int en)) = some (.int (sizes u.th (k1P ps bk))):=by
    rw [z1Y,k1h,← x.enR bk]
    cases k0Q en bk <;> rfl
   have hbk1:bk.length + 1≤1000:=by lia
   simp only [k0L,k0y,k0K,k0D,k0z,k0s,rg0,rgS,w0a,k0g,k0E,k0C,k0O,k0W,k4y sp ok hn,k1q,k0x,k1r,k0o,w0e,w0d,z0W,k2a,k0u,k0r,q_in,x.h4,e1'',k1x,if_false,k5r,k2l,k2w,w0p,k1Q,k3P,k4l,k3I,k3J,k2R,hl4,if_true,k8i,hh2,k5H,z5K,e3,hX,hH,bne_self_eq_false,q_neB,k1i,q_cS,z3J,w0s,w0q,w0y,w0o,w0r,g3,q_get,e4,k4k,k0g]
   rw [show 1 + bk.length = bk.length + 1 from Nat.add_comm _ _]
   refine ⟨hbk1,?_⟩
   refine k6Z ga x.ab (by have:=x.esl; lia) (S':=k4Q u.th (ps ++ [(bk,n)])) (fun φ=>k9n u.th ps bk n φ) (fun es' rt' ds' A hl=>?_) (fun hno=>?_)
   ·have K3:=K2.trans (k0M.set (S:=[a,l2,l3,l4]) (by simp) H1 (.dict (k3K es')) (l:=a))
    have f3:(H1.set a (.dict (k3K es')))[l3]? = some (.dict (k1F .int en)):=k0m g3 n13 _
    have sp':=sp.keep K3 hb
    simp only [k0L,k0y,k0K,k0D,k0z,k0s,rg0,rgS,w0a,k0g,k0E,k0C,k0O,k0W,k4y sp ok hn,k1q,k0x,k1r,k0o,w0e,w0d,z0W,k2a,k0u,k0r,q_in,x.h4,e1'',k1x,if_false,k5r,k2l,k2w,w0p,k1Q,k3P,k4l,k3I,k3J,k2R,hl4,if_true,k8i,hh2,k5H,z5K,e3,k6Y (ok.th n),k4o,k4H,k6w,f3,k1i,k0P,k2C,hen,if_true]
    refine h1 _ (k3X so bk (u.th n).txt) (k2c en bk (sizes u.th (k1P ps bk) + (u.th n).size)) es' rt' ds' ?_ _ _
    have K4:=K3.trans (k0M.set (S:=[a,l2,l3,l4]) (by simp) (H1.set a (.dict (k3K es'))) (.dict (k2c (k1F V.int en) bk (.int (sizes u.th (k1P ps bk) + (u.th n).size)))) (l:=l3))
    refine ⟨x.keep.trans K4,k0m (k0m g2 n12 _) n23.symm _,?_,?_,k0m (k0J ga _) n13.symm _,z2V x.soR e2,fun c=>?_,z4G x.ok e1 e2,A,by simp; have:=x.esl; lia,?_,?_⟩
    ·rw [k0J f3,k3i]
    ·rw [k0m (k0m g4 n14 _) n34 _,← hX]; simp
    ·rw [k2o,k4u]
     by_cases q:bk = c
     ·subst q
      rw [if_pos rfl,if_pos rfl]
      simp [sizes]
     ·rw [if_neg q,if_neg q,x.enR]
    ·unfold k3X
     simp only [w0t,w0B]
     have:=x.sol
     split
     ·lia
     ·have:=k2y so bk (u.th n).txt; lia
    ·simp only [w0t,w0B]
     have:=x.enl
     have:=k2y en bk (sizes u.th (k1P ps bk) + (u.th n).size); lia
   ·simp only [k6d,k2l]
    refine h2 _ (x.keep.trans K2) fun qs hq φ hs=>?_
    rw [w2a] at hs
    exact hno φ hs.pre
  ·obtain ⟨m,hm,hmn⟩:∃ m,(bk,m)∈ps∧(u.th m).txt≠(u.th n).txt:=by
    apply Classical.byContradiction
    intro q
    exact e2 fun m hm=>Classical.byContradiction fun z=>q ⟨m,hm,z⟩
   have eg:=(x.soR.get bk _).mpr ⟨m,hm,rfl⟩
   have e3:z2H bk (.bool (u.th n).txt) (.dict (k1F V.bool so)) = some (.bool (u.th m).txt,.dict (k1F V.bool so)):=by
    unfold z2H
    dsimp only
    rw [if_pos hso,k1h,eg]
    rfl
   have hne:((u.th m).txt != (u.th n).txt) = true:=by simpa using hmn
   simp only [k0L,k0y,k0K,k0D,k0z,k0s,rg0,rgS,w0a,k0g,k0E,k0C,k0O,k0W,k4y sp ok hn,k1q,k0x,k1r,k0o,w0e,w0d,z0W,k2a,k0u,k0r,q_in,x.h4,e1'',k1x,if_false,k5r,k2l,k2w,w0p,k1Q,k3P,k4l,k3I,k3J,k2R,hl4,if_true,k8i,hh2,k5H,z5K,e3,hX,q_neB,hne,k0g]
   refine h2 _ (x.keep.trans (K1.trans (k0M.set (by simp) _ _))) fun qs hq φ Y=>?_
   exact hmn (hq.pure (bk,m) (by simp [hm]) (bk,n) (by simp) rfl)
end T
namespace T
theorem pairs_len (l:List Com) (h:∀ p,p∈l→p.names.length≤2):(k1U l).length≤2 * l.length:=by
 induction l with
 | nil=>simp [k1U]
 | cons p l ih =>
  have h1:=ih fun q hq=>h q (.tail _ hq)
  have h2:=h p (.head _)
  simp only [k1U,w1m,w0t,w0u,w0s] at h1 ⊢
  lia
theorem Un.Ok.pairs_len {u:Un} (ok:u.Ok):u.pairs.length≤4:=by
 have h1:=Mine.T.pairs_len u.com ok.comnl
 have h2:=ok.coml
 have e:u.pairs = k1U u.com:=rfl
 rw [e]; lia
theorem z2d (l:List Com) (p:Com):k1U (l ++ [p]) = k1U l ++ p.names.map fun n=>(p.blk,n):=by
 unfold k1U; rw [w1n]; simp
theorem AbR.congr {es:Ab} {S S':(Nm→Int)→Prop} {rt:Nm→Nm} {ds:Nm→Int} (A:AbR es S rt ds) (h:∀ φ,S' φ↔S φ):AbR es S' rt ds :=
 ⟨A.chain,fun φ=>(h φ).trans (A.rep φ)⟩
theorem k9R {b s d t c g k:Nat} {nm:Nm} {u:Un} {a:Nat} {h:Hp} (ok:u.Ok) (sp:k2m h b s nm d t c g k u) (hb:b≤h.length) (ha:h[a]? = some (.dict [])) (hab:b≤a) {Q:Po V}
  (h1:∀ h' l so es rt ds,k0M [a] h h'→h.length≤l→h'[l]? = some (.dict (k1F .bool so))→h'[a]? = some (.dict (k3K es))→k7b u.th u.pairs so→so.length≤4→k7w u.th u.pairs →
   AbR es (k4Q u.th u.pairs) rt ds→es.length≤4→Q (.ok (.loc l)) h')
  (h2:∀ h',k0M [a] h h'→¬ (k7w u.th u.pairs∧∃ φ,k4Q u.th u.pairs φ)→Q (.error .lay) h') :
  wp (k3h [.loc s,.loc a]) Q h:=by
 have La:=k0t ha
 have hpl:=ok.pairs_len
 unfold k3h k6j
 rw [k1z]
 refine ⟨rfl,?_⟩
 simp only [w0f,w0n,List.replicate,w0o,w0r,k0L,k0y,k3Z,k1q,k0x,k1r,k0o,w0e,w0d,k3U,k0C,k0u,k3H,w0t,w0B,w0q,k2B,k2d,k2v,k0s,rg0,rgS,w0a,k0g]
 generalize hH:(h ++ [O.dict []] ++ [O.dict []] ++ [O.list []]) = H
 have K0:k0M [a] h H:=by
  rw [← hH]
  exact ((k0M.alloc _ _ _).trans (k0M.alloc _ _ _)).trans (k0M.alloc _ _ _)
 have K1:k0M [a,h.length,h.length + 1,h.length + 1 + 1] h H:=K0.mono fun i hi=>.inl (by simp at hi ⊢; exact .inl hi)
 have B:k3d [a,h.length,h.length + 1,h.length + 1 + 1] b:=fun i hi=>by simp at hi; lia
 have sp':=sp.keep K0 fun i hi=>by simp at hi; lia
 rw [sp'.commons,k0u,k1S,sp'.un.hc,k0g]
 simp only [k0u]
 have g2:H[h.length]? = some (.dict (k1F V.bool [])):=by rw [← hH,w0D (by simp),w0D (by simp)]; simp [k1F]
 have g3:H[h.length + 1]? = some (.dict (k1F V.int [])):=by
  rw [← hH,w0D (by simp)]
  have:=k0X (h ++ [O.dict []]) (.dict [])
  rw [w0t,w0B] at this
  exact this
 have g4:H[h.length + 1 + 1]? = some (.list []):=by
  rw [← hH]
  have:=k0X (h ++ [O.dict []] ++ [O.dict []]) (.list [])
  rw [w0t,w0t,w0B] at this
  exact this
 have J0:JcSt u.th a h.length (h.length + 1) (h.length + 1 + 1) h H [] [] [] [] id (fun Y=>0) :=
  ⟨K1,g2,g3,g4,K0.trans' (S':=[]) (k0M.refl _ _) (by simp) |>.eq a La |> fun Y=>by rw [← hH]; exact k0w (k0w (k0w ha _) _) _,
   ⟨w0L,fun b s=>by simp⟩,fun b=>rfl,⟨w0L,fun p hp=>by simp at hp⟩,
   AbR.empty.congr fun φ=>⟨fun Y=>trivial,fun Y b=>by simp [k1P,BSat]⟩,by simp,by simp,by simp⟩
 let St:=fun (ps:List (Nm × Nm)) (h':Hp)=>∃ so en es rt ds,JcSt u.th a h.length (h.length + 1) (h.length + 1 + 1) h h' ps so en es rt ds
 let I:=fun (pre:List Com) (reg:Reg) (h':Hp)=>(∃ g5 g6 g7 g8 g9,reg = [some (.loc s),some (.loc a),some (.loc h.length),some (.loc (h.length + 1)),some (.loc (h.length + 1 + 1)),g5,g6,g7,g8,g9])∧St (k1U pre) h'
 have key:=ok.blk
 refine k4m u.com k2J I (by have:=ok.coml; lia) (fun pre suf reg h' e hI=>?_) ⟨(iX5 rfl),⟨_,_,_,_,_,J0⟩⟩ (fun pre p suf reg h' e hI=>?_) (fun reg h' hI=>?_)
 ·refine cA2 hI fun _ yA=>cX5 yA fun so en es rt ds J=>?_; clear hI yA
  exact k3p (sp.keep J.keep B).un.hc _
 ·refine cA2 hI fun yA yB=>cX5 yA fun g5 g6 g7 g8 g9 yC=>?_; clear hI yA; subst yC; refine cX5 yB fun so en es rt ds J=>?_; clear yB
  have hp:p∈u.com:=by rw [e]; simp
  have sp1:=sp.keep J.keep B
  unfold k2J
  simp only [k1I,w0s,w0q,true_and,k1w,k0x,k2j,k1H,w0e,w0d,k0u,k0L,k2B,k2d,k0s,rg0,rgS,w0a,k0g,k1S,(sp1.un.hcs p hp).2]
  let I2:=fun (pn:List Nm) (reg:Reg) (h':Hp)=>(∃ g7 g8 g9,reg = [some (.loc s),some (.loc a),some (.loc h.length),some (.loc (h.length + 1)),some (.loc (h.length + 1 + 1)),some (.str p.blk),some (.loc p.loc),g7,g8,g9])∧St (k1U pre ++ pn.map fun n=>(p.blk,n)) h'
  refine k4m p.names V.str I2 (by have:=ok.comnl p hp; lia) (fun pre2 suf2 reg h' e2 hI=>?_) ⟨(iX3 rfl),⟨_,_,_,_,_,by simpa using J⟩⟩ (fun pre2 n suf2 reg h' e2 hI=>?_) (fun reg h' hI=>?_)
  ·refine cA2 hI fun _ yA=>cX5 yA fun so en es rt ds J=>?_; clear hI yA
   exact k3p ((sp.keep J.keep B).un.hcs p hp).2 _
  ·refine cA2 hI fun yA yB=>cX3 yA fun g7 g8 g9 yC=>?_; clear hI yA; subst yC; refine cX5 yB fun so en es rt ds J=>?_; clear yB
   have hn:n∈names:=ok.comn p hp n (by rw [e2]; simp)
   have hbk:p.blk.length≤1:=by refine Or.elim (key p hp) (fun q=>?_) fun q=>?_ <;> rw [q] <;> simp
   rw [k0x,k0u]
   simp only [w0e,w0d]
   have e3:u.pairs = k1U pre ++ (pre2.map fun n=>(p.blk,n)) ++ (p.blk,n) :: ((suf2.map fun n=>(p.blk,n)) ++ k1U suf):=by
    have:u.pairs = k1U u.com:=rfl
    rw [this,e]
    unfold k1U
    rw [w1n,w1m,e2]
    simp
   refine w_jcBody ok (sp.keep J.keep B) J (by rw [e3] at hpl; simp at hpl ⊢; lia) B (by lia) (by lia) (by lia) (by lia) (by lia) (by lia) hbk hn (fun h' so' en' es' rt' ds' J' g8 g9=>?_) (fun h' K hno=>?_)
   ·rw [k0S]
    refine ⟨(iX3 rfl),⟨so',en',es',rt',ds',?_⟩⟩
    simpa using J'
   ·rw [k2p,k2l,k2p,k2l,k3G]
    refine h2 h' (K.mono fun i hi=>?_) ?_
    ·simp at hi
     refine Or.elim hi ?_ ?_ <;> clear hi; rotate_left; (intro yZ; refine Or.elim yZ ?_ ?_ <;> clear yZ; rotate_left; (intro yZ; refine Or.elim yZ (fun hi=>?_) fun hi=>?_ <;> clear yZ); rotate_right; intro hi); rotate_right; intro hi
     ·exact .inl (by simp [hi])
     ·exact .inr (by lia)
     ·exact .inr (by lia)
     ·exact .inr (by lia)
    ·intro z0q; refine cA2 z0q fun q1 yA=>cX1 yA fun φ q2=>?_; clear z0q yA
     rw [e3] at q1 q2
     exact hno _ q1 φ q2
  ·refine cA2 hI fun yA J=>cX3 yA fun g7 g8 g9 yB=>?_; clear hI yA; subst yB
   rw [k0o,k1Q,k0S]
   refine ⟨(iX5 rfl),?_⟩
   rw [z2d]
   exact J
 ·refine cA2 hI fun yA yB=>cX5 yA fun g5 g6 g7 g8 g9 yC=>?_; clear hI yA; subst yC; refine cX5 yB fun so en es rt ds J=>?_; clear yB
  simp only [k0o,k0L,k6v,k0s,rg0,rgS,w0a,k0g,k0O,k3O,k2F]
  have:=J.sol
  have:=J.esl
  have e:u.pairs = k1U u.com:=rfl
  rw [e] at hpl
  refine h1 h' h.length so es rt ds (J.keep.mono fun i hi=>?_) (w0l _) J.h2 J.ha J.soR (by lia) J.ok J.ab (by lia)
  simp at hi
  refine Or.elim hi ?_ ?_ <;> clear hi; rotate_left; (intro yZ; refine Or.elim yZ ?_ ?_ <;> clear yZ; rotate_left; (intro yZ; refine Or.elim yZ (fun hi=>?_) fun hi=>?_ <;> clear yZ); rotate_right; intro hi); rotate_right; intro hi
  ·exact .inl (by simp [hi])
  ·exact .inr (by lia)
  ·exact .inr (by lia)
  ·exact .inr (by lia)
end T
namespace T
noncomputable def Item.off (th:Nm→Th) (i:Item):Option Int:=(th i.nm).off i.subs i.sign
structure k9S (th:Nm→Th) (is:List Item):Prop where
 off:∀ i,i∈is→(i.off th).isSome
 txt:∀ i,i∈is→∀ j,j∈is→(th i.nm).txt = (th j.nm).txt
noncomputable def z3M (th:Nm→Th) (is:List Item) (φ:Nm→Int):Prop:=∃ c,∀ i,i∈is→∃ o,i.off th = some o∧φ i.nm + o = c
theorem z2e {b s d t c g k:Nat} {nm:Nm} {u:Un} {a:Nat} {h:Hp} (ok:u.Ok) (sp:k2m h b s nm d t c g k u) (hab:b≤a) {p:Grp} (hp:p∈u.grp)
  {S:(Nm→Int)→Prop} {es:Ab} {rt:Nm→Nm} {ds:Nm→Int} (ha:h[a]? = some (.dict (k3K es))) (A:AbR es S rt ds) (hl:es.length < 50) {Q:Po V}
  (h1:∀ h' es' rt' ds',k0M [a] h h'→h'[a]? = some (.dict (k3K es'))→k9S u.th p.items→AbR es' (fun φ=>S φ∧z3M u.th p.items φ) rt' ds'→es'.length≤es.length + 3→Q (.ok .none) h')
  (h2:∀ h',k0M [a] h h'→(k9S u.th p.items→∀ φ,S φ→¬ z3M u.th p.items φ)→Q (.error .lay) h') :
  wp (k4g [.loc s,.loc a,.loc p.loc]) Q h:=by
 refine cA2 (ok.grp1 p hp) fun hne hl3=>?_
 obtain ⟨i0,rest,hi⟩:∃ i0 rest,p.items = i0 :: rest:=by
  cases e:p.items with
  | nil=>exact absurd e hne
  | cons i r=>exact ⟨i,r,rfl⟩
 have La:=k0t ha
 have B:k3d [a] b:=fun i hi=>by simp at hi; lia
 have it0:=ok.item p hp i0 (by rw [hi]; simp)
 have hg0:=(sp.un.hgs p hp).2
 unfold k4g k7O
 rw [k1z]
 refine ⟨rfl,?_⟩
 have hg0':z0F (.list (p.items.map k1a)) (.int 0) = some (k1a i0):=by rw [hi]; rfl
 simp only [w0f,w0n,List.replicate,w0o,w0r,k0L,k0y,k1i,k0s,rg0,rgS,w0a,k0g,k0u,k0r,k4k,k1R,hg0,hg0',k1q,k1a,k1I,w0s,w0q,true_and,k1w,k0x,k2j,k1H,w0e,w0d,k1r,k0o,k0K,k0D,k0z,k0E,k0C,k0O,k0W,k4y sp ok it0.1]
 rw [k9l (ok.th i0.nm) it0.2 (sp.un.his p hp i0 (by rw [hi]; simp)).2]
 cases ho:i0.off u.th with
 | none =>
  have ho':(u.th i0.nm).off i0.subs i0.sign = none:=ho
  rw [ho']
  simp only [z1U,k2l,k3G]
  refine h2 _ (k0M.alloc _ _ _) fun gk φ Y Y=>?_
  have:=gk.off i0 (by rw [hi]; simp)
  rw [ho] at this; cases this
 | some o0 =>
  have ho':(u.th i0.nm).off i0.subs i0.sign = some o0:=ho
  rw [ho']
  have K1:k0M [a] h (h ++ [O.list []]):=k0M.alloc _ _ _
  have sp1:=sp.keep K1 B
  have hg1:=(sp1.un.hgs p hp).2
  have hpk:k5w (p.items.map k1a) (some 1) none none = some (rest.map k1a):=by
   rw [hi]; exact z0m (by simp)
  have hl':(p.items.map k1a).length≤4096:=by simp; lia
  simp only [w0f,w0n,List.replicate,w0o,w0r,k0L,k0y,k1i,k0s,rg0,rgS,w0a,k0g,k0u,k0r,k4k,k1q,k0x,k1r,k0o,w0e,w0d,k2B,k2d,k4t,k6W,k0P,k9f,k5s,hg1,hpk]
  refine ⟨_,rfl,hl',?_⟩
  rw [hpk,k0g]
  generalize hH:(h ++ [O.list []] ++ [O.list (rest.map k1a)]) = H
  have K2:k0M [a] h H:=by rw [← hH]; exact K1.trans (k0M.alloc _ _ _)
  have gr:H[h.length + 1]? = some (.list (rest.map k1a)):=by
   rw [← hH]
   have:=k0X (h ++ [O.list []]) (.list (rest.map k1a))
   rw [w0t,w0B] at this
   exact this
  have ha2:H[a]? = some (.dict (k3K es)):=by rw [← hH]; exact k0w (k0w ha _) _
  simp only [w0t,w0B,k1S,gr,k0g,k0u]
  let I:=fun (pre:List Item) (reg:Reg) (h':Hp)=>(∃ g8 g9 g10 g11,reg = [some (.loc s),some (.loc a),some (.loc p.loc),some (.str i0.nm),some (.loc i0.loc),some (.int i0.sign),some (k2z (u.th i0.nm)),some (.int o0),g8,g9,g10,g11]) ∧
   k0M [a] h h'∧h'[h.length + 1]? = some (.list (rest.map k1a))∧k9S u.th (i0 :: pre)∧∃ es' rt' ds',h'[a]? = some (.dict (k3K es')) ∧
    AbR es' (fun φ=>S φ∧∀ j,j∈pre→∃ o,j.off u.th = some o∧φ i0.nm + o0 = φ j.nm + o) rt' ds'∧es'.length≤es.length + pre.length
  have hrl:rest.length≤2:=by rw [hi] at hl3; simp at hl3; lia
  refine k4m rest k1a I (by lia) (fun pre suf reg h' e hI=>k3p hI.2.2.1 _) ⟨(iX4 rfl),K2,gr,⟨fun i hi=>?_,fun i hi j hj=>?_⟩,es,rt,ds,ha2,A.congr fun φ=>by simp,by simp⟩ (fun pre x suf reg h' e hI=>?_) (fun reg h' hI=>?_)
  ·rw [w0h] at hi; subst hi; rw [ho]; rfl
  ·rw [w0h] at hi hj; subst hi; subst hj; rfl
  ·refine cA5 hI fun yA K gr' gk yB=>cX4 yA fun g8 g9 g10 g11 yC=>?_; clear hI yA; subst yC; refine cX3 yB fun es' rt' ds' yD=>cA3 yD fun ha' A' hl''=>?_; clear yB yD
   have hx:x∈p.items:=by rw [hi,e]; simp
   have itx:=ok.item p hp x hx
   have sp':=sp.keep K B
   simp only [k1a,k1I,w0s,w0q,true_and,k1w,k0x,k2j,k1H,w0e,w0d,k0u,k0L,k0y,k0K,k0D,k0z,k0s,rg0,rgS,w0a,k0g,k0E,k0C,k0O,k0W,k4y sp' ok itx.1,k1q,k1r,k0o,z0W,k2a,k0r,k5H,q_neB,k1x,k2w]
   by_cases e1:(u.th x.nm).txt = (u.th i0.nm).txt
   ·have e1':((u.th x.nm).txt != (u.th i0.nm).txt) = false:=by rw [e1]; exact bne_self_eq_false _
    simp only [e1',w0p,if_false,k1Q,k0o,k0L,k3P,k0K,k0D,k0z,k0s,rg0,rgS,w0a,k0g,k0E,k0C,k0O,k0W]
    rw [k9l (ok.th x.nm) itx.2 (sp'.un.his p hp x hx).2]
    cases hox:x.off u.th with
    | none =>
     have hox':(u.th x.nm).off x.subs x.sign = none:=hox
     rw [hox']
     simp only [z2R,k6d,z5H,k2l,k2p,k3G]
     refine h2 _ (K.trans (k0M.alloc _ _ _)) fun gk φ Y Y=>?_
     have:=gk.off x hx
     rw [hox] at this; cases this
    | some ox =>
     have hox':(u.th x.nm).off x.subs x.sign = some ox:=hox
     rw [hox']
     simp only [k0E,k0C,k0O,k0W]
     have K':k0M [a] h (h' ++ [O.list []]):=K.trans (k0M.alloc _ _ _)
     have hsuf:pre.length + 1≤rest.length:=by rw [e]; simp
     refine k6Z (k0w ha' _) A' (by lia) (S':=fun φ=>S φ∧∀ j,j∈pre ++ [x]→∃ o,j.off u.th = some o∧φ i0.nm + o0 = φ j.nm + o) (fun φ=>?_) (fun es'' rt'' ds'' A'' hl3=>?_) (fun hno=>?_)
     ·constructor
      ·intro z0q; refine cA2 z0q fun q1 q2=>?_; clear z0q
       refine ⟨⟨q1,fun j hj=>q2 j (by simp [hj])⟩,?_⟩
       refine cX1 (q2 x (by simp)) fun o yA=>cA2 yA fun q3 q4=>?_; clear yA
       rw [hox] at q3; refine k1f q3 fun yA=>?_; clear q3; subst yA; exact q4
      ·intro z0q; refine cA2 z0q fun yA q3=>cA2 yA fun q1 q2=>?_; clear z0q yA
       refine ⟨q1,fun j hj=>?_⟩
       refine Or.elim (w0g.mp hj) (fun hj=>?_) fun hj=>?_
       ·exact q2 j hj
       ·rw [w0h] at hj; subst hj; exact ⟨ox,hox,q3⟩
     ·rw [k0O,k0o,k1Q,k0S]
      refine ⟨(iX4 rfl),K'.trans (k0M.set (by simp) _ _),k0m (k0w gr' _) (by lia) _,⟨fun i hi=>?_,fun i hi j hj=>?_⟩,es'',rt'',ds'',k0J (k0w ha' _) _,A'',by simp; lia⟩
      ·rw [← w0o] at hi
       refine Or.elim (w0g.mp hi) (fun hi=>?_) fun hi=>?_
       ·exact gk.off i hi
       ·rw [w0h] at hi; subst hi; rw [hox]; rfl
      ·have key:∀ i,i∈i0 :: (pre ++ [x])→(u.th i.nm).txt = (u.th i0.nm).txt:=fun i hi=>by
        rw [← w0o] at hi
        refine Or.elim (w0g.mp hi) (fun hi=>?_) fun hi=>?_
        ·exact gk.txt i hi i0 (by simp)
        ·rw [w0h] at hi; subst hi; exact e1
       rw [key i hi,key j hj]
     ·simp only [k6d,k2l,k2p,k3G]
      refine h2 _ K' fun gk φ hS hG=>?_
      refine hno φ ⟨hS,fun j hj=>?_⟩
      refine cX1 hG fun cc hc=>?_; clear hG
      refine cX1 (hc i0 (by rw [hi]; simp)) fun o yA=>cA2 yA fun q1 q2=>?_; clear yA
      rw [ho] at q1; refine k1f q1 fun yA=>?_; clear q1; subst yA
      refine cX1 (hc j (by
       rw [hi,e]
       refine Or.elim (w0g.mp hj) (fun hj=>?_) fun hj=>?_
       ·simp [hj]
       ·rw [w0h] at hj; simp [hj])) fun o' yA=>cA2 yA fun q3 q4=>?_; clear yA
      exact ⟨o',q3,by lia⟩
   ·have e1':((u.th x.nm).txt != (u.th i0.nm).txt) = true:=by simpa using e1
    simp only [e1',if_true,k0L,k5r,k2l,k2p,k3G]
    refine h2 _ K fun gk φ Y Y=>?_
    exact e1 (gk.txt x hx i0 (by rw [hi]; simp))
  ·refine cA5 hI fun yA K gr' gk yB=>cX4 yA fun g8 g9 g10 g11 yC=>?_; clear hI yA; subst yC; refine cX3 yB fun es' rt' ds' yD=>cA3 yD fun ha' A' hl''=>?_; clear yB yD
   rw [k0o,k1Q,k4N]
   refine h1 h' es' rt' ds' K ha' (by rw [hi]; exact gk) (A'.congr fun φ=>?_) (by lia)
   constructor
   ·intro z0q; refine cA2 z0q fun q1 yA=>cX1 yA fun cc q2=>?_; clear z0q yA
    refine ⟨q1,fun j hj=>?_⟩
    refine cX1 (q2 i0 (by rw [hi]; simp)) fun o yA=>cA2 yA fun q3 q4=>?_; clear yA
    rw [ho] at q3; refine k1f q3 fun yA=>?_; clear q3; subst yA
    refine cX1 (q2 j (by rw [hi]; simp [hj])) fun o' yA=>cA2 yA fun q5 q6=>?_; clear yA
    exact ⟨o',q5,by lia⟩
   ·intro z0q; refine cA2 z0q fun q1 q2=>?_; clear z0q
    refine ⟨q1,φ i0.nm + o0,fun i him=>?_⟩
    rw [hi] at him
    refine Or.elim (w0c.mp him) (fun q=>?_) fun q=>?_
    ·subst q; exact ⟨o0,ho,rfl⟩
    ·refine cX1 (q2 i q) fun o yA=>cA2 yA fun q3 q4=>?_; clear yA
     exact ⟨o,q3,q4.symm⟩
end T
namespace T
noncomputable def encR (p:Nm × Int):V:=.tup [.str p.1,.int p.2]
noncomputable abbrev Rf:=List (Nm × (Nm × Int))
structure z2f (rt:Nm→Nm) (ds:Nm→Int) (bs:List Nm) (rf:Rf):Prop where
 get:∀ r b d,k0Q rf r = some (b,d)↔b∈bs∧rt (47 :: b) = r∧d = ds (47 :: b)
 inj:∀ b,b∈bs→∀ b',b'∈bs→rt (47 :: b) = rt (47 :: b')→b = b'
theorem AbR.at {es:Ab} {S:(Nm→Int)→Prop} {rt:Nm→Nm} {ds:Nm→Int} (A:AbR es S rt ds) (hl:es.length < 60) {a:Nat} {h:Hp} (ha:h[a]? = some (.dict (k3K es))) (x:Nm) (Q:Po V) :
  wp (k2E [.loc a,.str x]) Q h = Q (.ok (.tup [.str (rt x),.int (ds x)])) h:=by
 refine cX1 (A.chain x) fun k yA=>cA2 yA fun hk c=>?_; clear yA
 exact k3W ha c (by lia) Q
theorem z1e {S:(Nm→Int)→Prop} {es:Ab} {rt:Nm→Nm} {ds:Nm→Int} {so:List (Nm × Bool)} {l a:Nat} {h:Hp} (hs:h[l]? = some (.dict (k1F .bool so))) (ha:h[a]? = some (.dict (k3K es))) (A:AbR es S rt ds) (hl:es.length < 60)
  (nd:(so.map (·.1)).Nodup) (hso:so.length≤4) (hb:∀ b,b∈so.map (·.1)→b.length≤1) {Q:Po V}
  (h1:∀ h' r rf,k0M [] h h'→h.length≤r→h'[r]? = some (.dict (k1F encR rf))→z2f rt ds (so.map (·.1)) rf→rf.length≤4→Q (.ok (.loc r)) h')
  (h2:∀ h',k0M [] h h'→(∃ b b',b∈so.map (·.1)∧b'∈so.map (·.1)∧b≠b'∧rt (47 :: b) = rt (47 :: b'))→Q (.error .lay) h') :
  wp (k3C [.loc l,.loc a]) Q h:=by
 unfold k3C k6P
 rw [k1z]
 refine ⟨rfl,?_⟩
 simp only [w0f,w0n,List.replicate,w0o,w0r,k0L,k0y,k3Z,k1q,k0x,k1r,k0o,w0e,w0d,k2B,k2d,k0s,rg0,rgS,w0a,k0g,k0u,k1S,k0w hs]
 rw [k1B]
 have Ll:=k0t hs
 have La:=k0t ha
 let I:=fun (pre:List Nm) (reg:Reg) (h':Hp)=>(∃ g3 g4 g5,reg = [some (.loc l),some (.loc a),some (.loc h.length),g3,g4,g5])∧k0M [h.length] h h' ∧
  ∃ rf,h'[h.length]? = some (.dict (k1F encR rf))∧z2f rt ds pre rf∧rf.length≤pre.length
 refine k4m (so.map (·.1)) V.str I (by simp; lia) (fun pre suf reg h' e hI=>?_) ⟨(iX3 rfl),k0M.alloc _ _ _,[],k0X _ _,⟨fun r b d=>by simp,fun b hb=>by simp at hb⟩,by simp⟩ (fun pre x suf reg h' e hI=>?_) (fun reg h' hI=>?_)
 ·have hs':=hI.2.1.get hs (by simp; (clear hI; lia))
  rw [← k9m V.bool,← k1B V.bool so]
  exact k5a hs' _
 ·refine cA3 hI fun yA K yB=>cX3 yA fun g3 g4 g5 yC=>?_; clear hI yA; subst yC; refine cX1 yB fun rf yD=>cA3 yD fun hr R hrl=>?_; clear yB yD
  have ha':=K.get ha (by simp; lia)
  have hx:x∈so.map (·.1):=by rw [e]; simp
  have hxl:1 + x.length≤1000:=by have:=hb x hx; lia
  have hpl:pre.length≤4:=by
   have:(so.map (·.1)).length≤4:=by simp; lia
   rw [e] at this; simp at this; lia
  have hrl':(k1F encR rf).length≤4000:=by rw [k1B]; lia
  rw [k0x,k0u]
  simp only [w0e,w0d,k0L,k0y,k0K,k0D,k0z,k0s,rg0,rgS,w0a,k0g,k0E,k1i,q_cS,k0u,k0r,z3J,w0s,w0q,w0y,hxl,true_and,k0C,k0O,k0W,w0o,w0r,
   A.at hl ha',k1q,k1I,k1w,k0x,k2j,k1H,k1r,k0o,z0W,k2a,q_in,hr,k5i,k1h,w1o,k1x,k2w]
  cases e1:k0Q rf (rt (47 :: x)) with
  | some p =>
   obtain ⟨b',d⟩:=p
   simp only [w1k,if_true,k0L,k5r,k2l,k2p,k3G]
   refine cA3 ((R.get _ _ _).mp e1) fun q1 q2 q3=>?_
   refine h2 h' (K.mono fun i hi=>.inr (by simp at hi; lia)) ⟨b',x,by rw [e]; simp [q1],hx,?_,q2⟩
   rintro rfl
   rw [e,w0w] at nd
   exact nd.2.2 b' q1 b' (by simp) rfl
  | none =>
   simp only [w1l,w0p,if_false,k1Q,k0o,k0L,k0y,k2h,k0z,k0s,rg0,rgS,w0a,k0g,k0E,k0C,k0O,k1q,k4H,k0u,k0r,k6w,hr,k2C,hrl',if_true,k0P,k1r,k0S]
   have hno:∀ b,b∈pre→rt (47 :: b)≠rt (47 :: x):=fun b hb q=>by
    have:=(R.get (rt (47 :: x)) b (ds (47 :: b))).mpr ⟨hb,q,rfl⟩
    rw [e1] at this; exact kNS this
   refine ⟨(iX3 rfl),K.trans (k0M.set (by simp) _ _),k2c rf (rt (47 :: x)) (x,ds (47 :: x)),?_,⟨fun r b d=>?_,fun b hb b' hb' q=>?_⟩,?_⟩
   ·rw [k0J hr,← k3i]; rfl
   ·rw [k2o]
    by_cases q:rt (47 :: x) = r
    ·subst q
     rw [if_pos rfl]
     constructor
     ·intro q; refine k1f q fun yA=>?_; clear q; refine k2X yA fun yB yC=>?_; clear yA; subst yB; subst yC; exact ⟨by simp,rfl,rfl⟩
     ·intro z0q; refine cA3 z0q fun q1 q2 yA=>?_; clear z0q; subst yA
      refine Or.elim (w0g.mp q1) (fun q1=>?_) fun q1=>?_
      ·exact absurd q2 (hno b q1)
      ·rw [w0h] at q1; subst q1; rfl
    ·rw [if_neg q,R.get]
     constructor
     ·intro z0q; refine cA2 z0q fun q1 q2=>?_; clear z0q; exact ⟨by simp [q1],q2⟩
     ·intro z0q; refine cA3 z0q fun q1 q2 q3=>?_; clear z0q
      refine Or.elim (w0g.mp q1) (fun q1=>?_) fun q1=>?_
      ·exact ⟨q1,q2,q3⟩
      ·rw [w0h] at q1; subst q1; exact absurd q2 q
   ·refine Or.elim (w0g.mp hb) (fun w=>?_) fun w=>?_ <;> refine Or.elim (w0g.mp hb') (fun w'=>?_) fun w'=>?_
    ·exact R.inj b w b' w' q
    ·rw [w0h] at w'; rw [w'] at q; exact absurd q (hno b w)
    ·rw [w0h] at w; rw [w] at q; exact absurd q.symm (hno b' w')
    ·rw [w0h] at w w'; rw [w,w']
   ·have:=k2y rf (rt (47 :: x)) (x,ds (47 :: x)); simp; lia
 ·refine cA3 hI fun yA K yB=>cX3 yA fun g3 g4 g5 yC=>?_; clear hI yA; subst yC; refine cX1 yB fun rf yD=>cA3 yD fun hr R hrl=>?_; clear yB yD
  simp only [k0o,k0L,k6v,k0s,rg0,rgS,w0a,k0g,k0O,k3O,k2F]
  exact h1 h' h.length rf (K.mono fun i hi=>.inr (by simp at hi; lia)) (w0l _) hr R (by simp at hrl; lia)
structure k3j (P:Int→Prop) (m:Int):Prop where
 at':P m
 le:∀ v,P v→v≤m
structure z2g (P:Int→Prop) (m:Int):Prop where
 at':P m
 le:∀ v,P v→m≤v
theorem k3j.uniq {P:Int→Prop} {m m':Int} (x:k3j P m) (y:k3j P m'):m = m':=by
 have h1:=x.le _ y.at'
 have h2:=y.le _ x.at'
 lia
theorem z2g.uniq {P:Int→Prop} {m m':Int} (x:z2g P m) (y:z2g P m'):m = m':=by
 have h1:=x.le _ y.at'
 have h2:=y.le _ x.at'
 lia
theorem k3j.congr {P P':Int→Prop} {m:Int} (x:k3j P m) (h:∀ v,P' v↔P v):k3j P' m:=⟨(h m).mpr x.at',fun v q=>x.le v ((h v).mp q)⟩
noncomputable def k3k (th:Nm→Th) (rt:Nm→Nm) (ds:Nm→Int) (ns:List Nm) (b:Nm) (v:Int):Prop:=∃ n,n∈ns∧rt n = rt (47 :: b)∧v = ds n - ds (47 :: b) + (th n).size
theorem k3j.push {P P':Int→Prop} {m a:Int} (hm:k3j P m) (up:∀ v,P v→P' v) (ha:P' a) (sub:∀ v,P' v→P v∨v = a):k3j P' (max m a) where
 at':=by
  refine Or.elim (Int.le_total m a) (fun h=>?_) fun h=>?_
  ·rw [Int.max_eq_right h]; exact ha
  ·rw [Int.max_eq_left h]; exact up _ hm.at'
 le:=fun v hv=>(sub v hv).elim (fun h=>Int.le_trans (hm.le v h) (Int.le_max_left _ _)) fun h=>h ▸ Int.le_max_right _ _
theorem k3j.one {P:Int→Prop} {a:Int} (ha:P a) (sub:∀ v,P v→v = a):k3j P a:=⟨ha,fun v hv=>sub v hv ▸ Int.le_refl _⟩
theorem ends_max {th:Nm→Th} {rt:Nm→Nm} {ds:Nm→Int} {bk:Nm} (l:List Nm) (h:∃ v,k3k th rt ds l bk v):∃ m,k3j (k3k th rt ds l bk) m:=by
 induction l with
 | nil=>refine cX2 h fun v n yA=>cA2 yA fun hn _=>?_; clear h yA; exact nomatch hn
 | cons y l ih =>
  have up:∀ v,k3k th rt ds l bk v→k3k th rt ds (y :: l) bk v:=fun v ⟨n,hn,a,b⟩=>⟨n,.tail _ hn,a,b⟩
  have sub:∀ v,k3k th rt ds (y :: l) bk v→k3k th rt ds l bk v∨(rt y = rt (47 :: bk)∧v = ds y - ds (47 :: bk) + (th y).size):=fun v ⟨n,hn,a,b⟩ =>
   (w0c.mp hn).elim (fun q=>.inr (q ▸ ⟨a,b⟩)) fun q=>.inl ⟨n,q,a,b⟩
  by_cases w2:rt y = rt (47 :: bk)
  ·have ha:k3k th rt ds (y :: l) bk (ds y - ds (47 :: bk) + (th y).size):=⟨y,.head _,w2,rfl⟩
   by_cases w:∃ v,k3k th rt ds l bk v
   ·refine cX1 (ih w) fun m hm=>?_
    exact ⟨_,hm.push up ha fun v hv=>(sub v hv).imp id And.right⟩
   ·exact ⟨_,.one ha fun v hv=>((sub v hv).resolve_left fun q=>w ⟨v,q⟩).2⟩
  ·refine cX1 h fun v hv=>?_; clear h
   refine cX1 (ih ⟨v,(sub v hv).resolve_right fun q=>w2 q.1⟩) fun m hm=>?_
   exact ⟨m,hm.congr fun v=>⟨fun q=>(sub v q).resolve_right fun q=>w2 q.1,up v⟩⟩
structure z3N (th:Nm→Th) (rt:Nm→Nm) (ds:Nm→Int) (bs:List Nm) (ns:List Nm) (sz:List (Nm × Int)):Prop where
 get:∀ b m,k0Q sz b = some m↔b∈bs∧k3j (k3k th rt ds ns b) m
 ahead:∀ n,n∈ns→∀ b,b∈bs→rt n = rt (47 :: b)→ds (47 :: b)≤ds n
set_option tactic.hygienic true in
theorem z1f {b s d t c g k:Nat} {nm:Nm} {u:Un} {h:Hp} (ok:u.Ok) (sp:k2m h b s nm d t c g k u) (hb:b≤h.length)
  {S:(Nm→Int)→Prop} {es:Ab} {rt:Nm→Nm} {ds:Nm→Int} {a r:Nat} {bs:List Nm} {rf:Rf} (ha:h[a]? = some (.dict (k3K es))) (A:AbR es S rt ds) (hl:es.length < 60)
  (hr:h[r]? = some (.dict (k1F encR rf))) (R:z2f rt ds bs rf) {Q:Po V}
  (h1:∀ h' z sz,k0M [] h h'→h.length≤z→h'[z]? = some (.dict (k1F .int sz))→z3N u.th rt ds bs u.ord sz→Q (.ok (.loc z)) h')
  (h2:∀ h',k0M [] h h'→(∃ n b,n∈u.ord∧b∈bs∧rt n = rt (47 :: b)∧ds n < ds (47 :: b))→Q (.error .lay) h') :
  wp (k3F [.loc s,.loc a,.loc r]) Q h:=by
 unfold k3F k6S
 rw [k1z]
 refine ⟨rfl,?_⟩
 have sp0:=sp.keep (k0M.alloc [] h (.dict [])) (by simp [k3d])
 simp only [w0f,w0n,List.replicate,w0o,w0r,k0L,k0y,k3Z,k1q,k0x,k1r,k0o,w0e,w0d,k2B,k2d,k2v,k0s,rg0,rgS,w0a,k0g,k0u,sp0.things,k1S,sp0.un.ht]
 have La:=k0t ha
 have Lr:=k0t hr
 have Lt:=sp.un.tb
 let I:=fun (pre:List Nm) (reg:Reg) (h':Hp)=>(∃ g4 g5 g6 g7 g8,reg = [some (.loc s),some (.loc a),some (.loc r),some (.loc h.length),g4,g5,g6,g7,g8])∧k0M [h.length] h h' ∧
  ∃ sz,h'[h.length]? = some (.dict (k1F .int sz))∧z3N u.th rt ds bs pre sz∧sz.length≤pre.length
 have nomax:∀ b m,¬ k3j (k3k u.th rt ds [] b) m:=fun b m q=>by refine cX1 q.at' fun n yA=>cA2 yA fun hn _=>?_; clear yA; simp at hn
 have B1:k3d [h.length] b:=fun i hi=>by simp at hi; lia
 refine k4m u.ord V.str I (by have:=ok.ordlen; lia) (fun pre suf reg h' e hI=>?_) ⟨(iX5 rfl),k0M.alloc _ _ _,[],k0X _ _,⟨fun b m=>by simp [nomax],fun n hn=>by simp at hn⟩,by simp⟩ (fun pre x suf reg h' e hI=>?_) (fun reg h' hI=>?_)
 ·have hs':=(sp.keep hI.2.1 B1).un.ht
  have:=k5a hs' pre.length
  rw [w0k] at this
  exact this
 ·refine cA3 hI fun yA K yB=>cX5 yA fun g4 g5 g6 g7 g8 yC=>?_; clear hI yA; subst yC; refine cX1 yB fun sz yD=>cA3 yD fun hz Z hzl=>?_; clear yB yD
  have ha':=K.get ha (by simp; lia)
  have hr':=K.get hr (by simp; lia)
  have sp':=sp.keep K B1
  have hx:x∈u.ord:=by rw [e]; simp
  have hxn:x∈names:=(ok.ord x).mp hx
  have hpl:pre.length + 1≤4:=by have:=ok.ordlen; rw [e] at this; simp at this; lia
  rw [k0x,k0u]
  simp only [w0e,w0d,k0L,k0y,k0K,k0D,k0z,k0s,rg0,rgS,w0a,k0g,k0E,k0u,k0r,w0s,w0q,w0y,true_and,k0C,k0O,k0W,
   A.at hl ha',k1q,k1I,k1w,k0x,k2j,k1H,k1r,k0o,z0W,k2a,q_in,hr',k5i,k1h,w1o,k1x,k2w]
  cases e1:k0Q rf (rt x) with
  | none =>
   simp only [w1l,w0p,if_false,k1Q,k0o,k0S]
   have hno:∀ b,b∈bs→rt x≠rt (47 :: b):=fun b hb q=>by
    have:=(R.get (rt x) b (ds (47 :: b))).mpr ⟨hb,q.symm,rfl⟩
    rw [e1] at this; exact kNS this
   have hE:∀ b,b∈bs→∀ v,k3k u.th rt ds (pre ++ [x]) b v↔k3k u.th rt ds pre b v:=fun b hb v=>by
    constructor
    ·intro z0q; refine cX1 z0q fun n yA=>cA3 yA fun hn q1 q2=>?_; clear z0q yA
     refine Or.elim (w0g.mp hn) (fun hn=>?_) fun hn=>?_
     ·exact ⟨n,hn,q1,q2⟩
     ·rw [w0h] at hn; subst hn; exact absurd q1 (hno b hb)
    ·intro z0q; refine cX1 z0q fun n yA=>cA2 yA fun hn q=>?_; clear z0q yA; exact ⟨n,by simp [hn],q⟩
   refine ⟨(iX5 rfl),K,sz,hz,⟨fun b m=>?_,fun n hn b hb q=>?_⟩,by simp; lia⟩
   ·rw [Z.get]
    constructor
    ·intro z0q; refine cA2 z0q fun q1 q2=>?_; clear z0q; exact ⟨q1,q2.congr (hE b q1)⟩
    ·intro z0q; refine cA2 z0q fun q1 q2=>?_; clear z0q; exact ⟨q1,q2.congr fun v=>(hE b q1 v).symm⟩
   ·refine Or.elim (w0g.mp hn) (fun hn=>?_) fun hn=>?_
    ·exact Z.ahead n hn b hb q
    ·rw [w0h] at hn; subst hn; exact absurd q (hno b hb)
  | some p =>
   obtain ⟨bk,dd⟩:=p
   refine cA3 ((R.get _ _ _).mp e1) fun q1 q2 q3=>?_
   subst q3
   simp only [w1k,if_true,k0L,k0y,k1i,k0s,rg0,rgS,w0a,k0g,k0u,k0r,k1R,hr',k1j,k1h,e1,w0x,encR,k1q,k1I,w0s,w0q,w0y,true_and,k1w,k0x,k2j,k1H,w0e,w0d,k1r,k0o,z0W,k2a,q_lt,k1x,k2w,decide_eq_true_eq]
   by_cases e2:ds x < ds (47 :: bk)
   ·simp only [if_pos e2,k0L,k5r,k2l,k2p,k3G]
    exact h2 h' (K.mono fun i hi=>.inr (by simp at hi; lia)) ⟨x,bk,hx,q1,q2.symm,e2⟩
   ·have hzl':(k1F V.int sz).length≤4000:=by rw [k1B]; lia
    have hsize:=(ok.th x).size_pos
    have hget:oGet bk (.int 0) (.dict (k1F V.int sz)) = some (.int ((k0Q sz bk).getD 0)):=by
     rw [z1Y,k1h]; cases k0Q sz bk <;> rfl
    simp only [if_neg e2,k1Q,k0o,k0L,k0y,k0K,k0D,k0z,k4l,k0s,rg0,rgS,w0a,k0g,k0u,k0r,k8i,hz,k0E,k4k,k0C,k0O,q_get,hget,k1i,z1X,k2v,sp'.things,sp'.un.thing ok hxn,k0W,k6Y (ok.th x),k4o,q_max2,k1q,k4H,k6w,k2C,hzl',if_true,k0P,k1r,k0S]
    have hE:∀ b,b∈bs→b≠bk→∀ v,k3k u.th rt ds (pre ++ [x]) b v↔k3k u.th rt ds pre b v:=fun b hb hne v=>by
     constructor
     ·intro z0q; refine cX1 z0q fun n yA=>cA3 yA fun hn w1 w2=>?_; clear z0q yA
      refine Or.elim (w0g.mp hn) (fun hn=>?_) fun hn=>?_
      ·exact ⟨n,hn,w1,w2⟩
      ·rw [w0h] at hn; subst hn; exact absurd (R.inj b hb bk q1 (w1.symm.trans q2.symm)) hne
     ·intro z0q; refine cX1 z0q fun n yA=>cA2 yA fun hn q=>?_; clear z0q yA; exact ⟨n,by simp [hn],q⟩
    have hnew:k3j (k3k u.th rt ds (pre ++ [x]) bk) (max ((k0Q sz bk).getD 0) (ds x - ds (47 :: bk) + (u.th x).size)):=by
     have ha:k3k u.th rt ds (pre ++ [x]) bk (ds x - ds (47 :: bk) + (u.th x).size):=⟨x,by simp,q2.symm,rfl⟩
     have sub:∀ v,k3k u.th rt ds (pre ++ [x]) bk v→k3k u.th rt ds pre bk v∨v = ds x - ds (47 :: bk) + (u.th x).size:=fun v ⟨n,hn,a,b⟩=>(w0g.mp hn).imp (fun h=>⟨n,h,a,b⟩) fun h=>by rw [w0h] at h; subst h; exact b
     cases e3:k0Q sz bk with
     | none =>
      have hno:∀ v,¬ k3k u.th rt ds pre bk v:=fun v hv=>by
       refine cX1 (ends_max pre ⟨v,hv⟩) fun m hm=>?_
       have:=(Z.get bk m).mpr ⟨q1,hm⟩
       rw [e3] at this; exact kNS this
      rw [w2l,Int.max_eq_right (by lia)]
      exact .one ha fun v hv=>(sub v hv).resolve_left (hno v)
     | some m =>
      rw [Option.getD_some]
      exact ((Z.get bk m).mp e3).2.push (fun v ⟨n,hn,a,b⟩=>⟨n,w0R _ hn,a,b⟩) ha sub
    refine ⟨(iX5 rfl),K.trans (k0M.set (by simp) _ _),k2c sz bk (max ((k0Q sz bk).getD 0) (ds x - ds (47 :: bk) + (u.th x).size)),?_,⟨fun b m=>?_,fun n hn b hb q=>?_⟩,?_⟩
    ·rw [k0J hz,k3i]
    ·rw [k2o]
     by_cases w:bk = b
     ·subst w
      rw [if_pos rfl]
      constructor
      ·intro w; refine k1f w fun yA=>?_; clear w; subst yA; exact ⟨q1,hnew⟩
      ·intro z0q; refine cA2 z0q fun _ w2=>?_; clear z0q; rw [hnew.uniq w2]
     ·rw [if_neg w,Z.get]
      constructor
      ·intro z0q; refine cA2 z0q fun w1 w2=>?_; clear z0q; exact ⟨w1,w2.congr (hE b w1 (Ne.symm w))⟩
      ·intro z0q; refine cA2 z0q fun w1 w2=>?_; clear z0q; exact ⟨w1,w2.congr fun v=>(hE b w1 (Ne.symm w) v).symm⟩
    ·refine Or.elim (w0g.mp hn) (fun hn=>?_) fun hn=>?_
     ·exact Z.ahead n hn b hb q
     ·rw [w0h] at hn; subst hn
      have:=R.inj b hb bk q1 (q.symm.trans q2.symm)
      subst this; lia
    ·have:=k2y sz bk (max ((k0Q sz bk).getD 0) (ds x - ds (47 :: bk) + (u.th x).size)); simp; lia
 ·refine cA3 hI fun yA K yB=>cX5 yA fun g4 g5 g6 g7 g8 yC=>?_; clear hI yA; subst yC; refine cX1 yB fun sz yD=>cA3 yD fun hz Z hzl=>?_; clear yB yD
  simp only [k0o,k0L,k6v,k0s,rg0,rgS,w0a,k0g,k0O,k3O,k2F]
  exact h1 h' h.length sz (K.mono fun i hi=>.inr (by simp at hi; lia)) (w0l _) hz Z
end T
namespace T
noncomputable abbrev Bl:=List (Nm × (Bool × Int))
noncomputable def k9D (p:Bool × Int):V:=.tup [.bool p.1,.int p.2]
noncomputable def z1g (o:Option (Bool × Int)) (s:Bool) (m:Int):Bool × Int:=match o with
 | none=>(s,m)
 | some (c,k)=>(c,max k m)
noncomputable def z2h (o:Option (Bool × Int)) (b:Nm) (s:Bool) (m:Int):Prop:=∃ c k,o = some (c,k)∧(c≠s∨(b≠[]∧k≠m))
theorem z1h {so:List (Nm × Bool)} {sz:List (Nm × Int)} {bl:Bl} {lb ls lz:Nat} {h:Hp} (hb:h[lb]? = some (.dict (k1F k9D bl))) (hs:h[ls]? = some (.dict (k1F .bool so))) (hz:h[lz]? = some (.dict (k1F .int sz)))
  (n1:ls≠lb) (n2:lz≠lb) (nd:(so.map (·.1)).Nodup) (hso:so.length≤4) (hbl:bl.length≤100) (cov:∀ b,b∈so.map (·.1)→∃ m,k0Q sz b = some m) {Q:Po V}
  (h1:∀ bl',(∀ b,b∉so.map (·.1)→k0Q bl' b = k0Q bl b)→(∀ b s m,k0Q so b = some s→k0Q sz b = some m→k0Q bl' b = some (z1g (k0Q bl b) s m)∧¬ z2h (k0Q bl b) b s m)→bl'.length≤bl.length + 4 →
   ((bl.map (·.1)).Nodup→(bl'.map (·.1)).Nodup)→Q (.ok .none) (h.set lb (.dict (k1F k9D bl'))))
  (h2:∀ h',k0M [lb] h h'→(∃ b s m,k0Q so b = some s∧k0Q sz b = some m∧z2h (k0Q bl b) b s m)→Q (.error .lay) h') :
  wp (k3D [.loc lb,.loc ls,.loc lz]) Q h:=by
 unfold k3D k6Q
 rw [k1z]
 refine ⟨rfl,?_⟩
 simp only [w0f,w0n,List.replicate,w0o,w0r,k0L,k2B,k2d,k0s,rg0,rgS,w0a,k0g,k0u,k1S,hs]
 rw [k1B]
 let I:=fun (pre:List Nm) (reg:Reg) (h':Hp)=>(∃ g3 g4 g5,reg = [some (.loc lb),some (.loc ls),some (.loc lz),g3,g4,g5]) ∧
  ∃ bl',h' = h.set lb (.dict (k1F k9D bl'))∧(∀ b,b∉pre→k0Q bl' b = k0Q bl b)∧(∀ b s m,b∈pre→k0Q so b = some s→k0Q sz b = some m→k0Q bl' b = some (z1g (k0Q bl b) s m)∧¬ z2h (k0Q bl b) b s m) ∧
   bl'.length≤bl.length + pre.length∧((bl.map (·.1)).Nodup→(bl'.map (·.1)).Nodup)
 refine k4m (so.map (·.1)) V.str I (by simp; lia) (fun pre suf reg h' e hI=>?_) ⟨(iX3 rfl),bl,(z3L hb).symm,fun Y Y=>rfl,fun b s m hb=>by simp at hb,by simp,id⟩ (fun pre x suf reg h' e hI=>?_) (fun reg h' hI=>?_)
 ·refine cA2 hI fun _ yA=>cX1 yA fun bl' yB=>cA2 yB fun yC=>?_; clear hI yA yB; subst yC; intro _
  rw [← k9m V.bool,← k1B V.bool so]
  exact k5a (k0m hs n1.symm _) _
 ·refine cA2 hI fun yA yB=>cX3 yA fun g3 g4 g5 yC=>?_; clear hI yA; subst yC; refine cX1 yB fun bl' yD=>cA5 yD fun yE=>?_; clear yB yD; subst yE; intro P1 P2 P3 P4
  have hx:x∈so.map (·.1):=by rw [e]; simp
  have hxp:x∉pre:=fun q=>by
   rw [e,w0w] at nd
   exact nd.2.2 x q x (by simp) rfl
  refine cX1 (w0K.mp (k1T.mpr hx)) fun s hsx=>?_
  refine cX1 (cov x hx) fun m hmx=>?_
  have gb:=k0J hb (.dict (k1F k9D bl'))
  have gs:=k0m hs n1.symm (.dict (k1F k9D bl'))
  have gz:=k0m hz n2.symm (.dict (k1F k9D bl'))
  have hpl:pre.length + 1≤4:=by
   have:(so.map (·.1)).length≤4:=by simp; lia
   rw [e] at this; simp at this; lia
  have hbl':(k1F k9D bl').length≤4000:=by rw [k1B]; lia
  have hold:k0Q bl' x = k0Q bl x:=P1 x hxp
  have step:∀ v,v = z1g (k0Q bl x) s m→¬ z2h (k0Q bl x) x s m→∀ g3 g4 g5,I (pre ++ [x]) [some (.loc lb),some (.loc ls),some (.loc lz),g3,g4,g5] ((h.set lb (.dict (k1F k9D bl'))).set lb (.dict (k2c (k1F k9D bl') x (k9D v)))):=by
   intro v hv hc g3 g4 g5
   refine ⟨(iX3 rfl),k2c bl' x v,?_,fun b hb=>?_,fun b s' m' hb q1 q2=>?_,?_,fun q=>z0n (P4 q) _ _⟩
   ·rw [w1v,k3i]
   ·rw [k2o,if_neg (by rintro rfl; exact hb (by simp))]
    exact P1 b fun q=>hb (by simp [q])
   ·by_cases w:x = b
    ·subst w
     rw [q1] at hsx; refine k1f hsx fun yA=>?_; clear hsx; subst yA
     rw [q2] at hmx; refine k1f hmx fun yA=>?_; clear hmx; subst yA
     rw [k2o,if_pos rfl,hv]
     exact ⟨rfl,hc⟩
    ·rw [k2o,if_neg w]
     refine P2 b s' m' ?_ q1 q2
     refine Or.elim (w0g.mp hb) (fun q=>?_) fun q=>?_
     ·exact q
     ·rw [w0h] at q; exact absurd q.symm w
   ·have:=k2y bl' x v; simp; lia
  rw [k0x,k0u]
  simp only [w0e,w0d,k0L,z0W,k2a,k0s,rg0,rgS,w0a,k0g,k0u,k0r,z2S,gb,k5i,k1h,w1o,k1x,k2w,hold]
  cases e1:k0Q bl x with
  | none =>
   simp only [w1l,w1J,if_true,k0L,k0y,k2h,k0z,k1i,k0s,rg0,rgS,w0a,k0g,k0u,k0r,k1R,gs,gz,k1j,k1h,hsx,hmx,w0x,k0E,k0C,k0O,k1q,k4H,k6w,gb,k2C,hbl',k0P,k1r,k0o,q_cont,sK_cont,z4C]
   exact step (s,m) (by rw [e1]; rfl) (by rw [e1]; intro z0q; refine cX2 z0q fun c k yA=>cA2 yA fun q _=>?_; clear z0q yA; exact kNS q) _ _ _
  | some p =>
   obtain ⟨c,k⟩:=p
   have e1':=hold.trans e1
   simp only [w1k,w1j,w0p,if_false,k1Q,k0o,k0L,k0y,k1i,k0s,rg0,rgS,w0a,k0g,k0u,k0r,k1R,gb,gs,gz,k1j,k1h,e1',hsx,hmx,w0x,k9D,k1q,k1I,w0s,w0q,w0y,true_and,k1w,k0x,k2j,k1H,w0e,w0d,k1r,z0W,k2a,q_neB,k1x,k2w]
   by_cases e2:c = s
   ·subst e2
    simp only [bne_self_eq_false,w0p,if_false]
    simp only [k1Q,k0o,k0L,z0W,z1W,k2a,k0s,rg0,rgS,w0a,k0g,k0u,k0r,q_cS,q_neS]
    simp only [k1x,k0u,k2w]
    have fin:(x = []∨k = m)→∀ g3 g4 g5,_:=fun w=>step (c,max k m) (by rw [e1]; rfl) (by
     rw [e1]
     intro z0q; refine cX2 z0q fun c' k' yA=>cA2 yA fun q w'=>?_; clear z0q yA
     refine k1f q fun yA=>?_; clear q; refine k2X yA fun yB yC=>?_; clear yA; subst yB; subst yC
     refine Or.elim w' ?_ ?_ <;> clear w' <;> intro w'
     ·exact w' rfl
     ·exact w.elim w'.1 w'.2)
    have tup:∀ Q0:Po V,wp (k3e (k0f (k0d 4) (k0f (k3w xMax (k0f (k0d 5) (k0f (k1g k0V (k0d 2) (k0d 3)) k0T))) k0T)) [some (.loc lb),some (.loc ls),some (.loc lz),some (.str x),some (.bool c),some (.int k)]) Q0 (h.set lb (.dict (k1F k9D bl'))) =
      Q0 (.ok (.tup [.bool c,.int (max k m)])) (h.set lb (.dict (k1F k9D bl'))):=fun Q0=>by
     simp only [k2h,k0z,k0K,k0D,k1i,k0s,rg0,rgS,w0a,k0g,k0u,k0r,k1R,gz,k1j,k1h,hmx,w0x,k0E,k0C,k0O,k0W,q_max2]
    have put:∀ Q0:Po Reg,wp (k7Z (k0d 0) (k0d 3) (.tup [.bool c,.int (max k m)]) [some (.loc lb),some (.loc ls),some (.loc lz),some (.str x),some (.bool c),some (.int k)]) Q0 (h.set lb (.dict (k1F k9D bl'))) =
      Q0 (.ok [some (.loc lb),some (.loc ls),some (.loc lz),some (.str x),some (.bool c),some (.int k)]) ((h.set lb (.dict (k1F k9D bl'))).set lb (.dict (k2c (k1F k9D bl') x (.tup [.bool c,.int (max k m)])))):=fun Q0=>by
     simp only [k0s,rg0,rgS,w0a,k0g,k0u,k0r,k4H,k6w,gb,k2C,hbl',if_true,k0P]
    by_cases w:x = []
    ·have b1:(x != []) = false:=by simpa using w
     simp only [b1,w0p,if_false]
     rw [k0P,k0u,k2w,if_neg w1i,k1Q,k0o,k0L,k0y,tup,k1q,put,k1r,k0o,k1Q,k0S]
     exact fin (.inl w) _ _ _
    ·have b1:(x != []) = true:=by simpa using w
     simp only [b1,if_true]
     simp only [z1W,k2a,k1i,k0s,rg0,rgS,w0a,k0g,k0u,k0r,k1R,gz,k1j,k1h,hmx,w0x,q_neI,k1x]
     simp only [k2w,q_tT,k0P]
     by_cases km:k = m
     ·have b2:(k != m) = false:=by simpa using km
      simp only [b2,w0p,if_false]
      rw [k0u,if_neg w1i,k1Q,k0o,k0L,k0y,tup,k1q,put,k1r,k0o,k1Q,k0S]
      exact fin (.inr km) _ _ _
     ·have b2:(k != m) = true:=by simpa using km
      simp only [b2,if_true]
      rw [k0u,if_pos rfl,k0L,k5r,k2l,k2l,k2p,k2l,k3G]
      exact h2 _ (k0M.set (by simp) _ _) ⟨x,c,m,hsx,hmx,c,k,e1,.inr ⟨w,km⟩⟩
   ·have b1:(c != s) = true:=by simpa using e2
    simp only [b1,if_true,k0L,k5r,k2l,k2p,k3G]
    exact h2 _ (k0M.set (by simp) _ _) ⟨x,s,m,hsx,hmx,c,k,e1,.inl e2⟩
 ·refine cA2 hI fun _ yA=>cX1 yA fun bl' yB=>cA5 yB fun yC=>?_; clear hI yA yB; subst yC; intro P1 P2 P3 P4
  rw [k0o,k1Q,k4N]
  refine h1 bl' P1 (fun b s m q1 q2=>P2 b s m (k1T.mp (by rw [q1]; rfl)) q1 q2) ?_ P4
  simp at P3; lia
end T
namespace T
noncomputable def k1X:Nm:=[112,108,97,99,101,115]
noncomputable def k2e:Nm:=[110,117,109,101,114,105,99]
noncomputable def k5v:Nm:=[99,104,97,114,97,99,116,101,114,115]
noncomputable def z2W:Nm:=[98,108,111,99,107,115]
noncomputable def kClears:Nm:=[99,108,101,97,114,115]
noncomputable abbrev Key:=List (List Nat ⊕ Bool)
noncomputable abbrev Pl:=List ((Nm × Nm) × (Th × Int))
noncomputable abbrev Bk:=List (Nm × (Bool × Int × Int))
noncomputable def PV (t:Th) (a:Int):V:=.tup [.int t.kind,.int a,.int t.len,k6X t.many]
noncomputable def kP (k:Nm × Nm):Key:=[.inl k.1,.inl k.2]
noncomputable def z3O (P:Pl):List (Key × V):=P.map fun e=>(kP e.1,PV e.2.1 e.2.2)
noncomputable def encK (q:Bool × Int × Int):V:=.tup [.bool q.1,.int q.2.1,.int q.2.2]
noncomputable def k6b (p bl c:Nat) (N C:Int):List (Nm × V):=[(k1X,.loc p),(k2e,.int N),(k5v,.int C),(z2W,.loc bl),(kClears,.loc c)]
theorem kP_inj (a b:Nm × Nm) (h:kP a = kP b):a = b:=by
 unfold kP at h
 injection h with h1 h2
 injection h2 with h2 _
 injection h1 with h1
 injection h2 with h2
 exact Prod.ext h1 h2
theorem k9o (P:Pl) (k:Nm × Nm):k0Q (z3O P) (kP k) = (k0Q P k).map fun q=>PV q.1 q.2:=by
 induction P with
 | nil=>rfl
 | cons e P ih =>
  obtain ⟨a,b⟩:=e
  unfold z3O at ih ⊢
  rw [w0f,k1d,k1d,ih]
  by_cases q:a = k
  ·subst q; simp
  ·rw [if_neg q,if_neg fun w=>q (kP_inj _ _ w)]
theorem z5Q (P:Pl) (k:Nm × Nm) (t:Th) (a:Int):k2c (z3O P) (kP k) (PV t a) = z3O (k2c P k (t,a)):=by
 cases e:k0Q P k with
 | none =>
  rw [k2I e,k2I (by rw [k9o,e]; rfl)]
  unfold z3O; simp
 | some o =>
  rw [k5V e,k5V (o:=PV o.1 o.2) (by rw [k9o,e]; rfl)]
  unfold z3O
  rw [w0k,w0k]
  refine w1G fun p Y=>?_
  simp only [Function.comp]
  by_cases q:p.1 = k
  ·subst q; simp
  ·rw [if_neg q,if_neg fun w=>q (kP_inj _ _ w)]
structure k1L (h:Hp) (m d p bl c:Nat) (N C:Int) (P:Pl) (B:Bk) (cl:List (Nm × Nat)):Prop where
 hm:h[m]? = some (.inst 1 d)
 hd:h[d]? = some (.dict (k6b p bl c N C))
 hp:h[p]? = some (.tdict (z3O P))
 hb:h[bl]? = some (.dict (k1F encK B))
 hc:h[c]? = some (.dict (k1F .loc cl))
 nd:[m,d,p,bl,c].Nodup
theorem k1L.keep {S:List Nat} {h h':Hp} {m d p bl c:Nat} {N C:Int} {P:Pl} {B:Bk} {cl:List (Nm × Nat)} (x:k1L h m d p bl c N C P B cl) (k:k0M S h h') (hS:∀ i,i∈[m,d,p,bl,c]→i∉S):k1L h' m d p bl c N C P B cl :=
 ⟨k.get x.hm (hS m (by simp)),k.get x.hd (hS d (by simp)),k.get x.hp (hS p (by simp)),k.get x.hb (hS bl (by simp)),k.get x.hc (hS c (by simp)),x.nd⟩
section
variable {h:Hp} {m d p bl c:Nat} {N C:Int} {P:Pl} {B:Bk} {cl:List (Nm × Nat)} (M:k1L h m d p bl c N C P B cl)
include M
theorem k1L.ne:m≠d∧m≠p∧m≠bl∧m≠c∧d≠p∧d≠bl∧d≠c∧p≠bl∧p≠c∧bl≠c:=by
 have:=M.nd
 simp only [w0J,w0c,w0i,or_false,not_or] at this
 refine cA5 this fun yA yB yC a10 _=>cA4 yA fun a1 a2 a3 a4=>cA3 yB fun a5 a6 a7=>cA2 yC fun a8 a9=>?_; clear this yA yB yC
 exact ⟨a1,a2,a3,a4,a5,a6,a7,a8,a9,a10⟩
theorem k1L.fields:k3m h m = some (d,k6b p bl c N C):=by
 unfold k3m; rw [M.hm]; dsimp only; rw [M.hd]
theorem k1L.places (Q:Po V):wp (k7l [112,108,97,99,101,115] (.loc m)) Q h = Q (.ok (.loc p)) h:=by
 rw [k6k,M.fields,k0g]; rfl
theorem k1L.numeric (Q:Po V):wp (k7l [110,117,109,101,114,105,99] (.loc m)) Q h = Q (.ok (.int N)) h:=by
 rw [k6k,M.fields,k0g]; rfl
theorem k1L.chars (Q:Po V):wp (k7l [99,104,97,114,97,99,116,101,114,115] (.loc m)) Q h = Q (.ok (.int C)) h:=by
 rw [k6k,M.fields,k0g]; rfl
theorem k1L.blocks (Q:Po V):wp (k7l [98,108,111,99,107,115] (.loc m)) Q h = Q (.ok (.loc bl)) h:=by
 rw [k6k,M.fields,k0g]; rfl
theorem k1L.clears (Q:Po V):wp (k7l [99,108,101,97,114,115] (.loc m)) Q h = Q (.ok (.loc c)) h:=by
 rw [k6k,M.fields,k0g]; rfl
theorem k1L.setF (N' C':Int):k1L (h.set d (.dict (k6b p bl c N' C'))) m d p bl c N' C' P B cl:=by
 refine cA10 M.ne fun a1 a2 a3 a4 a5 a6 a7 a8 a9 a10=>?_
 exact ⟨k0m M.hm (Ne.symm a1) _,k0J M.hd _,k0m M.hp a5 _,k0m M.hb a6 _,k0m M.hc a7 _,M.nd⟩
theorem k1L.setP (P':Pl):k1L (h.set p (.tdict (z3O P'))) m d p bl c N C P' B cl:=by
 refine cA10 M.ne fun a1 a2 a3 a4 a5 a6 a7 a8 a9 a10=>?_
 exact ⟨k0m M.hm (Ne.symm a2) _,k0m M.hd (Ne.symm a5) _,k0J M.hp _,k0m M.hb a8 _,k0m M.hc a9 _,M.nd⟩
theorem k1L.setB (B':Bk):k1L (h.set bl (.dict (k1F encK B'))) m d p bl c N C P B' cl:=by
 refine cA10 M.ne fun a1 a2 a3 a4 a5 a6 a7 a8 a9 a10=>?_
 exact ⟨k0m M.hm (Ne.symm a3) _,k0m M.hd (Ne.symm a6) _,k0m M.hp (Ne.symm a8) _,k0J M.hb _,k0m M.hc a10 _,M.nd⟩
theorem k1L.setC (cl':List (Nm × Nat)):k1L (h.set c (.dict (k1F .loc cl'))) m d p bl c N C P B cl':=by
 refine cA10 M.ne fun a1 a2 a3 a4 a5 a6 a7 a8 a9 a10=>?_
 exact ⟨k0m M.hm (Ne.symm a4) _,k0m M.hd (Ne.symm a7) _,k0m M.hp (Ne.symm a9) _,k0m M.hb (Ne.symm a10) _,k0J M.hc _,M.nd⟩
theorem k7U (s:Bool) (z most:Int) (Q:Po V):wp (k3s [.loc m,.bool s,.int z,.int most]) Q h =
  if most < (if s then C else N) + z then Q (.error .lay) h else Q (.ok (.int (if s then C else N))) (h.set d (.dict (k6b p bl c (if s then N else N + z) (if s then C + z else C)))):=by
 unfold k3s k7L
 rw [k1z]
 have e1:∀ v,k2c (k6b p bl c N C) [99,104,97,114,97,99,116,101,114,115] (.int v) = k6b p bl c N v:=fun v=>rfl
 have e2:∀ v,k2c (k6b p bl c N C) [110,117,109,101,114,105,99] (.int v) = k6b p bl c v C:=fun v=>rfl
 have e3:(k6b p bl c N C).length≤500:=by simp [k6b]
 cases s with
 | true =>
  by_cases q:most < C + z
  ·simp [k0r,k0P,M.chars,M.numeric,q,M.fields,e1,e2,e3]
  ·simp [k0r,k0P,M.chars,M.numeric,q,M.fields,e1,e2,e3]
 | false =>
  by_cases q:most < N + z
  ·simp [k0r,k0P,M.chars,M.numeric,q,M.fields,e1,e2,e3]
  ·simp [k0r,k0P,M.chars,M.numeric,q,M.fields,e1,e2,e3]
theorem k9p {b s dd t c' g k:Nat} {nm:Nm} {u:Un} (ok:u.Ok) (sp:k2m h b s nm dd t c' g k u) {n:Nm} (hn:n∈names) (hP:P.length≤1000) (a:Int) (Q:Po V) :
  wp (k4E [.loc m,.loc s,.str n,.int a]) Q h = Q (.ok .none) (h.set p (.tdict (z3O (k2c P (nm,n) (u.th n,a))))):=by
 unfold k4E k8X
 rw [k1z]
 have hl:(z3O P).length≤4000:=by unfold z3O; simp; lia
 have e:k2c (z3O P) [Sum.inl nm,Sum.inl n] (V.tup [V.int (u.th n).kind,V.int a,V.int (u.th n).len,k6X (u.th n).many]) = z3O (k2c P (nm,n) (u.th n,a)):=z5Q P (nm,n) _ _
 simp only [w0s,w0q,w0y,true_and,w0f,w0n,List.replicate,w0o,w0r,k0L,k0y,k1i,k2v,k0s,rg0,rgS,w0a,k0g,k0u,k0r,sp.things,sp.un.thing ok hn,k2z,k1q,k1I,k1w,k0x,k2j,k1H,w0e,w0d,k1r,k0o,
  k2h,k0z,k0E,k0C,k0O,k4H,M.places,sp.name,k6w,M.hp,k7t,hl,if_true,k5u,w0x,e,k0P,k1Q,k4N]
end
noncomputable def z2i (q:Nm × Int):V:=.tup [.str q.1,.int q.2]
noncomputable def k0N (rt:Nm→Nm) (ds:Nm→Int) (ns:List Nm) (r:Nm):List (Nm × Int):=(ns.filter fun n=>rt n = r).map fun n=>(n,ds n)
noncomputable def k1l (rt:Nm→Nm) (out:Nm→Bool):List Nm→List Nm→List Nm
 | [],acc=>acc
 | n :: r,acc=>k1l rt out r (if out (rt n) || acc.contains (rt n) then acc else acc ++ [rt n])
structure FoundR (h h':Hp) (rt:Nm→Nm) (ds:Nm→Int) (out:Nm→Bool) (ns:List Nm) (fd:List (Nm × Nat)):Prop where
 keys:fd.map (·.1) = k1l rt out ns []
 nd:(fd.map (·.1)).Nodup
 mem:∀ r l,(r,l)∈fd→h.length≤l∧h'[l]? = some (.list ((k0N rt ds ns r).map z2i))
 inj:∀ r l r' l',(r,l)∈fd→(r',l')∈fd→l = l'→r = r'
theorem k4R (rt:Nm→Nm) (out:Nm→Bool) (n:Nm):∀ (ns acc:List Nm),k1l rt out (ns ++ [n]) acc = (if out (rt n) || (k1l rt out ns acc).contains (rt n) then k1l rt out ns acc else k1l rt out ns acc ++ [rt n])
 | [],acc=>rfl
 | m :: ns,acc=>by
  rw [w0o,k1l,k4R rt out n ns,k1l]
set_option tactic.hygienic true in
theorem z2j {b s d t c g k:Nat} {nm:Nm} {u:Un} {h:Hp} (ok:u.Ok) (sp:k2m h b s nm d t c g k u) (hb:b≤h.length)
  {S:(Nm→Int)→Prop} {es:Ab} {rt:Nm→Nm} {ds:Nm→Int} {a r:Nat} {rf:Rf} (ha:h[a]? = some (.dict (k3K es))) (A:AbR es S rt ds) (hl:es.length < 60)
  (hr:h[r]? = some (.dict (k1F encR rf))) {Q:Po V}
  (h1:∀ h' f fd,k0M [] h h'→h.length≤f→h'[f]? = some (.dict (k1F .loc fd))→FoundR h h' rt ds (fun x=>(k0Q rf x).isSome) u.ord fd→Q (.ok (.loc f)) h') :
  wp (k4M [.loc s,.loc a,.loc r]) Q h:=by
 unfold k4M k7K
 rw [k1z]
 refine ⟨rfl,?_⟩
 have sp0:=sp.keep (k0M.alloc [] h (.dict [])) (by simp [k3d])
 simp only [w0f,w0n,List.replicate,w0o,w0r,k0L,k0y,k3Z,k1q,k0x,k1r,k0o,w0e,w0d,k2B,k2d,k2v,k0s,rg0,rgS,w0a,k0g,k0u,sp0.things,k1S,sp0.un.ht]
 have La:=k0t ha
 have Lr:=k0t hr
 let out:=fun x=>(k0Q rf x).isSome
 let I:=fun (pre:List Nm) (reg:Reg) (h':Hp)=>(∃ g4 g5 g6,reg = [some (.loc s),some (.loc a),some (.loc r),some (.loc h.length),g4,g5,g6])∧k0M [] h h' ∧
  ∃ fd,h'[h.length]? = some (.dict (k1F .loc fd))∧FoundR h h' rt ds out pre fd∧fd.length≤pre.length∧(∀ r l,(r,l)∈fd→l≠h.length)
 refine k4m u.ord V.str I (by have:=ok.ordlen; lia) (fun pre suf reg h' e hI=>?_) ⟨(iX3 rfl),k0M.alloc _ _ _,[],k0X _ _,⟨rfl,w0L,fun r l q=>by simp at q,fun r l r' l' q=>by simp at q⟩,by simp,fun r l q=>by simp at q⟩ (fun pre x suf reg h' e hI=>?_) (fun reg h' hI=>?_)
 ·have hs':=(sp.keep hI.2.1 (by simp [k3d])).un.ht
  have:=k5a hs' pre.length
  rw [w0k] at this
  exact this
 ·refine cA3 hI fun yA K yB=>cX3 yA fun g4 g5 g6 yC=>?_; clear hI yA; subst yC; refine cX1 yB fun fd yD=>cA4 yD fun hf F hfl hne=>?_; clear yB yD
  have ha':=K.get ha (by simp)
  have hr':=K.get hr (by simp)
  have hpl:pre.length + 1≤4:=by have:=ok.ordlen; rw [e] at this; simp at this; lia
  have hfl':(k1F V.loc fd).length≤4000:=by rw [k1B]; lia
  have hmlen:∀ r,(k0N rt ds pre r).length≤pre.length:=fun r=>by unfold k0N; rw [w0u]; exact w1f _ _
  have memNo:∀ q,rt x≠q→k0N rt ds (pre ++ [x]) q = k0N rt ds pre q:=fun q hq=>by
   unfold k0N; rw [w0V]; simp [hq]
  have memYes:k0N rt ds (pre ++ [x]) (rt x) = k0N rt ds pre (rt x) ++ [(x,ds x)]:=by
   unfold k0N; rw [w0V]; simp
  rw [k0x,k0u]
  simp only [w0e,w0d,k0L,k0y,k0K,k0D,k0z,k0s,rg0,rgS,w0a,k0g,k0E,k0u,k0r,w0s,w0q,w0y,true_and,k0C,k0O,k0W,
   A.at hl ha',k1q,k1I,k1w,k0x,k2j,k1H,k1r,k0o,z0W,k2a,z2S,hr',k5i,k1h,w1o,k1x,k2w]
  cases e1:(k0Q rf (rt x)).isSome with
  | true =>
   simp only [w1j,w0p,if_false,k1Q,k0o,k0S]
   have e1':out (rt x) = true:=e1
   refine ⟨(iX3 rfl),K,fd,hf,⟨?_,F.nd,fun q l hq=>?_,F.inj⟩,by simp; lia,hne⟩
   ·rw [k4R,e1',Bool.true_or,if_pos rfl]; exact F.keys
   ·refine cA2 (F.mem q l hq) fun q1 q2=>?_
    refine ⟨q1,?_⟩
    rw [memNo]
    ·exact q2
    ·rintro rfl
     have hin:rt x∈k1l rt out pre []:=by rw [← F.keys]; exact w0b.mpr ⟨_,hq,rfl⟩
     have noOut:∀ (l acc:List Nm),(∀ q,q∈acc→out q = false)→∀ q,q∈k1l rt out l acc→out q = false:=by
      intro l
      induction l with
      | nil=>intro acc ha q hq; exact ha q hq
      | cons y l ih =>
       intro acc ha q hq
       rw [k1l] at hq
       refine ih _ (fun z hz=>?_) q hq
       split at hz
       ·exact ha z hz
       ·rename_i w
        refine Or.elim (w0g.mp hz) (fun hz=>?_) fun hz=>?_
        ·exact ha z hz
        ·rw [w0h] at hz; subst hz
         simp only [w2b,not_or,w2c] at w
         exact w.1
     have:=noOut pre [] (fun q hq=>by simp at hq) _ hin
     rw [e1'] at this; exact kTF this
  | false =>
   have e1':out (rt x) = false:=e1
   simp only [w1J,if_true,k0L,z0W,k2a,k0s,rg0,rgS,w0a,k0g,k0u,k0r,z2S,hf,k5i,k1h,w1o,k1x,k2w]
   cases e2:k0Q fd (rt x) with
   | some l =>
    have hml:=k4O e2
    refine cA2 (F.mem _ _ hml) fun q1 q2=>?_
    have hapl:((k0N rt ds pre (rt x)).map z2i).length≤4000:=by rw [w0u]; have:=hmlen (rt x); lia
    simp only [w1k,w1j,w0p,if_false,k1Q,k0o,k0L,k3P,k4l,k1i,k0s,rg0,rgS,w0a,k0g,k0u,k0r,k1R,hf,k1j,k1h,e2,w0x,k3I,q2,k0z,k2h,k0E,k0C,k0O,k3J,k2R,hapl,if_true,k0S]
    have Kset:k0M [] h (h'.set l (.list ((k0N rt ds pre (rt x)).map z2i ++ [.tup [.str x,.int (ds x)]]))):=K.trans' (k0M.set (S:=[l]) (by simp) _ _) (fun i hi=>.inr (by simp at hi; lia))
    refine ⟨(iX3 rfl),Kset,fd,k0m hf (hne _ _ hml) _,⟨?_,F.nd,fun q l' hq=>?_,F.inj⟩,by simp; lia,hne⟩
    ·have:rt x∈k1l rt out pre []:=by rw [← F.keys]; exact w0b.mpr ⟨_,hml,rfl⟩
     rw [k4R,w0N.mpr this,w1u,if_pos rfl]; exact F.keys
    ·refine cA2 (F.mem q l' hq) fun w1 w2=>?_
     refine ⟨w1,?_⟩
     by_cases w:rt x = q
     ·subst w
      have e3:=k1k F.nd hq
      rw [e2] at e3; refine k1f e3 fun yA=>?_; clear e3; subst yA
      rw [k0J q2,memYes]; simp [z2i]
     ·rw [memNo q w]
      refine k0m w2 ?_ _
      rintro rfl
      exact w (F.inj _ _ _ _ hml hq rfl)
   | none =>
    simp only [w1l,w1J,if_true,k0L,k0y,k3U,k0C,k0u,k3H,k1q,k4H,k0s,rg0,rgS,w0a,k0g,k0r,k6w,k0w hf,k2C,hfl',k0P,k1r,k0o,k1Q]
    have e3:k2c (k1F V.loc fd) (rt x) (.loc h'.length) = k1F V.loc (fd ++ [(rt x,h'.length)]):=by
     rw [k3i,k2I e2]
    rw [e3]
    have hLf:=k0t hf
    have gf:((h' ++ [O.list []]).set h.length (.dict (k1F V.loc (fd ++ [(rt x,h'.length)]))))[h.length]? = some (.dict (k1F V.loc (fd ++ [(rt x,h'.length)]))):=k0J (k0w hf _) _
    have gn:((h' ++ [O.list []]).set h.length (.dict (k1F V.loc (fd ++ [(rt x,h'.length)]))))[h'.length]? = some (.list []):=k0m (k0X _ _) (by lia) _
    have dg:k0Q (fd ++ [(rt x,h'.length)]) (rt x) = some h'.length:=by rw [k3V,e2,k1d,if_pos rfl]; rfl
    have K1:k0M [] h ((h' ++ [O.list []]).set h.length (.dict (k1F V.loc (fd ++ [(rt x,h'.length)])))):=(K.trans (k0M.alloc _ _ _)).trans' (k0M.set (S:=[h.length]) (by simp) _ _) (fun i hi=>.inr (by simp at hi; lia))
    generalize hH:(h' ++ [O.list []]).set h.length (.dict (k1F V.loc (fd ++ [(rt x,h'.length)]))) = H at gf gn K1
    have gold:∀ l o,h'[l]? = some o→l≠h.length→H[l]? = some o:=fun l o q w=>by
     rw [← hH]; exact k0m (k0w q _) (Ne.symm w) _
    simp only [k0L,k3P,k4l,k1i,k0s,rg0,rgS,w0a,k0g,k0u,k0r,k1R,gf,k1j,k1h,dg,w0x,k3I,gn,k0z,k2h,k0E,k0C,k0O,k3J,k2R,w0q,w1t,if_true,w0r,k0o,k1Q,k0S]
    have hnk:rt x∉k1l rt out pre []:=by rw [← F.keys]; exact k1W.mp e2
    have hnk':(k1l rt out pre []).contains (rt x) = false:=by
     rw [w1I]; intro q; rw [w0N] at q; exact hnk q
    refine ⟨(iX3 rfl),K1.trans' (k0M.set (S:=[h'.length]) (by simp) _ _) (fun i hi=>.inr (by simp at hi; have:=K.len; lia)),fd ++ [(rt x,h'.length)],k0m gf (by lia) _,⟨?_,?_,fun q l' hq=>?_,fun q l q' l' hq hq' el=>?_⟩,by simp; lia,fun q l hq=>?_⟩
    ·rw [k4R,e1',hnk',Bool.or_false,if_neg (by simp),← F.keys]; simp
    ·rw [w0j,w0w]
     refine ⟨F.nd,by simp,fun y hy z hz=>?_⟩
     simp at hz; subst hz
     rw [F.keys] at hy
     rintro rfl
     exact hnk hy
    ·refine Or.elim (w0g.mp hq) (fun hq=>?_) fun hq=>?_
     ·refine cA2 (F.mem q l' hq) fun w1 w2=>?_
      have hlt:=k0t w2
      refine ⟨w1,?_⟩
      rw [memNo q (by rintro rfl; exact hnk (by rw [← F.keys]; exact w0b.mpr ⟨_,hq,rfl⟩))]
      exact k0m (gold _ _ w2 (hne _ _ hq)) (by lia) _
     ·rw [w0h] at hq
      refine k2X hq fun yA yB=>?_; clear hq; subst yA; subst yB
      refine ⟨K.len,?_⟩
      have hm0:k0N rt ds pre (rt x) = []:=by
       unfold k0N
       rw [w1g.mpr]
       ·rfl
       ·intro y hy q
        simp only [decide_eq_true_eq] at q
        have z1g:∀ (l acc:List Nm) (z:Nm),(z∈acc∨∃ y,y∈l∧rt y = z∧out z = false)→z∈k1l rt out l acc:=by
         intro l
         induction l with
         | nil =>
          intro acc z hz
          refine Or.elim hz ?_ ?_ <;> clear hz; rotate_left; (intro yZ; refine cX1 yZ fun y yA=>cA2 yA fun hy _=>?_; clear yZ yA); rotate_right; intro hz
          ·exact hz
          ·simp at hy
         | cons w l ih =>
          intro acc z hz
          rw [k1l]
          refine ih _ z ?_
          refine Or.elim hz ?_ ?_ <;> clear hz; rotate_left; (intro yZ; refine cX1 yZ fun y yA=>cA3 yA fun hy q1 q2=>?_; clear yZ yA); rotate_right; intro hz
          ·left; split
           ·exact hz
           ·simp [hz]
          ·refine Or.elim (w0c.mp hy) (fun hy=>?_) fun hy=>?_
           ·subst hy
            left
            split
            ·rename_i w
             rw [q1,q2,w1U,w0N] at w
             exact w
            ·simp [q1]
           ·exact .inr ⟨y,hy,q1,q2⟩
        exact hnk (z1g pre [] (rt x) (.inr ⟨y,hy,q,e1'⟩))
      rw [k0J gn,memYes,hm0]; rfl
    ·refine Or.elim (w0g.mp hq) (fun hq=>?_) fun hq=>?_ <;> refine Or.elim (w0g.mp hq') (fun hq'=>?_) fun hq'=>?_
     ·exact F.inj _ _ _ _ hq hq' el
     ·rw [w0h] at hq'; refine k2X hq' fun yA yB=>?_; clear hq'; subst yA; subst yB
      have:=k0t (F.mem _ _ hq).2; lia
     ·rw [w0h] at hq; refine k2X hq fun yA yB=>?_; clear hq; subst yA; subst yB
      have:=k0t (F.mem _ _ hq').2; lia
     ·rw [w0h] at hq hq'; refine k2X hq fun yA yB=>?_; clear hq; subst yA; subst yB; refine k2X hq' fun yA yB=>?_; clear hq'; subst yA; subst yB; rfl
    ·refine Or.elim (w0g.mp hq) (fun hq=>?_) fun hq=>?_
     ·exact hne _ _ hq
     ·rw [w0h] at hq; refine k2X hq fun yA yB=>?_; clear hq; subst yA; subst yB; lia
 ·refine cA3 hI fun yA K yB=>cX3 yA fun g4 g5 g6 yC=>?_; clear hI yA; subst yC; refine cX1 yB fun fd yD=>cA4 yD fun hf F hfl hne=>?_; clear yB yD
  simp only [k0o,k0L,k6v,k0s,rg0,rgS,w0a,k0g,k0O,k3O,k2F]
  exact h1 h' h.length fd K (w0l _) hf F
end T
namespace T
theorem k7x (l:List Int):k9Y (l.map V.int) = some l:=by
 induction l with
 | nil=>rfl
 | cons a l ih=>rw [w0f,k9Y,ih]; rfl
theorem z5R {α:Type} {ct:V→Reg→X Reg} {ce:Reg→X V} {it:It} {Q:Po V} (xs:List α) (enc:α→V) (f:α→V) (J:Reg→Prop) {reg:Reg} {h:Hp}
  (hlen:xs.length < 64) (hit:∀ i,k1Z it i h = some ((xs.map enc)[i]?)) (h0:J reg)
  (hbody:∀ x,x∈xs→∀ reg,J reg→wp (ct (enc x) reg) (fun r h'=>∃ reg',r = .ok reg'∧h' = h∧J reg'∧wp (ce reg') (fun v h'=>v = .ok (f x)∧h' = h) h) h)
  (hend:Q (.ok (.loc h.length)) (h ++ [.list (xs.map f)])) :
  wp (k4X (k6r ct tT (k2H ce) it 64 0 reg (.list [])) >>= k3r) Q h:=by
 refine k9j xs enc (fun Y=>true) f J hlen hit h0 (fun x hx reg hJ=>k8n (hbody x hx reg hJ) fun r h' q=>?_) ?_
 ·refine cX1 q fun reg' yA=>cA4 yA fun q1 q2 q3 q4=>?_; clear q yA
  refine ⟨reg',q1,q2,q3,?_,fun Y=>q4⟩
  rw [q_tT]; exact ⟨rfl,rfl⟩
 ·have e:xs.filter (fun Y=>true) = xs:=by simp
  rw [e]; exact hend
theorem k2b.thingK {h:Hp} {b t c g k:Nat} {u:Un} (x:k2b h b t c g k u) (ok:u.Ok) {n:Nm} (hn:n∈names) (K:V→Prop):oK h[t]? (fun o=>oK (z0F o (.str n)) K) = K (k2z (u.th n)):=by
 rw [x.ht,k0g,k1j,k2S u.ord (fun n=>k2z (u.th n)) ((ok.ord n).mpr hn),k0g]
noncomputable def k5I (q:Bool × Int × Int):V:=.tup [.bool q.1,.int q.2.1,.int q.2.2]
noncomputable def k5J (nm:Nm) (th:Nm→Th) (base:Int) (ms:List (Nm × Int)) (P:Pl):Pl:=ms.foldl (fun P q=>k2c P (nm,q.1) (th q.1,base + q.2)) P
theorem z0r (nm:Nm) (th:Nm→Th) (base:Int) (ms:List (Nm × Int)) (P:Pl):(k5J nm th base ms P).length≤P.length + ms.length:=by
 unfold k5J
 induction ms generalizing P with
 | nil=>simp
 | cons q ms ih =>
  have h1:=ih (k2c P (nm,q.1) (th q.1,base + q.2))
  have h2:=k2y P (nm,q.1) (th q.1,base + q.2)
  rw [w2r,w0s]; lia
theorem z2X {h:Hp} {m d p bl c:Nat} {N C:Int} {P:Pl} {B:Bk} {cl:List (Nm × Nat)} (M:k1L h m d p bl c N C P B cl)
  {b s dd t c' g k:Nat} {nm:Nm} {u:Un} (ok:u.Ok) (sp:k2m h b s nm dd t c' g k u) (hb:b≤h.length) (hB:k3d [m,d,p,bl,c] b)
  {ml:Nat} {n0:Nm} {d0:Int} {mr:List (Nm × Int)} (hm:h[ml]? = some (.list (((n0,d0) :: mr).map z2i))) (hmn:∀ q,q∈(n0,d0) :: mr→q.1∈names) (hml:mr.length≤3) (hmd:ml≠d) (hmp:ml≠p)
  {lc:Nat} {cr:List (Bool × Int × Int)} (hlc:k0Q cl nm = some lc) (hcr:h[lc]? = some (.list (cr.map k5I))) (hcrl:cr.length≤100) (hlcM:lc∉[m,d,p,bl,c]) (hbl:b≤lc) (hP:P.length≤900) (most:Int) {Q:Po V}
  (lo hi:Int) (sx:Bool) (hlo:lo = z0H (((n0,d0) :: mr).map (·.2))) (hhi:hi = k9Z (((n0,d0) :: mr).map fun q=>q.2 + (u.th q.1).size)) (hsx:sx = (u.th n0).txt)
  (h1:∀ h',k0M [d,p,lc] h h'→¬ most < (if sx then C else N) + (hi - lo)→k1L h' m d p bl c (if sx then N else N + (hi - lo)) (if sx then C + (hi - lo) else C) (k5J nm u.th ((if sx then C else N) - lo) ((n0,d0) :: mr) P) B cl →
   h'[lc]? = some (.list ((if (((n0,d0) :: mr).filter fun q=>u.kept.contains q.1) = [] then cr ++ [(sx,(if sx then C else N),(if sx then C else N) + hi - lo)] else cr).map k5I))→Q (.ok .none) h')
  (h2:∀ h',k0M [d,p,lc] h h'→most < (if sx then C else N) + (hi - lo)→Q (.error .lay) h') :
  wp (k5p [.loc m,.loc s,.loc ml,.int most]) Q h:=by
 refine cA10 M.ne fun a1 a2 a3 a4 a5 a6 a7 a8 a9 a10=>?_
 have Lml:=k0t hm
 have Ld:=k0t M.hd
 have Lp:=k0t M.hp
 have Llc:=k0t hcr
 simp only [w0c,w0i,or_false,not_or] at hlcM
 refine cA5 hlcM fun c1 c2 c3 c4 c5=>?_; clear hlcM
 unfold k5p k8Y
 rw [k1z]
 refine ⟨rfl,?_⟩
 generalize hms:(n0,d0) :: mr = ms at *
 have hlen:ms.length < 64:=by rw [← hms]; simp; lia
 have hne:ms≠[]:=by rw [← hms]; simp
 simp only [w0f,w0n,List.replicate,w0o,w0r,k0L,k0y,k0K,k0D,k0z,k2W,k2d,k0s,rg0,rgS,w0a,k0g,k0u,k1S,hm,k4j]
 refine z5R ms z2i (fun q=>.int q.2) (fun reg=>∃ g0 g1,reg = [g0,g1]) hlen (fun i=>k3p hm i) (iX2 rfl) (fun x hx reg hJ=>?_) ?_
 ·refine cX2 hJ fun g0 g1 yA=>?_; clear hJ; subst yA
  unfold z2i
  simp only [k1I,w0s,w0q,w0y,true_and,k1w,k0x,k2j,k1H,w0e,w0d]
  refine ⟨_,rfl,(iX2 rfl),?_⟩
  simp only [k0s,rg0,rgS,w0a,k0g,and_self]
 have K1:k0M [d,p,lc] h (h ++ [O.list (ms.map fun q=>V.int q.2)]):=k0M.alloc _ _ _
 have e1:(h ++ [O.list (ms.map fun q=>V.int q.2)])[h.length]?.bind k9G = some (ms.map (·.2)):=by
  rw [k0X,w0S,k7u,← k7x (ms.map (·.2)),w0k]; rfl
 have hm1:=k0w hm (.list (ms.map fun q=>V.int q.2))
 have B0:k3d [d,p,lc] b:=fun i hi=>by
  simp at hi
  refine Or.elim hi (fun yY=>?_) fun yZ=>?_ <;> clear hi; rotate_left; (refine Or.elim yZ ?_ ?_ <;> clear yZ; rotate_left; (intro yZ; subst yZ); rotate_right; (intro yY; subst yY)); rotate_right; subst yY
  ·exact hB _ (by simp)
  ·exact hB _ (by simp)
  ·exact hbl
 have sp1:=sp.keep K1 B0
 have M1:=M.keep (k0M.alloc [] h (O.list (ms.map fun q=>V.int q.2))) (fun i Y=>by simp)
 have hcr1:=k0w hcr (.list (ms.map fun q=>V.int q.2))
 have L1:(h ++ [O.list (ms.map fun q=>V.int q.2)]).length = h.length + 1:=by simp
 generalize (h ++ [O.list (ms.map fun q=>V.int q.2)]) = H1 at *
 have hne1:ms.map (·.2)≠[]:=by simpa using hne
 simp only [k0E,k0C,k0O,k0W,q_minL,e1,k0g,ne_eq,hne1,not_false_eq_true,true_and,k1q,k0x,w0e,w0d,k1r,k0o,k0L,k0y,k0K,k0D,k0z,k2W,k2d,k0s,rg0,rgS,w0a,k0u,k1S,hm1,k4j]
 refine z5R ms z2i (fun q=>.int (q.2 + (u.th q.1).size)) (fun reg=>∃ g0 g1,reg = [g0,g1,some (.loc s)]) hlen (fun i=>k3p hm1 i) (iX2 rfl) (fun x hx reg hJ=>?_) ?_
 ·refine cX2 hJ fun g0 g1 yA=>?_; clear hJ; subst yA
  unfold z2i
  simp only [k1I,w0s,w0q,w0y,true_and,k1w,k0x,k2j,k1H,w0e,w0d]
  refine ⟨_,rfl,(iX2 rfl),?_⟩
  simp only [k1i,k0s,rg0,rgS,w0a,k0g,k0u,k0r,k0K,k0D,k0z,k2v,sp1.things,sp1.un.thing ok (hmn x hx),k0E,k0C,k0O,k0W,k6Y (ok.th x.1),k4o,and_self]
 have K2:k0M [d,p,lc] H1 (H1 ++ [O.list (ms.map fun q=>V.int (q.2 + (u.th q.1).size))]):=k0M.alloc _ _ _
 have e2:(H1 ++ [O.list (ms.map fun q=>V.int (q.2 + (u.th q.1).size))])[H1.length]?.bind k9G = some (ms.map fun q=>q.2 + (u.th q.1).size):=by
  rw [k0X,w0S,k7u,← k7x (ms.map fun q=>q.2 + (u.th q.1).size),w0k]; rfl
 have hm2:=k0w hm1 (.list (ms.map fun q=>V.int (q.2 + (u.th q.1).size)))
 have sp2:=sp1.keep K2 B0
 have M2:=M1.keep (k0M.alloc [] H1 (O.list (ms.map fun q=>V.int (q.2 + (u.th q.1).size)))) (fun i Y=>by simp)
 have hcr2:=k0w hcr1 (.list (ms.map fun q=>V.int (q.2 + (u.th q.1).size)))
 have L2:(H1 ++ [O.list (ms.map fun q=>V.int (q.2 + (u.th q.1).size))]).length = h.length + 1 + 1:=by simp [L1]
 have K3:=K1.trans K2
 generalize (H1 ++ [O.list (ms.map fun q=>V.int (q.2 + (u.th q.1).size))]) = H2 at *
 have hne2:(ms.map fun q=>q.2 + (u.th q.1).size)≠[]:=by simpa using hne
 have eh:z0F (.list (ms.map z2i)) (.int 0) = some (z2i (n0,d0)):=by rw [← hms]; rfl
 have hn0:n0∈names:=hmn (n0,d0) (by rw [← hms]; simp)
 simp only [k0E,k0C,k0O,k0W,q_maxL,e2,k0g,ne_eq,hne2,not_false_eq_true,true_and,k1q,k0x,w0e,w0d,k1r,k0o,k0L,k0y,k0K,k0D,k0z,k1i,k2v,k4k,k0s,rg0,rgS,w0a,k0u,k0r,k1R,hm2,eh,
  sp2.things,z2i,k3c,Int.toNat_zero,sp2.un.thingK ok hn0,k5H,z1X,← hlo,← hhi,← hsx]
 refine ⟨by decide,?_⟩
 rw [k7U M2]
 by_cases em:most < (if sx then C else N) + (hi - lo)
 ·rw [if_pos em]
  simp only [z1U,k2l,k3G]
  exact h2 _ K3 em
 rw [if_neg em]
 have M3:=M2.setF (if sx then N else N + (hi - lo)) (if sx then C + (hi - lo) else C)
 have K4:=K3.trans (k0M.set (S:=[d,p,lc]) (by simp) H2 (.dict (k6b p bl c (if sx then N else N + (hi - lo)) (if sx then C + (hi - lo) else C))) (l:=d))
 have hm3:=k0m hm2 (Ne.symm hmd) (.dict (k6b p bl c (if sx then N else N + (hi - lo)) (if sx then C + (hi - lo) else C)))
 have hcr3:=k0m hcr2 (Ne.symm c2) (.dict (k6b p bl c (if sx then N else N + (hi - lo)) (if sx then C + (hi - lo) else C)))
 generalize H2.set d (.dict (k6b p bl c (if sx then N else N + (hi - lo)) (if sx then C + (hi - lo) else C))) = H3 at *
 generalize hN':(if sx then N else N + (hi - lo)) = N' at *
 generalize hC':(if sx then C + (hi - lo) else C) = C' at *
 generalize hA:(if sx then C else N) = ad at *
 simp only [k1q,k0x,w0e,w0d,k1r,k0o,k0L,k2B,k2d,k0s,rg0,rgS,w0a,k0g,k0u,k1S,hm3]
 let I:=fun (pre:List (Nm × Int)) (reg:Reg) (h':Hp)=>(∃ g4 g5,reg = [some (.loc m),some (.loc s),some (.loc ml),some (.int most),g4,g5,some (.int lo),some (.int hi),some (.bool sx),some (.int ad)])∧k0M [d,p,lc] h h' ∧
  k1L h' m d p bl c N' C' (k5J nm u.th (ad - lo) pre P) B cl∧h'[ml]? = some (.list (ms.map z2i))∧h'[lc]? = some (.list (cr.map k5I))
 refine k4m ms z2i I hlen (fun pre suf reg h' e hI=>k3p hI.2.2.2.1 _) ⟨(iX2 rfl),K4,M3,hm3,hcr3⟩ (fun pre x suf reg h' e hI=>?_) (fun reg h' hI=>?_)
 ·refine cA5 hI fun yA K M' hm' hcr'=>cX2 yA fun g4 g5 yB=>?_; clear hI yA; subst yB
  have hx:x∈ms:=by rw [e]; simp
  have hpl:pre.length≤4:=by
   have:ms.length≤4:=by rw [← hms]; simp; lia
   rw [e] at this; simp at this; lia
  have hPl:=z0r nm u.th (ad - lo) pre P
  simp only [z2i,k1I,w0s,w0q,w0y,true_and,k1w,k0x,k2j,k1H,w0e,w0d,k0u,k0L,k3P,k0K,k0D,k0z,k0s,rg0,rgS,w0a,k0g,k0E,k1i,k0r,k4o,z1X,k0C,k0O,k0W]
  rw [k9p M' ok (sp.keep K B0) (hmn x hx) (by lia)]
  rw [k0O,k0o,k1Q,k0S]
  have e3:k2c (k5J nm u.th (ad - lo) pre P) (nm,x.1) (u.th x.1,ad + x.2 - lo) = k5J nm u.th (ad - lo) (pre ++ [x]) P:=by
   unfold k5J
   rw [List.foldl_append,w2r,List.foldl_nil]
   have:ad - lo + x.2 = ad + x.2 - lo:=by lia
   rw [this]
  rw [e3]
  exact ⟨(iX2 rfl),K.trans (k0M.set (by simp) _ _),M'.setP _,k0m hm' (Ne.symm hmp) _,k0m hcr' (Ne.symm c3) _⟩
 ·refine cA5 hI fun yA K M' hm' hcr'=>cX2 yA fun g4 g5 yB=>?_; clear hI yA; subst yB
  have sp':=sp.keep K B0
  simp only [k0o,k0L,z0W,k2a,k2W,k2d,k0s,rg0,rgS,w0a,k0g,k0u,k1S,hm',k4j,w0f,w0n,List.replicate,w0o,w0r]
  refine k9j ms z2i (fun q=>u.kept.contains q.1) (fun q=>.str q.1) (fun reg=>∃ g0 g1,reg = [g0,g1,some (.loc s)]) hlen (fun i=>k3p hm' i) (iX2 rfl) (fun x hx reg hJ=>?_) ?_
  ·refine cX2 hJ fun g0 g1 yA=>?_; clear hJ; subst yA
   unfold z2i
   simp only [k1I,w0s,w0q,w0y,true_and,k1w,k0x,k2j,k1H,w0e,w0d]
   refine ⟨_,rfl,(iX2 rfl),?_,fun Y=>?_⟩
   ·simp only [k2a,k2v,k0s,rg0,rgS,w0a,k0g,k0u,k0r,sp'.kept,q_in,sp'.un.hk,k9h,z1d,w0x,k1x,and_self]
   ·simp only [k0s,rg0,rgS,w0a,k0g,and_self]
  ·have K5:k0M [d,p,lc] h' (h' ++ [O.list ((ms.filter fun q=>u.kept.contains q.1).map fun q=>V.str q.1)] ++ [O.list []]):=(k0M.alloc _ _ _).trans (k0M.alloc _ _ _)
   have g1:=k0w (k0X h' (O.list ((ms.filter fun q=>u.kept.contains q.1).map fun q=>V.str q.1))) (.list [])
   have g2:=k0X (h' ++ [O.list ((ms.filter fun q=>u.kept.contains q.1).map fun q=>V.str q.1)]) (.list [])
   have M'':=M'.keep ((k0M.alloc [] h' (O.list ((ms.filter fun q=>u.kept.contains q.1).map fun q=>V.str q.1))).trans (k0M.alloc [] _ (.list []))) (fun i Y=>by simp)
   have hcr'':=k0w (k0w hcr' (O.list ((ms.filter fun q=>u.kept.contains q.1).map fun q=>V.str q.1))) (.list [])
   have sp'':=sp'.keep K5 B0
   have K6:=K.trans K5
   rw [w0t,w0B] at g2
   simp only [k0u,k0r,k3U,k0C,k3H,w0t,w0B,q_eqL]
   generalize (h' ++ [O.list ((ms.filter fun q=>u.kept.contains q.1).map fun q=>V.str q.1)] ++ [O.list []]) = H5 at *
   rw [g1,k0g,g2,k0g]
   refine ⟨_,rfl,rfl,?_⟩
   simp only [k0u,k1x,k2w]
   by_cases ek:(ms.filter fun q=>u.kept.contains q.1) = []
   ·have ek':((ms.filter fun q=>u.kept.contains q.1).map fun q=>V.str q.1).isEmpty = true:=by rw [ek]; rfl
    have hca:(cr.map k5I).length≤4000:=by simp; lia
    simp only [ek',if_true,k0L,k3P,k4l,k1i,k2v,k0s,rg0,rgS,w0a,k0g,k0u,k0r,M''.clears,sp''.name,k1R,M''.hc,k1j,k1h,hlc,w0x,k3I,hcr'',k0z,k2h,k0E,k4o,z1X,k0C,k0O,k3J,k2R,hca,k0o,k1Q,k4N]
    refine h1 _ (K6.trans (k0M.set (by simp) _ _)) em ?_ ?_
    ·exact M''.keep (k0M.set (S:=[lc]) (by simp) _ _) (fun i hi q=>by
      simp at hi q
      subst q
      refine Or.elim hi ?_ ?_ <;> clear hi; rotate_left; (intro yZ; refine Or.elim yZ ?_ ?_ <;> clear yZ; rotate_left; (intro yZ; refine Or.elim yZ ?_ ?_ <;> clear yZ; rotate_left; (intro yZ; refine Or.elim yZ (fun hi=>?_) fun hi=>?_ <;> clear yZ); rotate_right; intro hi); rotate_right; intro hi); rotate_right; intro hi
      ·exact c1 hi
      ·exact c2 hi
      ·exact c3 hi
      ·exact c4 hi
      ·exact c5 hi)
    ·rw [k0J hcr'',if_pos ek]; simp [k5I]
   ·have ek':((ms.filter fun q=>u.kept.contains q.1).map fun q=>V.str q.1).isEmpty = false:=by
     cases w:ms.filter fun q=>u.kept.contains q.1 with
     | nil=>exact absurd w ek
     | cons _ _=>rfl
    simp only [ek',w0p,if_false,k1Q,k0o,k4N]
    refine h1 _ K6 em M'' ?_
    rw [hcr'',if_neg ek]
end T
namespace T
inductive RK where
 | blk (b:Nm)
 | cls (nm r:Nm)
 deriving DecidableEq
noncomputable abbrev Gs:=List (RK × (Bool × Int × Int))
structure k5K (G:Gs) (N C:Int):Prop where
 nd:(G.map (·.1)).Nodup
 pw:G.Pairwise fun x y=>x.2.1 = y.2.1→x.2.2.2≤y.2.2.1
 le:∀ x,x∈G→x.2.2.2≤if x.2.1 then C else N
theorem k5K.push {G:Gs} {N C:Int} (A:k5K G N C) {k:RK} (hk:k∉G.map (·.1)) (s:Bool) {z:Int} (hz:0≤z) :
  k5K (G ++ [(k,s,(if s then C else N),(if s then C else N) + z)]) (if s then N else N + z) (if s then C + z else C) where
 nd:=by
  rw [w0j,w0w]
  refine ⟨A.nd,by simp,fun x hx y hy=>?_⟩
  simp at hy; subst hy; rintro rfl; exact hk hx
 pw:=by
  rw [List.pairwise_append]
  refine ⟨A.pw,by simp,fun x hx y hy=>?_⟩
  simp at hy; subst hy
  intro e
  have e':x.2.1 = s:=e
  have:=A.le x hx
  rw [e'] at this
  exact this
 le:=fun x hx=>by
  refine Or.elim (w0g.mp hx) (fun hx=>?_) fun hx=>?_
  ·have:=A.le x hx
   cases s <;> cases e:x.2.1 <;> simp [e] at this ⊢ <;> lia
  ·simp at hx; subst hx
   cases s <;> simp
section
variable (th:Nm→Th) (rt:Nm→Nm) (ds:Nm→Int) (ord:List Nm) (r:Nm)
noncomputable def z2Y:Int:=z0H ((k0N rt ds ord r).map (·.2))
noncomputable def z1i:Int:=k9Z ((k0N rt ds ord r).map fun q=>q.2 + (th q.1).size)
noncomputable def k8k:Int:=z1i th rt ds ord r - z2Y rt ds ord r
noncomputable def k5X:Bool:=match k0N rt ds ord r with
 | []=>false
 | q :: _=>(th q.1).txt
noncomputable def k5L (kept:List Nm):Bool:=((k0N rt ds ord r).filter fun q=>kept.contains q.1).isEmpty
end
noncomputable def k6c (th:Nm→Th) (rt:Nm→Nm) (ds:Nm→Int) (ord:List Nm) (s:Bool) (rs:List Nm):Int:=(rs.map fun r=>if k5X th rt ds ord r = s then k8k th rt ds ord r else 0).sum
theorem z2Z (nm:Nm) (th:Nm→Th) (base:Int) (ms:List (Nm × Int)):∀ (P:Pl),(ms.map (·.1)).Nodup→∀ k,k0Q (k5J nm th base ms P) k = if k.1 = nm∧k.2∈ms.map (·.1) then (k0Q ms k.2).map (fun d=>(th k.2,base + d)) else k0Q P k:=by
 induction ms with
 | nil=>intro P _ k; simp [k5J]
 | cons x ms ih =>
  intro P nd k
  obtain ⟨n,d⟩:=x
  rw [w0f,w0J] at nd
  have e:k5J nm th base ((n,d) :: ms) P = k5J nm th base ms (k2c P (nm,n) (th n,base + d)):=rfl
  rw [e,ih _ nd.2 k,k2o,k1d]
  obtain ⟨k1,k2⟩:=k
  by_cases q1:k1 = nm
  ·subst q1
   by_cases q2:n = k2
   ·subst q2
    have:¬ (k1 = k1∧n∈ms.map (·.1)):=fun q=>nd.1 q.2
    rw [if_neg this,if_pos rfl,if_pos ⟨rfl,by simp⟩,if_pos rfl]
    rfl
   ·by_cases q3:k2∈ms.map (·.1)
    ·rw [if_pos ⟨rfl,q3⟩,if_pos ⟨rfl,by simp [q3]⟩,if_neg q2]
    ·rw [if_neg fun q=>q3 q.2,if_neg fun q=>q2 (by refine k2X q fun yA yB=>?_; clear q; cases yA; subst yB; rfl),if_neg]
     intro z0q; refine cA2 z0q fun _ q=>?_; clear z0q
     rw [w0f,w0c] at q
     refine Or.elim q ?_ ?_ <;> clear q <;> intro q
     ·exact q2 q.symm
     ·exact q3 q
  ·rw [if_neg fun q=>q1 q.1,if_neg fun q=>q1 (by refine k2X q fun yA yB=>?_; clear q; subst yA; subst yB; rfl),if_neg fun q=>q1 q.1]
theorem z1j {rt:Nm→Nm} {ds:Nm→Int} {ord:List Nm} (nd:ord.Nodup) (r:Nm):((k0N rt ds ord r).map (·.1)).Nodup:=by
 have e:(k0N rt ds ord r).map (·.1) = ord.filter fun n=>rt n = r:=by
  unfold k0N; rw [w0k]
  have:((fun q:Nm × Int=>q.1) ∘ fun n=>(n,ds n)) = id:=rfl
  rw [this,List.map_id]
 rw [e]; exact nd.filter _
theorem z3a {rt:Nm→Nm} {ds:Nm→Int} {ord:List Nm} (r n:Nm):k0Q (k0N rt ds ord r) n = if n∈ord∧rt n = r then some (ds n) else none:=by
 unfold k0N
 by_cases h:n∈ord∧rt n = r
 ·rw [if_pos h]
  exact k2S (ord.filter fun n=>rt n = r) ds (w0I.mpr ⟨h.1,by simp [h.2]⟩)
 ·rw [if_neg h,k1W,w0k]
  intro q
  refine cX1 (w0b.mp q) fun m yA=>cA2 yA fun hm e=>?_; clear yA
  simp only [Function.comp] at e
  subst e
  rw [w0I] at hm
  exact h ⟨hm.1,by simpa using hm.2⟩
theorem k1E {rt:Nm→Nm} {ds:Nm→Int} {ord:List Nm} {r:Nm} {q:Nm × Int}:q∈k0N rt ds ord r↔q.1∈ord∧rt q.1 = r∧q.2 = ds q.1:=by
 unfold k0N
 simp only [w0b,w0I,decide_eq_true_eq]
 constructor
 ·intro z0q; refine cX1 z0q fun n yA=>cA2 yA fun yB yC=>?_; clear z0q yA; subst yC; refine cA2 yB fun h1 h2=>?_; clear yB; exact ⟨h1,h2,rfl⟩
 ·intro z0q; refine cA3 z0q fun h1 h2 h3=>?_; clear z0q; exact ⟨q.1,⟨h1,h2⟩,by rw [← h3]⟩
set_option tactic.hygienic true in
theorem k5t {rt:Nm→Nm} {out:Nm→Bool}:∀ (ns acc:List Nm) (z:Nm),z∈k1l rt out ns acc↔z∈acc∨∃ n,n∈ns∧rt n = z∧out z = false
 | [],acc,z=>by simp [k1l]
 | n :: ns,acc,z=>by
  rw [k1l,k5t ns]
  constructor
  ·intro z0q; refine Or.elim z0q (fun h=>?_) fun yZ=>?_ <;> clear z0q; rotate_left; (refine cX1 yZ fun m yA=>cA3 yA fun h1 h2 h3=>?_; clear yZ yA); rotate_right
   ·split at h
    ·exact .inl h
    ·rename_i w
     refine Or.elim (w0g.mp h) (fun h=>?_) fun h=>?_
     ·exact .inl h
     ·rw [w0h] at h; subst h
      simp only [w2b,not_or,w2c] at w
      exact .inr ⟨n,by simp,rfl,w.1⟩
   ·exact .inr ⟨m,by simp [h1],h2,h3⟩
  ·intro z0q; refine Or.elim z0q (fun h=>?_) fun yZ=>?_ <;> clear z0q; rotate_left; (refine cX1 yZ fun m yA=>cA3 yA fun h1 h2 h3=>?_; clear yZ yA); rotate_right
   ·left; split
    ·exact h
    ·simp [h]
   ·refine Or.elim (w0c.mp h1) (fun h1=>?_) fun h1=>?_
    ·subst h1
     left
     split
     ·rename_i w
      rw [h2,h3,w1U,w0N] at w
      exact w
     ·simp [h2]
    ·exact .inr ⟨m,h1,h2,h3⟩
set_option tactic.hygienic true in
theorem k7c {rt:Nm→Nm} {out:Nm→Bool}:∀ (ns acc:List Nm),acc.Nodup→(k1l rt out ns acc).Nodup
 | [],acc,h=>h
 | n :: ns,acc,h=>by
  rw [k1l]
  refine k7c ns _ ?_
  split
  ·exact h
  ·rename_i w
   simp only [w2b,not_or,w2c] at w
   rw [w0w]
   refine ⟨h,by simp,fun x hx y hy=>?_⟩
   simp at hy; subst hy; rintro rfl
   have:=w0N.mpr hx
   rw [w.2] at this; exact kFT this
theorem z3b:∀ (l:List Int),l≠[]→z2g (·∈l) (z0H l)
 | [],h=>absurd rfl h
 | [a],_=>⟨by simp [z0H],fun v hv=>by simp at hv; subst hv; simp [z0H]⟩
 | a :: b :: l,_=>by
  have ih:=z3b (b :: l) (by simp)
  have e:z0H (a :: b :: l) = min a (z0H (b :: l)):=rfl
  rw [e]
  refine ⟨?_,fun v hv=>?_⟩
  ·by_cases h:a≤z0H (b :: l)
   ·rw [Int.min_eq_left h]; exact .head _
   ·rw [Int.min_eq_right (by lia)]; exact .tail _ ih.at'
  ·refine Or.elim (w0c.mp hv) (fun hv=>?_) fun hv=>?_
   ·subst hv; exact Int.min_le_left _ _
   ·exact Int.le_trans (Int.min_le_right _ _) (ih.le v hv)
theorem z1k:∀ (l:List Int),l≠[]→k3j (·∈l) (k9Z l)
 | [],h=>absurd rfl h
 | [a],_=>⟨by simp [k9Z],fun v hv=>by simp at hv; subst hv; simp [k9Z]⟩
 | a :: b :: l,_=>by
  have ih:=z1k (b :: l) (by simp)
  have e:k9Z (a :: b :: l) = max a (k9Z (b :: l)):=rfl
  rw [e]
  refine ⟨?_,fun v hv=>?_⟩
  ·by_cases h:k9Z (b :: l)≤a
   ·rw [Int.max_eq_left h]; exact .head _
   ·rw [Int.max_eq_right (by lia)]; exact .tail _ ih.at'
  ·refine Or.elim (w0c.mp hv) (fun hv=>?_) fun hv=>?_
   ·subst hv; exact Int.le_max_left _ _
   ·exact Int.le_trans (ih.le v hv) (Int.le_max_right _ _)
theorem k6y {th:Nm→Th} (ok:∀ n,(th n).Ok) {rt:Nm→Nm} {ds:Nm→Int} {ord:List Nm} {n:Nm} (hn:n∈ord) :
  z2Y rt ds ord (rt n)≤ds n∧ds n + (th n).size≤z1i th rt ds ord (rt n)∧0≤k8k th rt ds ord (rt n):=by
 have hm:(n,ds n)∈k0N rt ds ord (rt n):=k1E.mpr ⟨hn,rfl,rfl⟩
 have h1:=(z3b ((k0N rt ds ord (rt n)).map (·.2)) (by intro e; simp at e; rw [e] at hm; simp at hm)).le (ds n) (w0b.mpr ⟨_,hm,rfl⟩)
 have h2:=(z1k ((k0N rt ds ord (rt n)).map fun q=>q.2 + (th q.1).size) (by intro e; simp at e; rw [e] at hm; simp at hm)).le (ds n + (th n).size) (w0b.mpr ⟨_,hm,rfl⟩)
 have h3:=(ok n).size_pos
 refine ⟨h1,h2,?_⟩
 unfold k8k z1i z2Y
 lia
end T
namespace T
noncomputable def k6z (u:Un) (nm:Nm) (rt:Nm→Nm) (ds:Nm→Int) (rf:Rf) (B:Bk) (G:Gs) (P:Pl):Prop :=
 ∀ n,n∈names→(∀ bk bg,k0Q rf (rt n) = some (bk,bg)→∃ s lo z,k0Q B bk = some (s,lo,z)∧k0Q P (nm,n) = some (u.th n,lo + ds n - bg)) ∧
  (k0Q rf (rt n) = none→∃ lo,(RK.cls nm (rt n),k5X u.th rt ds u.ord (rt n),lo,lo + k8k u.th rt ds u.ord (rt n))∈G∧k0Q P (nm,n) = some (u.th n,lo - z2Y rt ds u.ord (rt n) + ds n))
theorem k9q (th:Nm→Th) (rt:Nm→Nm) (ds:Nm→Int) (ord:List Nm) (s:Bool) (rs:List Nm) (r:Nm):k6c th rt ds ord s (rs ++ [r]) = k6c th rt ds ord s rs + if k5X th rt ds ord r = s then k8k th rt ds ord r else 0:=by
 unfold k6c
 rw [w0j,w0Y]; simp
theorem z3c (th:Nm→Th) (rt:Nm→Nm) (ds:Nm→Int) (ord:List Nm) (s:Bool) (rs qs:List Nm):k6c th rt ds ord s (rs ++ qs) = k6c th rt ds ord s rs + k6c th rt ds ord s qs:=by
 unfold k6c
 rw [w0j,w0Y]
theorem k6A {th:Nm→Th} (ok:∀ n,(th n).Ok) {rt:Nm→Nm} {ds:Nm→Int} {ord:List Nm} {s:Bool}:∀ (rs:List Nm),(∀ r,r∈rs→∃ n,n∈ord∧rt n = r)→0≤k6c th rt ds ord s rs
 | [],_=>by simp [k6c]
 | r :: rs,h=>by
  have ih:=k6A ok (ds:=ds) (s:=s) rs fun r hr=>h r (.tail _ hr)
  have e:k6c th rt ds ord s (r :: rs) = (if k5X th rt ds ord r = s then k8k th rt ds ord r else 0) + k6c th rt ds ord s rs:=by unfold k6c; rw [w0f,w0Q]
  refine cX1 (h r (.head _)) fun n yA=>cA2 yA fun hn yB=>?_; clear yA; subst yB
  have:=(k6y (ds:=ds) ok hn (rt:=rt)).2.2
  rw [e]
  split <;> lia
set_option tactic.hygienic true in
theorem z4H {h:Hp} {m d p bl c:Nat} {N C:Int} {P:Pl} {B:Bk} {cl:List (Nm × Nat)} (M:k1L h m d p bl c N C P B cl)
  {b s dd t c' g k:Nat} {nm:Nm} {u:Un} (ok:u.Ok) (sp:k2m h b s nm dd t c' g k u) (hb:b≤h.length) (hB:k3d [m,d,p,bl,c] b)
  {S:(Nm→Int)→Prop} {es:Ab} {rt:Nm→Nm} {ds:Nm→Int} {a r:Nat} {bs:List Nm} {rf:Rf} (ha:h[a]? = some (.dict (k3K es))) (A:AbR es S rt ds) (hl:es.length < 60)
  (hr:h[r]? = some (.dict (k1F encR rf))) (R:z2f rt ds bs rf) (haM:a∉[m,d,p,bl,c]) (hrM:r∉[m,d,p,bl,c])
  (cov:∀ bk,bk∈bs→∃ s lo z,k0Q B bk = some (s,lo,z)) (hP:P.length≤100) (hcl:cl.length≤100) {G:Gs} (AP:k5K G N C) (hG:∀ x,x∈G→∀ q,x.1≠RK.cls nm q) (most:Int) {Q:Po V}
  (h1:∀ (h':Hp) (N' C':Int) (P':Pl) (G':Gs) (lc:Nat) (cr:List (Bool × Int × Int)),k0M [d,p,c] h h'→k1L h' m d p bl c N' C' P' B (k2c cl nm lc)→h.length≤lc→h'[lc]? = some (.list (cr.map k5I)) →
   N' = N + k6c u.th rt ds u.ord false (k1l rt (fun x=>(k0Q rf x).isSome) u.ord [])→C' = C + k6c u.th rt ds u.ord true (k1l rt (fun x=>(k0Q rf x).isSome) u.ord [])→(N≤most→N'≤most)→(C≤most→C'≤most) →
   k5K (G ++ G') N' C'→(∀ x,x∈G'→∃ q,x.1 = RK.cls nm q)→(∀ k,k.1≠nm→k0Q P' k = k0Q P k)→k6z u nm rt ds rf B G' P'→P'.length≤P.length + 20 →
   (cr.map fun q=>(q.1,q.2.2 - q.2.1)) = ((k1l rt (fun x=>(k0Q rf x).isSome) u.ord []).filter fun r=>k5L rt ds u.ord r u.kept).map (fun r=>(k5X u.th rt ds u.ord r,k8k u.th rt ds u.ord r)) →
   Q (.ok .none) h')
  (h2:∀ h',k0M [d,p,c] h h'→(∃ s,most < (if s then C else N) + k6c u.th rt ds u.ord s (k1l rt (fun x=>(k0Q rf x).isSome) u.ord []))→Q (.error .lay) h') :
  wp (k5h [.loc m,.loc s,.loc a,.loc r,.int most]) Q h:=by
 refine cA10 M.ne fun a1 a2 a3 a4 a5 a6 a7 a8 a9 a10=>?_
 have La:=k0t ha
 have Lr:=k0t hr
 have Ld:=k0t M.hd
 have Lp:=k0t M.hp
 have Lc:=k0t M.hc
 have Lm:=k0t M.hm
 have Lbl:=k0t M.hb
 simp only [w0c,w0i,or_false,not_or] at haM hrM
 refine cA5 haM fun am1 am2 am3 am4 am5=>?_; clear haM
 refine cA5 hrM fun rm1 rm2 rm3 rm4 rm5=>?_; clear hrM
 have B0:k3d [d,p,c] b:=fun i hi=>by
  simp at hi
  (refine Or.elim hi (fun yY=>?_) fun yZ=>?_ <;> clear hi; rotate_left; (refine Or.elim yZ ?_ ?_ <;> clear yZ; rotate_left; (intro yZ; subst yZ); rotate_right; (intro yY; subst yY)); rotate_right; subst yY) <;> exact hB _ (by simp)
 unfold k5h z0k
 rw [k1z]
 refine ⟨rfl,?_⟩
 have M0:=M.keep (k0M.alloc [] h (.list [])) (fun i Y=>by simp)
 have sp0:=sp.keep (k0M.alloc [] h (.list [])) (by simp [k3d])
 have hcl':(k1F V.loc cl).length≤4000:=by rw [k1B]; lia
 simp only [w0f,w0n,List.replicate,w0o,w0r,k0L,k0y,k3U,k0C,k0u,k3H,k1q,k4H,k2v,k0s,rg0,rgS,w0a,k0g,k0r,M0.clears,sp0.name,k6w,M0.hc,k2C,hcl',if_true,k0P,k1r,k0o]
 rw [k3i]
 have M1:=M0.setC (k2c cl nm h.length)
 have K1:k0M [d,p,c] h ((h ++ [O.list []]).set c (.dict (k1F V.loc (k2c cl nm h.length)))):=(k0M.alloc _ _ _).trans (k0M.set (by simp) _ _)
 have glc:((h ++ [O.list []]).set c (.dict (k1F V.loc (k2c cl nm h.length))))[h.length]? = some (.list []):=k0m (k0X _ _) (by lia) _
 have LH:((h ++ [O.list []]).set c (.dict (k1F V.loc (k2c cl nm h.length)))).length = h.length + 1:=by simp
 generalize (h ++ [O.list []]).set c (.dict (k1F V.loc (k2c cl nm h.length))) = H1 at *
 have sp1:=sp.keep K1 B0
 simp only [k0L,k2B,k2d,k2v,k0s,rg0,rgS,w0a,k0g,k0u,k0r,sp1.things,k1S,sp1.un.ht]
 let P1:=fun (pre:List Nm) (P':Pl)=>(∀ k,k.1≠nm→k0Q P' k = k0Q P k) ∧
  (∀ n,n∈pre→∀ bk bg,k0Q rf (rt n) = some (bk,bg)→∃ s lo z,k0Q B bk = some (s,lo,z)∧k0Q P' (nm,n) = some (u.th n,lo + ds n - bg))∧P'.length≤P.length + pre.length
 let I1:=fun (pre:List Nm) (reg:Reg) (h':Hp)=>(∃ g5 g6 g7 g8 g9,reg = [some (.loc m),some (.loc s),some (.loc a),some (.loc r),some (.int most),g5,g6,g7,g8,g9,none])∧k0M [d,p,c] h h' ∧
  H1.length≤h'.length∧h'[h.length]? = some (.list [])∧∃ P',k1L h' m d p bl c N C P' B (k2c cl nm h.length)∧P1 pre P'
 refine k4m u.ord V.str I1 (by have:=ok.ordlen; lia) (fun pre suf reg h' e hI=>?_) ⟨(iX5 rfl),K1,w0l _,glc,P,M1,fun Y Y=>rfl,fun n hn=>by simp at hn,by simp⟩ (fun pre x suf reg h' e hI=>?_) (fun reg h' hI=>?_)
 ·have hs':=(sp.keep hI.2.1 B0).un.ht
  have:=k5a hs' pre.length
  rw [w0k] at this
  exact this
 ·refine cA5 hI fun yA K LL glc' yB=>cX5 yA fun g5 g6 g7 g8 g9 yC=>?_; clear hI yA; subst yC; refine cX1 yB fun P' yD=>cA4 yD fun M' Pa Pb Pc=>?_; clear yB yD
  have hx:x∈u.ord:=by rw [e]; simp
  have hxn:x∈names:=(ok.ord x).mp hx
  have hxp:x∉pre:=fun q=>by
   have:=ok.nd
   rw [e,w0w] at this
   exact this.2.2 x q x (by simp) rfl
  have hpl:pre.length + 1≤4:=by have:=ok.ordlen; rw [e] at this; simp at this; lia
  have ha':=K.get ha (by simp; lia)
  have hr':=K.get hr (by simp; lia)
  have sp':=sp.keep K B0
  rw [k0x,k0u]
  simp only [w0e,w0d,k0L,k0y,k0K,k0D,k0z,k0s,rg0,rgS,w0a,k0g,k0E,k0u,k0r,w0s,w0q,w0y,true_and,k0C,k0O,k0W,
   A.at hl ha',k1q,k1I,k1w,k0x,k2j,k1H,k1r,k0o,z0W,k2a,q_in,hr',k5i,k1h,w1o,k1x,k2w]
  cases e1:k0Q rf (rt x) with
  | none =>
   simp only [w1l,w0p,if_false,k1Q,k0o,k0S]
   refine ⟨(iX5 rfl),K,LL,glc',P',M',Pa,fun n hn bk bg q=>?_,by simp; lia⟩
   refine Or.elim (w0g.mp hn) (fun hn=>?_) fun hn=>?_
   ·exact Pb n hn bk bg q
   ·rw [w0h] at hn; subst hn; rw [e1] at q; exact kNS q
  | some q =>
   obtain ⟨bk,bg⟩:=q
   refine cA3 ((R.get _ _ _).mp e1) fun q1 q2 q3=>?_
   refine cX3 (cov bk q1) fun sb lo z hbk=>?_
   simp only [w1k,if_true,k0L,k0y,k1i,k0s,rg0,rgS,w0a,k0g,k0u,k0r,k1R,hr',k1j,k1h,e1,w0x,encR,k1q,k1I,w0s,w0q,w0y,true_and,k1w,k0x,k2j,k1H,w0e,w0d,k1r,k0o,
    k3P,k0K,k0D,k0z,k0E,k2v,M'.blocks,M'.hb,hbk,encK,k4k,k3c,Int.toNat_one,k4o,z1X,k0C,k0O,k0W]
   refine ⟨by decide,?_⟩
   rw [k9p M' ok sp' hxn (by lia)]
   rw [k0O,k0o,k1Q,k0o,k1Q,k0S]
   refine ⟨(iX5 rfl),K.trans (k0M.set (by simp) _ _),by simp; lia,k0m glc' (by lia) _,_,M'.setP _,fun k hk=>?_,fun n hn bk' bg' q=>?_,?_⟩
   ·rw [k2o,if_neg (by rintro rfl; exact hk rfl)]; exact Pa k hk
   ·rw [k2o]
    refine Or.elim (w0g.mp hn) (fun hn=>?_) fun hn=>?_
    ·rw [if_neg (by intro w; refine k2X w fun yA yB=>?_; clear w; cases yA; subst yB; exact hxp hn)]
     exact Pb n hn bk' bg' q
    ·rw [w0h] at hn; subst hn
     rw [e1] at q; refine k1f q fun yA=>?_; clear q; refine k2X yA fun yB yC=>?_; clear yA; subst yB; subst yC
     exact ⟨sb,lo,z,hbk,by rw [if_pos rfl]⟩
   ·have:=k2y P' (nm,x) (u.th x,lo + ds x - bg); simp; lia
 refine cA5 hI fun yA K2 LL glc2 yB=>cX5 yA fun g5 g6 g7 g8 g9 yC=>?_; clear hI yA; subst yC; refine cX1 yB fun P2 yD=>cA4 yD fun M2 Pa Pb Pc=>?_; clear yB yD
 have ha2:=K2.get ha (by simp; lia)
 have hr2:=K2.get hr (by simp; lia)
 have sp2:=sp.keep K2 B0
 rw [ok.ordlen] at Pc
 simp only [k0o,k0L,k0y,k0K,k0D,k0z,k0s,rg0,rgS,w0a,k0g,k0E,k0u,k0r,k0C,k0O,k0W]
 refine z2j ok sp2 (by have:=K2.len; lia) ha2 A hl hr2 (fun H3 f fd Kf Lf gf F=>?_)
 have K3:k0M [d,p,c] h H3:=K2.trans (Kf.mono fun i hi=>by simp at hi)
 have M3:=M2.keep Kf (fun i Y=>by simp)
 have sp3:=sp.keep K3 B0
 have glc3:=Kf.get glc2 (by simp)
 have L2:=K2.len
 have L3:=Kf.len
 simp only [k1q,k0x,w0e,w0d,k1r,k0o,k0L,k2B,k2d,k0s,rg0,rgS,w0a,k0g,k0u,k1S,gf]
 rw [k1B]
 generalize hroots:k1l rt (fun x=>(k0Q rf x).isSome) u.ord [] = roots at *
 have keysE:fd.map (·.1) = roots:=by rw [← hroots]; exact F.keys
 have rootIn:∀ q,q∈roots→(∃ n,n∈u.ord∧rt n = q)∧(k0Q rf q).isSome = false:=fun q hq=>by
  rw [← hroots,k5t] at hq
  refine Or.elim hq ?_ ?_ <;> clear hq; rotate_left; (intro yZ; refine cX1 yZ fun n yA=>cA3 yA fun q1 q2 q3=>?_; clear yZ yA); rotate_right; intro hq
  ·simp at hq
  ·exact ⟨⟨n,q1,q2⟩,q3⟩
 have ndr:roots.Nodup:=by rw [← hroots]; exact k7c _ _ w0L
 have fdl:fd.length≤4:=by
  have h1:fd.length = roots.length:=by rw [← keysE]; simp
  have h2:∀ (ns acc:List Nm),(k1l rt (fun x=>(k0Q rf x).isSome) ns acc).length≤acc.length + ns.length:=by
   intro ns
   induction ns with
   | nil=>intro acc; simp [k1l]
   | cons n ns ih =>
    intro acc
    rw [k1l]
    have:=ih (if (k0Q rf (rt n)).isSome || acc.contains (rt n) then acc else acc ++ [rt n])
    split at this <;> rename_i w <;> simp only [w,if_true,if_false] <;> simp at this ⊢ <;> lia
  have:=h2 u.ord []
  rw [hroots,ok.ordlen] at this
  simp at this; lia
 let N':=fun pre=>N + k6c u.th rt ds u.ord false pre
 let C':=fun pre=>C + k6c u.th rt ds u.ord true pre
 let I2:=fun (pre:List Nm) (reg:Reg) (h':Hp)=>(∃ g5 g6 g7 g8 g9,reg = [some (.loc m),some (.loc s),some (.loc a),some (.loc r),some (.int most),g5,g6,g7,g8,g9,some (.loc f)])∧k0M [d,p,c] h h'∧k0M [d,p,h.length] H3 h' ∧
  ∃ (P':Pl) (G':Gs) (cr:List (Bool × Int × Int)),k1L h' m d p bl c (N' pre) (C' pre) P' B (k2c cl nm h.length)∧h'[h.length]? = some (.list (cr.map k5I))∧k5K (G ++ G') (N' pre) (C' pre)∧(∀ x,x∈G'→∃ q,q∈pre∧x.1 = RK.cls nm q) ∧
   (N≤most→N' pre≤most)∧(C≤most→C' pre≤most)∧(∀ k,k.1≠nm→k0Q P' k = k0Q P k)∧(∀ n,rt n∉pre→k0Q P' (nm,n) = k0Q P2 (nm,n)) ∧
   (∀ n,n∈u.ord→rt n∈pre→∃ lo,(RK.cls nm (rt n),k5X u.th rt ds u.ord (rt n),lo,lo + k8k u.th rt ds u.ord (rt n))∈G'∧k0Q P' (nm,n) = some (u.th n,lo - z2Y rt ds u.ord (rt n) + ds n)) ∧
   P'.length≤P2.length + 4 * pre.length∧cr.length≤pre.length∧(cr.map fun q=>(q.1,q.2.2 - q.2.1)) = (pre.filter fun r=>k5L rt ds u.ord r u.kept).map (fun r=>(k5X u.th rt ds u.ord r,k8k u.th rt ds u.ord r))
 have e0:∀ s,k6c u.th rt ds u.ord s [] = 0:=fun s=>by simp [k6c]
 refine k4m roots V.str I2 (by rw [← keysE]; simp; lia) (fun pre suf reg h' e hI=>?_) ⟨(iX5 rfl),K3,k0M.refl _ _,P2,[],[],?_,?_,?_,?_,?_,?_,Pa,fun Y Y=>rfl,fun n Y hn=>by simp at hn,by simp,by simp,by simp⟩ (fun pre x suf reg h' e hI=>?_) (fun reg h' hI=>?_)
 ·have hf':=hI.2.2.1.get gf (by simp; (clear hI; lia))
  rw [← keysE,← k9m V.loc,← k1B V.loc fd]
  exact k5a hf' _
 ·show k1L H3 m d p bl c (N + k6c u.th rt ds u.ord false []) (C + k6c u.th rt ds u.ord true []) P2 B (k2c cl nm h.length)
  rw [e0,e0,Int.add_zero,Int.add_zero]; exact M3
 ·simpa using glc3
 ·show k5K (G ++ []) (N + k6c u.th rt ds u.ord false []) (C + k6c u.th rt ds u.ord true [])
  rw [e0,e0,Int.add_zero,Int.add_zero,w0M]; exact AP
 ·intro x hx; simp at hx
 ·show N≤most→N + k6c u.th rt ds u.ord false []≤most
  rw [e0,Int.add_zero]; exact id
 ·show C≤most→C + k6c u.th rt ds u.ord true []≤most
  rw [e0,Int.add_zero]; exact id
 ·refine cA4 hI fun yA K KH yB=>cX5 yA fun g5 g6 g7 g8 g9 yC=>?_; clear hI yA; subst yC; refine cX3 yB fun P' G' cr yD=>cA12 yD fun M' glc' AP' hG' hN hC Pd Pe Pf Pg crl Pi=>?_; clear yB yD
  have hx:x∈roots:=by rw [e]; simp
  have hxp:x∉pre:=fun q=>by
   rw [e,w0w] at ndr
   exact ndr.2.2 x q x (by simp) rfl
  refine cA2 (rootIn x hx) fun yA hout=>cX1 yA fun n₀ yB=>cA2 yB fun hn₀ hrt₀=>?_; clear yA yB
  have sp':=sp.keep K B0
  have hf':=KH.get gf (by simp; lia)
  refine cX1 (w0K.mp (k1T.mpr (show x∈fd.map (·.1) by rw [keysE]; exact hx))) fun l hfl=>?_
  refine cA2 (F.mem _ _ (k4O hfl)) fun Ll gl=>?_
  have gl':=KH.get gl (by simp; lia)
  obtain ⟨q0,mr,hms⟩:∃ q0 mr,k0N rt ds u.ord x = q0 :: mr:=by
   cases w:k0N rt ds u.ord x with
   | nil =>
    have:(n₀,ds n₀)∈k0N rt ds u.ord x:=k1E.mpr ⟨hn₀,hrt₀,rfl⟩
    rw [w] at this; simp at this
   | cons q l=>exact ⟨q,l,rfl⟩
  obtain ⟨n0,d0⟩:=q0
  have hmlen:(k0N rt ds u.ord x).length≤4:=by
   unfold k0N; rw [w0u]
   have:=w1f (fun n=>decide (rt n = x)) u.ord
   rw [ok.ordlen] at this; exact this
  have hpl:pre.length + 1≤4:=by
   have:roots.length≤4:=by rw [← keysE]; simp; lia
   rw [e] at this; simp at this; lia
  have prefE:∀ s,k6c u.th rt ds u.ord s roots = k6c u.th rt ds u.ord s (pre ++ [x]) + k6c u.th rt ds u.ord s suf:=fun s=>by rw [e,w2a,z3c]
  have sufN:∀ s,0≤k6c u.th rt ds u.ord s suf:=fun s=>k6A ok.th suf fun q hq=>(rootIn q (by rw [e]; simp [hq])).1
  have eSrt:k5X u.th rt ds u.ord x = (u.th n0).txt:=by unfold k5X; rw [hms]
  have eExt:k8k u.th rt ds u.ord x = z1i u.th rt ds u.ord x - z2Y rt ds u.ord x:=rfl
  have extN:0≤k8k u.th rt ds u.ord x:=by rw [← hrt₀]; exact (k6y ok.th hn₀).2.2
  rw [k0x,k0u]
  simp only [w0e,w0d,k0L,k3P,k0K,k0D,k0z,k1i,k0s,rg0,rgS,w0a,k0g,k0E,k0u,k0r,k1R,hf',k1j,k1h,hfl,w0x,k0C,k0O,k0W]
  rw [hms] at gl'
  refine z2X M' ok sp' (by have:=K.len; lia) hB gl' (fun q hq=>?_) (by rw [hms] at hmlen; simp at hmlen; lia) (by lia) (by lia) (lc:=h.length) (by rw [k2o,if_pos rfl]) glc' (by lia)
   (by simp; lia) hb (by lia) most (z2Y rt ds u.ord x) (z1i u.th rt ds u.ord x) (k5X u.th rt ds u.ord x) (by unfold z2Y; rw [hms]) (by unfold z1i; rw [hms]) eSrt (fun h'' K'' hfit M'' gcr=>?_) (fun h'' K'' hbad=>?_)
  ·rw [← hms] at hq
   exact (ok.ord q.1).mp (k1E.mp hq).1
  ·rw [k0O,k0o,k1Q,k0S]
   rw [← eExt] at hfit M''
   have stepN:(if k5X u.th rt ds u.ord x then N' pre else N' pre + k8k u.th rt ds u.ord x) = N' (pre ++ [x]):=by
    show _ = N + k6c u.th rt ds u.ord false (pre ++ [x])
    rw [k9q,← Int.add_assoc]
    cases k5X u.th rt ds u.ord x <;> simp [N']
   have stepC:(if k5X u.th rt ds u.ord x then C' pre + k8k u.th rt ds u.ord x else C' pre) = C' (pre ++ [x]):=by
    show _ = C + k6c u.th rt ds u.ord true (pre ++ [x])
    rw [k9q,← Int.add_assoc]
    cases k5X u.th rt ds u.ord x <;> simp [C']
   have hnew:RK.cls nm x∉(G ++ G').map (·.1):=by
    intro q
    refine cX1 (w0b.mp q) fun y yA=>cA2 yA fun hy ey=>?_; clear yA
    refine Or.elim (w0g.mp hy) (fun hy=>?_) fun hy=>?_
    ·exact hG y hy x ey
    ·refine cX1 (hG' y hy) fun q' yA=>cA2 yA fun hq' eq'=>?_; clear yA
     rw [eq'] at ey
     cases ey
     exact hxp hq'
   have AP'':=AP'.push hnew (k5X u.th rt ds u.ord x) extN
   rw [stepN,stepC,w0Z] at AP''
   rw [stepN,stepC] at M''
   have ndm:=z1j (ds:=ds) (rt:=rt) ok.nd x
   rw [hms] at ndm
   have dP:=z2Z nm u.th ((if k5X u.th rt ds u.ord x then C' pre else N' pre) - z2Y rt ds u.ord x) ((n0,d0) :: mr) P' ndm
   refine ⟨(iX5 rfl),(K.mono (S':=[d,p,c]) fun i hi=>.inl hi).trans' K'' (fun i hi=>?_),KH.trans K'',_,G' ++ [(RK.cls nm x,k5X u.th rt ds u.ord x,(if k5X u.th rt ds u.ord x then C' pre else N' pre),(if k5X u.th rt ds u.ord x then C' pre else N' pre) + k8k u.th rt ds u.ord x)],_,M'',gcr,AP'',fun y hy=>?_,?_,?_,fun k hk=>?_,fun n hn=>?_,fun n hn hrn=>?_,?_,?_,?_⟩
   ·simp at hi
    refine Or.elim hi (fun yY=>?_) fun yZ=>?_ <;> clear hi; rotate_left; (refine Or.elim yZ ?_ ?_ <;> clear yZ; rotate_left; (intro yZ; subst yZ); rotate_right; (intro yY; subst yY)); rotate_right; subst yY
    ·exact .inl (by simp)
    ·exact .inl (by simp)
    ·exact .inr (w0l _)
   ·refine Or.elim (w0g.mp hy) (fun hy=>?_) fun hy=>?_
    ·refine cX1 (hG' y hy) fun q yA=>cA2 yA fun w1 w2=>?_; clear yA
     exact ⟨q,by simp [w1],w2⟩
    ·rw [w0h] at hy; subst hy
     exact ⟨x,by simp,rfl⟩
   ·intro w
    rw [← stepN]
    cases z:k5X u.th rt ds u.ord x with
    | true=>exact hN w
    | false =>
     rw [z] at hfit
     simp only [w0p,if_false] at hfit ⊢
     lia
   ·intro w
    rw [← stepC]
    cases z:k5X u.th rt ds u.ord x with
    | false=>exact hC w
    | true =>
     rw [z] at hfit
     simp only [if_true] at hfit ⊢
     lia
   ·rw [dP,if_neg (fun q=>hk q.1)]; exact Pd k hk
   ·have:¬ ((nm,n).1 = nm∧(nm,n).2∈((n0,d0) :: mr).map (·.1)):=by
     intro z0q; refine cA2 z0q fun _ q=>?_; clear z0q
     rw [← hms] at q
     refine cX1 (w0b.mp q) fun y yA=>cA2 yA fun hy ey=>?_; clear yA
     have:=(k1E.mp hy).2.1
     have ey':y.1 = n:=ey
     rw [ey'] at this
     exact hn (by simp [this])
    rw [dP,if_neg this]
    exact Pe n fun q=>hn (by simp [q])
   ·rw [dP]
    by_cases w:rt n = x
    ·have:(nm,n).1 = nm∧(nm,n).2∈((n0,d0) :: mr).map (·.1):=by
      refine ⟨rfl,?_⟩
      rw [← hms]
      exact w0b.mpr ⟨(n,ds n),k1E.mpr ⟨hn,w,rfl⟩,rfl⟩
     rw [if_pos this,← hms,z3a]
     dsimp only
     rw [if_pos (show n∈u.ord∧rt n = x from ⟨hn,w⟩),w]
     exact ⟨_,w1p _ (w0h.mpr rfl),rfl⟩
    ·have:¬ ((nm,n).1 = nm∧(nm,n).2∈((n0,d0) :: mr).map (·.1)):=by
      intro z0q; refine cA2 z0q fun _ q=>?_; clear z0q
      rw [← hms] at q
      refine cX1 (w0b.mp q) fun y yA=>cA2 yA fun hy ey=>?_; clear yA
      have:=(k1E.mp hy).2.1
      have ey':y.1 = n:=ey
      rw [ey'] at this
      exact w this
     rw [if_neg this]
     have hrn':rt n∈pre:=by
      refine Or.elim (w0g.mp hrn) (fun q=>?_) fun q=>?_
      ·exact q
      ·rw [w0h] at q; exact absurd q w
     refine cX1 (Pf n hn hrn') fun lo yA=>cA2 yA fun w1 w2=>?_; clear yA
     exact ⟨lo,w0R _ w1,w2⟩
   ·have:=z0r nm u.th ((if k5X u.th rt ds u.ord x then C' pre else N' pre) - z2Y rt ds u.ord x) ((n0,d0) :: mr) P'
    rw [← hms] at this ⊢
    simp only [w0t,w0B]
    lia
   ·split <;> simp <;> lia
   ·rw [w0V,w0j,← Pi]
    have hfree:k5L rt ds u.ord x u.kept = (((n0,d0) :: mr).filter (fun q=>u.kept.contains q.1)).isEmpty:=by unfold k5L; rw [hms]
    by_cases w:((n0,d0) :: mr).filter (fun q=>u.kept.contains q.1) = []
    ·have w':k5L rt ds u.ord x u.kept = true:=by rw [hfree,w]; rfl
     rw [if_pos w,w0j]
     simp only [w1w,w',if_true,w2s,w0f,w0n]
     congr 3
     rw [eExt]; lia
    ·have w':¬ k5L rt ds u.ord x u.kept = true:=by rw [hfree]; intro z; exact w (w2t.mp z)
     rw [if_neg w]
     simp only [w1w,w',if_false,w2s,w0n,w0M,w0p]
  ·simp only [k6d,k2l,k2p,k3G]
   rw [← eExt] at hbad
   refine h2 h'' ((K.mono (S':=[d,p,c]) fun i hi=>.inl hi).trans' K'' (fun i hi=>?_)) ⟨k5X u.th rt ds u.ord x,?_⟩
   ·simp at hi
    refine Or.elim hi (fun yY=>?_) fun yZ=>?_ <;> clear hi; rotate_left; (refine Or.elim yZ ?_ ?_ <;> clear yZ; rotate_left; (intro yZ; subst yZ); rotate_right; (intro yY; subst yY)); rotate_right; subst yY
    ·exact .inl (by simp)
    ·exact .inl (by simp)
    ·exact .inr (w0l _)
   ·rw [prefE,k9q,if_pos rfl]
    have:=sufN (k5X u.th rt ds u.ord x)
    cases w:k5X u.th rt ds u.ord x <;> rw [w] at this hbad <;> simp [N',C'] at hbad this ⊢ <;> lia
 ·refine cA4 hI fun yA K KH yB=>cX5 yA fun g5 g6 g7 g8 g9 yC=>?_; clear hI yA; subst yC; refine cX3 yB fun P' G' cr yD=>cA12 yD fun M' glc' AP' hG' hN hC Pd Pe Pf Pg crl Pi=>?_; clear yB yD
  rw [k0o,k1Q,k4N]
  refine h1 h' (N' roots) (C' roots) P' G' h.length cr K M' (w0l _) glc' rfl rfl hN hC AP' (fun x hx=>?_) Pd (fun n hn=>⟨fun bk bg q=>?_,fun q=>?_⟩) ?_ Pi
  ·refine cX1 (hG' x hx) fun q yA=>cA2 yA fun _ w=>?_; clear yA; exact ⟨q,w⟩
  ·have hno:n∈u.ord:=(ok.ord n).mpr hn
   rw [Pe n fun w=>by
    have:=(rootIn _ w).2
    rw [q] at this; cases this]
   exact Pb n hno bk bg q
  ·have hno:n∈u.ord:=(ok.ord n).mpr hn
   exact Pf n hno (by rw [← hroots,k5t]; exact .inr ⟨n,hno,rfl,by rw [q]; rfl⟩)
  ·have:roots.length≤4:=by rw [← keysE]; simp; lia
   lia
end T
namespace T
noncomputable def Sat (u:Un) (φ:Nm→Int):Prop:=k4Q u.th u.pairs φ∧∀ g,g∈u.grp→z3M u.th g.items φ
structure k3M where
 th:Nm→Th
 S:(Nm→Int)→Prop
 blk:Nm→Bool→Prop
 kept:Nm→Prop
 ok:Prop
noncomputable def Un.core (u:Un):k3M where
 th:=u.th
 S:=Sat u
 blk:=fun b s=>∃ n,(b,n)∈u.pairs∧s = (u.th n).txt
 kept:=fun n=>n∈u.kept
 ok:=k7w u.th u.pairs∧∀ g,g∈u.grp→k9S u.th g.items
namespace k3M
variable (c:k3M)
noncomputable def F (x y:Nm) (d:Int):Prop:=∀ φ,c.S φ→φ y = φ x + d
noncomputable def T (x y:Nm):Prop:=∃ d,c.F x y d
noncomputable def BEnd (b:Nm) (v:Int):Prop:=∃ n,n∈names∧∃ d,c.F (47 :: b) n d∧v = d + (c.th n).size
noncomputable def BSz (b:Nm) (m:Int):Prop:=(∃ s,c.blk b s)∧k3j (c.BEnd b) m
structure Good:Prop where
 ok:c.ok
 ex:∃ φ,c.S φ
 two:∀ b b' s s' d,c.blk b s→c.blk b' s'→c.F (47 :: b) (47 :: b') d→b = b'
 ahead:∀ b s n d,c.blk b s→n∈names→c.F (47 :: b) n d→0≤d
noncomputable def Ext (n:Nm) (e:Int):Prop:=∃ hi lo,k3j (fun v=>∃ m,m∈names∧∃ d,c.F n m d∧v = d + (c.th m).size) hi∧z2g (fun v=>∃ m,m∈names∧c.F n m v) lo∧e = hi - lo
noncomputable def InBlk (n:Nm):Prop:=∃ b s d,c.blk b s∧c.F (47 :: b) n d
noncomputable def KeptCls (n:Nm):Prop:=∃ m,m∈names∧c.kept m∧c.T n m
open Classical in
noncomputable def ext (n:Nm):Int:=if h:∃ e,c.Ext n e then Classical.choose h else 0
open Classical in
noncomputable def lead (T:Nm→Nm→Prop) (f:Nm→Int):List Nm→List Nm→Int
 | [],_=>0
 | n :: r,seen=>(if ∃ m,m∈seen∧T m n then 0 else f n) + lead T f r (n :: seen)
open Classical in
noncomputable def sum (s:Bool):Int:=lead c.T (fun n=>if c.InBlk n then 0 else if (c.th n).txt = s then c.ext n else 0) names []
open Classical in
noncomputable def lost (s:Bool):Int:=lead c.T (fun n=>if c.InBlk n∨c.KeptCls n then 0 else if (c.th n).txt = s then c.ext n else 0) names []
end k3M
noncomputable def z1l (cs:List k3M) (b:Nm) (s:Bool) (m:Int):Prop:=(∃ c,c∈cs∧c.blk b s)∧k3j (fun v=>∃ c,c∈cs∧c.BSz b v) m
structure z2k (cs:List k3M):Prop where
 sort:∀ c,c∈cs→∀ c',c'∈cs→∀ b s s',c.blk b s→c'.blk b s'→s = s'
 size:∀ c,c∈cs→∀ c',c'∈cs→∀ b m m',b≠[]→c.BSz b m→c'.BSz b m'→m = m'
open Classical in
noncomputable def z5S (cs:List k3M) (b:Nm) (s:Bool):Int:=if h:∃ m,z1l cs b s m then Classical.choose h else 0
noncomputable def Tot (cs:List k3M) (s:Bool):Int:=(z5S cs [88] s + z5S cs [] s) + (cs.map fun c=>c.sum s).sum
structure Fits (cs:List k3M) (room:Int):Prop where
 good:∀ c,c∈cs→c.Good
 compat:z2k cs
 room:∀ s,Tot cs s≤room
theorem z1l.uniq {cs:List k3M} {b:Nm} {s s':Bool} {m m':Int} (x:z1l cs b s m) (y:z1l cs b s' m'):m = m':=x.2.uniq y.2
theorem z3d {cs:List k3M} {b:Nm} {s:Bool} {m:Int} (x:z1l cs b s m):z5S cs b s = m:=by
 unfold z5S
 have h:∃ m,z1l cs b s m:=⟨m,x⟩
 rw [dif_pos h]
 exact (Classical.choose_spec h).uniq x
theorem k7d {cs:List k3M} {b:Nm} {s:Bool} (x:∀ m,¬ z1l cs b s m):z5S cs b s = 0:=by
 unfold z5S
 rw [dif_neg]
 intro z0q; refine cX1 z0q fun m h=>?_; clear z0q
 exact x m h
theorem k3M.Ext.uniq {c:k3M} {n:Nm} {e e':Int} (x:c.Ext n e) (y:c.Ext n e'):e = e':=by
 refine cX2 x fun hi lo yA=>cA3 yA fun h1 h2 h3=>?_; clear x yA
 refine cX2 y fun hi' lo' yA=>cA3 yA fun h4 h5 h6=>?_; clear y yA
 rw [h3,h6,h1.uniq h4,h2.uniq h5]
theorem k3M.ext_eq {c:k3M} {n:Nm} {e:Int} (x:c.Ext n e):c.ext n = e:=by
 unfold k3M.ext
 have h:∃ e,c.Ext n e:=⟨e,x⟩
 rw [dif_pos h]
 exact (Classical.choose_spec h).uniq x
section
variable {T:Nm→Nm→Prop} {f:Nm→Int}
theorem z2l:∀ (l:List Nm) (s s':List Nm),(∀ x,x∈s↔x∈s')→k3M.lead T f l s = k3M.lead T f l s'
 | [],_,_,_=>rfl
 | n :: l,s,s',h=>by
  have e:(∃ m,m∈s∧T m n)↔∃ m,m∈s'∧T m n:=by
   constructor
   ·intro z0q; refine cX1 z0q fun m yA=>cA2 yA fun h1 h2=>?_; clear z0q yA; exact ⟨m,(h m).mp h1,h2⟩
   ·intro z0q; refine cX1 z0q fun m yA=>cA2 yA fun h1 h2=>?_; clear z0q yA; exact ⟨m,(h m).mpr h1,h2⟩
  rw [k3M.lead,k3M.lead,z2l l (n :: s) (n :: s') (fun x=>by simp [h x])]
  congr 1
  by_cases q:∃ m,m∈s∧T m n
  ·rw [if_pos q,if_pos (e.mp q)]
  ·rw [if_neg q,if_neg fun z=>q (e.mpr z)]
theorem z5T (sym:∀ x y,T x y→T y x) (tr:∀ x y z,T x y→T y z→T x z) (hf:∀ x y,T x y→f x = f y) {l l':List Nm} (p:l.Perm l'):∀ s,k3M.lead T f l s = k3M.lead T f l' s:=by
 induction p with
 | nil=>intro s; rfl
 | cons x _ ih=>intro s; rw [k3M.lead,k3M.lead,ih]
 | trans _ _ h1 h2=>intro s; rw [h1,h2]
 | swap x y l =>
  intro s
  rw [k3M.lead,k3M.lead,k3M.lead,k3M.lead,z2l l (x :: y :: s) (y :: x :: s) (fun z=>by simp [or_left_comm])]
  rw [← Int.add_assoc,← Int.add_assoc]
  congr 1
  by_cases hxs:∃ m,m∈s∧T m x <;> by_cases hys:∃ m,m∈s∧T m y
  ·have h1:∃ m,m∈y :: s∧T m x:=by refine cX1 hxs fun m yA=>cA2 yA fun h1 h2=>?_; clear hxs yA; exact ⟨m,.tail _ h1,h2⟩
   have h2:∃ m,m∈x :: s∧T m y:=by refine cX1 hys fun m yA=>cA2 yA fun h1 h2=>?_; clear hys yA; exact ⟨m,.tail _ h1,h2⟩
   rw [if_pos hxs,if_pos hys,if_pos h1,if_pos h2]
  ·have h1:∃ m,m∈y :: s∧T m x:=by refine cX1 hxs fun m yA=>cA2 yA fun h1 h2=>?_; clear hxs yA; exact ⟨m,.tail _ h1,h2⟩
   have h2:¬ ∃ m,m∈x :: s∧T m y:=by
    intro z0q; refine cX1 z0q fun m yA=>cA2 yA fun q1 q2=>?_; clear z0q yA
    refine cX1 hxs fun k yA=>cA2 yA fun w1 w2=>?_; clear hxs yA
    refine Or.elim (w0c.mp q1) (fun q1=>?_) fun q1=>?_
    ·subst q1; exact hys ⟨k,w1,tr _ _ _ w2 q2⟩
    ·exact hys ⟨m,q1,q2⟩
   rw [if_pos hxs,if_neg hys,if_pos h1,if_neg h2]; lia
  ·have h1:∃ m,m∈x :: s∧T m y:=by refine cX1 hys fun m yA=>cA2 yA fun h1 h2=>?_; clear hys yA; exact ⟨m,.tail _ h1,h2⟩
   have h2:¬ ∃ m,m∈y :: s∧T m x:=by
    intro z0q; refine cX1 z0q fun m yA=>cA2 yA fun q1 q2=>?_; clear z0q yA
    refine cX1 hys fun k yA=>cA2 yA fun w1 w2=>?_; clear hys yA
    refine Or.elim (w0c.mp q1) (fun q1=>?_) fun q1=>?_
    ·subst q1; exact hxs ⟨k,w1,tr _ _ _ w2 q2⟩
    ·exact hxs ⟨m,q1,q2⟩
   rw [if_neg hxs,if_pos hys,if_neg h2,if_pos h1]; lia
  ·by_cases q:T x y
   ·have h1:∃ m,m∈x :: s∧T m y:=⟨x,by simp,q⟩
    have h2:∃ m,m∈y :: s∧T m x:=⟨y,by simp,sym _ _ q⟩
    rw [if_neg hxs,if_neg hys,if_pos h1,if_pos h2,hf _ _ q]
   ·have h1:¬ ∃ m,m∈x :: s∧T m y:=by
     intro z0q; refine cX1 z0q fun m yA=>cA2 yA fun q1 q2=>?_; clear z0q yA
     refine Or.elim (w0c.mp q1) (fun q1=>?_) fun q1=>?_
     ·subst q1; exact q q2
     ·exact hys ⟨m,q1,q2⟩
    have h2:¬ ∃ m,m∈y :: s∧T m x:=by
     intro z0q; refine cX1 z0q fun m yA=>cA2 yA fun q1 q2=>?_; clear z0q yA
     refine Or.elim (w0c.mp q1) (fun q1=>?_) fun q1=>?_
     ·subst q1; exact q (sym _ _ q2)
     ·exact hxs ⟨m,q1,q2⟩
    rw [if_neg hxs,if_neg hys,if_neg h1,if_neg h2]; lia
theorem k5Y {rt:Nm→Nm} {out:Nm→Bool} {g:Nm→Int} (hT:∀ x y,T x y↔rt x = rt y) (hf:∀ n,f n = if out (rt n) then 0 else g (rt n)) :
  ∀ (l seen acc:List Nm),(∀ z,out z = false→(z∈acc↔∃ n,n∈seen∧rt n = z))→(∀ z,z∈acc→out z = false)→((k1l rt out l acc).map g).sum = (acc.map g).sum + k3M.lead T f l seen
 | [],seen,acc,_,_=>by simp [k1l,k3M.lead]
 | n :: l,seen,acc,h,ho=>by
  rw [k1l,k3M.lead]
  by_cases h1:out (rt n) = true
  ·have e:(out (rt n) || acc.contains (rt n)) = true:=by rw [h1]; rfl
   rw [if_pos e,k5Y hT hf l (n :: seen) acc (fun z hz=>?_) ho]
   ·have:f n = 0:=by rw [hf,if_pos h1]
    rw [this]; simp
   ·rw [h z hz]
    constructor
    ·intro z0q; refine cX1 z0q fun m yA=>cA2 yA fun q1 q2=>?_; clear z0q yA; exact ⟨m,.tail _ q1,q2⟩
    ·intro z0q; refine cX1 z0q fun m yA=>cA2 yA fun q1 q2=>?_; clear z0q yA
     refine Or.elim (w0c.mp q1) (fun q1=>?_) fun q1=>?_
     ·subst q1; rw [q2,hz] at h1; exact kFT h1
     ·exact ⟨m,q1,q2⟩
  ·have h1':out (rt n) = false:=by simpa using h1
   by_cases h2:rt n∈acc
   ·have e:(out (rt n) || acc.contains (rt n)) = true:=by rw [w0N.mpr h2]; simp
    have hs:∃ m,m∈seen∧T m n:=by
     refine cX1 ((h _ h1').mp h2) fun m yA=>cA2 yA fun q1 q2=>?_; clear yA
     exact ⟨m,q1,(hT _ _).mpr q2⟩
    rw [if_pos e,if_pos hs,k5Y hT hf l (n :: seen) acc (fun z hz=>?_) ho]
    ·simp
    ·rw [h z hz]
     constructor
     ·intro z0q; refine cX1 z0q fun m yA=>cA2 yA fun q1 q2=>?_; clear z0q yA; exact ⟨m,.tail _ q1,q2⟩
     ·intro z0q; refine cX1 z0q fun m yA=>cA2 yA fun q1 q2=>?_; clear z0q yA
      refine Or.elim (w0c.mp q1) (fun q1=>?_) fun q1=>?_
      ·subst q1; rw [← q2]; exact (h _ h1').mp h2
      ·exact ⟨m,q1,q2⟩
   ·have hc:acc.contains (rt n) = false:=by
     rw [w1I]; intro q; rw [w0N] at q; exact h2 q
    have e:¬ (out (rt n) || acc.contains (rt n)) = true:=by rw [h1',hc]; simp
    have hs:¬ ∃ m,m∈seen∧T m n:=by
     intro z0q; refine cX1 z0q fun m yA=>cA2 yA fun q1 q2=>?_; clear z0q yA
     exact h2 ((h _ h1').mpr ⟨m,q1,(hT _ _).mp q2⟩)
    rw [if_neg e,if_neg hs,k5Y hT hf l (n :: seen) (acc ++ [rt n]) (fun z hz=>?_) (fun z hz=>?_)]
    ·rw [w0j,w0Y,hf,if_neg h1]; simp; lia
    ·rw [w0g,h z hz,w0h]
     constructor
     ·intro z0q; refine Or.elim z0q (fun yY=>?_) fun q=>?_ <;> clear z0q; refine cX1 yY fun m yA=>cA2 yA fun q1 q2=>?_; clear yY yA
      ·exact ⟨m,.tail _ q1,q2⟩
      ·exact ⟨n,.head _,q.symm⟩
     ·intro z0q; refine cX1 z0q fun m yA=>cA2 yA fun q1 q2=>?_; clear z0q yA
      refine Or.elim (w0c.mp q1) (fun q1=>?_) fun q1=>?_
      ·subst q1; exact .inr q2.symm
      ·exact .inl ⟨m,q1,q2⟩
    ·refine Or.elim (w0g.mp hz) (fun hz=>?_) fun hz=>?_
     ·exact ho z hz
     ·rw [w0h] at hz; rw [hz]; exact h1'
end
end T
namespace T
theorem AbR.sol {es:Ab} {S:(Nm→Int)→Prop} {rt:Nm→Nm} {ds:Nm→Int} (A:AbR es S rt ds) (ρ:Nm→Int):S fun x=>ρ (rt x) + ds x:=by
 rw [A.rep]
 intro x
 show ρ (rt x) + ds x = ρ (rt (rt x)) + ds (rt x) + ds x
 rw [(A.idem x).1,(A.idem x).2]; lia
theorem AbR.forced {es:Ab} {S:(Nm→Int)→Prop} {rt:Nm→Nm} {ds:Nm→Int} (A:AbR es S rt ds) (x y:Nm) (d:Int):(∀ φ,S φ→φ y = φ x + d)↔rt x = rt y∧d = ds y - ds x:=by
 constructor
 ·intro h
  have h0:0 + ds y = 0 + ds x + d:=h _ (A.sol fun Y=>0)
  by_cases e:rt x = rt y
  ·exact ⟨e,by lia⟩
  ·have h1:(if rt y = rt y then 1 else 0) + ds y = (if rt x = rt y then 1 else 0) + ds x + d:=h _ (A.sol fun z=>if z = rt y then 1 else 0)
   rw [if_pos rfl,if_neg e] at h1
   lia
 ·intro z0q φ hS; refine cA2 z0q fun h1 yA=>?_; clear z0q; subst yA
  have h:=(A.rep φ).mp hS
  have hx:=h x
  have hy:=h y
  rw [h1] at hx
  lia
structure JnR (u:Un) (es:Ab) (rt:Nm→Nm) (ds:Nm→Int) (so:List (Nm × Bool)) (rf:Rf) (sz:List (Nm × Int)):Prop where
 ab:AbR es (Sat u) rt ds
 esl:es.length < 60
 soR:k7b u.th u.pairs so
 sol:so.length≤4
 com:k7w u.th u.pairs
 grp:∀ g,g∈u.grp→k9S u.th g.items
 roots:z2f rt ds (so.map (·.1)) rf
 sizes:z3N u.th rt ds (so.map (·.1)) u.ord sz
section
variable {u:Un} {es:Ab} {rt:Nm→Nm} {ds:Nm→Int} {so:List (Nm × Bool)} {rf:Rf} {sz:List (Nm × Int)}
theorem k5b (ab:AbR es (Sat u) rt ds) (x y:Nm) (d:Int):u.core.F x y d↔rt x = rt y∧d = ds y - ds x:=ab.forced x y d
theorem z1m (ab:AbR es (Sat u) rt ds) (x y:Nm):u.core.T x y↔rt x = rt y:=by
 unfold k3M.T
 constructor
 ·intro z0q; refine cX1 z0q fun d h=>?_; clear z0q; exact ((k5b ab x y d).mp h).1
 ·intro h; exact ⟨_,(k5b ab x y _).mpr ⟨h,rfl⟩⟩
theorem k7y (R:k7b u.th u.pairs so) (b:Nm) (s:Bool):u.core.blk b s↔k0Q so b = some s:=(R.get b s).symm
theorem k3q (R:k7b u.th u.pairs so) (b:Nm):(∃ s,u.core.blk b s)↔b∈so.map (·.1):=by
 rw [← k1T]
 constructor
 ·intro z0q; refine cX1 z0q fun s h=>?_; clear z0q; rw [(k7y R b s).mp h]; rfl
 ·intro h
  refine cX1 (w0K.mp h) fun s hs=>?_
  exact ⟨s,(k7y R b s).mpr hs⟩
theorem z3P (ok:u.Ok) (ab:AbR es (Sat u) rt ds) (b:Nm) (v:Int):u.core.BEnd b v↔k3k u.th rt ds u.ord b v:=by
 constructor
 ·intro z0q; refine cX1 z0q fun n yA=>cA2 yA fun hn yB=>cX1 yB fun d yC=>cA2 yC fun h1 h2=>?_; clear z0q yA yB yC
  refine cA2 ((k5b ab _ _ _).mp h1) fun h3 h4=>?_
  exact ⟨n,(ok.ord n).mpr hn,h3.symm,by rw [h2,h4]; rfl⟩
 ·intro z0q; refine cX1 z0q fun n yA=>cA3 yA fun hn h1 h2=>?_; clear z0q yA
  exact ⟨n,(ok.ord n).mp hn,ds n - ds (47 :: b),(k5b ab _ _ _).mpr ⟨h1.symm,rfl⟩,h2⟩
variable (J:JnR u es rt ds so rf sz)
include J
theorem z1n (ok:u.Ok) (b:Nm) (m:Int):u.core.BSz b m↔k0Q sz b = some m:=by
 rw [J.sizes.get]
 unfold k3M.BSz
 rw [k3q J.soR]
 constructor
 ·intro z0q; refine cA2 z0q fun h1 h2=>?_; clear z0q; exact ⟨h1,h2.congr fun v=>(z3P ok J.ab b v).symm⟩
 ·intro z0q; refine cA2 z0q fun h1 h2=>?_; clear z0q; exact ⟨h1,h2.congr fun v=>z3P ok J.ab b v⟩
theorem k7e (n:Nm):u.core.InBlk n↔(k0Q rf (rt n)).isSome = true:=by
 constructor
 ·intro z0q; refine cX3 z0q fun b s d yA=>cA2 yA fun h1 h2=>?_; clear z0q yA
  refine cA2 ((k5b J.ab _ _ _).mp h2) fun h3 h4=>?_
  have:=(J.roots.get (rt n) b (ds (47 :: b))).mpr ⟨(k3q J.soR b).mp ⟨s,h1⟩,h3,rfl⟩
  rw [this]; rfl
 ·intro h
  refine cX1 (w0K.mp h) fun yA hb=>?_; obtain ⟨b,d⟩:=yA
  refine cA3 ((J.roots.get _ _ _).mp hb) fun h1 h2 h3=>?_
  refine cX1 ((k3q J.soR b).mpr h1) fun s hs=>?_
  exact ⟨b,s,_,hs,(k5b J.ab _ _ _).mpr ⟨h2,rfl⟩⟩
theorem z5U (ok:u.Ok):u.core.Good where
 ok:=⟨J.com,J.grp⟩
 ex:=⟨_,J.ab.sol fun Y=>0⟩
 two:=fun b b' s s' d h1 h2 h3=>J.roots.inj b ((k3q J.soR b).mp ⟨s,h1⟩) b' ((k3q J.soR b').mp ⟨s',h2⟩) ((k5b J.ab _ _ _).mp h3).1
 ahead:=fun b s n d h1 h2 h3=>by
  refine cA2 ((k5b J.ab _ _ _).mp h3) fun h4 h5=>?_
  have:=J.sizes.ahead n ((ok.ord n).mpr h2) b ((k3q J.soR b).mp ⟨s,h1⟩) h4.symm
  lia
omit J
noncomputable def sig (u:Un) (z:Nm):Bool:=if z∈names then (u.th z).txt else match u.pairs.find? fun p=>47 :: p.1 = z with
 | some p=>(u.th p.2).txt
 | none=>false
theorem z3e (b:Nm):47 :: b∉names:=by
 intro h
 simp [names] at h
theorem k9r {u:Un} (ok:u.Ok) {b n:Nm} (h:(b,n)∈u.pairs):n∈names:=by
 unfold Un.pairs at h
 refine cX1 (w0F.mp h) fun p yA=>cA2 yA fun hp hq=>?_; clear yA
 refine cX1 (w0b.mp hq) fun m yA=>cA2 yA fun hm e=>?_; clear yA
 refine k2X e fun yA yB=>?_; clear e; subst yA; subst yB
 exact ok.comn p hp _ hm
theorem z5V {u:Un} (com:k7w u.th u.pairs) {b n:Nm} (h:(b,n)∈u.pairs):sig u (47 :: b) = (u.th n).txt:=by
 unfold sig
 rw [if_neg (z3e b)]
 cases e:u.pairs.find? fun p=>47 :: p.1 = 47 :: b with
 | none =>
  rw [List.find?_eq_none] at e
  have:=e _ h
  simp at this
 | some p =>
  have h1:=List.find?_some e
  have h2:=List.mem_of_find?_eq_some e
  simp at h1
  exact com.pure p h2 (b,n) h h1
theorem z0s (th:Nm→Th) (φ σ:Nm→Int) (base:Int):∀ (ns:List Nm) (a:Int) (k:Int),(∀ n,n∈ns→σ n = k)→BSat th φ base a ns→BSat th (fun z=>φ z + σ z) (base + k) a ns
 | [],_,_,_,_=>trivial
 | n :: ns,a,k,h,⟨h1,h2⟩=>by
  refine ⟨?_,z0s th φ σ base ns _ k (fun m hm=>h m (.tail _ hm)) h2⟩
  have:=h n (.head _)
  show base + k + a = φ n + σ n
  lia
theorem z5W {u:Un} (ok:u.Ok) (com:k7w u.th u.pairs) (grp:∀ g,g∈u.grp→k9S u.th g.items) {φ:Nm→Int} (h:Sat u φ):Sat u fun z=>φ z + if sig u z then 1 else 0:=by
 refine ⟨fun b=>?_,fun g hg=>?_⟩
 ·refine z0s u.th φ (fun z=>if sig u z then 1 else 0) _ _ 0 _ (fun n hn=>?_) (h.1 b)
  unfold k1P at hn
  refine cX1 (w0b.mp hn) fun p yA=>cA2 yA fun hp e=>?_; clear yA
  rw [w0I] at hp
  obtain ⟨p1,p2⟩:=p
  have e1:p1 = b:=by simpa using hp.2
  have e2:p2 = n:=e
  subst e1; subst e2
  show (if sig u p2 then (1:Int) else 0) = if sig u (47 :: p1) then 1 else 0
  rw [z5V com hp.1]
  unfold sig
  rw [if_pos (k9r ok hp.1)]
 ·refine cX1 (h.2 g hg) fun k hk=>?_
  refine cX1 (w2u _ (ok.grp1 g hg).1) fun i0 hi0=>?_
  refine ⟨k + if (u.th i0.nm).txt then 1 else 0,fun i hi=>?_⟩
  refine cX1 (hk i hi) fun o yA=>cA2 yA fun q1 q2=>?_; clear yA
  refine ⟨o,q1,?_⟩
  have e1:sig u i.nm = (u.th i.nm).txt:=by unfold sig; rw [if_pos (ok.item g hg i hi).1]
  show φ i.nm + (if sig u i.nm then 1 else 0) + o = _
  rw [e1,(grp g hg).txt i hi i0 hi0]
  lia
theorem z2m (ok:u.Ok) (com:k7w u.th u.pairs) (grp:∀ g,g∈u.grp→k9S u.th g.items) (ab:AbR es (Sat u) rt ds) {x y:Nm} (h:rt x = rt y):sig u x = sig u y:=by
 have f:=(k5b ab x y _).mpr ⟨h,rfl⟩
 have s0:=ab.sol fun Y=>0
 have h1:0 + ds y = 0 + ds x + (ds y - ds x):=f _ s0
 have h2:0 + ds y + (if sig u y then 1 else 0) = 0 + ds x + (if sig u x then 1 else 0) + (ds y - ds x):=f _ (z5W ok com grp s0)
 cases e1:sig u x <;> cases e2:sig u y <;> rw [e1,e2] at h2 <;> simp at h2 ⊢ <;> lia
include J
theorem txt_tied (ok:u.Ok) {x y:Nm} (hx:x∈names) (hy:y∈names) (h:rt x = rt y):(u.th x).txt = (u.th y).txt:=by
 have:=z2m ok J.com J.grp J.ab h
 unfold sig at this
 rw [if_pos hx,if_pos hy] at this
 exact this
theorem txt_blk (ok:u.Ok) {x b:Nm} {s:Bool} (hx:x∈names) (hb:u.core.blk b s) (h:rt x = rt (47 :: b)):(u.th x).txt = s:=by
 refine cX1 hb fun n yA=>cA2 yA fun hn yB=>?_; clear hb yA; subst yB
 have:=z2m ok J.com J.grp J.ab h
 rw [z5V J.com hn] at this
 unfold sig at this
 rw [if_pos hx] at this
 exact this
theorem z5X (ok:u.Ok) {n:Nm} (hn:n∈names):k5X u.th rt ds u.ord (rt n) = (u.th n).txt:=by
 have hm:(n,ds n)∈k0N rt ds u.ord (rt n):=k1E.mpr ⟨(ok.ord n).mpr hn,rfl,rfl⟩
 unfold k5X
 cases e:k0N rt ds u.ord (rt n) with
 | nil=>rw [e] at hm; simp at hm
 | cons q l =>
  have hq:q∈k0N rt ds u.ord (rt n):=by rw [e]; simp
  refine cA3 (k1E.mp hq) fun h1 h2 h3=>?_
  exact txt_tied J ok ((ok.ord _).mp h1) hn h2
theorem Ext_of (ok:u.Ok) {n:Nm} (hn:n∈names):u.core.Ext n (k8k u.th rt ds u.ord (rt n)):=by
 have hm:(n,ds n)∈k0N rt ds u.ord (rt n):=k1E.mpr ⟨(ok.ord n).mpr hn,rfl,rfl⟩
 have ne:k0N rt ds u.ord (rt n)≠[]:=by intro e; rw [e] at hm; simp at hm
 have h1:=z3b ((k0N rt ds u.ord (rt n)).map (·.2)) (by simpa using ne)
 have h2:=z1k ((k0N rt ds u.ord (rt n)).map fun q=>q.2 + (u.th q.1).size) (by simpa using ne)
 refine ⟨z1i u.th rt ds u.ord (rt n) - ds n,z2Y rt ds u.ord (rt n) - ds n,⟨?_,?_⟩,⟨?_,?_⟩,by unfold k8k; lia⟩
 ·refine cX1 (w0b.mp h2.at') fun q yA=>cA2 yA fun hq e=>?_; clear yA
  refine cA3 (k1E.mp hq) fun q1 q2 q3=>?_
  refine ⟨q.1,(ok.ord _).mp q1,ds q.1 - ds n,(k5b J.ab _ _ _).mpr ⟨q2.symm,rfl⟩,?_⟩
  have e':q.2 + (u.th q.1).size = z1i u.th rt ds u.ord (rt n):=e
  show _ = _ + (u.th q.1).size
  lia
 ·intro v z1q; refine cX1 z1q fun m yA=>cA2 yA fun hmn yB=>cX1 yB fun d yC=>cA2 yC fun hd e=>?_; clear z1q yA yB yC
  refine cA2 ((k5b J.ab _ _ _).mp hd) fun w1 w2=>?_
  have:=h2.le (ds m + (u.th m).size) (w0b.mpr ⟨(m,ds m),k1E.mpr ⟨(ok.ord m).mpr hmn,w1.symm,rfl⟩,rfl⟩)
  have e':v = d + (u.th m).size:=e
  have e3:z1i u.th rt ds u.ord (rt n) = k9Z ((k0N rt ds u.ord (rt n)).map fun q=>q.2 + (u.th q.1).size):=rfl
  lia
 ·refine cX1 (w0b.mp h1.at') fun q yA=>cA2 yA fun hq e=>?_; clear yA
  refine cA3 (k1E.mp hq) fun q1 q2 q3=>?_
  refine ⟨q.1,(ok.ord _).mp q1,(k5b J.ab _ _ _).mpr ⟨q2.symm,?_⟩⟩
  have e':q.2 = z2Y rt ds u.ord (rt n):=e
  lia
 ·intro v z1q; refine cX1 z1q fun m yA=>cA2 yA fun hmn hd=>?_; clear z1q yA
  refine cA2 ((k5b J.ab _ _ _).mp hd) fun w1 w2=>?_
  have:=h1.le (ds m) (w0b.mpr ⟨(m,ds m),k1E.mpr ⟨(ok.ord m).mpr hmn,w1.symm,rfl⟩,rfl⟩)
  have e3:z2Y rt ds u.ord (rt n) = z0H ((k0N rt ds u.ord (rt n)).map (·.2)):=rfl
  lia
theorem z3Q (ok:u.Ok) (n:Nm):u.core.KeptCls n↔k5L rt ds u.ord (rt n) u.kept = false:=by
 unfold k5L
 constructor
 ·intro z0q; refine cX1 z0q fun m yA=>cA3 yA fun h1 h2 h3=>?_; clear z0q yA
  have h3':=(z1m J.ab n m).mp h3
  rw [w1I]
  intro q
  rw [w2t,w1g] at q
  exact q (m,ds m) (k1E.mpr ⟨(ok.ord m).mpr h1,h3'.symm,rfl⟩) (w0N.mpr h2)
 ·intro h
  have ne:(k0N rt ds u.ord (rt n)).filter (fun q=>u.kept.contains q.1)≠[]:=by
   intro q; rw [q] at h; cases h
  refine cX1 (w2u _ ne) fun q hq=>?_
  rw [w0I] at hq
  refine cA3 (k1E.mp hq.1) fun q1 q2 q3=>?_
  exact ⟨q.1,(ok.ord _).mp q1,w0N.mp hq.2,(z1m J.ab _ _).mpr q2.symm⟩
omit J in
theorem ord_perm (ok:u.Ok):u.ord.Perm names:=(w2v ok.nd (by decide)).mpr fun n=>ok.ord n
theorem z0t (ok:u.Ok) {f:Nm→Int} (g:Nm→Int) (hf:∀ n,n∈names→f n = if (k0Q rf (rt n)).isSome then 0 else g (rt n)) :
  ((k1l rt (fun x=>(k0Q rf x).isSome) u.ord []).map g).sum = k3M.lead u.core.T f names []:=by
 have h1:=k5Y (T:=u.core.T) (f:=fun n=>if (k0Q rf (rt n)).isSome then 0 else g (rt n)) (rt:=rt) (out:=fun x=>(k0Q rf x).isSome) (g:=g) (z1m J.ab) (fun n=>rfl) u.ord [] [] (fun z Y=>by simp) (fun z hz=>by simp at hz)
 rw [h1,w0n,List.sum_nil,Int.zero_add]
 rw [z5T (T:=u.core.T) (fun x y h=>(z1m J.ab _ _).mpr ((z1m J.ab _ _).mp h).symm) (fun x y z h h'=>(z1m J.ab _ _).mpr (((z1m J.ab _ _).mp h).trans ((z1m J.ab _ _).mp h'))) (fun x y h=>by rw [(z1m J.ab _ _).mp h]) (ord_perm ok)]
 have cg:∀ (l s:List Nm),(∀ n,n∈l→n∈names)→k3M.lead u.core.T (fun n=>if (k0Q rf (rt n)).isSome then 0 else g (rt n)) l s = k3M.lead u.core.T f l s:=by
  intro l
  induction l with
  | nil=>intro s _; rfl
  | cons n l ih =>
   intro s h
   rw [k3M.lead,k3M.lead,ih _ fun m hm=>h m (.tail _ hm),hf n (h n (.head _))]
 exact cg names [] fun Y h=>h
theorem z3R (ok:u.Ok) (s:Bool):k6c u.th rt ds u.ord s (k1l rt (fun x=>(k0Q rf x).isSome) u.ord []) = u.core.sum s:=by
 unfold k6c k3M.sum
 refine z0t J ok (fun r=>if k5X u.th rt ds u.ord r = s then k8k u.th rt ds u.ord r else 0) fun n hn=>?_
 by_cases h:u.core.InBlk n
 ·rw [if_pos h,if_pos ((k7e J n).mp h)]
 ·rw [if_neg h,if_neg fun q=>h ((k7e J n).mpr q)]
  rw [z5X J ok hn,k3M.ext_eq (Ext_of J ok hn)]
  rfl
theorem lost_eq (ok:u.Ok) (s:Bool):(((k1l rt (fun x=>(k0Q rf x).isSome) u.ord []).filter fun r=>k5L rt ds u.ord r u.kept).map fun r=>if k5X u.th rt ds u.ord r = s then k8k u.th rt ds u.ord r else 0).sum = u.core.lost s:=by
 have e:∀ l:List Nm,((l.filter fun r=>k5L rt ds u.ord r u.kept).map fun r=>if k5X u.th rt ds u.ord r = s then k8k u.th rt ds u.ord r else 0).sum =
   (l.map fun r=>if k5L rt ds u.ord r u.kept then (if k5X u.th rt ds u.ord r = s then k8k u.th rt ds u.ord r else 0) else 0).sum:=by
  intro l
  induction l with
  | nil=>rfl
  | cons r l ih =>
   rw [w1w,w0f,w0Q]
   by_cases q:k5L rt ds u.ord r u.kept = true
   ·rw [if_pos q,if_pos q,w0f,w0Q,ih]
   ·rw [if_neg q,if_neg q,ih]; simp
 rw [e]
 unfold k3M.lost
 refine z0t J ok (fun r=>if k5L rt ds u.ord r u.kept then (if k5X u.th rt ds u.ord r = s then k8k u.th rt ds u.ord r else 0) else 0) fun n hn=>?_
 by_cases h:u.core.InBlk n
 ·rw [if_pos (.inl h),if_pos ((k7e J n).mp h)]
 ·rw [if_neg (c:=(k0Q rf (rt n)).isSome = true) fun q=>h ((k7e J n).mpr q)]
  by_cases k:u.core.KeptCls n
  ·rw [if_pos (.inr k),if_neg]
   rw [(z3Q J ok n).mp k]; simp
  ·have k':k5L rt ds u.ord (rt n) u.kept = true:=by
    rw [← Bool.not_eq_false]; exact fun q=>k ((z3Q J ok n).mpr q)
   rw [if_neg (fun q=>q.elim h k),if_pos k',z5X J ok hn,k3M.ext_eq (Ext_of J ok hn)]
   rfl
end
end T
namespace T
noncomputable def z3S:Reg→X (Fl × Reg) :=
 (k0H (k0p k4J (k0l 6))
 (k0H (k0p (k1c k3h (k0f (k0d 5) (k0f (k0d 6) k0T))) (k0l 7))
 (k0H (k5z (k5c (k2K [101,113,117,105,118,115] (k0d 5))) (k0l 8) (k0H (k4c (k1c k4g (k0f (k0d 5) (k0f (k0d 6) (k0f (k0d 8) k0T)))))
 k1s))
 (k0H (k0p (k1c k3C (k0f (k0d 7) (k0f (k0d 6) k0T))) (k0l 9))
 (k0H (k4c (k1c k3D (k0f (k0d 3) (k0f (k0d 7) (k0f (k1c k3F (k0f (k0d 5) (k0f (k0d 6) (k0f (k0d 9) k0T)))) k0T)))))
 (k0H (k4c (k5m k3A k3o (k0d 4) (k0f (k3e (k0f (k0d 6) (k0f (k0d 9) k0T))) k0T)))
 k1s))))))
theorem z5Y {u:Un} (ok:u.Ok) {so:List (Nm × Bool)} (R:k7b u.th u.pairs so) {b:Nm} (h:b∈so.map (·.1)):b = [88]∨b = []:=by
 refine cX1 (w0K.mp (k1T.mpr h)) fun s hs=>?_
 refine cX1 ((R.get b s).mp hs) fun n yA=>cA2 yA fun hn _=>?_; clear yA
 unfold Un.pairs at hn
 refine cX1 (w0F.mp hn) fun p yA=>cA2 yA fun hp hq=>?_; clear yA
 refine cX1 (w0b.mp hq) fun m yA=>cA2 yA fun hm e=>?_; clear yA
 refine k2X e fun yA yB=>?_; clear e; subst yA; subst yB
 exact ok.blk p hp
theorem blk_tied {u:Un} {es:Ab} {rt:Nm→Nm} {ds:Nm→Int} (A:AbR es (Sat u) rt ds) {b n:Nm} (hn:(b,n)∈u.pairs):∃ m,(b,m)∈u.pairs∧rt m = rt (47 :: b):=by
 have h1:∀ φ,Sat u φ→∃ m l,k1P u.pairs b = m :: l∧φ m = φ (47 :: b):=fun φ h=>by
  have h1:=h.1 b
  cases e:k1P u.pairs b with
  | nil =>
   exfalso
   have:n∈k1P u.pairs b:=w0b.mpr ⟨(b,n),w0I.mpr ⟨hn,by simp⟩,rfl⟩
   rw [e] at this; simp at this
  | cons m l =>
   rw [e] at h1
   have:=h1.1
   exact ⟨m,l,rfl,by lia⟩
 refine cX2 (h1 _ (A.sol fun Y=>0)) fun m l yA=>cA2 yA fun e _=>?_; clear yA
 have hf:∀ φ,Sat u φ→φ (47 :: b) = φ m + 0:=fun φ h=>by
  refine cX2 (h1 φ h) fun m' l' yA=>cA2 yA fun e' q=>?_; clear yA
  rw [e] at e'
  injection e' with e1 _
  rw [e1,q]; lia
 have hm:m∈k1P u.pairs b:=by rw [e]; simp
 refine cX1 (w0b.mp hm) fun p yA=>cA2 yA fun hp e2=>?_; clear yA
 rw [w0I] at hp
 obtain ⟨p1,p2⟩:=p
 have e3:p1 = b:=by simpa using hp.2
 have e4:p2 = m:=e2
 subst e3; subst e4
 exact ⟨p2,hp.1,((A.forced _ _ _).mp hf).1⟩
theorem max_ex (P:Int→Prop) (l:List Int) (h:∀ v,P v↔v∈l) (ne:l≠[]):∃ m,k3j P m :=
 ⟨k9Z l,(z1k l ne).congr h⟩
theorem k7f {u:Un} (ok:u.Ok) {es:Ab} {rt:Nm→Nm} {ds:Nm→Int} {so:List (Nm × Bool)} {sz:List (Nm × Int)} (A:AbR es (Sat u) rt ds) (R:k7b u.th u.pairs so) (Z:z3N u.th rt ds (so.map (·.1)) u.ord sz)
  {b:Nm} (h:b∈so.map (·.1)):∃ m,k0Q sz b = some m:=by
 refine cX1 (w0K.mp (k1T.mpr h)) fun s hs=>?_
 refine cX1 ((R.get b s).mp hs) fun n yA=>cA2 yA fun hn _=>?_; clear yA
 refine cX1 (blk_tied A hn) fun m yA=>cA2 yA fun hm ht=>?_; clear yA
 have hmo:=(ok.ord m).mpr (k9r ok hm)
 refine cX1 (max_ex (k3k u.th rt ds u.ord b) ((u.ord.filter fun n=>rt n = rt (47 :: b)).map fun n=>ds n - ds (47 :: b) + (u.th n).size) (fun v=>by
  simp only [w0b,w0I,decide_eq_true_eq]
  constructor
  ·intro z0q; refine cX1 z0q fun n yA=>cA3 yA fun h1 h2 h3=>?_; clear z0q yA; exact ⟨n,⟨h1,h2⟩,h3.symm⟩
  ·intro z0q; refine cX1 z0q fun n yA=>cA2 yA fun yB h3=>cA2 yB fun h1 h2=>?_; clear z0q yA yB; exact ⟨n,h1,h2,h3.symm⟩) (by
  intro e
  simp only [List.map_eq_nil_iff] at e
  have:m∈u.ord.filter fun n=>rt n = rt (47 :: b):=w0I.mpr ⟨hmo,by simp [ht]⟩
  rw [e] at this; simp at this)) fun k hk=>?_
 exact ⟨k,(Z.get b k).mpr ⟨h,hk⟩⟩
theorem w_unit {h:Hp} {b s d t c g k:Nat} {nm:Nm} {u:Un} (ok:u.Ok) (sp:k2m h b s nm d t c g k u) (hb:b≤h.length) {lb lj:Nat} {bl:Bl} {jl:List V} (hlb:h[lb]? = some (.dict (k1F k9D bl))) (hlj:h[lj]? = some (.list jl)) (hbj:lb≠lj) (bb:b≤lb) (bj:b≤lj)
  (hbl:bl.length≤50) (hjl:jl.length≤50) {v0 v1 v2 g6 g7 g8 g9 g10 g11 g12 g13:Option V} {Q:Po (Fl × Reg)}
  (h1:∀ h' (es:Ab) (rt:Nm→Nm) (ds:Nm→Int) (so:List (Nm × Bool)) (rf:Rf) (sz:List (Nm × Int)) (a r:Nat) (bl':Bl) (g6 g7 g8 g9:Option V),k0M [lb,lj] h h'→JnR u es rt ds so rf sz→h'[a]? = some (.dict (k3K es))→h'[r]? = some (.dict (k1F encR rf))→h.length≤a→h.length≤r →
   h'[lb]? = some (.dict (k1F k9D bl'))→h'[lj]? = some (.list (jl ++ [.tup [.loc a,.loc r]]))→(∀ b,b∉so.map (·.1)→k0Q bl' b = k0Q bl b) →
   (∀ b s m,k0Q so b = some s→k0Q sz b = some m→k0Q bl' b = some (z1g (k0Q bl b) s m)∧¬ z2h (k0Q bl b) b s m)→bl'.length≤bl.length + 4→((bl.map (·.1)).Nodup→(bl'.map (·.1)).Nodup) →
   Q (.ok (.next,[v0,v1,v2,some (.loc lb),some (.loc lj),some (.loc s),g6,g7,g8,g9,g10,g11,g12,g13])) h')
  (h2:∀ h',k0M [lb,lj] h h'→¬ u.core.Good∨(∃ es rt ds so rf sz,JnR u es rt ds so rf sz∧∃ b s m,k0Q so b = some s∧k0Q sz b = some m∧z2h (k0Q bl b) b s m)→Q (.error .lay) h') :
  wp (z3S [v0,v1,v2,some (.loc lb),some (.loc lj),some (.loc s),g6,g7,g8,g9,g10,g11,g12,g13]) Q h:=by
 have B0:k3d [lb,lj] b:=fun i hi=>by
  simp at hi
  (refine Or.elim hi (fun yY=>?_) fun yZ=>?_ <;> clear hi; rotate_left; subst yZ; rotate_right; subst yY) <;> assumption
 have Llb:=k0t hlb
 have Llj:=k0t hlj
 unfold z3S
 simp only [k0L,k0y,k3Z,k1q,k0x,w0e,w0d,k1r,k0o,k0K,k0D,k0z,k0s,rg0,rgS,w0a,k0g,k0E,k0C,k0O,k0W]
 have sp0:=sp.keep (k0M.alloc [] h (.dict [])) (by simp [k3d])
 refine k9R ok sp0 (by simp; lia) (k0X h (.dict [])) hb (fun H1 ls so es rt ds K1 Lls hso ha R sol com A esl=>?_) (fun H1 K1 hno=>?_)
 rotate_left
 ·simp only [z1U,k2l]
  refine h2 _ ((k0M.alloc [lb,lj] h (.dict [])).trans' K1 (fun i hi=>.inr (by simp at hi; lia))) (.inl fun G=>?_)
  refine cX1 G.ex fun φ hφ=>?_
  exact hno ⟨G.ok.1,φ,hφ.1⟩
 rw [w0t,w0B] at Lls
 have KK1:k0M [h.length] h H1:=(k0M.alloc _ h (.dict [])).trans K1
 have KB:∀ S:List Nat,(∀ i,i∈S→h.length≤i)→k3d S b:=fun S hS i hi=>by have:=hS i hi; lia
 have sp1:=sp.keep KK1 (KB _ (by simp))
 simp only [k1q,k0x,w0e,w0d,k1r,k0o,k0L,k2B,k2d,k2v,k0s,rg0,rgS,w0a,k0g,k0u,k0r,sp1.equivs,k1S,sp1.un.hg]
 let I:=fun (pre:List Grp) (reg:Reg) (h':Hp)=>(∃ g8,reg = [v0,v1,v2,some (.loc lb),some (.loc lj),some (.loc s),some (.loc h.length),some (.loc ls),g8,g9,g10,g11,g12,g13])∧k0M [h.length] h h'∧h'[ls]? = some (.dict (k1F .bool so)) ∧
  ∃ es rt ds,h'[h.length]? = some (.dict (k3K es))∧AbR es (fun φ=>k4Q u.th u.pairs φ∧∀ g,g∈pre→z3M u.th g.items φ) rt ds∧es.length≤4 + 3 * pre.length∧∀ g,g∈pre→k9S u.th g.items
 refine k4m u.grp k3L I (by have:=ok.grpl; lia) (fun pre suf reg h' e hI=>k3p (sp.keep hI.2.1 (KB _ (by simp))).un.hg _) ⟨⟨_,rfl⟩,KK1,hso,es,rt,ds,ha,A.congr fun φ=>by simp,by simp; lia,fun g hg=>by simp at hg⟩ (fun pre x suf reg h' e hI=>?_) (fun reg h' hI=>?_)
 ·refine cA4 hI fun yA K hso' yB=>cX1 yA fun g8 yC=>?_; clear hI yA; subst yC; refine cX3 yB fun es rt ds yD=>cA4 yD fun ha' A' esl' gok=>?_; clear yB yD
  have hx:x∈u.grp:=by rw [e]; simp
  have hpl:pre.length≤1:=by have:=ok.grpl; rw [e] at this; simp at this; lia
  unfold k3L
  rw [k0x,k0u]
  simp only [w0e,w0d,k0L,k3P,k0K,k0D,k0z,k0s,rg0,rgS,w0a,k0g,k0E,k0C,k0O,k0W]
  refine z2e ok (sp.keep K (KB _ (by simp))) hb hx ha' A' (by lia) (fun h'' es' rt' ds' K' ha'' gk A'' esl''=>?_) (fun h'' K' hno=>?_)
  ·rw [k0O,k0o,k1Q,k0S]
   refine ⟨⟨_,rfl⟩,K.trans K',K'.get hso' (by simp; lia),es',rt',ds',ha'',A''.congr fun φ=>?_,by simp; lia,fun g hg=>?_⟩
   ·constructor
    ·intro z0q; refine cA2 z0q fun q1 q2=>?_; clear z0q; exact ⟨⟨q1,fun g hg=>q2 g (by simp [hg])⟩,q2 x (by simp)⟩
    ·intro z0q; refine cA2 z0q fun yA q3=>cA2 yA fun q1 q2=>?_; clear z0q yA
     refine ⟨q1,fun g hg=>?_⟩
     refine Or.elim (w0g.mp hg) (fun hg=>?_) fun hg=>?_
     ·exact q2 g hg
     ·rw [w0h] at hg; subst hg; exact q3
   ·refine Or.elim (w0g.mp hg) (fun hg=>?_) fun hg=>?_
    ·exact gok g hg
    ·rw [w0h] at hg; subst hg; exact gk
  ·simp only [k6d,k2l,k2p]
   refine h2 _ ((K.trans K').mono fun i hi=>.inr (by simp at hi; lia)) (.inl fun G=>?_)
   refine cX1 G.ex fun φ hφ=>?_
   exact hno (G.ok.2 x hx) φ ⟨hφ.1,fun g hg=>hφ.2 g (by rw [e]; simp [hg])⟩ (hφ.2 x hx)
 refine cA4 hI fun yA K2 hso2 yB=>cX1 yA fun g8' yC=>?_; clear hI yA; subst yC; refine cX3 yB fun es2 rt2 ds2 yD=>cA4 yD fun ha2 A2 esl2 gok2=>?_; clear yB yD
 have A2':AbR es2 (Sat u) rt2 ds2:=A2
 have hgl:=ok.grpl
 simp only [k0o,k0L,k0y,k0K,k0D,k0z,k0s,rg0,rgS,w0a,k0g,k0E,k0C,k0O,k0W]
 refine z1e hso2 ha2 A2' (by lia) R.nd sol (fun bk hbk=>by refine Or.elim (z5Y ok R hbk) (fun q=>?_) fun q=>?_ <;> rw [q] <;> simp) (fun H3 r rf K3 Lr hr RR rfl'=>?_) (fun H3 K3 hno=>?_)
 rotate_left
 ·simp only [z1U,k2l]
  refine h2 _ ((K2.trans' K3 (fun i hi=>by simp at hi)).mono fun i hi=>.inr (by simp at hi; lia)) (.inl fun G=>?_)
  refine cX2 hno fun b1 b2 yA=>cA4 yA fun q1 q2 q3 q4=>?_; clear hno yA
  refine cX1 ((k3q R b1).mpr q1) fun s1 hs1=>?_
  refine cX1 ((k3q R b2).mpr q2) fun s2 hs2=>?_
  exact q3 (G.two b1 b2 s1 s2 _ hs1 hs2 ((k5b A2' _ _ _).mpr ⟨q4,rfl⟩))
 have K23:k0M [h.length] h H3:=K2.trans' K3 (fun i hi=>by simp at hi)
 have sp3:=sp.keep K23 (KB _ (by simp))
 have L2:=K2.len
 have L3:=K3.len
 simp only [k1q,k0x,w0e,w0d,k1r,k0o,k0L,k3P,k0K,k0D,k0z,k0s,rg0,rgS,w0a,k0g,k0E,k0C,k0O,k0W]
 refine z1f ok sp3 (by lia) (K3.get ha2 (by simp)) A2' (by lia) hr RR (fun H4 z sz K4 Lz hz Z=>?_) (fun H4 K4 hno=>?_)
 rotate_left
 ·simp only [z2R,k6d,z5H,k2l]
  refine h2 _ ((K23.trans' K4 (fun i hi=>by simp at hi)).mono fun i hi=>.inr (by simp at hi; lia)) (.inl fun G=>?_)
  refine cX2 hno fun n bk yA=>cA4 yA fun q1 q2 q3 q4=>?_; clear hno yA
  refine cX1 ((k3q R bk).mpr q2) fun s1 hs1=>?_
  have:=G.ahead bk s1 n _ hs1 ((ok.ord n).mp q1) ((k5b A2' _ _ _).mpr ⟨q3.symm,rfl⟩)
  lia
 have J:JnR u es2 rt2 ds2 so rf sz:=⟨A2',by lia,R,sol,com,gok2,RR,Z⟩
 have K234:k0M [h.length] h H4:=K23.trans' K4 (fun i hi=>by simp at hi)
 have L4:=K4.len
 have hlb4:=K234.get hlb (by simp; lia)
 have hlj4:=K234.get hlj (by simp; lia)
 have hso4:=K4.get (K3.get hso2 (by simp)) (by simp)
 have ha4:=K4.get (K3.get ha2 (by simp)) (by simp)
 have hr4:=K4.get hr (by simp)
 simp only [k0E,k0C,k0O,k0W]
 refine z1h hlb4 hso4 hz (by lia) (by lia) R.nd sol (by lia) (fun bk hbk=>k7f ok A2' R Z hbk) (fun bl' P1 P2 P3 P4=>?_) (fun h' K' hcl=>?_)
 ·have hlj5:=k0m hlj4 hbj (.dict (k1F k9D bl'))
  have hjl':jl.length≤4000:=by lia
  simp only [k0O,k0o,k0L,k3P,k4l,k0s,rg0,rgS,w0a,k0g,k0u,k0r,k3I,hlj5,k0z,k2h,k0E,k0C,k0O,k3J,k2R,hjl',if_true,k1Q]
  refine h1 _ es2 rt2 ds2 so rf sz h.length r bl' _ _ _ _ ?_ J ?_ ?_ (w0l _) (by lia) ?_ ?_ P1 P2 P3 P4
  ·refine ((K234.mono (S':=[lb,lj]) fun i hi=>.inr (by simp at hi; lia)).trans (k0M.set (by simp) _ _)).trans (k0M.set (by simp) _ _)
  ·exact k0m (k0m ha4 (by lia) _) (by lia) _
  ·exact k0m (k0m hr4 (by lia) _) (by lia) _
  ·exact k0m (k0J hlb4 _) (by lia) _
  ·exact k0J hlj5 _
 ·simp only [k6d,k2l]
  exact h2 _ ((K234.mono (S':=[lb,lj]) fun i hi=>.inr (by simp at hi; lia)).trans' K' (fun i hi=>.inl (by simp at hi; simp [hi]))) (.inr ⟨es2,rt2,ds2,so,rf,sz,J,hcl⟩)
end T
namespace T
structure k9s (cs:List k3M) (bl:Bl):Prop where
 nd:(bl.map (·.1)).Nodup
 get:∀ b s m,k0Q bl b = some (s,m)→z1l cs b s m
 cov:∀ c,c∈cs→∀ b s,c.blk b s→∃ m,k0Q bl b = some (s,m)
 keys:∀ b,b∈bl.map (·.1)→b = [88]∨b = []
 comp:z2k cs
theorem k9s.empty:k9s [] []:=⟨w0L,fun b s m h=>by simp at h,fun c h=>by simp at h,fun b h=>by simp at h,⟨fun c h=>by simp at h,fun c h=>by simp at h⟩⟩
section
variable {cs:List k3M} {bl bl':Bl} {u:Un} {es:Ab} {rt:Nm→Nm} {ds:Nm→Int} {so:List (Nm × Bool)} {rf:Rf} {sz:List (Nm × Int)}
theorem k9s.snoc (R:k9s cs bl) (J:JnR u es rt ds so rf sz) (ok:u.Ok) (P1:∀ b,b∉so.map (·.1)→k0Q bl' b = k0Q bl b)
  (P2:∀ b s m,k0Q so b = some s→k0Q sz b = some m→k0Q bl' b = some (z1g (k0Q bl b) s m)∧¬ z2h (k0Q bl b) b s m) (nd:(bl'.map (·.1)).Nodup):k9s (cs ++ [u.core]) bl':=by
 have hkey:∀ b,b∈so.map (·.1)→∃ s m,k0Q so b = some s∧k0Q sz b = some m:=fun b hb=>by
  refine cX1 (w0K.mp (k1T.mpr hb)) fun s hs=>?_
  refine cX1 (k7f ok J.ab J.soR J.sizes hb) fun m hm=>?_
  exact ⟨s,m,hs,hm⟩
 have sortOk:∀ b s m c0 k,k0Q so b = some s→k0Q sz b = some m→k0Q bl b = some (c0,k)→c0 = s∧(b≠[]→k = m):=fun b s m c0 k h1 h2 h3=>by
  have:=(P2 b s m h1 h2).2
  rw [h3] at this
  refine ⟨Classical.byContradiction fun q=>this ⟨c0,k,rfl,.inl q⟩,fun w=>Classical.byContradiction fun q=>this ⟨c0,k,rfl,.inr ⟨w,q⟩⟩⟩
 have get':∀ b s m,k0Q bl' b = some (s,m)→z1l (cs ++ [u.core]) b s m:=by
  intro b s m h
  by_cases hb:b∈so.map (·.1)
  ·refine cX2 (hkey b hb) fun s0 m0 yA=>cA2 yA fun h1 h2=>?_; clear yA
   have hn:=(P2 b s0 m0 h1 h2).1
   rw [h] at hn
   have hz0:=(z1n J ok b m0).mpr h2
   have hb0:=(k7y J.soR b s0).mpr h1
   cases e:k0Q bl b with
   | none =>
    rw [e] at hn
    simp only [z1g,Option.some.injEq,Prod.mk.injEq] at hn
    refine cA2 hn fun yA=>?_; clear hn; subst yA; intro yB; subst yB
    refine ⟨⟨u.core,by simp,hb0⟩,⟨⟨u.core,by simp,hz0⟩,?_⟩⟩
    intro v z1q; refine cX1 z1q fun c yA=>cA2 yA fun hc hv=>?_; clear z1q yA
    refine Or.elim (w0g.mp hc) (fun hc=>?_) fun hc=>?_
    ·refine cX1 hv.1 fun s' hs'=>?_
     refine cX1 (R.cov c hc b s' hs') fun m' hm'=>?_
     rw [e] at hm'; exact kNS hm'
    ·rw [w0h] at hc; subst hc
     rw [hv.2.uniq hz0.2]; lia
   | some p =>
    obtain ⟨c0,k⟩:=p
    rw [e] at hn
    simp only [z1g,Option.some.injEq,Prod.mk.injEq] at hn
    refine cA2 hn fun yA=>?_; clear hn; subst yA; intro yB; subst yB
    refine cA2 (sortOk b s0 m0 s k h1 h2 e) fun q1 q2=>?_
    subst q1
    refine cA2 (R.get b s k e) fun yA hmax=>cX1 yA fun c1 yB=>cA2 yB fun hc1 hb1=>?_; clear yA yB
    refine ⟨⟨u.core,by simp,hb0⟩,⟨?_,?_⟩⟩
    ·by_cases w:m0≤k
     ·rw [Int.max_eq_left w]
      refine cX1 hmax.at' fun c2 yA=>cA2 yA fun hc2 hz2=>?_; clear yA
      exact ⟨c2,by simp [hc2],hz2⟩
     ·rw [Int.max_eq_right (by lia)]
      exact ⟨u.core,by simp,hz0⟩
    ·intro v z1q; refine cX1 z1q fun c yA=>cA2 yA fun hc hv=>?_; clear z1q yA
     refine Or.elim (w0g.mp hc) (fun hc=>?_) fun hc=>?_
     ·have:=hmax.le v ⟨c,hc,hv⟩; lia
     ·rw [w0h] at hc; subst hc
      have:=hv.2.uniq hz0.2; lia
  ·rw [P1 b hb] at h
   refine cA2 (R.get b s m h) fun yA hmax=>cX1 yA fun c1 yB=>cA2 yB fun hc1 hb1=>?_; clear yA yB
   refine ⟨⟨c1,by simp [hc1],hb1⟩,⟨?_,?_⟩⟩
   ·refine cX1 hmax.at' fun c2 yA=>cA2 yA fun hc2 hz2=>?_; clear yA
    exact ⟨c2,by simp [hc2],hz2⟩
   ·intro v z1q; refine cX1 z1q fun c yA=>cA2 yA fun hc hv=>?_; clear z1q yA
    refine Or.elim (w0g.mp hc) (fun hc=>?_) fun hc=>?_
    ·exact hmax.le v ⟨c,hc,hv⟩
    ·rw [w0h] at hc; subst hc
     exact absurd ((k3q J.soR b).mp hv.1) hb
 have cov':∀ c,c∈cs ++ [u.core]→∀ b s,c.blk b s→∃ m,k0Q bl' b = some (s,m):=by
  intro c hc b s hbs
  refine Or.elim (w0g.mp hc) (fun hc=>?_) fun hc=>?_
  ·refine cX1 (R.cov c hc b s hbs) fun k hk=>?_
   by_cases hb:b∈so.map (·.1)
   ·refine cX2 (hkey b hb) fun s0 m0 yA=>cA2 yA fun h1 h2=>?_; clear yA
    exact ⟨max k m0,by rw [(P2 b s0 m0 h1 h2).1,hk]; rfl⟩
   ·exact ⟨k,by rw [P1 b hb,hk]⟩
  ·rw [w0h] at hc; subst hc
   have h1:=(k7y J.soR b s).mp hbs
   refine cX1 (k7f ok J.ab J.soR J.sizes ((k3q J.soR b).mp ⟨s,hbs⟩)) fun m0 h2=>?_
   cases e:k0Q bl b with
   | none=>exact ⟨m0,by rw [(P2 b s m0 h1 h2).1,e]; rfl⟩
   | some p =>
    obtain ⟨c0,k⟩:=p
    refine cA2 (sortOk b s m0 c0 k h1 h2 e) fun q1 _=>?_
    subst q1
    exact ⟨max k m0,by rw [(P2 b c0 m0 h1 h2).1,e]; rfl⟩
 have cross:∀ c,c∈cs→∀ b m m',b≠[]→c.BSz b m→u.core.BSz b m'→m = m':=by
  intro c hc b m m' hb hz hz'
  refine cX1 hz.1 fun s hs=>?_
  refine cX1 (R.cov c hc b s hs) fun k hk=>?_
  refine cA2 (R.get b s k hk) fun _ hmax=>?_
  refine cX1 hmax.at' fun c2 yA=>cA2 yA fun hc2 hz2=>?_; clear yA
  have e1:=R.comp.size c hc c2 hc2 b m k hb hz hz2
  refine cX1 hz'.1 fun s' hs'=>?_
  have e2:=(sortOk b s' m' s k ((k7y J.soR b s').mp hs') ((z1n J ok b m').mp hz') hk).2 hb
  lia
 refine ⟨nd,get',cov',fun b hb=>?_,⟨fun c hc c' hc' b s s' h1 h2=>?_,fun c hc c' hc' b m m' hb h1 h2=>?_⟩⟩
 ·by_cases hbs:b∈so.map (·.1)
  ·exact z5Y ok J.soR hbs
  ·rw [← k1T,P1 b hbs,k1T] at hb
   exact R.keys b hb
 ·refine cX1 (cov' c hc b s h1) fun m hm=>?_
  refine cX1 (cov' c' hc' b s' h2) fun m' hm'=>?_
  rw [hm] at hm'; refine k1f hm' fun yA=>?_; clear hm'; refine k2X yA fun yB yC=>?_; clear yA; subst yB; subst yC; rfl
 ·refine Or.elim (w0g.mp hc) (fun hc=>?_) fun hc=>?_ <;> refine Or.elim (w0g.mp hc') (fun hc'=>?_) fun hc'=>?_
  ·exact R.comp.size c hc c' hc' b m m' hb h1 h2
  ·rw [w0h] at hc'; subst hc'
   exact cross c hc b m m' hb h1 h2
  ·rw [w0h] at hc; subst hc
   exact (cross c' hc' b m' m hb h2 h1).symm
  ·rw [w0h] at hc hc'; subst hc; subst hc'
   exact h1.2.uniq h2.2
theorem k9s.clash (R:k9s cs bl) (J:JnR u es rt ds so rf sz) (ok:u.Ok) {b:Nm} {s:Bool} {m:Int} (h1:k0Q so b = some s) (h2:k0Q sz b = some m) (hc:z2h (k0Q bl b) b s m) {cs':List k3M} (hsub:∀ c,c∈cs→c∈cs') (hu:u.core∈cs'):¬ z2k cs':=by
 intro K
 refine cX2 hc fun c0 k yA=>cA2 yA fun e h=>?_; clear hc yA
 refine cA2 (R.get b c0 k e) fun yA hmax=>cX1 yA fun c1 yB=>cA2 yB fun hc1 hb1=>?_; clear yA yB
 refine cX1 hmax.at' fun c2 yA=>cA2 yA fun hc2 hz2=>?_; clear yA
 refine Or.elim h ?_ ?_ <;> clear h; rotate_left; (intro yZ; refine cA2 yZ fun h3 h4=>?_; clear yZ); rotate_right; intro h
 ·exact h (K.sort c1 (hsub _ hc1) u.core hu b c0 s hb1 ((k7y J.soR b s).mpr h1))
 ·exact h4 (K.size c2 (hsub _ hc2) u.core hu b k m h3 hz2 ((z1n J ok b m).mpr h2))
end
noncomputable def k3u (s:Bool) (bl:Bl):Int:=(bl.map fun e=>if e.2.1 = s then e.2.2 else 0).sum
theorem k7g (s:Bool) (bl:Bl) (e:Nm × Bool × Int):k3u s (bl ++ [e]) = k3u s bl + if e.2.1 = s then e.2.2 else 0:=by
 unfold k3u
 rw [w0j,w0Y]; simp
theorem z3f (s:Bool) (bl bl':Bl):k3u s (bl ++ bl') = k3u s bl + k3u s bl':=by
 unfold k3u
 rw [w0j,w0Y]
theorem z3g (s:Bool) (bl:Bl) (h:∀ e,e∈bl→0≤e.2.2):0≤k3u s bl:=by
 induction bl with
 | nil=>simp [k3u]
 | cons e bl ih =>
  have e1:k3u s (e :: bl) = (if e.2.1 = s then e.2.2 else 0) + k3u s bl:=by unfold k3u; rw [w0f,w0Q]
  have:=ih fun e he=>h e (.tail _ he)
  have:=h e (.head _)
  rw [e1]
  split <;> lia
theorem two_keys {α:Type} (g:Nm × α→Int) (l:List (Nm × α)):(l.map (·.1)).Nodup→(∀ b,b∈l.map (·.1)→b = [88]∨b = []) →
  (l.map g).sum = (match k0Q l [88] with | some v=>g ([88],v) | none=>0) + (match k0Q l [] with | some v=>g ([],v) | none=>0):=by
 induction l with
 | nil=>exact fun Y Y=>rfl
 | cons p l q =>
  intro nd h
  have nd:=w0J.mp nd
  have n:=k1W.mpr nd.1
  rw [w0f,w0Q,q nd.2 fun b w=>h b (.tail _ w)]
  cases p with
  | mk k v =>
   refine Or.elim (h k (.head _)) (fun e=>?_) fun e=>?_
   ·subst e; rw [k1d,k1d,if_pos rfl,if_neg (by decide),n]; exact congrArg (_ + ·) (Int.zero_add _)
   ·subst e; rw [k1d,k1d,if_pos rfl,if_neg (by decide),n,Int.add_zero]; exact Int.add_comm _ _
theorem k9s.sum {cs:List k3M} {bl:Bl} (R:k9s cs bl) (s:Bool):k3u s bl = z5S cs [88] s + z5S cs [] s:=by
 unfold k3u
 rw [two_keys _ bl R.nd R.keys]
 have key:∀ b,(match k0Q bl b with | some v=>if v.1 = s then v.2 else 0 | none=>0) = z5S cs b s:=fun b=>by
  cases e:k0Q bl b with
  | none =>
   dsimp only
   refine (k7d fun m h=>?_).symm
   refine cA2 h fun yA _=>cX1 yA fun c yB=>cA2 yB fun hc hb=>?_; clear h yA yB
   refine cX1 (R.cov c hc b s hb) fun m' hm'=>?_
   rw [e] at hm'; exact kNS hm'
  | some p =>
   obtain ⟨s',m⟩:=p
   dsimp only
   by_cases q:s' = s
   ·subst q
    rw [if_pos rfl,z3d (R.get b s' m e)]
   ·rw [if_neg q]
    refine (k7d fun m h=>?_).symm
    refine cA2 h fun yA _=>cX1 yA fun c yB=>cA2 yB fun hc hb=>?_; clear h yA yB
    refine cX1 (R.cov c hc b s hb) fun m' hm'=>?_
    rw [e] at hm'; refine k1f hm' fun yA=>?_; clear hm'; refine k2X yA fun yB yC=>?_; clear yA; subst yB; subst yC; exact q rfl
 rw [← key,← key]
 cases k0Q bl [88] <;> cases k0Q bl [] <;> rfl
theorem BSz_pos {c:k3M} (G:c.Good) (ok:∀ n,(c.th n).Ok) {b:Nm} {m:Int} (h:c.BSz b m):1≤m:=by
 refine cA2 h fun yA h2=>cX1 yA fun s hs=>?_; clear h yA
 refine cX1 h2.at' fun n yA=>cA2 yA fun hn yB=>cX1 yB fun d yC=>cA2 yC fun hd e=>?_; clear yA yB yC
 have:=G.ahead b s n d hs hn hd
 have:=(ok n).size_pos
 lia
end T
namespace T
theorem k6l {h:Hp} {l c d:Nat} {es:List (Nm × V)} (h1:h[l]? = some (.inst c d)) (h2:h[d]? = some (.dict es)) (hl:es.length≤500) (name:Nm) (v:V) (Q:Po Unit) :
  wp (k6G name (.loc l) v) Q h = Q (.ok ()) (h.set d (.dict (k2c es name v))):=by
 rw [z5I]
 have:k3m h l = some (d,es):=by unfold k3m; rw [h1]; dsimp only; rw [h2]
 rw [this,k0g]
 simp only [hl,true_and]
theorem w_Layout {h:Hp} {Q:Po V} (h1:∀ h',k0M [] h h'→k1L h' (h.length + 1) h.length (h.length + 2) (h.length + 3) (h.length + 4) 0 0 [] [] []→h'.length = h.length + 5→Q (.ok (.loc (h.length + 1))) h'):wp (k8h []) Q h:=by
 unfold k8h
 rw [q_make]
 unfold k5o k6N
 rw [k1z]
 refine ⟨rfl,?_⟩
 have K0:k0M [] h (h ++ [O.dict []] ++ [O.inst 1 h.length]):=(k0M.alloc _ _ _).trans (k0M.alloc _ _ _)
 have a0:(h ++ [O.dict []] ++ [O.inst 1 h.length])[h.length]? = some (.dict []):=k0w (k0X _ _) _
 have b0:(h ++ [O.dict []] ++ [O.inst 1 h.length])[h.length + 1]? = some (.inst 1 h.length):=by
  have:=k0X (h ++ [O.dict []]) (O.inst 1 h.length)
  rw [w0t,w0B] at this; exact this
 have l0:(h ++ [O.dict []] ++ [O.inst 1 h.length]).length = h.length + 2:=by simp
 generalize h ++ [O.dict []] ++ [O.inst 1 h.length] = H0 at *
 simp only [w0f,w0n,Nat.sub_self,List.replicate,w0M,k0L,k0y,k9e,k1q,k4Z,k0s,rg0,rgS,w0a,k0g,k0u,k0r]
 rw [k6l (k0w b0 _) (k0w a0 _) (by simp)]
 have K1:k0M [] h ((H0 ++ [O.tdict []]).set h.length (.dict (k2c [] [112,108,97,99,101,115] (.loc H0.length)))):=(K0.trans (k0M.alloc _ _ _)).trans' (k0M.set (S:=[h.length]) (by simp) _ _) (fun i hi=>.inr (by simp at hi; lia))
 have a1:((H0 ++ [O.tdict []]).set h.length (.dict (k2c [] [112,108,97,99,101,115] (.loc H0.length))))[h.length]? = some (.dict [(k1X,.loc (h.length + 2))]):=by
  rw [k0J (k0w a0 _),l0]; rfl
 have b1:((H0 ++ [O.tdict []]).set h.length (.dict (k2c [] [112,108,97,99,101,115] (.loc H0.length))))[h.length + 1]? = some (.inst 1 h.length):=k0m (k0w b0 _) (by lia) _
 have c1:((H0 ++ [O.tdict []]).set h.length (.dict (k2c [] [112,108,97,99,101,115] (.loc H0.length))))[h.length + 2]? = some (.tdict []):=by
  have:=k0m (k0X H0 (O.tdict [])) (k:=h.length) (by lia) (.dict (k2c [] [112,108,97,99,101,115] (.loc H0.length)))
  rw [l0] at this ⊢; exact this
 have l1:((H0 ++ [O.tdict []]).set h.length (.dict (k2c [] [112,108,97,99,101,115] (.loc H0.length)))).length = h.length + 3:=by simp [l0]
 generalize (H0 ++ [O.tdict []]).set h.length (.dict (k2c [] [112,108,97,99,101,115] (.loc H0.length))) = H1 at *
 simp only [k0u,k0P,k1r,k0o,k0L,k0y,k4k,k1q,k4Z,k0s,rg0,rgS,w0a,k0g,k0r]
 rw [k6l b1 a1 (by simp)]
 have K2:k0M [] h (H1.set h.length (.dict (k2c [(k1X,.loc (h.length + 2))] [110,117,109,101,114,105,99] (.int 0)))):=K1.trans' (k0M.set (S:=[h.length]) (by simp) _ _) (fun i hi=>.inr (by simp at hi; lia))
 have a2:(H1.set h.length (.dict (k2c [(k1X,.loc (h.length + 2))] [110,117,109,101,114,105,99] (.int 0))))[h.length]? = some (.dict [(k1X,.loc (h.length + 2)),(k2e,.int 0)]):=by
  rw [k0J a1]; rfl
 have b2:=k0m b1 (k:=h.length) (by lia) (.dict (k2c [(k1X,.loc (h.length + 2))] [110,117,109,101,114,105,99] (.int 0)))
 have c2:=k0m c1 (k:=h.length) (by lia) (.dict (k2c [(k1X,.loc (h.length + 2))] [110,117,109,101,114,105,99] (.int 0)))
 have l2:(H1.set h.length (.dict (k2c [(k1X,.loc (h.length + 2))] [110,117,109,101,114,105,99] (.int 0)))).length = h.length + 3:=by simp [l1]
 generalize H1.set h.length (.dict (k2c [(k1X,.loc (h.length + 2))] [110,117,109,101,114,105,99] (.int 0))) = H2 at *
 simp only [k0u,k0P,k1r,k0o,k0L,k0y,k4k,k1q,k4Z,k0s,rg0,rgS,w0a,k0g,k0r]
 rw [k6l b2 a2 (by simp)]
 have K3:k0M [] h (H2.set h.length (.dict (k2c [(k1X,.loc (h.length + 2)),(k2e,.int 0)] [99,104,97,114,97,99,116,101,114,115] (.int 0)))):=K2.trans' (k0M.set (S:=[h.length]) (by simp) _ _) (fun i hi=>.inr (by simp at hi; lia))
 have a3:(H2.set h.length (.dict (k2c [(k1X,.loc (h.length + 2)),(k2e,.int 0)] [99,104,97,114,97,99,116,101,114,115] (.int 0))))[h.length]? = some (.dict [(k1X,.loc (h.length + 2)),(k2e,.int 0),(k5v,.int 0)]):=by
  rw [k0J a2]; rfl
 have b3:=k0m b2 (k:=h.length) (by lia) (.dict (k2c [(k1X,.loc (h.length + 2)),(k2e,.int 0)] [99,104,97,114,97,99,116,101,114,115] (.int 0)))
 have c3:=k0m c2 (k:=h.length) (by lia) (.dict (k2c [(k1X,.loc (h.length + 2)),(k2e,.int 0)] [99,104,97,114,97,99,116,101,114,115] (.int 0)))
 have l3:(H2.set h.length (.dict (k2c [(k1X,.loc (h.length + 2)),(k2e,.int 0)] [99,104,97,114,97,99,116,101,114,115] (.int 0)))).length = h.length + 3:=by simp [l2]
 generalize H2.set h.length (.dict (k2c [(k1X,.loc (h.length + 2)),(k2e,.int 0)] [99,104,97,114,97,99,116,101,114,115] (.int 0))) = H3 at *
 simp only [k0u,k0P,k1r,k0o,k0L,k0y,k3Z,k1q,k4Z,k0s,rg0,rgS,w0a,k0g,k0r]
 rw [k6l (k0w b3 _) (k0w a3 _) (by simp)]
 have K4:k0M [] h ((H3 ++ [O.dict []]).set h.length (.dict (k2c [(k1X,.loc (h.length + 2)),(k2e,.int 0),(k5v,.int 0)] [98,108,111,99,107,115] (.loc H3.length)))):=(K3.trans (k0M.alloc _ _ _)).trans' (k0M.set (S:=[h.length]) (by simp) _ _) (fun i hi=>.inr (by simp at hi; lia))
 have a4:((H3 ++ [O.dict []]).set h.length (.dict (k2c [(k1X,.loc (h.length + 2)),(k2e,.int 0),(k5v,.int 0)] [98,108,111,99,107,115] (.loc H3.length))))[h.length]? = some (.dict [(k1X,.loc (h.length + 2)),(k2e,.int 0),(k5v,.int 0),(z2W,.loc (h.length + 3))]):=by
  rw [k0J (k0w a3 _),l3]; rfl
 have b4:=k0m (k0w b3 (O.dict [])) (k:=h.length) (by lia) (.dict (k2c [(k1X,.loc (h.length + 2)),(k2e,.int 0),(k5v,.int 0)] [98,108,111,99,107,115] (.loc H3.length)))
 have c4:=k0m (k0w c3 (O.dict [])) (k:=h.length) (by lia) (.dict (k2c [(k1X,.loc (h.length + 2)),(k2e,.int 0),(k5v,.int 0)] [98,108,111,99,107,115] (.loc H3.length)))
 have d4:((H3 ++ [O.dict []]).set h.length (.dict (k2c [(k1X,.loc (h.length + 2)),(k2e,.int 0),(k5v,.int 0)] [98,108,111,99,107,115] (.loc H3.length))))[h.length + 3]? = some (.dict []):=by
  have:=k0m (k0X H3 (O.dict [])) (k:=h.length) (by lia) (.dict (k2c [(k1X,.loc (h.length + 2)),(k2e,.int 0),(k5v,.int 0)] [98,108,111,99,107,115] (.loc H3.length)))
  rw [l3] at this ⊢; exact this
 have l4:((H3 ++ [O.dict []]).set h.length (.dict (k2c [(k1X,.loc (h.length + 2)),(k2e,.int 0),(k5v,.int 0)] [98,108,111,99,107,115] (.loc H3.length)))).length = h.length + 4:=by simp [l3]
 generalize (H3 ++ [O.dict []]).set h.length (.dict (k2c [(k1X,.loc (h.length + 2)),(k2e,.int 0),(k5v,.int 0)] [98,108,111,99,107,115] (.loc H3.length))) = H4 at *
 simp only [k0u,k0P,k1r,k0o,k0L,k0y,k3Z,k1q,k4Z,k0s,rg0,rgS,w0a,k0g,k0r]
 rw [k6l (k0w b4 _) (k0w a4 _) (by simp)]
 simp only [k0u,k0P,k1r,k0o,k1Q,k4N]
 refine h1 _ ((K4.trans (k0M.alloc _ _ _)).trans' (k0M.set (S:=[h.length]) (by simp) _ _) (fun i hi=>.inr (by simp at hi; lia))) ⟨k0m (k0w b4 _) (by lia) _,?_,k0m (k0w c4 _) (by lia) _,k0m (k0w d4 _) (by lia) _,?_,by simp⟩ (by simp [l4])
 ·rw [k0J (k0w a4 _),l4]; rfl
 ·have:=k0m (k0X H4 (O.dict [])) (k:=h.length) (by lia) (.dict (k2c [(k1X,.loc (h.length + 2)),(k2e,.int 0),(k5v,.int 0),(z2W,.loc (h.length + 3))] [99,108,101,97,114,115] (.loc H4.length)))
  rw [l4] at this ⊢; exact this
theorem w_Space {h:Hp} {nm:Nm} {t c g k:Nat} {Q:Po V} (h1:∀ h',k0M [] h h'→h'.length = h.length + 2→h'[h.length + 1]? = some (.inst 0 h.length) →
   h'[h.length]? = some (.dict [(kName,.str nm),(z1b,.loc t),(k8j,.loc c),(z1c,.loc g),(kKept,.loc k)])→Q (.ok (.loc (h.length + 1))) h') :
  wp (z0U [.str nm,.loc t,.loc c,.loc g,.loc k]) Q h:=by
 unfold z0U
 rw [q_make]
 unfold k5F k7P
 rw [k1z]
 refine ⟨rfl,?_⟩
 have K0:k0M [h.length] h (h ++ [O.dict []] ++ [O.inst 0 h.length]):=(k0M.alloc _ _ _).trans (k0M.alloc _ _ _)
 have a0:(h ++ [O.dict []] ++ [O.inst 0 h.length])[h.length]? = some (.dict []):=k0w (k0X _ _) _
 have b0:(h ++ [O.dict []] ++ [O.inst 0 h.length])[h.length + 1]? = some (.inst 0 h.length):=by
  have:=k0X (h ++ [O.dict []]) (O.inst 0 h.length)
  rw [w0t,w0B] at this; exact this
 have l0:(h ++ [O.dict []] ++ [O.inst 0 h.length]).length = h.length + 2:=by simp
 generalize h ++ [O.dict []] ++ [O.inst 0 h.length] = H0 at *
 simp only [w0f,w0n,Nat.sub_self,List.replicate,w0M,k0L,k0y,k0s,rg0,rgS,w0a,k0g,k1q,k4Z,k0u,k0r]
 rw [k6l b0 a0 (by simp)]
 simp only [k0u,k0P,k1r,k0o,k0L,k0y,k0s,rg0,rgS,w0a,k0g,k1q,k4Z,k0u,k0r]
 rw [k6l (k0m b0 (by lia) _) (k0J a0 _) (by simp [k2c]),w1v]
 simp only [k0u,k0P,k1r,k0o,k0L,k0y,k0s,rg0,rgS,w0a,k0g,k1q,k4Z,k0u,k0r]
 rw [k6l (k0m b0 (by lia) _) (k0J a0 _) (by simp [k2c]),w1v]
 simp only [k0u,k0P,k1r,k0o,k0L,k0y,k0s,rg0,rgS,w0a,k0g,k1q,k4Z,k0u,k0r]
 rw [k6l (k0m b0 (by lia) _) (k0J a0 _) (by simp [k2c]),w1v]
 simp only [k0u,k0P,k1r,k0o,k0L,k0y,k0s,rg0,rgS,w0a,k0g,k1q,k4Z,k0u,k0r]
 rw [k6l (k0m b0 (by lia) _) (k0J a0 _) (by simp [k2c]),w1v]
 simp only [k0u,k0P,k1r,k0o,k1Q,k4N]
 refine h1 _ ((K0.trans (k0M.set (by simp) _ _)).mono fun i hi=>.inr (by simp at hi; lia)) (by simp [l0]) (k0m b0 (by lia) _) ?_
 rw [k0J a0]; rfl
end T
namespace T
structure Sp where
 nm:Nm
 u:Un
 s:Nat
 d:Nat
 t:Nat
 c:Nat
 g:Nat
 k:Nat
noncomputable abbrev SpAt (h:Hp) (b:Nat) (x:Sp):Prop:=k2m h b x.s x.nm x.d x.t x.c x.g x.k x.u
structure Jn where
 x:Sp
 a:Nat
 r:Nat
 es:Ab
 rt:Nm→Nm
 ds:Nm→Int
 so:List (Nm × Bool)
 rf:Rf
 sz:List (Nm × Int)
structure Jn.Ok (j:Jn):Prop where
 ok:j.x.u.Ok
 R:JnR j.x.u j.es j.rt j.ds j.so j.rf j.sz
structure JnAt (h:Hp) (j:Jn):Prop where
 a:h[j.a]? = some (.dict (k3K j.es))
 r:h[j.r]? = some (.dict (k1F encR j.rf))
noncomputable def encJ (j:Jn):V:=.tup [.loc j.a,.loc j.r]
noncomputable def k3Y (js:List Jn):List k3M:=js.map fun j=>j.x.u.core
noncomputable def z0u:Reg→X (Fl × Reg) :=
 (k0H (k0p (k1g k0V (k0d 3) (k0d 10)) (k1o 2 (k0q (k0l 11) (k0q (k0l 12) k1n))))
 (k0H (k0p (k3e (k0f (k0d 11) (k0f (k1c k3s (k0f (k0d 2) (k0f (k0d 11) (k0f (k0d 12) (k0f (k0d 1) k0T))))) (k0f (k0d 12) k0T)))) (k7Z (k2K [98,108,111,99,107,115] (k0d 2)) (k0d 10)))
 k1s))
noncomputable def blkG (B:Bk):Gs:=B.map fun e=>(RK.blk e.1,e.2.1,e.2.2.1,e.2.2.1 + e.2.2.2)
theorem z1o {h:Hp} {m d p bk c lb:Nat} (M:k1L h m d p bk c 0 0 [] [] []) {bl:Bl} (hlb:h[lb]? = some (.dict (k1F k9D bl))) (nd:(bl.map (·.1)).Nodup) (hl:bl.length≤40) (hM:lb∉[m,d,p,bk,c])
  (pos:∀ e,e∈bl→0≤e.2.2) {most:Int} (hmost:0≤most) {v0 v4 g5 g6 g7 g8 g9 g10 g11 g12 g13:Option V} {Q:Po (Fl × Reg)}
  (h1:∀ h' B (g10 g11 g12:Option V),k0M [d,bk] h h'→k1L h' m d p bk c (k3u false bl) (k3u true bl) [] B []→(B.map fun e=>(e.1,e.2.1,e.2.2.2)) = bl→k5K (blkG B) (k3u false bl) (k3u true bl) →
   (∀ s,k3u s bl≤most)→Q (.ok (.next,[v0,some (.int most),some (.loc m),some (.loc lb),v4,g5,g6,g7,g8,g9,g10,g11,g12,g13])) h')
  (h2:∀ h',k0M [d,bk] h h'→(∃ s,most < k3u s bl)→Q (.error .lay) h') :
  wp (k8b (k0l 10) z0u (.dict lb bl.length) 64 0 [v0,some (.int most),some (.loc m),some (.loc lb),v4,g5,g6,g7,g8,g9,g10,g11,g12,g13]) Q h:=by
 simp only [w0c,w0i,or_false,not_or] at hM
 refine cA5 hM fun c1 c2 c3 c4 c5=>?_; clear hM
 refine cA10 M.ne fun a1 a2 a3 a4 a5 a6 a7 a8 a9 a10=>?_
 let I:=fun (pre:Bl) (reg:Reg) (h':Hp)=>(∃ g10 g11 g12,reg = [v0,some (.int most),some (.loc m),some (.loc lb),v4,g5,g6,g7,g8,g9,g10,g11,g12,g13])∧k0M [d,bk] h h' ∧
  ∃ B,k1L h' m d p bk c (k3u false pre) (k3u true pre) [] B []∧(B.map fun e=>(e.1,e.2.1,e.2.2.2)) = pre∧k5K (blkG B) (k3u false pre) (k3u true pre)∧∀ s,k3u s pre≤most
 have e0:∀ s,k3u s [] = 0:=fun s=>rfl
 refine k4m bl (fun e=>V.str e.1) I (by lia) (fun pre suf reg h' e hI=>?_) ⟨(iX3 rfl),k0M.refl _ _,[],M,rfl,⟨w0L,.nil,fun x hx=>by simp [blkG] at hx⟩,fun s=>by rw [e0]; exact hmost⟩ (fun pre x suf reg h' e hI=>?_) (fun reg h' hI=>?_)
 ·have:=k5a (hI.2.1.get hlb (by simp; (clear hI; lia))) pre.length
  rw [k1B] at this
  unfold k1F at this
  rw [w0k] at this
  exact this
 ·refine cA3 hI fun yA K yB=>cX3 yA fun g10 g11 g12 yC=>?_; clear hI yA; subst yC; refine cX1 yB fun B yD=>cA4 yD fun M' hB AP hfit=>?_; clear yB yD
  have hx:x∈bl:=by rw [e]; simp
  obtain ⟨b,s,z⟩:=x
  have hlb':=K.get hlb (by simp; lia)
  have hget:=k1k nd hx
  have hz:0≤z:=pos _ hx
  unfold z0u
  rw [k0x,k0u]
  simp only [w0e,w0d,k0L,k0y,k1i,k0s,rg0,rgS,w0a,k0g,k0u,k0r,k1R,hlb',k1j,k1h,hget,w0x,k9D,k1q,k1I,w0s,w0q,w0y,true_and,k1w,k0x,k2j,k1H,k1r,k0o,k2h,k0z,k0E,k0K,k0D,k0C,k0O,k0W]
  rw [k7U M']
  have ectr:(if s then k3u true pre else k3u false pre) = k3u s pre:=by cases s <;> rfl
  rw [ectr]
  have epre:∀ s,k3u s bl = k3u s (pre ++ [(b,s,z)]) + k3u s suf∨True:=fun s=>.inr trivial
  have enew:k3u s (pre ++ [(b,s,z)]) = k3u s pre + z:=by rw [k7g,if_pos rfl]
  have eoth:∀ s',s'≠s→k3u s' (pre ++ [(b,s,z)]) = k3u s' pre:=fun s' h=>by rw [k7g,if_neg (Ne.symm h),Int.add_zero]
  by_cases em:most < k3u s pre + z
  ·rw [if_pos em]
   simp only [z2R,k6d,z1U,k2l,k2p]
   refine h2 h' K ⟨s,?_⟩
   rw [e,w2a,z3f,enew]
   have:=z3g s suf fun y hy=>pos y (by rw [e]; simp [hy])
   lia
  ·rw [if_neg em]
   have M1:=M'.setF (if s then k3u false pre else k3u false pre + z) (if s then k3u true pre + z else k3u true pre)
   have eN:(if s then k3u false pre else k3u false pre + z) = k3u false (pre ++ [(b,s,z)]):=by cases s <;> simp [k7g]
   have eC:(if s then k3u true pre + z else k3u true pre) = k3u true (pre ++ [(b,s,z)]):=by cases s <;> simp [k7g]
   have hbB:b∉B.map (·.1):=by
    have e1:B.map (·.1) = pre.map (·.1):=by rw [← hB,w0k]; rfl
    rw [e1]
    intro q
    rw [e,w0j,w0w] at nd
    exact nd.2.2 b q b (by simp) rfl
   have AP1:=AP.push (k:=RK.blk b) (by
    unfold blkG
    rw [w0k]
    intro q
    refine cX1 (w0b.mp q) fun y yA=>cA2 yA fun hy ey=>?_; clear yA
    have:RK.blk y.1 = RK.blk b:=ey
    cases this
    exact hbB (w0b.mpr ⟨y,hy,rfl⟩)) s hz
   rw [eN,eC,ectr] at AP1
   rw [eN,eC] at M1 ⊢
   have K1:=K.trans (k0M.set (S:=[d,bk]) (by simp) h' (.dict (k6b p bk c (k3u false (pre ++ [(b,s,z)])) (k3u true (pre ++ [(b,s,z)])))) (l:=d))
   generalize h'.set d (.dict (k6b p bk c (k3u false (pre ++ [(b,s,z)])) (k3u true (pre ++ [(b,s,z)])))) = H1 at *
   have hBl:(k1F encK B).length≤4000:=by
    rw [k1B]
    have:B.length = pre.length:=by rw [← hB]; simp
    have h2:pre.length≤bl.length:=by rw [e]; simp
    lia
   simp only [k0E,k0z,k0s,rg0,rgS,w0a,k0g,k0C,k0O,k1q,k4H,k2v,k0u,k0r,M1.blocks,k6w,M1.hb,k2C,hBl,if_true,k0P,k1r,k0o,k1Q,k0S]
   have eput:k2c (k1F encK B) b (V.tup [V.bool s,V.int (k3u s pre),V.int z]) = k1F encK (B ++ [(b,s,k3u s pre,z)]):=by
    have:V.tup [V.bool s,V.int (k3u s pre),V.int z] = encK (s,k3u s pre,z):=rfl
    rw [this,k3i,k2I (k1W.mpr hbB)]
   rw [eput]
   refine ⟨(iX3 rfl),K1.trans (k0M.set (by simp) _ _),_,M1.setB _,by rw [w0j,hB]; rfl,?_,fun s'=>?_⟩
   ·have:blkG (B ++ [(b,s,k3u s pre,z)]) = blkG B ++ [(RK.blk b,s,k3u s pre,k3u s pre + z)]:=by unfold blkG; rw [w0j]; rfl
    rw [this]; exact AP1
   ·by_cases w:s' = s
    ·subst w; rw [enew]; lia
    ·rw [eoth s' w]; exact hfit s'
 ·refine cA3 hI fun yA K yB=>cX3 yA fun g10 g11 g12 yC=>?_; clear hI yA; subst yC; refine cX1 yB fun B yD=>cA4 yD fun M' hB AP hfit=>?_; clear yB yD
  exact h1 h' B _ _ _ K M' hB AP hfit
theorem k6z.mono {u:Un} {nm:Nm} {rt:Nm→Nm} {ds:Nm→Int} {rf:Rf} {B:Bk} {G G':Gs} {P P':Pl} (x:k6z u nm rt ds rf B G P) (hG:∀ y,y∈G→y∈G') (hP:∀ n,k0Q P' (nm,n) = k0Q P (nm,n)):k6z u nm rt ds rf B G' P':=by
 intro n hn
 refine cA2 (x n hn) fun h1 h2=>?_
 rw [hP]
 refine ⟨h1,fun q=>?_⟩
 refine cX1 (h2 q) fun lo yA=>cA2 yA fun q1 q2=>?_; clear yA
 exact ⟨lo,hG _ q1,q2⟩
noncomputable def z2n:Reg→X (Fl × Reg) :=
 (k0H (k4c (k1c k5h (k0f (k0d 2) (k0f (k1g k0V (k0d 0) (k0d 13)) (k0f (k1g k0V (k1g k0V (k0d 4) (k0d 13)) (cI 0)) (k0f (k1g k0V (k1g k0V (k0d 4) (k0d 13)) (cI 1)) (k0f (k0d 1) k0T)))))))
 k1s)
noncomputable def k6m (s:Bool) (js:List Jn):Int:=((k3Y js).map fun c=>c.sum s).sum
theorem k9t (s:Bool) (js:List Jn) (j:Jn):k6m s (js ++ [j]) = k6m s js + j.x.u.core.sum s:=by
 unfold k6m k3Y
 rw [w0j,w0j,w0Y]; simp
theorem z3h (s:Bool) (js js':List Jn):k6m s (js ++ js') = k6m s js + k6m s js':=by
 unfold k6m k3Y
 rw [w0j,w0j,w0Y]
theorem z4I {j:Jn} (J:j.Ok) (s:Bool):0≤j.x.u.core.sum s:=by
 rw [← z3R J.R J.ok s]
 refine k6A J.ok.th _ fun r hr=>?_
 rw [k5t] at hr
 refine Or.elim hr ?_ ?_ <;> clear hr; rotate_left; (intro yZ; refine cX1 yZ fun n yA=>cA3 yA fun h1 h2 _=>?_; clear yZ yA); rotate_right; intro hr
 ·simp at hr
 ·exact ⟨n,h1,h2⟩
theorem k9u (s:Bool) (js:List Jn) (h:∀ j,j∈js→j.Ok):0≤k6m s js:=by
 induction js with
 | nil=>simp [k6m,k3Y]
 | cons j js ih =>
  have h1:=ih fun j hj=>h j (.tail _ hj)
  have h2:=z4I (h j (.head _)) s
  have e:k6m s (j :: js) = j.x.u.core.sum s + k6m s js:=by unfold k6m k3Y; rw [w0f,w0f,w0Q]
  lia
noncomputable def k7h (h:Hp) (cl:List (Nm × Nat)) (j:Jn):Prop:=∃ (lc:Nat) (cr:List (Bool × Int × Int)),k0Q cl j.x.nm = some lc∧h[lc]? = some (.list (cr.map k5I)) ∧
 (cr.map fun q=>(q.1,q.2.2 - q.2.1)) = ((k1l j.rt (fun x=>(k0Q j.rf x).isSome) j.x.u.ord []).filter fun r=>k5L j.rt j.ds j.x.u.ord r j.x.u.kept).map (fun r=>(k5X j.x.u.th j.rt j.ds j.x.u.ord r,k8k j.x.u.th j.rt j.ds j.x.u.ord r))
theorem z2o {h:Hp} {m d p bk c b sl lj:Nat} {N0 C0:Int} {B:Bk} (M:k1L h m d p bk c N0 C0 [] B []) (hB:k3d [m,d,p,bk,c] b) (hb:b≤h.length) {js:List Jn} (jl:js.length≤2) (jok:∀ j,j∈js→j.Ok) (jat:∀ j,j∈js→JnAt h j) (jsp:∀ j,j∈js→SpAt h b j.x)
  (jne:∀ j,j∈js→j.a∉[m,d,p,bk,c]∧j.r∉[m,d,p,bk,c]) (nmd:(js.map fun j=>j.x.nm).Nodup) (hsl:h[sl]? = some (.list (js.map fun j=>.loc j.x.s))) (hlj:h[lj]? = some (.list (js.map encJ))) (nsl:sl∉[m,d,p,bk,c]) (nlj:lj∉[m,d,p,bk,c])
  (cov:∀ j,j∈js→∀ b,b∈j.so.map (·.1)→∃ s lo z,k0Q B b = some (s,lo,z)) {G:Gs} (AP:k5K G N0 C0) (hG:∀ x,x∈G→∀ nm q,x.1≠RK.cls nm q) {most:Int} (hN0:N0≤most) (hC0:C0≤most) {v3 g5 g6 g7 g8 g9 g10 g11 g12 g13:Option V} {Q:Po (Fl × Reg)}
  (h1:∀ (h':Hp) (P:Pl) (G':Gs) (cl:List (Nm × Nat)) (g13:Option V),k0M [d,p,c] h h'→k1L h' m d p bk c (N0 + k6m false js) (C0 + k6m true js) P B cl→k5K (G ++ G') (N0 + k6m false js) (C0 + k6m true js)→N0 + k6m false js≤most→C0 + k6m true js≤most →
   (∀ j,j∈js→k6z j.x.u j.x.nm j.rt j.ds j.rf B (G ++ G') P∧k7h h' cl j)→Q (.ok (.next,[some (.loc sl),some (.int most),some (.loc m),v3,some (.loc lj),g5,g6,g7,g8,g9,g10,g11,g12,g13])) h')
  (h2:∀ h',k0M [d,p,c] h h'→(∃ s,most < (if s then C0 else N0) + k6m s js)→Q (.error .lay) h') :
  wp (k8b (k0l 13) z2n (.rng js.length) 64 0 [some (.loc sl),some (.int most),some (.loc m),v3,some (.loc lj),g5,g6,g7,g8,g9,g10,g11,g12,g13]) Q h:=by
 refine cA10 M.ne fun a1 a2 a3 a4 a5 a6 a7 a8 a9 a10=>?_
 simp only [w0c,w0i,or_false,not_or] at nsl nlj
 refine cA5 nsl fun s1 s2 s3 s4 s5=>?_; clear nsl
 refine cA5 nlj fun t1 t2 t3 t4 t5=>?_; clear nlj
 have Ld:=k0t M.hd
 have Lp:=k0t M.hp
 have Lc:=k0t M.hc
 have B0:k3d [d,p,c] b:=fun i hi=>by
  simp at hi
  (refine Or.elim hi (fun yY=>?_) fun yZ=>?_ <;> clear hi; rotate_left; (refine Or.elim yZ ?_ ?_ <;> clear yZ; rotate_left; (intro yZ; subst yZ); rotate_right; (intro yY; subst yY)); rotate_right; subst yY) <;> exact hB _ (by simp)
 let I:=fun (pre:List Nat) (reg:Reg) (h':Hp)=>(∃ g13,reg = [some (.loc sl),some (.int most),some (.loc m),v3,some (.loc lj),g5,g6,g7,g8,g9,g10,g11,g12,g13])∧k0M [d,p,c] h h' ∧
  ∃ (P:Pl) (G':Gs) (cl:List (Nm × Nat)),k1L h' m d p bk c (N0 + k6m false (js.take pre.length)) (C0 + k6m true (js.take pre.length)) P B cl∧k5K (G ++ G') (N0 + k6m false (js.take pre.length)) (C0 + k6m true (js.take pre.length)) ∧
   N0 + k6m false (js.take pre.length)≤most∧C0 + k6m true (js.take pre.length)≤most∧(∀ x,x∈G'→∃ j q,j∈js.take pre.length∧x.1 = RK.cls j.x.nm q)∧P.length≤20 * pre.length∧cl.length≤pre.length ∧
   ∀ j,j∈js.take pre.length→k6z j.x.u j.x.nm j.rt j.ds j.rf B (G ++ G') P∧k7h h' cl j∧∀ lc,k0Q cl j.x.nm = some lc→h.length≤lc
 have e0:∀ s,k6m s [] = 0:=fun s=>rfl
 refine k4m (List.range js.length) (fun i:Nat=>V.int (i:Int)) I (by simp; lia) (fun pre suf reg h' e hI=>z1Z _ _ _) ⟨⟨_,rfl⟩,k0M.refl _ _,[],[],[],?_,?_,?_,?_,fun x hx=>by simp at hx,by simp,by simp,fun j hj=>by simp at hj⟩ (fun pre x suf reg h' e hI=>?_) (fun reg h' hI=>?_)
 ·rw [w0q,w1K,e0,e0,Int.add_zero,Int.add_zero]; exact M
 ·rw [w0q,w1K,e0,e0,Int.add_zero,Int.add_zero,w0M]; exact AP
 ·rw [w0q,w1K,e0,Int.add_zero]; exact hN0
 ·rw [w0q,w1K,e0,Int.add_zero]; exact hC0
 ·refine cA3 hI fun yA K yB=>cX1 yA fun g13 yC=>?_; clear hI yA; subst yC; refine cX3 yB fun P G' cl yD=>cA8 yD fun M' AP' hN hC hG' hPl hcl hj=>?_; clear yB yD
  have hlen:pre.length < js.length:=by
   have:(List.range js.length).length = (pre ++ x :: suf).length:=by rw [e]
   simp at this; lia
  have hxe:x = pre.length:=by
   have h1:(List.range js.length)[pre.length]? = some x:=by rw [e]; simp
   rw [w2p hlen] at h1
   exact (Option.some.inj h1).symm
  subst hxe
  obtain ⟨j,hjj⟩:∃ j,js[pre.length]? = some j:=⟨js[pre.length],w0A hlen⟩
  have hjm:j∈js:=w0z hjj
  have htake:js.take (pre.length + 1) = js.take pre.length ++ [j]:=by
   rw [List.take_add_one,hjj]; rfl
  have hnew:j.x.nm∉(js.take pre.length).map fun j=>j.x.nm:=by
   intro q
   have e1:js.map (fun j=>j.x.nm) = (js.take (pre.length + 1)).map (fun j=>j.x.nm) ++ (js.drop (pre.length + 1)).map fun j=>j.x.nm:=by rw [← w0j,w2d]
   rw [e1,htake,w0w] at nmd
   have:=nmd.1
   rw [w0j,w0w] at this
   exact this.2.2 _ q _ (by simp) rfl
  have hsl':=K.get hsl (by simp; lia)
  have hlj':=K.get hlj (by simp; lia)
  refine cA2 (jne j hjm) fun na nr=>?_
  have na':=na
  have nr':=nr
  simp only [w0c,w0i,or_false,not_or] at na' nr'
  have ha':=K.get (jat j hjm).a (by simp; lia)
  have hr':=K.get (jat j hjm).r (by simp; lia)
  have i1:(js.map fun j=>V.loc j.x.s)[pre.length]? = some (.loc j.x.s):=by rw [w0H,hjj]; rfl
  have i2:(js.map encJ)[pre.length]? = some (.tup [.loc j.a,.loc j.r]):=by rw [w0H,hjj]; rfl
  have i3:(0:Int)≤(pre.length:Int)∧(pre.length:Int) < 4096:=by lia
  unfold z2n
  rw [k0x,k0u]
  simp only [w0e,w0d,k0L,k3P,k0K,k0D,k0z,k0s,rg0,rgS,w0a,k0g,k0E,k1i,k0u,k0r,k1R,hsl',hlj',k5U,i3,and_self,if_true,Int.toNat_natCast,i1,i2,k4k,k3c,Int.toNat_zero,Int.toNat_one]
  refine ⟨by decide,by decide,?_⟩
  simp only [k0C,k0O,k0W]
  refine z4H M' (jok j hjm).ok ((jsp j hjm).keep K B0) (by have:=K.len; lia) hB ha' (jok j hjm).R.ab (jok j hjm).R.esl hr' (jok j hjm).R.roots na nr (fun b hb=>cov j hjm b hb) (by lia) (by lia) AP' (fun y hy q=>?_) most
   (fun h'' N' C' P' G'' lc cr K'' M'' Llc glc eN eC fN fC AP'' hG'' Pd Pl' Plen hcr=>?_) (fun h'' K'' hbad=>?_)
  ·refine Or.elim (w0g.mp hy) (fun hy=>?_) fun hy=>?_
   ·exact hG y hy _ _
   ·refine cX2 (hG' y hy) fun j' q' yA=>cA2 yA fun w1 w2=>?_; clear yA
    rw [w2]
    intro w
    injection w with w3 w4
    exact hnew (w0b.mpr ⟨j',w1,w3⟩)
  ·rw [k0O,k0o,k1Q,k0S]
   have eN':N' = N0 + k6m false (js.take (pre.length + 1)):=by
    rw [eN,htake,k9t,z3R (jok j hjm).R (jok j hjm).ok false]; lia
   have eC':C' = C0 + k6m true (js.take (pre.length + 1)):=by
    rw [eC,htake,k9t,z3R (jok j hjm).R (jok j hjm).ok true]; lia
   have el:(pre ++ [pre.length]).length = pre.length + 1:=by simp
   refine ⟨⟨_,rfl⟩,K.trans K'',P',G' ++ G'',k2c cl j.x.nm lc,?_,?_,?_,?_,fun y hy=>?_,?_,?_,fun j' hj'=>?_⟩
   ·rw [el,← eN',← eC']; exact M''
   ·rw [el,← eN',← eC',← w0Z]; exact AP''
   ·rw [el,← eN']; exact fN hN
   ·rw [el,← eC']; exact fC hC
   ·rw [el,htake]
    refine Or.elim (w0g.mp hy) (fun hy=>?_) fun hy=>?_
    ·refine cX2 (hG' y hy) fun j' q' yA=>cA2 yA fun w1 w2=>?_; clear yA
     exact ⟨j',q',by simp [w1],w2⟩
    ·refine cX1 (hG'' y hy) fun q' w=>?_
     exact ⟨j,q',by simp,w⟩
   ·rw [el]; lia
   ·rw [el]; have:=k2y cl j.x.nm lc; lia
   ·rw [el,htake] at hj'
    refine Or.elim (w0g.mp hj') (fun hj'=>?_) fun hj'=>?_
    ·have hne:j'.x.nm≠j.x.nm:=fun w=>hnew (w0b.mpr ⟨j',hj',w⟩)
     refine cA3 (hj j' hj') fun w1 yA w5=>cX2 yA fun lc' cr' yB=>cA3 yB fun w2 w3 w4=>?_; clear yA yB
     have e1:k0Q (k2c cl j.x.nm lc) j'.x.nm = k0Q cl j'.x.nm:=by rw [k2o,if_neg (Ne.symm hne)]
     refine ⟨w1.mono (fun y hy=>?_) (fun n=>Pd _ hne),⟨lc',cr',?_,?_,w4⟩,fun l hl=>?_⟩
     ·refine Or.elim (w0g.mp hy) (fun hy=>?_) fun hy=>?_
      ·exact w0R _ hy
      ·exact w1p _ (w0R _ hy)
     ·rw [e1]; exact w2
     ·refine K''.get w3 ?_
      have:=w5 lc' w2
      simp; lia
     ·rw [e1] at hl; exact w5 l hl
    ·rw [w0h] at hj'; subst hj'
     refine ⟨Pl'.mono (fun y hy=>w1p _ (w1p _ hy)) (fun n=>rfl),⟨lc,cr,?_,glc,hcr⟩,fun l hl=>?_⟩
     ·rw [k2o,if_pos rfl]
     ·rw [k2o,if_pos rfl] at hl; refine k1f hl fun yA=>?_; clear hl; subst yA
      have:=K.len; lia
  ·simp only [k6d,k2l,k2p]
   refine cX1 hbad fun s hs=>?_; clear hbad
   refine h2 h'' (K.trans K'') ⟨s,?_⟩
   rw [z3R (jok j hjm).R (jok j hjm).ok s] at hs
   have e1:js = js.take pre.length ++ [j] ++ js.drop (pre.length + 1):=by rw [← htake,w2d]
   have e2:k6m s js = k6m s (js.take pre.length) + j.x.u.core.sum s + k6m s (js.drop (pre.length + 1)):=by
    conv=>lhs; rw [e1]
    rw [z3h,k9t]
   have:=k9u s (js.drop (pre.length + 1)) fun j hj=>jok j (List.mem_of_mem_drop hj)
   rw [e2]
   cases s <;> simp at hs ⊢ <;> lia
 ·refine cA3 hI fun yA K yB=>cX1 yA fun g13 yC=>?_; clear hI yA; subst yC; refine cX3 yB fun P G' cl yD=>cA8 yD fun M' AP' hN hC hG' hPl hcl hj=>?_; clear yB yD
  rw [w1e,List.take_length] at M' AP' hN hC hj
  exact h1 h' P G' cl _ K M' AP' hN hC fun j hjm=>⟨(hj j hjm).1,(hj j hjm).2.1⟩
end T
namespace T
structure k9v (h:Hp) (m:Nat) (js:List Jn) (N C:Int) (P:Pl) (B:Bk) (cl:List (Nm × Nat)) (G:Gs):Prop where
 made:∃ d p bk c,k1L h m d p bk c N C P B cl
 eN:N = Tot (k3Y js) false
 eC:C = Tot (k3Y js) true
 ap:k5K G N C
 bnd:(B.map (·.1)).Nodup
 bkeys:∀ b,b∈B.map (·.1)→b = [88]∨b = []
 bget:∀ b s lo z,k0Q B b = some (s,lo,z)→z1l (k3Y js) b s z∧(RK.blk b,s,lo,lo + z)∈G
 bcov:∀ b s z,z1l (k3Y js) b s z→∃ lo,k0Q B b = some (s,lo,z)
 pl:∀ j,j∈js→k6z j.x.u j.x.nm j.rt j.ds j.rf B G P∧k7h h cl j
theorem z5Z {B:Bk} {bl:Bl} (e:(B.map fun e=>(e.1,e.2.1,e.2.2.2)) = bl) (b:Nm):k0Q bl b = (k0Q B b).map fun q=>(q.1,q.2.2):=by
 subst e
 induction B with
 | nil=>rfl
 | cons x B ih =>
  obtain ⟨k,v⟩:=x
  rw [w0f,k1d,k1d,ih]
  split <;> rfl
theorem z6a {h:Hp} {b:Nat} {xs:List Sp} (xl:xs.length≤2) (xok:∀ x,x∈xs→x.u.Ok) (xsp:∀ x,x∈xs→SpAt h b x) (hb:b≤h.length) (nmd:(xs.map fun x=>x.nm).Nodup) {sl:Nat} (hsl:h[sl]? = some (.list (xs.map fun x=>.loc x.s))) {most:Int} (hmost:0≤most) {Q:Po V}
  (h1:∀ h' m js N C P B cl G,k0M [] h h'→js.map (·.x) = xs→(∀ j,j∈js→j.Ok)→Fits (k3Y js) most→k9v h' m js N C P B cl G→Q (.ok (.loc m)) h')
  (h2:∀ h',k0M [] h h'→¬ Fits (xs.map fun x=>x.u.core) most→Q (.error .lay) h') :
  wp (k6T [.loc sl,.int most]) Q h:=by
 have Lsl:=k0t hsl
 unfold k6T z1S
 rw [k1z]
 refine ⟨rfl,?_⟩
 simp only [w0f,w0n,List.replicate,w0o,w0r,k0L,k0y,k0K,k0D,k0C,k0W]
 refine w_Layout fun H0 K0 M0 L0=>?_
 simp only [k1q,k0x,w0e,w0d,k1r,k0o,k0L,k0y,k3Z,k3U,k0C,k0u,k3H,k2B,k2d,k0s,rg0,rgS,w0a,k0g]
 have K1:k0M [] h (H0 ++ [O.dict []] ++ [O.list []]):=(K0.trans (k0M.alloc _ _ _)).trans (k0M.alloc _ _ _)
 have M1:=M0.keep ((k0M.alloc [] H0 (O.dict [])).trans (k0M.alloc [] _ (O.list []))) (fun i Y=>by simp)
 have lb1:(H0 ++ [O.dict []] ++ [O.list []])[H0.length]? = some (.dict []):=k0w (k0X _ _) _
 have lj1:(H0 ++ [O.dict []] ++ [O.list []])[(H0 ++ [O.dict []]).length]? = some (.list []):=k0X _ _
 have L1:(H0 ++ [O.dict []] ++ [O.list []]).length = h.length + 7:=by simp [L0]
 have el:(H0 ++ [O.dict []]).length = h.length + 6:=by simp [L0]
 have hsl1:=K1.get hsl (by simp)
 rw [el] at lj1 ⊢
 rw [L0] at lb1 ⊢
 generalize H0 ++ [O.dict []] ++ [O.list []] = H1 at *
 rw [k1S,hsl1,k0g]
 simp only [k0u]
 let I:=fun (pre:List Sp) (reg:Reg) (h':Hp)=>(∃ g5 g6 g7 g8 g9,reg = [some (.loc sl),some (.int most),some (.loc (h.length + 1)),some (.loc (h.length + 5)),some (.loc (h.length + 6)),g5,g6,g7,g8,g9,none,none,none,none])∧k0M [h.length + 5,h.length + 6] h h' ∧
  k0M [h.length + 5,h.length + 6] H1 h'∧∃ js bl,js.map (·.x) = pre∧(∀ j,j∈js→j.Ok∧JnAt h' j∧h.length + 7≤j.a∧h.length + 7≤j.r)∧h'[h.length + 5]? = some (.dict (k1F k9D bl))∧h'[h.length + 6]? = some (.list (js.map encJ)) ∧
   k9s (k3Y js) bl∧bl.length≤4 * pre.length
 have B7:∀ S:List Nat,(∀ i,i∈S→h.length≤i)→k3d S b:=fun S hS i hi=>by have:=hS i hi; lia
 have B56:k3d [h.length + 5,h.length + 6] b:=B7 _ (fun i hi=>by simp at hi; lia)
 refine k4m xs (fun x=>V.loc x.s) I (by lia) (fun pre suf reg h' e hI=>k3p (hI.2.1.get hsl (by simp; (clear hI; lia))) _) ⟨(iX5 rfl),K1.mono (fun i hi=>by simp at hi),k0M.refl _ _,[],[],rfl,fun j hj=>by simp at hj,lb1,lj1,k9s.empty,by simp⟩ (fun pre x suf reg h' e hI=>?_) (fun reg h' hI=>?_)
 ·refine cA4 hI fun yA K KH yB=>cX5 yA fun g5 g6 g7 g8 g9 yC=>?_; clear hI yA; subst yC; refine cX2 yB fun js bl yD=>cA6 yD fun ejs hj hlb hlj R bll=>?_; clear yB yD
  have hx:x∈xs:=by rw [e]; simp
  have hpl:pre.length + 1≤2:=by rw [e] at xl; simp at xl; lia
  have ejl:js.length = pre.length:=by rw [← ejs]; simp
  have ecs:k3Y js = pre.map fun x=>x.u.core:=by unfold k3Y; rw [← ejs,w0k]; rfl
  have hLl:=K.len
  have hLH:=KH.len
  rw [k0x,k0u]
  simp only [w0e,w0d]
  refine w_unit (xok x hx) ((xsp x hx).keep K B56) (by lia) hlb hlj (by lia) (by lia) (by lia) (by lia) (by simp; lia) (fun h'' es rt ds so rf sz a r bl' g6 g7 g8 g9 K'' J ga gr La Lr glb glj P1 P2 P3 P4=>?_) (fun h'' K'' hbad=>?_)
  ·rw [k0S]
   refine ⟨(iX5 rfl),K.trans K'',KH.trans K'',js ++ [⟨x,a,r,es,rt,ds,so,rf,sz⟩],bl',by rw [w0j,ejs]; rfl,fun j hj'=>?_,glb,?_,?_,by simp; lia⟩
   ·refine Or.elim (w0g.mp hj') (fun hj'=>?_) fun hj'=>?_
    ·refine cA4 (hj j hj') fun q1 q2 q3 q4=>?_
     exact ⟨q1,⟨K''.get q2.a (by simp; lia),K''.get q2.r (by simp; lia)⟩,q3,q4⟩
    ·rw [w0h] at hj'; subst hj'
     exact ⟨⟨xok x hx,J⟩,⟨ga,gr⟩,by show h.length + 7≤a; lia,by show h.length + 7≤r; lia⟩
   ·rw [glj]; simp [encJ]
   ·have:k3Y (js ++ [⟨x,a,r,es,rt,ds,so,rf,sz⟩]) = k3Y js ++ [x.u.core]:=by unfold k3Y; rw [w0j]; rfl
    rw [this]
    exact R.snoc J (xok x hx) P1 P2 (P4 R.nd)
  ·rw [k2p,k2l,k3G]
   refine h2 h'' ((K.trans K'').mono fun i hi=>.inr (by simp at hi; lia)) fun F=>?_
   refine Or.elim hbad ?_ ?_ <;> clear hbad; rotate_left; (intro yZ; refine cX6 yZ fun es rt ds so rf sz yA=>cA2 yA fun J yB=>cX3 yB fun bk s mm yC=>cA3 yC fun q1 q2 q3=>?_; clear yZ yA yB yC); rotate_right; intro hbad
   ·exact hbad (F.good _ (w0b.mpr ⟨x,hx,rfl⟩))
   ·refine R.clash J (xok x hx) q1 q2 q3 (fun c hc=>?_) (w0b.mpr ⟨x,hx,rfl⟩) F.compat
    rw [ecs] at hc
    rw [e,w0j]
    exact w0R _ hc
 refine cA4 hI fun yA K KH yB=>cX5 yA fun g5 g6 g7 g8 g9 yC=>?_; clear hI yA; subst yC; refine cX2 yB fun js bl yD=>cA6 yD fun ejs hj hlb hlj R bll=>?_; clear yB yD
 have ejl:js.length = xs.length:=by rw [← ejs]; simp
 have ecs:k3Y js = xs.map fun x=>x.u.core:=by unfold k3Y; rw [← ejs,w0k]; rfl
 have hLl:=K.len
 have hLH:=KH.len
 have M2:=M1.keep KH (fun i hi=>by simp at hi ⊢; lia)
 have good:∀ c,c∈k3Y js→c.Good:=fun c hc=>by
  refine cX1 (w0b.mp hc) fun j yA=>cA2 yA fun hjm yB=>?_; clear yA; subst yB
  exact z5U (hj j hjm).1.R (hj j hjm).1.ok
 have thok:∀ c,c∈k3Y js→∀ n,(c.th n).Ok:=fun c hc=>by
  refine cX1 (w0b.mp hc) fun j yA=>cA2 yA fun hjm yB=>?_; clear yA; subst yB
  exact (hj j hjm).1.ok.th
 have blpos:∀ e,e∈bl→0≤e.2.2:=fun e he=>by
  obtain ⟨bk,s,z⟩:=e
  refine cA2 (R.get bk s z (k1k R.nd he)) fun _ hmax=>?_
  refine cX1 hmax.at' fun c yA=>cA2 yA fun hc hz=>?_; clear yA
  have:=BSz_pos (good c hc) (thok c hc) hz
  show 0≤z; lia
 have jok:∀ j,j∈js→j.Ok:=fun j hjm=>(hj j hjm).1
 have tot:∀ s,Tot (k3Y js) s = k3u s bl + k6m s js:=fun s=>by unfold Tot; rw [R.sum s]; rfl
 simp only [k0o,k0L,k2B,k2d,k0s,rg0,rgS,w0a,k0g,k0u,k1S,hlb]
 rw [k1B]
 refine z1o M2 hlb R.nd (by lia) (by simp) blpos hmost (fun H3 B g10 g11 g12 K3 M3 hB AP hfit=>?_) (fun H3 K3 hbad=>?_)
 rotate_left
 ·rw [k2l,k3G]
  refine h2 _ ((K.trans' K3 (fun i hi=>.inr (by simp at hi; lia))).mono fun i hi=>.inr (by simp at hi; lia)) fun F=>?_
  refine cX1 hbad fun s hs=>?_; clear hbad
  have h3:=F.room s
  rw [← ecs,tot] at h3
  have:=k9u s js jok
  lia
 have hBl:∀ bk,k0Q bl bk = (k0Q B bk).map fun q=>(q.1,q.2.2):=z5Z hB
 have hsl3:=K3.get (K.get hsl (by simp; lia)) (by simp; lia)
 have hlj3:=K3.get hlj (by simp)
 have Ksp:k0M [h.length + 5,h.length + 6,h.length,h.length + 3] h H3:=(K.mono fun i hi=>.inl (by simp at hi ⊢; lia)).trans' K3 (fun i hi=>.inl (by simp at hi ⊢; lia))
 have BKsp:k3d [h.length + 5,h.length + 6,h.length,h.length + 3] b:=B7 _ (fun i hi=>by simp at hi; lia)
 have hL3:=K3.len
 have lenE:(H3[sl]?.bind oLen) = some xs.length:=by rw [hsl3]; simp
 simp only [k0o,k0L,k2B,k6V,k0z,k0K,k0D,k0s,rg0,rgS,w0a,k0g,k0E,k0C,k0O,k0W,z0l,lenE,k0u,k9g,Int.toNat_natCast]
 refine ⟨by lia,⟨by lia,by lia⟩,?_⟩
 rw [← ejl]
 have hsl3':H3[sl]? = some (.list (js.map fun j=>.loc j.x.s)):=by
  rw [hsl3,← ejs,w0k]; rfl
 have bl0:∀ s,k3u s bl≤most:=hfit
 refine z2o M3 (b:=b) (B7 _ (fun i hi=>by simp at hi; lia)) (by have:=Ksp.len; lia) (by lia) jok (fun j hjm=>⟨K3.get (hj j hjm).2.1.a (by have:=(hj j hjm).2.2.1; simp; lia),K3.get (hj j hjm).2.1.r (by have:=(hj j hjm).2.2.2; simp; lia)⟩)
  (fun j hjm=>(xsp j.x (by rw [← ejs]; exact w0b.mpr ⟨j,hjm,rfl⟩)).keep Ksp BKsp) (fun j hjm=>?_) ?_ hsl3' hlj3 (by simp; lia) (by simp) (fun j hjm bk hbk=>?_) AP (fun x hx nm q=>?_) (hfit false) (hfit true)
  (fun H4 P G' cl g13 K4 M4 AP4 fN fC hP=>?_) (fun H4 K4 hbad=>?_)
 ·have h3:=(hj j hjm).2.2.1
  have h4:=(hj j hjm).2.2.2
  simp; lia
 ·have:js.map (fun j=>j.x.nm) = xs.map fun x=>x.nm:=by rw [← ejs,w0k]; rfl
  rw [this]; exact nmd
 ·refine cX1 ((k3q (jok j hjm).R.soR bk).mpr hbk) fun s hs=>?_
  refine cX1 (R.cov j.x.u.core (w0b.mpr ⟨j,hjm,rfl⟩) bk s hs) fun z hz=>?_
  rw [hBl] at hz
  cases e:k0Q B bk with
  | none=>rw [e] at hz; cases hz
  | some q=>exact ⟨q.1,q.2.1,q.2.2,rfl⟩
 ·unfold blkG at hx
  refine cX1 (w0b.mp hx) fun y yA=>cA2 yA fun _ yB=>?_; clear yA; subst yB
  intro w; cases w
 ·simp only [k0o,k0L,k6v,k0s,rg0,rgS,w0a,k0g,k0O,k3O,k2F]
  have keysE:B.map (·.1) = bl.map (·.1):=by rw [← hB,w0k]; rfl
  refine h1 H4 (h.length + 1) js _ _ P B cl (blkG B ++ G') ((Ksp.trans' K4 (fun i hi=>.inr (by simp at hi; lia))).mono fun i hi=>.inr (by simp at hi; lia)) ejs jok ⟨good,R.comp,fun s=>?_⟩
   ⟨⟨_,_,_,_,M4⟩,(tot false).symm,(tot true).symm,AP4,by rw [keysE]; exact R.nd,fun bk hbk=>R.keys bk (by rw [← keysE]; exact hbk),fun bk s lo z hq=>⟨?_,?_⟩,fun bk s z hq=>?_,hP⟩
  ·rw [tot]
   cases s
   ·exact fN
   ·exact fC
  ·exact R.get bk s z (by rw [hBl,hq]; rfl)
  ·exact w0R _ (w0b.mpr ⟨(bk,s,lo,z),k4O hq,rfl⟩)
  ·refine cA2 hq fun yA hmax=>cX1 yA fun c yB=>cA2 yB fun hc hcb=>?_; clear hq yA yB
   refine cX1 (R.cov c hc bk s hcb) fun z' hz'=>?_
   have:=(R.get bk s z' hz').2.uniq hmax
   subst this
   rw [hBl] at hz'
   cases e:k0Q B bk with
   | none=>rw [e] at hz'; cases hz'
   | some q =>
    rw [e] at hz'
    obtain ⟨q1,q2,q3⟩:=q
    simp at hz'
    exact ⟨q2,by rw [hz'.1,hz'.2]⟩
 ·rw [k2l,k3G]
  refine h2 _ ((Ksp.trans' K4 (fun i hi=>.inr (by simp at hi; lia))).mono fun i hi=>.inr (by simp at hi; lia)) fun F=>?_
  refine cX1 hbad fun s hs=>?_; clear hbad
  have h3:=F.room s
  rw [← ecs,tot] at h3
  cases s <;> simp at hs <;> lia
end T
namespace T
noncomputable abbrev Sps:=List (Nm × (Bool × Int × Int))
noncomputable def k9w (P:Pl) (k:Nm × Nm):Int:=((k0Q P k).map (·.2)).getD 0
noncomputable def k5x (P:Pl) (j:Jn) (n:Nm):Bool × Int × Int:=((j.x.u.th n).txt,k9w P (j.x.nm,n),k9w P (j.x.nm,n) + (j.x.u.th n).size)
noncomputable def k1Y (P:Pl) (js:List Jn):Sps:=js.flatMap fun j=>names.map fun n=>(j.x.nm ++ n,k5x P j n)
noncomputable def k1M (B:Bk):Sps:=B.map fun e=>(47 :: e.1,(e.2.1,e.2.2.1,e.2.2.1 + e.2.2.2))
noncomputable def k6B (T:List (Key × Int)):List (Key × V):=T.map fun e=>(e.1,.int e.2)
noncomputable def k4I (js:List Jn):List (Key × Int):=js.flatMap fun j=>[false,true].map fun s=>([.inl j.x.nm,.inr s],j.x.u.core.lost s)
noncomputable def z3i (p q:Nm × (Bool × Int × Int)):Bool:=p.2.1 == q.2.1 && (decide (p.2.2.1 < q.2.2.2) && decide (q.2.2.1 < p.2.2.2))
noncomputable def k5y (p:Nm × (Bool × Int × Int)) (S:Sps):List (Key × Int):=(S.filter (z3i p)).map fun q=>([.inl p.1,.inl q.1],q.2.2.1 - p.2.2.1)
noncomputable def k2T (S' S:Sps):List (Key × Int):=S'.flatMap fun p=>k5y p S
noncomputable def k6n (B:Bk):List (Nm × Int):=B.map fun e=>(e.1,e.2.2.2)
noncomputable def z0v (x:Sp):V:=.tup [.str x.nm,.tup [.loc x.t,.loc x.c,.loc x.g,.loc x.k]]
theorem z6b (T:List (Key × Int)) (k:Key):k0Q (k6B T) k = (k0Q T k).map .int:=by
 induction T with
 | nil=>rfl
 | cons e T ih =>
  obtain ⟨a,b⟩:=e
  unfold k6B at ih ⊢
  rw [w0f,k1d,k1d,ih]
  split <;> rfl
theorem z2p {T:List (Key × Int)} {k:Key} (h:k∉T.map (·.1)) (v:Int):k2c (k6B T) k (.int v) = k6B (T ++ [(k,v)]):=by
 rw [k2I (by rw [z6b,k1W.mpr h]; rfl)]
 unfold k6B; simp
theorem z2r {S:Sps} {k:Nm} (h:k∉S.map (·.1)) (v:Bool × Int × Int):k2c (k1F k5I S) k (k5I v) = k1F k5I (S ++ [(k,v)]):=by
 rw [k3i,k2I (k1W.mpr h)]
theorem k1C {α:Type} {l r:List α} {x:α} (h:(l ++ x :: r).Nodup):x∉l:=fun q=>by
 rw [w0w] at h
 exact h.2.2 x q x (by simp) rfl
theorem keysT (P:Pl) (js:List Jn):(k1Y P js).map (·.1) = js.flatMap fun j=>names.map fun n=>j.x.nm ++ n:=by
 unfold k1Y
 rw [w1x]
 congr 1
theorem lost_sum (cr:List (Bool × Int × Int)) (s:Bool):((cr.filter fun q=>q.1 == s).map fun q=>q.2.2 - q.2.1).sum = ((cr.map fun q=>(q.1,q.2.2 - q.2.1)).map fun p=>if p.1 = s then p.2 else 0).sum:=by
 induction cr with
 | nil=>rfl
 | cons q cr ih =>
  rw [w1w,w0f,w0f,w0Q,← ih]
  by_cases e:q.1 = s
  ·have:(q.1 == s) = true:=by simpa using e
   rw [if_pos this,w0f,w0Q]
   dsimp only
   rw [if_pos e]
  ·have:¬ (q.1 == s) = true:=by simpa using e
   rw [if_neg this]
   dsimp only
   rw [if_neg e]; simp
theorem lost_val {h:Hp} {cl:List (Nm × Nat)} {j:Jn} (jok:j.Ok) {lc:Nat} {cr:List (Bool × Int × Int)} (e:(cr.map fun q=>(q.1,q.2.2 - q.2.1)) = ((k1l j.rt (fun x=>(k0Q j.rf x).isSome) j.x.u.ord []).filter fun r=>k5L j.rt j.ds j.x.u.ord r j.x.u.kept).map (fun r=>(k5X j.x.u.th j.rt j.ds j.x.u.ord r,k8k j.x.u.th j.rt j.ds j.x.u.ord r))) (s:Bool) :
  ((cr.filter fun q=>q.1 == s).map fun q=>q.2.2 - q.2.1).sum = j.x.u.core.lost s:=by
 rw [lost_sum,e,w0k,← lost_eq jok.R jok.ok s]
 rfl
noncomputable def z6c:Reg→X (Fl × Reg) :=
 (k0H (k5z (k5c (cG (.str [65,66,67,68]))) (k0l 6) (k0H (k0p (k1g k0V (k2K [112,108,97,99,101,115] (k0d 0)) (k3e (k0f (k0d 4) (k0f (k0d 6) k0T)))) (k1o 4 (k0q (k0l 7) (k0q (k0l 8) (k0q (k0l 9) (k0q (k0l 10) k1n))))))
 (k0H (k0p (k3e (k0f (k1g xEq (k0d 7) (cG (.int 5))) (k0f (k0d 8) (k0f (k1g k4T (k0d 8) (k1c k3g (k0f (k3e (k0f (k0d 7) (k0f (k0d 9) (k0f (k0d 10) k0T)))) k0T))) k0T)))) (k7Z (k0d 2) (k1g k4T (k0d 4) (k0d 6))))
 k1s)))
 (k0H (k5z (k5c (k3e (k0f (cB false) (k0f (cB true) k0T)))) (k0l 11) (k0H (k0p (k3w xSum (k0f (k3z 1 [11] (k5c (k1g k0V (k2K [99,108,101,97,114,115] (k0d 0)) (k0d 4))) (k0l 0) (k2L xEq (k1g k0V (k0d 0) (cI 0)) (k0d 1)) (k2H (k1g z1u (k1g k0V (k0d 0) (cI 2)) (k1g k0V (k0d 0) (cI 1)))) (.list [])) k0T)) (k7Z (k0d 3) (k3e (k0f (k0d 4) (k0f (k0d 11) k0T)))))
 k1s))
 k1s))
set_option tactic.hygienic true in
theorem z6d {h:Hp} {m d p bk c:Nat} {N C:Int} {P:Pl} {B:Bk} {cl:List (Nm × Nat)} (M:k1L h m d p bk c N C P B cl) {j:Jn} (jok:j.Ok) (hP:∀ n,n∈names→∃ a,k0Q P (j.x.nm,n) = some (j.x.u.th n,a)) (hcl:k7h h cl j)
  {ls lt:Nat} (n1:ls∉[m,d,p,bk,c]) (n2:lt∉[m,d,p,bk,c]) (n3:ls≠lt) {S:Sps} {T:List (Key × Int)} (hs:h[ls]? = some (.dict (k1F k5I S))) (ht:h[lt]? = some (.tdict (k6B T))) (hSl:S.length≤100) (hTl:T.length≤100)
  (hnm:j.x.nm.length≤1) (hlc:∀ lc,k0Q cl j.x.nm = some lc→lc≠ls∧lc≠lt) (ndS:(S.map (·.1) ++ names.map fun n=>j.x.nm ++ n).Nodup) (ndT:∀ s,[Sum.inl j.x.nm,Sum.inr s]∉T.map (·.1))
  {v1 v5 g6 g7 g8 g9 g10 g11 g12 g13 g14 g15 g16 g17:Option V} {Q:Po (Fl × Reg)}
  (h1:∀ h' (g6 g7 g8 g9 g10 g11:Option V),k0M [ls,lt] h h'→h'[ls]? = some (.dict (k1F k5I (S ++ names.map fun n=>(j.x.nm ++ n,k5x P j n))))→h'[lt]? = some (.tdict (k6B (T ++ [false,true].map fun s=>([.inl j.x.nm,.inr s],j.x.u.core.lost s)))) →
   Q (.ok (.next,[some (.loc m),v1,some (.loc ls),some (.loc lt),some (.str j.x.nm),v5,g6,g7,g8,g9,g10,g11,g12,g13,g14,g15,g16,g17])) h') :
  wp (z6c [some (.loc m),v1,some (.loc ls),some (.loc lt),some (.str j.x.nm),v5,g6,g7,g8,g9,g10,g11,g12,g13,g14,g15,g16,g17]) Q h:=by
 have nm1:∀ i,i∈[m,d,p,bk,c]→i∉[ls,lt]:=fun i hi q=>by
  simp only [w0c,w0i,or_false] at q
  refine Or.elim q (fun yY=>?_) fun yZ=>?_ <;> clear q; rotate_left; subst yZ; rotate_right; subst yY
  ·exact n1 hi
  ·exact n2 hi
 unfold z6c
 simp only [k0L,k2B,k2d,z4B,k0u,z0Y]
 refine ⟨by decide,?_⟩
 let I:=fun (pre:List Nm) (reg:Reg) (h':Hp)=>(∃ g6 g7 g8 g9 g10,reg = [some (.loc m),v1,some (.loc ls),some (.loc lt),some (.str j.x.nm),v5,g6,g7,g8,g9,g10,g11,g12,g13,g14,g15,g16,g17])∧k0M [ls,lt] h h' ∧
  h'[ls]? = some (.dict (k1F k5I (S ++ pre.map fun n=>(j.x.nm ++ n,k5x P j n))))∧h'[lt]? = some (.tdict (k6B T))
 refine k4m names V.str I (by decide) (fun pre suf reg h' e hI=>z3K _ _ _) ⟨(iX5 rfl),k0M.refl _ _,by simpa using hs,ht⟩ (fun pre x suf reg h' e hI=>?_) (fun reg h' hI=>?_)
 ·refine cA4 hI fun yA K hs' ht'=>cX5 yA fun g6 g7 g8 g9 g10 yB=>?_; clear hI yA; subst yB
  have hx:x∈names:=by rw [e]; simp
  have hxl:x.length = 1:=by simp [names] at hx; (refine Or.elim hx (fun yY=>?_) fun yZ=>?_ <;> clear hx; rotate_left; (refine Or.elim yZ ?_ ?_ <;> clear yZ; rotate_left; (intro yZ; refine Or.elim yZ ?_ ?_ <;> clear yZ; rotate_left; (intro yZ; subst yZ); rotate_right; (intro yY; subst yY)); rotate_right; (intro yY; subst yY)); rotate_right; subst yY) <;> rfl
  refine cX1 (hP x hx) fun a ha=>?_
  have hA:k9w P (j.x.nm,x) = a:=by unfold k9w; rw [ha]; rfl
  have M':=M.keep K nm1
  have hpl:pre.length≤4:=by
   have:names.length = 4:=rfl
   rw [e] at this; simp at this; lia
  have hSl':(k1F k5I (S ++ pre.map fun n=>(j.x.nm ++ n,k5x P j n))).length≤4000:=by rw [k1B]; simp; lia
  have hnew:j.x.nm ++ x∉(S ++ pre.map fun n=>(j.x.nm ++ n,k5x P j n)).map (·.1):=by
   rw [w0j,w0k]
   rw [e,w0j,w0f,← w0Z] at ndS
   exact k1C ndS
  have ek:k0Q (z3O P) [Sum.inl j.x.nm,Sum.inl x] = some (PV (j.x.u.th x) a):=by
   have:=k9o P (j.x.nm,x)
   rw [ha] at this; exact this
  have esz:∀ (Q:Po V) (h:Hp),wp (k3g [V.tup [V.int (j.x.u.th x).kind,V.int (j.x.u.th x).len,k6X (j.x.u.th x).many]]) Q h = Q (.ok (.int (j.x.u.th x).size)) h:=fun Q h=>k6Y (jok.ok.th x) Q h
  have hxl2:j.x.nm.length + x.length≤1000:=by lia
  rw [k0x,k0u]
  simp only [w0e,w0d,k0L,k0y,k1i,k2v,k0s,rg0,rgS,w0a,k0g,k0u,k0r,M'.places,k2h,k0z,k0E,k0C,k0O,k1R,M'.hp,z2T,k5u,w0x,w0S,ek,PV,k1q,k1I,w0s,w0q,w0y,true_and,k1w,k0x,k2j,k1H,k1r,k0o,z4B,k9P,k0K,k0D,k0W,esz,k4o,k4H,z3J,hxl2,k6w,hs',k2C,hSl',if_true,k0P,k1Q,k0S]
  have eput:k2c (k1F k5I (S ++ pre.map fun n=>(j.x.nm ++ n,k5x P j n))) (j.x.nm ++ x) (V.tup [V.bool ((j.x.u.th x).kind == 5),V.int a,V.int (a + (j.x.u.th x).size)]) = k1F k5I (S ++ (pre ++ [x]).map fun n=>(j.x.nm ++ n,k5x P j n)):=by
   have:V.tup [V.bool ((j.x.u.th x).kind == 5),V.int a,V.int (a + (j.x.u.th x).size)] = k5I (k5x P j x):=by unfold k5x k5I; rw [hA]; rfl
   rw [this,z2r hnew,w0j,← w0Z]; rfl
  rw [eput]
  exact ⟨(iX5 rfl),K.trans (k0M.set (by simp) _ _),k0J hs' _,k0m ht' n3 _⟩
 refine cA4 hI fun yA K hs' ht'=>cX5 yA fun g6' g7' g8' g9' g10' yB=>?_; clear hI yA; subst yB
 simp only [k0o,k0L,k2B,k2d,k2h,k0z,q_cB,k0E,k0C,k0O,k0u,z5J]
 refine cX2 hcl fun lc cr yA=>cA3 yA fun hlc1 hlc2 hlc3=>?_; clear hcl yA
 refine cA2 (hlc lc hlc1) fun lcs lct=>?_
 let I2:=fun (pre:List Bool) (reg:Reg) (h':Hp)=>(∃ g11,reg = [some (.loc m),v1,some (.loc ls),some (.loc lt),some (.str j.x.nm),v5,g6',g7',g8',g9',g10',g11,g12,g13,g14,g15,g16,g17])∧k0M [ls,lt] h h' ∧
  h'[ls]? = some (.dict (k1F k5I (S ++ names.map fun n=>(j.x.nm ++ n,k5x P j n))))∧h'[lt]? = some (.tdict (k6B (T ++ pre.map fun s=>([.inl j.x.nm,.inr s],j.x.u.core.lost s))))
 refine k4m [false,true] V.bool I2 (by decide) (fun pre suf reg h' e hI=>it_tup _ _ _) ⟨⟨_,rfl⟩,K,hs',by simpa using ht'⟩ (fun pre x suf reg h' e hI=>?_) (fun reg h' hI=>?_)
 ·refine cA4 hI fun yA K2 hs2 ht2=>cX1 yA fun g11 yB=>?_; clear hI yA; subst yB
  have M2:=M.keep K2 nm1
  have hcr2:=K2.get hlc2 (by simp; exact ⟨lcs,lct⟩)
  have ec:k0Q (k1F V.loc cl) j.x.nm = some (.loc lc):=by rw [k1h,hlc1]; rfl
  have hpl:pre.length≤2:=by
   have:[false,true].length = 2:=rfl
   rw [e] at this; simp at this; lia
  have hcrl:cr.length < 64:=by
   have h1:cr.length = (cr.map fun q=>(q.1,q.2.2 - q.2.1)).length:=by simp
   rw [hlc3,w0u] at h1
   have h2:=w1f (fun r=>k5L j.rt j.ds j.x.u.ord r j.x.u.kept) (k1l j.rt (fun x=>(k0Q j.rf x).isSome) j.x.u.ord [])
   have h3:∀ (ns acc:List Nm),(k1l j.rt (fun x=>(k0Q j.rf x).isSome) ns acc).length≤acc.length + ns.length:=by
    intro ns
    induction ns with
    | nil=>intro acc; simp [k1l]
    | cons n ns ih =>
     intro acc
     rw [k1l]
     have:=ih (if (k0Q j.rf (j.rt n)).isSome || acc.contains (j.rt n) then acc else acc ++ [j.rt n])
     split at this <;> rename_i w <;> simp only [w,if_true,if_false] <;> simp at this ⊢ <;> lia
   have h4:=h3 j.x.u.ord []
   rw [jok.ok.ordlen] at h4
   simp at h4; lia
  rw [k0x,k0u]
  simp only [w0e,w0d,k0L,k0y,k0K,k0D,k0z,k2W,k2d,k1i,k2v,k0s,rg0,rgS,w0a,k0g,k0u,k0r,M2.clears,k1R,M2.hc,k1j,ec,k1S,hcr2,k4j,w0f,w0n,List.replicate,w0o,w0r]
  rw [← k0r]
  refine k9j cr k5I (fun q=>q.1 == x) (fun q=>.int (q.2.2 - q.2.1)) (fun reg=>∃ g0,reg = [g0,some (.bool x)]) hcrl (fun i=>k3p hcr2 i) ⟨_,rfl⟩ (fun q hq reg hJ=>?_) ?_
  ·refine cX1 hJ fun g0 yA=>?_; clear hJ; subst yA
   unfold k5I
   simp only [k0x,w0e,w0d]
   refine ⟨_,rfl,trivial,⟨_,rfl⟩,?_,fun Y=>?_⟩
   ·simp only [k2a,k1i,k0s,rg0,rgS,w0a,k0g,k0u,k0r,k4k,k3c,Int.toNat_zero,q_eqB,k1x,and_self,and_true]
    decide
   ·simp only [k1i,k0s,rg0,rgS,w0a,k0g,k0u,k0r,k4k,k3c,Int.toNat_one,z1X,and_self,and_true]
    refine ⟨by decide,by decide,?_⟩
    rw [z1X]; exact ⟨rfl,rfl⟩
  ·have e1:(h' ++ [O.list ((cr.filter fun q=>q.1 == x).map fun q=>V.int (q.2.2 - q.2.1))])[h'.length]?.bind k9G = some ((cr.filter fun q=>q.1 == x).map fun q=>q.2.2 - q.2.1):=by
    rw [k0X,w0S,k7u,← k7x ((cr.filter fun q=>q.1 == x).map fun q=>q.2.2 - q.2.1),w0k]; rfl
   have hTl':(k6B (T ++ pre.map fun s=>([Sum.inl j.x.nm,Sum.inr s],j.x.u.core.lost s))).length≤4000:=by unfold k6B; simp; lia
   have ht3:=k0w ht2 (O.list ((cr.filter fun q=>q.1 == x).map fun q=>V.int (q.2.2 - q.2.1)))
   have hs3:=k0w hs2 (O.list ((cr.filter fun q=>q.1 == x).map fun q=>V.int (q.2.2 - q.2.1)))
   have K3:=K2.trans (k0M.alloc [ls,lt] h' (O.list ((cr.filter fun q=>q.1 == x).map fun q=>V.int (q.2.2 - q.2.1))))
   simp only [k0E,k0C,k0O,k0W,q_sumL,e1,k0g,k1q,k4H,k0s,rg0,rgS,w0a,k0u,k0r,k2h,k0z,k6w,ht3,k7t,hTl',if_true,k5u,w0x,k0P,k1r,k0o,k1Q,k0S]
   rw [lost_val (h:=h) (cl:=cl) (lc:=lc) jok hlc3 x]
   have hnew:[Sum.inl j.x.nm,Sum.inr x]∉(T ++ pre.map fun s=>([Sum.inl j.x.nm,Sum.inr s],j.x.u.core.lost s)).map (·.1):=by
    rw [w0j,w0g]
    intro z0q; refine Or.elim z0q (fun q=>?_) fun q=>?_ <;> clear z0q
    ·exact ndT x q
    ·rw [w0k] at q
     refine cX1 (w0b.mp q) fun s yA=>cA2 yA fun hs es=>?_; clear yA
     have es':[Sum.inl j.x.nm,Sum.inr s] = ([Sum.inl j.x.nm,Sum.inr x]:Key):=es
     injection es' with _ w
     injection w with w _
     injection w with w
     have nd2:(pre ++ x :: suf).Nodup:=by rw [← e]; decide
     exact k1C nd2 (w ▸ hs)
   rw [z2p hnew]
   refine ⟨⟨_,rfl⟩,K3.trans (k0M.set (by simp) _ _),k0m hs3 (Ne.symm n3) _,?_⟩
   rw [k0J ht3,w0j,← w0Z]; rfl
 ·refine cA4 hI fun yA K2 hs2 ht2=>cX1 yA fun g11 yB=>?_; clear hI yA; subst yB
  rw [k0o,k1Q]
  exact h1 h' _ _ _ _ _ _ K2 hs2 ht2
end T
namespace T
noncomputable def z3T:Reg→X (Fl × Reg) :=
 (k0H (z2A (k3e (k0f (k1g k0V (k0d 2) (k0d 6)) (k0f (k1g k0V (k0d 2) (k0d 15)) k0T))) 16 17)
 (k0H (xIf (z2u (k2L xEq (k1g k0V (k0d 16) (cI 0)) (k1g k0V (k0d 17) (cI 0))) (z2u (k2L xLt (k1g k0V (k0d 16) (cI 1)) (k1g k0V (k0d 17) (cI 2))) (z2u (k2L xLt (k1g k0V (k0d 17) (cI 1)) (k1g k0V (k0d 16) (cI 2))) tT))) (k0H (k0p (k1g z1u (k1g k0V (k0d 17) (cI 1)) (k1g k0V (k0d 16) (cI 1))) (k7Z (k0d 14) (k3e (k0f (k0d 6) (k0f (k0d 15) k0T)))))
 k1s) k1s)
 k1s))
theorem k7z {p:Nm × (Bool × Int × Int)} {S:Sps} {k:Key} (h:k∈(k5y p S).map (·.1)):∃ q,q∈S∧k = [.inl p.1,.inl q.1]:=by
 unfold k5y at h
 rw [w0k] at h
 refine cX1 (w0b.mp h) fun q yA=>cA2 yA fun hq e=>?_; clear yA
 rw [w0I] at hq
 exact ⟨q,hq.1,e.symm⟩
theorem k9x {S' S:Sps} {k:Key} (h:k∈(k2T S' S).map (·.1)):∃ p q,p∈S'∧q∈S∧k = [.inl p.1,.inl q.1]:=by
 unfold k2T at h
 rw [w1x] at h
 refine cX1 (w0F.mp h) fun p yA=>cA2 yA fun hp hq=>?_; clear yA
 refine cX1 (k7z hq) fun q yA=>cA2 yA fun h1 h2=>?_; clear yA
 exact ⟨p,q,hp,h1,h2⟩
theorem z2s (p:Nm × (Bool × Int × Int)) (S:Sps):(k5y p S).length≤S.length:=by
 unfold k5y; rw [w0u]; exact w1f _ _
theorem z4J (S' S:Sps):(k2T S' S).length≤S'.length * S.length:=by
 induction S' with
 | nil=>simp [k2T]
 | cons p S' ih =>
  have e:k2T (p :: S') S = k5y p S ++ k2T S' S:=rfl
  have:=z2s p S
  rw [e,w0t,w0s,Nat.add_mul]
  lia
theorem w_laps {h:Hp} {ls ll:Nat} {S:Sps} (hs:h[ls]? = some (.dict (k1F k5I S))) (hl:h[ll]? = some (.tdict [])) (hne:ls≠ll) (nd:(S.map (·.1)).Nodup) (hS:S.length≤20) {g0 g1 g3 g4 g5 g6 g7 g8 g9 g10 g11 g12 g13 g15 g16 g17:Option V} {Q:Po (Fl × Reg)}
  (h1:∀ h' (g6 g15 g16 g17:Option V),k0M [ll] h h'→h'[ll]? = some (.tdict (k6B (k2T S S)))→Q (.ok (.next,[g0,g1,some (.loc ls),g3,g4,g5,g6,g7,g8,g9,g10,g11,g12,g13,some (.loc ll),g15,g16,g17])) h') :
  wp (k8b (k0l 6) (k0H (k5z (k5c (k0d 2)) (k0l 15) z3T) k1s) (.dict ls S.length) 64 0 [g0,g1,some (.loc ls),g3,g4,g5,g6,g7,g8,g9,g10,g11,g12,g13,some (.loc ll),g15,g16,g17]) Q h:=by
 have itS:∀ {h':Hp} (i:Nat),h'[ls]? = some (.dict (k1F k5I S))→k1Z (.dict ls S.length) i h' = some ((S.map fun p=>V.str p.1)[i]?):=fun i e=>by
  have:=k5a e i
  rw [k1B] at this
  unfold k1F at this
  rw [w0k] at this
  exact this
 let I:=fun (pre:Sps) (reg:Reg) (h':Hp)=>(∃ g6 g15 g16 g17,reg = [g0,g1,some (.loc ls),g3,g4,g5,g6,g7,g8,g9,g10,g11,g12,g13,some (.loc ll),g15,g16,g17])∧k0M [ll] h h'∧h'[ll]? = some (.tdict (k6B (k2T pre S)))
 refine k4m S (fun p=>V.str p.1) I (by lia) (fun pre suf reg h' e hI=>itS _ (hI.2.1.get hs (by simp; (clear hI; lia)))) ⟨(iX4 rfl),k0M.refl _ _,hl⟩ (fun pre x suf reg h' e hI=>?_) (fun reg h' hI=>?_)
 ·refine cA3 hI fun yA K hl'=>cX4 yA fun g6 g15 g16 g17 yB=>?_; clear hI yA; subst yB
  have hx:x∈S:=by rw [e]; simp
  have hxp:x.1∉pre.map (·.1):=by
   rw [e,w0j,w0f] at nd
   exact k1C nd
  have hpl:pre.length + 1≤S.length:=by rw [e]; simp
  have hs':=K.get hs (by simp; lia)
  rw [k0x,k0u]
  simp only [w0e,w0d,k0L,k2B,k2d,k0s,rg0,rgS,w0a,k0g,k0u,k1S,hs']
  rw [k1B]
  let I2:=fun (pre2:Sps) (reg:Reg) (h':Hp)=>(∃ g15 g16 g17,reg = [g0,g1,some (.loc ls),g3,g4,g5,some (.str x.1),g7,g8,g9,g10,g11,g12,g13,some (.loc ll),g15,g16,g17])∧k0M [ll] h h'∧h'[ll]? = some (.tdict (k6B (k2T pre S ++ k5y x pre2)))
  refine k4m S (fun p=>V.str p.1) I2 (by lia) (fun pre suf reg h' e hI=>itS _ (hI.2.1.get hs (by simp; (clear hI; lia)))) ⟨(iX3 rfl),K,by simpa [k5y] using hl'⟩ (fun pre2 y suf2 reg h2 e2 hI=>?_) (fun reg h2 hI=>?_)
  ·refine cA3 hI fun yA K2 hl2=>cX3 yA fun g15 g16 g17 yB=>?_; clear hI yA; subst yB
   have hy:y∈S:=by rw [e2]; simp
   have hyp:y.1∉pre2.map (·.1):=by
    rw [e2,w0j,w0f] at nd
    exact k1C nd
   have hpl2:pre2.length + 1≤S.length:=by rw [e2]; simp
   have hs2:=K2.get hs (by simp; lia)
   have gx:k0Q (k1F k5I S) x.1 = some (k5I x.2):=by rw [k1h,k1k nd hx]; rfl
   have gy:k0Q (k1F k5I S) y.1 = some (k5I y.2):=by rw [k1h,k1k nd hy]; rfl
   have hll:(k6B (k2T pre S ++ k5y x pre2)).length≤4000:=by
    unfold k6B
    rw [w0u,w0t]
    have h1:=z4J pre S
    have h2:=z2s x pre2
    have h3:pre.length * S.length≤20 * 20:=Nat.mul_le_mul (by lia) (by lia)
    lia
   have c0:(0:Int)≤0∧(0:Int) < 4096:=by decide
   have c1:(0:Int)≤1∧(1:Int) < 4096:=by decide
   have c2:(0:Int)≤2∧(2:Int) < 4096:=by decide
   have t2:(2:Int).toNat = 2:=rfl
   have filt:k5y x (pre2 ++ [y]) = k5y x pre2 ++ if z3i x y = true then [([.inl x.1,.inl y.1],y.2.2.1 - x.2.2.1)] else []:=by
    unfold k5y
    rw [w0V,w0j]
    congr 1
    by_cases q:z3i x y = true <;> simp [q]
   have hnew:[Sum.inl x.1,Sum.inl y.1]∉(k2T pre S ++ k5y x pre2).map (·.1):=by
    rw [w0j,w0g]
    intro z0q; refine Or.elim z0q (fun q=>?_) fun q=>?_ <;> clear z0q
    ·refine cX2 (k9x q) fun p' q' yA=>cA3 yA fun w1 w2 w3=>?_; clear yA
     injection w3 with w3 _
     injection w3 with w3
     exact hxp (w0b.mpr ⟨p',w1,w3.symm⟩)
    ·refine cX1 (k7z q) fun q' yA=>cA2 yA fun w2 w3=>?_; clear yA
     injection w3 with _ w3
     injection w3 with w3 _
     injection w3 with w3
     exact hyp (w0b.mpr ⟨q',w2,w3.symm⟩)
   unfold z3T
   rw [k0x,k0u]
   simp only [w0e,w0d,k0L,z3I,k2h,k0z,k1i,k0s,rg0,rgS,w0a,k0g,k0u,k0r,k1R,hs2,k1j,gx,gy,k0E,k0C,k0O,z1V,k0o,z0W,z1W,k2a,k5I,k4k,k3c,c0,c1,c2,t2,Int.toNat_zero,Int.toNat_one,q_eqB,q_lt,k1x,k2w,q_tT,k0P,true_and,and_self]
   by_cases b1:x.2.1 = y.2.1
   ·have b1':(x.2.1 == y.2.1) = true:=by simpa using b1
    by_cases b2:x.2.2.1 < y.2.2.2
    ·by_cases b3:y.2.2.1 < x.2.2.2
     ·have hB:z3i x y = true:=by unfold z3i; simp [b1,b2,b3]
      rw [if_pos hB] at filt
      simp only [b1',b2,b3,decide_true,if_true,k0L,k0y,k1i,k0s,rg0,rgS,w0a,k0g,k0u,k0r,k4k,k3c,c0,c1,Int.toNat_one,true_and,and_self,z1X,k1q,k4H,k2h,k0z,k0E,k0C,k0O,k6w,hl2,k7t,hll,k5u,w0x,k0P,k1r,k0o,k1Q,k0S]
      rw [z2p hnew]
      refine ⟨(iX3 rfl),K2.trans (k0M.set (by simp) _ _),?_⟩
      rw [k0J hl2,filt,← w0Z]
     ·have hB:z3i x y = false:=by unfold z3i; simp [b3]
      rw [hB] at filt
      simp only [w0p,if_false,w0M] at filt
      simp only [b1',b2,b3,decide_true,decide_false,if_true,w0p,if_false,k1Q,k0o,k0S]
      exact ⟨(iX3 rfl),K2,by rw [filt]; exact hl2⟩
    ·have hB:z3i x y = false:=by unfold z3i; simp [b2]
     rw [hB] at filt
     simp only [w0p,if_false,w0M] at filt
     simp only [b1',b2,decide_false,if_true,w0p,if_false,k1Q,k0o,k0S]
     exact ⟨(iX3 rfl),K2,by rw [filt]; exact hl2⟩
   ·have b1':(x.2.1 == y.2.1) = false:=by simpa using b1
    have hB:z3i x y = false:=by unfold z3i; simp [b1']
    rw [hB] at filt
    simp only [w0p,if_false,w0M] at filt
    simp only [b1',w0p,if_false,k1Q,k0o,k0S]
    exact ⟨(iX3 rfl),K2,by rw [filt]; exact hl2⟩
  ·refine cA3 hI fun yA K2 hl2=>cX3 yA fun g15 g16 g17 yB=>?_; clear hI yA; subst yB
   rw [k0o,k1Q,k0S]
   refine ⟨(iX4 rfl),K2,?_⟩
   have:k2T (pre ++ [x]) S = k2T pre S ++ k5y x S:=by unfold k2T; rw [w1n]; simp
   rw [this]; exact hl2
 ·refine cA3 hI fun yA K hl'=>cX4 yA fun g6 g15 g16 g17 yB=>?_; clear hI yA; subst yB
  exact h1 h' _ _ _ _ K hl'
end T
namespace T
theorem z6e {α:Type} {ct:V→Reg→X Reg} {cf:Reg→X Bool} {emit:Reg→O→X O} {it:It} {Q:Po V} (xs:List α) (enc:α→V) (I:List α→Reg→O→Hp→Prop) {reg:Reg} {o:O} {h:Hp}
  (hlen:xs.length < 64)
  (hit:∀ pre suf reg o h,xs = pre ++ suf→I pre reg o h→k1Z it pre.length h = some ((xs.map enc)[pre.length]?))
  (h0:I [] reg o h)
  (hbody:∀ pre x suf reg o h,xs = pre ++ x :: suf→I pre reg o h→wp (k9i ct cf emit (enc x) reg o) (z4D (I (pre ++ [x]))) h)
  (hend:∀ reg o h,I xs reg o h→Q (.ok (.loc h.length)) (h ++ [o])) :
  wp (k4X (k6r ct cf emit it 64 0 reg o)) (bK k3r Q) h:=z0p xs enc I hlen hit h0 hbody hend
theorem z0w:∀ (js:List Jn),(∀ j,j∈js→j.x.nm.length = 1)→(js.map fun j=>j.x.nm).Nodup→(js.flatMap fun j=>names.map fun n=>j.x.nm ++ n).Nodup
 | [],_,_=>by simp
 | j :: js,h,nd=>by
  rw [w0f,w0J] at nd
  rw [w1m,w0w]
  refine ⟨?_,z0w js (fun j hj=>h j (.tail _ hj)) nd.2,fun x hx y hy=>?_⟩
  ·have:names.Nodup:=by decide
   exact List.Pairwise.map _ (fun a b hab q=>hab (List.append_cancel_left q)) this
  ·refine cX1 (w0b.mp hx) fun n yA=>cA2 yA fun hn yB=>?_; clear yA; subst yB
   refine cX1 (w0F.mp hy) fun j' yA=>cA2 yA fun hj' hy'=>?_; clear yA
   refine cX1 (w0b.mp hy') fun n' yA=>cA2 yA fun hn' yB=>?_; clear yA; subst yB
   intro q
   have e1:=List.append_inj_left q (by rw [h j (.head _),h j' (.tail _ hj')])
   exact nd.1 (w0b.mpr ⟨j',hj',e1.symm⟩)
theorem k9y {P:Pl} {js:List Jn} {B:Bk} (h:∀ j,j∈js→j.x.nm = [85]∨j.x.nm = [86]) (nd:(js.map fun j=>j.x.nm).Nodup) (bnd:(B.map (·.1)).Nodup):((k1Y P js ++ k1M B).map (·.1)).Nodup:=by
 have e2:(k1M B).map (·.1) = (B.map (·.1)).map (47 :: ·):=by unfold k1M; rw [w0k,w0k]; rfl
 rw [w0j,keysT,e2,w0w]
 refine ⟨z0w js (fun j hj=>by refine Or.elim (h j hj) (fun q=>?_) fun q=>?_ <;> rw [q] <;> rfl) nd,List.Pairwise.map _ (fun a b hab q=>hab (List.tail_eq_of_cons_eq q)) bnd,fun x hx y hy=>?_⟩
 refine cX1 (w0F.mp hx) fun j yA=>cA2 yA fun hj hx'=>?_; clear yA
 refine cX1 (w0b.mp hx') fun n yA=>cA2 yA fun hn yB=>?_; clear yA; subst yB
 refine cX1 (w0b.mp hy) fun b yA=>cA2 yA fun hb yB=>?_; clear yA; subst yB
 intro q
 refine Or.elim (h j hj) (fun w=>?_) fun w=>?_ <;> rw [w] at q <;> simp at q
theorem z4K {h:Hp} {m d p bk c:Nat} {N C:Int} {P:Pl} {B:Bk} {cl:List (Nm × Nat)} (M:k1L h m d p bk c N C P B cl) {js:List Jn} (jl:js.length≤2) (jok:∀ j,j∈js→j.Ok) (nmok:∀ j,j∈js→j.x.nm = [85]∨j.x.nm = [86])
  (nmd:(js.map fun j=>j.x.nm).Nodup) (hP:∀ j,j∈js→∀ n,n∈names→∃ a,k0Q P (j.x.nm,n) = some (j.x.u.th n,a)) (hcl:∀ j,j∈js→k7h h cl j) (bnd:(B.map (·.1)).Nodup) (bkeys:∀ b,b∈B.map (·.1)→b = [88]∨b = []) (hBl:B.length≤2)
  {rl:Nat} (hrl:h[rl]? = some (.list (js.map fun j=>z0v j.x))) {Q:Po V}
  (h1:∀ h' a b e,k0M [] h h'→a≠b→a≠e→b≠e→h.length≤a→h.length≤b→h.length≤e→h'[a]? = some (.dict (k1F .int (k6n B)))→h'[b]? = some (.tdict (k6B (k4I js))) →
   h'[e]? = some (.tdict (k6B (k2T (k1Y P js ++ k1M B) (k1Y P js ++ k1M B))))→Q (.ok (.tup [.int N,.int C,.loc a,.loc b,.loc e])) h') :
  wp (k3S [.loc m,.loc rl]) Q h:=by
 refine cA10 M.ne fun a1 a2 a3 a4 a5 a6 a7 a8 a9 a10=>?_
 have Lm:=k0t M.hm
 have Ld:=k0t M.hd
 have Lp:=k0t M.hp
 have Lb:=k0t M.hb
 have Lc:=k0t M.hc
 have Lr:=k0t hrl
 have ndAll:=k9y (P:=P) nmok nmd bnd
 unfold k3S k9b
 rw [k1z]
 refine ⟨rfl,?_⟩
 simp only [w0f,w0n,List.replicate,w0o,w0r,k0L,z3I,k2h,k0z,k3Z,k0E,k9e,k0C,k0O,z1V,k0o,w0e,w0d,w0t,w0B,k2B,k2d,k0s,rg0,rgS,w0a,k0g,k0u]
 have K0:k0M [] h (h ++ [O.dict []] ++ [O.tdict []]):=(k0M.alloc _ _ _).trans (k0M.alloc _ _ _)
 have gs0:(h ++ [O.dict []] ++ [O.tdict []])[h.length]? = some (.dict []):=k0w (k0X _ _) _
 have gt0:(h ++ [O.dict []] ++ [O.tdict []])[h.length + 1]? = some (.tdict []):=by
  have:=k0X (h ++ [O.dict []]) (O.tdict [])
  rw [w0t,w0B] at this; exact this
 have L0:(h ++ [O.dict []] ++ [O.tdict []]).length = h.length + 2:=by simp
 generalize h ++ [O.dict []] ++ [O.tdict []] = H0 at *
 have kLT:∀ {S:List Nat} {h₁ h₂:Hp},k0M S h₁ h₂→∀ i,i∈[h.length,h.length + 1]→True:=fun Y Y Y=>trivial
 rw [k1S,K0.get hrl (by simp),k0g]
 simp only [k0u]
 let I:=fun (pre:List Jn) (reg:Reg) (h':Hp)=>(∃ g4 g5 g6 g7 g8 g9 g10 g11,reg = [some (.loc m),some (.loc rl),some (.loc h.length),some (.loc (h.length + 1)),g4,g5,g6,g7,g8,g9,g10,g11,none,none,none,none,none,none])∧k0M [h.length,h.length + 1] h h' ∧
  h.length + 2≤h'.length∧h'[h.length]? = some (.dict (k1F k5I (k1Y P pre)))∧h'[h.length + 1]? = some (.tdict (k6B (k4I pre)))
 have spLen:∀ l:List Jn,(k1Y P l).length = 4 * l.length:=by
  intro l
  induction l with
  | nil=>rfl
  | cons j l ih =>
   have e:k1Y P (j :: l) = (names.map fun n=>(j.x.nm ++ n,k5x P j n)) ++ k1Y P l:=rfl
   rw [e,w0t,ih,w0u,w0s]
   have:names.length = 4:=rfl
   lia
 have loLen:∀ l:List Jn,(k4I l).length = 2 * l.length:=by
  intro l
  induction l with
  | nil=>rfl
  | cons j l ih =>
   have e:k4I (j :: l) = ([false,true].map fun s=>([.inl j.x.nm,.inr s],j.x.u.core.lost s)) ++ k4I l:=rfl
   rw [e,w0t,ih,w0u]
   simp only [w0s,w0q]
   lia
 refine k4m js (fun j=>z0v j.x) I (by lia) (fun pre suf reg h' e hI=>k3p (hI.2.1.get hrl (by simp; (clear hI; lia))) _) ⟨(iX8 rfl),K0.mono (fun i hi=>by simp at hi),by lia,gs0,gt0⟩ (fun pre j suf reg h' e hI=>?_) (fun reg h' hI=>?_)
 ·refine cA5 hI fun yA K L gs gt=>cX8 yA fun g4 g5 g6 g7 g8 g9 g10 g11 yB=>?_; clear hI yA; subst yB
  have hj:j∈js:=by rw [e]; simp
  have hpl:pre.length + 1≤2:=by rw [e] at jl; simp at jl; lia
  have hnm:j.x.nm.length = 1:=by refine Or.elim (nmok j hj) (fun q=>?_) fun q=>?_ <;> rw [q] <;> rfl
  have M':=M.keep K (fun i hi=>by
   simp at hi ⊢
   (refine Or.elim hi (fun yY=>?_) fun yZ=>?_ <;> clear hi; rotate_left; (refine Or.elim yZ ?_ ?_ <;> clear yZ; rotate_left; (intro yZ; refine Or.elim yZ ?_ ?_ <;> clear yZ; rotate_left; (intro yZ; refine Or.elim yZ ?_ ?_ <;> clear yZ; rotate_left; (intro yZ; subst yZ); rotate_right; (intro yY; subst yY)); rotate_right; (intro yY; subst yY)); rotate_right; (intro yY; subst yY)); rotate_right; subst yY) <;> lia)
  refine cX2 (hcl j hj) fun lc cr yA=>cA3 yA fun hc1 hc2 hc3=>?_; clear yA
  have Llc:=k0t hc2
  unfold z0v
  simp only [k1I,w0s,w0q,w0y,true_and,k1w,k0x,k2j,k1H,w0e,w0d,k0u]
  refine z6d M' (jok j hj) (hP j hj) ⟨lc,cr,hc1,K.get hc2 (by simp; lia),hc3⟩ (by simp; lia) (by simp; lia) (by lia) gs gt (by rw [spLen]; lia) (by rw [loLen]; lia) (by lia) (fun l hl=>?_) ?_ (fun s q=>?_) (fun h'' g6 g7 g8 g9 g10 g11 K'' gs' gt'=>?_)
  ·rw [hc1] at hl; refine k1f hl fun yA=>?_; clear hl; subst yA; lia
  ·rw [w0j] at ndAll
   have:=(w0w.mp ndAll).1
   rw [keysT,e,w1n,w1m,← w0Z] at this
   rw [keysT]
   exact (w0w.mp this).1
  ·unfold k4I at q
   rw [w1x] at q
   refine cX1 (w0F.mp q) fun j' yA=>cA2 yA fun hj' hq=>?_; clear yA
   rw [w0k] at hq
   refine cX1 (w0b.mp hq) fun s' yA=>cA2 yA fun _ es=>?_; clear yA
   have es':([Sum.inl j'.x.nm,Sum.inr s']:Key) = [Sum.inl j.x.nm,Sum.inr s]:=es
   injection es' with w _
   injection w with w
   rw [e,w0j,w0f] at nmd
   exact k1C nmd (w0b.mpr ⟨j',hj',w⟩)
  ·rw [k0S]
   refine ⟨(iX8 rfl),K.trans K'',by have:=K''.len; lia,?_,?_⟩
   ·have:k1Y P (pre ++ [j]) = k1Y P pre ++ names.map fun n=>(j.x.nm ++ n,k5x P j n):=by unfold k1Y; rw [w1n]; simp
    rw [this]; exact gs'
   ·have:k4I (pre ++ [j]) = k4I pre ++ [false,true].map fun s=>([.inl j.x.nm,.inr s],j.x.u.core.lost s):=by unfold k4I; rw [w1n]; simp
    rw [this]; exact gt'
 refine cA5 hI fun yA K L gs gt=>cX8 yA fun g4 g5 g6 g7 g8 g9 g10 g11 yB=>?_; clear hI yA; subst yB
 have M':=M.keep K (fun i hi=>by
  simp at hi ⊢
  (refine Or.elim hi (fun yY=>?_) fun yZ=>?_ <;> clear hi; rotate_left; (refine Or.elim yZ ?_ ?_ <;> clear yZ; rotate_left; (intro yZ; refine Or.elim yZ ?_ ?_ <;> clear yZ; rotate_left; (intro yZ; refine Or.elim yZ ?_ ?_ <;> clear yZ; rotate_left; (intro yZ; subst yZ); rotate_right; (intro yY; subst yY)); rotate_right; (intro yY; subst yY)); rotate_right; (intro yY; subst yY)); rotate_right; subst yY) <;> lia)
 simp only [k0o,k0L,k2B,k2d,k2v,k0s,rg0,rgS,w0a,k0g,k0u,k0r,M'.blocks,k1S,M'.hb]
 rw [k1B]
 let I2:=fun (pre:Bk) (reg:Reg) (h':Hp)=>(∃ g8 g11 g12 g13,reg = [some (.loc m),some (.loc rl),some (.loc h.length),some (.loc (h.length + 1)),g4,g5,g6,g7,g8,g9,g10,g11,g12,g13,none,none,none,none])∧k0M [h.length,h.length + 1] h h' ∧
  h.length + 2≤h'.length∧h'[h.length]? = some (.dict (k1F k5I (k1Y P js ++ k1M pre)))∧h'[h.length + 1]? = some (.tdict (k6B (k4I js)))
 refine k4m B (fun e=>V.str e.1) I2 (by lia) (fun pre suf reg h' e hI=>?_) ⟨(iX4 rfl),K,L,by simpa [k1M] using gs,gt⟩ (fun pre x suf reg h' e hI=>?_) (fun reg h' hI=>?_)
 ·have M'':=M.keep hI.2.1 (fun i hi=>by
   simp at hi ⊢
   (refine Or.elim hi (fun yY=>?_) fun yZ=>?_ <;> clear hi; rotate_left; (refine Or.elim yZ ?_ ?_ <;> clear yZ; rotate_left; (intro yZ; refine Or.elim yZ ?_ ?_ <;> clear yZ; rotate_left; (intro yZ; refine Or.elim yZ ?_ ?_ <;> clear yZ; rotate_left; (intro yZ; subst yZ); rotate_right; (intro yY; subst yY)); rotate_right; (intro yY; subst yY)); rotate_right; (intro yY; subst yY)); rotate_right; subst yY) <;> (clear hI; lia))
  have:=k5a M''.hb pre.length
  rw [k1B] at this
  unfold k1F at this
  rw [w0k] at this
  exact this
 ·refine cA5 hI fun yA K2 L2 gs2 gt2=>cX4 yA fun g8 g11 g12 g13 yB=>?_; clear hI yA; subst yB
  have hx:x∈B:=by rw [e]; simp
  obtain ⟨b,s,lo,z⟩:=x
  have M'':=M.keep K2 (fun i hi=>by
   simp at hi ⊢
   (refine Or.elim hi (fun yY=>?_) fun yZ=>?_ <;> clear hi; rotate_left; (refine Or.elim yZ ?_ ?_ <;> clear yZ; rotate_left; (intro yZ; refine Or.elim yZ ?_ ?_ <;> clear yZ; rotate_left; (intro yZ; refine Or.elim yZ ?_ ?_ <;> clear yZ; rotate_left; (intro yZ; subst yZ); rotate_right; (intro yY; subst yY)); rotate_right; (intro yY; subst yY)); rotate_right; (intro yY; subst yY)); rotate_right; subst yY) <;> lia)
  have gb:=k1k bnd hx
  have hbl:1 + b.length≤1000:=by
   refine Or.elim (bkeys b (w0b.mpr ⟨_,hx,rfl⟩)) (fun q=>?_) fun q=>?_ <;> rw [q] <;> simp
  have hpl:pre.length≤2:=by rw [e] at hBl; simp at hBl; lia
  have hSl:(k1F k5I (k1Y P js ++ k1M pre)).length≤4000:=by
   rw [k1B,w0t,spLen]
   have:(k1M pre).length = pre.length:=by unfold k1M; simp
   lia
  have hnew:47 :: b∉(k1Y P js ++ k1M pre).map (·.1):=by
   have e1:(k1Y P js ++ k1M B).map (·.1) = (k1Y P js ++ k1M pre).map (·.1) ++ (47 :: b) :: (k1M suf).map (·.1):=by
    rw [e]
    unfold k1M
    simp
   rw [e1] at ndAll
   exact k1C ndAll
  rw [k0x,k0u]
  simp only [w0e,w0d,k0L,k0y,k1i,k2v,k0s,rg0,rgS,w0a,k0g,k0u,k0r,M''.blocks,k1R,M''.hb,k1j,k1h,gb,w0x,encK,k1q,k1I,w0s,w0q,w0y,true_and,k1w,k0x,k2j,k1H,k1r,k0o,
   k2h,k0z,k0E,k4o,k0C,k0O,k4H,q_cS,z3J,hbl,k6w,gs2,w0o,w0r,k2C,hSl,if_true,k0P,k1Q,k0S]
  have eput:k2c (k1F k5I (k1Y P js ++ k1M pre)) (47 :: b) (V.tup [V.bool s,V.int lo,V.int (lo + z)]) = k1F k5I (k1Y P js ++ k1M (pre ++ [(b,s,lo,z)])):=by
   have:V.tup [V.bool s,V.int lo,V.int (lo + z)] = k5I (s,lo,lo + z):=rfl
   rw [this,z2r hnew,w0Z]
   unfold k1M; rw [w0j]; rfl
  rw [eput]
  exact ⟨(iX4 rfl),K2.trans (k0M.set (by simp) _ _),by simp; lia,k0J gs2 _,k0m gt2 (by lia) _⟩
 refine cA5 hI fun yA K2 L2 gs2 gt2=>cX4 yA fun g8' g11' g12 g13 yB=>?_; clear hI yA; subst yB
 have gs3:=k0w gs2 (O.tdict [])
 have gt3:=k0w gt2 (O.tdict [])
 have gl3:=k0X h' (O.tdict [])
 have K3:=K2.trans (k0M.alloc [h.length,h.length + 1] h' (O.tdict []))
 have L3:(h' ++ [O.tdict []]).length = h'.length + 1:=by simp
 simp only [k0o,k0L,k0y,k9e,k1q,k0x,w0e,w0d,k1r,k2B,k2d,k0s,rg0,rgS,w0a,k0g,k0u,k1S,gs3]
 rw [k1B]
 generalize h' ++ [O.tdict []] = H3 at *
 refine w_laps gs3 gl3 (by lia) ndAll ?_ (fun h4 g6 g15 g16 g17 K4 gl4=>?_)
 ·rw [w0t,spLen]
  have:(k1M B).length = B.length:=by unfold k1M; simp
  lia
 have K34:=K3.trans' K4 (fun i hi=>.inr (by simp at hi; lia))
 have M4:=M.keep K34 (fun i hi=>by
  simp at hi ⊢
  (refine Or.elim hi (fun yY=>?_) fun yZ=>?_ <;> clear hi; rotate_left; (refine Or.elim yZ ?_ ?_ <;> clear yZ; rotate_left; (intro yZ; refine Or.elim yZ ?_ ?_ <;> clear yZ; rotate_left; (intro yZ; refine Or.elim yZ ?_ ?_ <;> clear yZ; rotate_left; (intro yZ; subst yZ); rotate_right; (intro yY; subst yY)); rotate_right; (intro yY; subst yY)); rotate_right; (intro yY; subst yY)); rotate_right; subst yY) <;> lia)
 have gt4:=K4.get gt3 (by simp; lia)
 have L4:=K4.len
 have itB:∀ (hh:Hp),k1L hh m d p bk c N C P B cl→∀ i,k1Z (.dict bk B.length) i hh = some ((B.map fun e=>V.str e.1)[i]?):=fun hh Mh i=>by
  have:=k5a Mh.hb i
  rw [k1B] at this
  unfold k1F at this
  rw [w0k] at this
  exact this
 simp only [k0o,k0L,k6v,k2h,k0z,k2v,k0s,rg0,rgS,w0a,k0g,k0u,k0r,M4.numeric,k0E,M4.chars,k2W,k2d,M4.blocks,k1S,M4.hb,k1B,k4j,w0f,w0n,List.replicate,w0o,w0r]
 let I3:=fun (pre:Bk) (reg:Reg) (o:O) (hh:Hp)=>(∃ g0,reg = [g0,some (.loc m)])∧hh = h4∧o = .dict (k1F .int (k6n pre))
 refine z6e B (fun e=>V.str e.1) I3 (by lia) (fun pre suf reg o hh e hI=>?_) ⟨⟨_,rfl⟩,rfl,rfl⟩ (fun pre x suf reg o hh e hI=>?_) (fun reg o hh hI=>?_)
 ·refine cA3 hI fun _ yA=>?_; clear hI; subst yA; intro _
  exact itB _ M4 _
 ·refine cA3 hI fun yA yB=>?_; clear hI; subst yB; intro yC; subst yC; refine cX1 yA fun g0 yD=>?_; clear yA; subst yD
  have hx:x∈B:=by rw [e]; simp
  obtain ⟨b,s,lo,z⟩:=x
  have gb:=k1k bnd hx
  have c2:(0:Int)≤2∧(2:Int) < 4096:=by decide
  have t2:(2:Int).toNat = 2:=rfl
  unfold k9i
  simp only [k0r,k0x,w0d,k0u,q_tT,k2w,if_true,k9X,k0s,rg0,rgS,w0a,k0g,k1i,k2v,M4.blocks,k1R,M4.hb,k1j,k1h,gb,w0x,encK,k4k,k3c,c2,t2,and_self,true_and,k0P,k4P]
  refine ⟨⟨_,rfl⟩,rfl,?_⟩
  rw [k3i,k2I]
  ·unfold k6n; rw [w0j]; rfl
  ·rw [k1W]
   intro q
   have e1:(k6n pre).map (·.1) = pre.map (·.1):=by unfold k6n; rw [w0k]; rfl
   rw [e1] at q
   rw [e,w0j,w0f] at bnd
   exact k1C bnd q
 ·refine cA3 hI fun _ yA=>?_; clear hI; subst yA; intro yB; subst yB
  simp only [k0E,k0z,k0s,rg0,rgS,w0a,k0g,k0C,k0O,k3O,k2F]
  refine h1 _ _ _ _ ((K34.trans (k0M.alloc _ _ _)).mono fun i hi=>.inr (by simp at hi; lia)) (by lia) (by have:=k0t gl4; lia) (by lia) (by lia) (by lia) (by lia) (k0X _ _) (k0w gt4 _) (k0w gl4 _)
end T
namespace T
noncomputable abbrev Ncs:=List (Nm × k3M)
noncomputable def Ncs.cs (l:Ncs):List k3M:=l.map (·.2)
noncomputable def k9z (l:Ncs) (k:Nm) (s:Bool) (z:Int):Prop:=(∃ nm c n,(nm,c)∈l∧n∈names∧k = nm ++ n∧s = (c.th n).txt∧z = (c.th n).size)∨∃ b,k = 47 :: b∧z1l l.cs b s z
noncomputable def z3j (l:Ncs) (k b:Nm) (o:Int):Prop:=(k = 47 :: b∧o = 0∧∃ s z,z1l l.cs b s z)∨∃ nm c n,(nm,c)∈l∧n∈names∧k = nm ++ n∧(∃ s,c.blk b s)∧c.F (47 :: b) n o
noncomputable def Rel (l:Ncs) (k1 k2:Nm) (d:Int):Prop:=(∃ b o1 o2,z3j l k1 b o1∧z3j l k2 b o2∧d = o2 - o1)∨∃ nm c n m,(nm,c)∈l∧n∈names∧m∈names∧k1 = nm ++ n∧k2 = nm ++ m∧c.F n m d
noncomputable def LapP (l:Ncs) (k1 k2:Nm) (v:Int):Prop:=Rel l k1 k2 v∧∃ s z1 z2,k9z l k1 s z1∧k9z l k2 s z2∧0 < v + z2∧v < z1
structure Told (l:Ncs) (N C:Int) (D:List (Nm × Int)) (T L:List (Key × Int)):Prop where
 N:N = Tot l.cs false
 C:C = Tot l.cs true
 dn:(D.map (·.1)).Nodup
 d:∀ b z,k0Q D b = some z↔∃ s,z1l l.cs b s z
 tn:(T.map (·.1)).Nodup
 t:∀ k v,k0Q T k = some v↔∃ nm c s,(nm,c)∈l∧k = [.inl nm,.inr s]∧v = c.lost s
 ln:(L.map (·.1)).Nodup
 l:∀ k v,k0Q L k = some v↔∃ k1 k2,k = [.inl k1,.inl k2]∧LapP l k1 k2 v
theorem k9A {K:Type} [DecidableEq K] {a b:List (K × Int)} (ha:(a.map (·.1)).Nodup) (hb:(b.map (·.1)).Nodup) (h:∀ k,k0Q a k = k0Q b k):k2g a b = true:=by
 unfold k2g
 rw [w1s]
 constructor
 ·have p:(a.map (·.1)).Perm (b.map (·.1)):=(w2v ha hb).mpr fun k=>by
   rw [← k1T,← k1T,h]
  have:=p.length_eq
  simp at this
  simpa using this
 ·rw [List.all_eq_true]
  intro p hp
  rw [decide_eq_true_eq,← h]
  exact k1k ha hp
theorem z0x {S' S:Sps} {k:Key} {v:Int}:(k,v)∈k2T S' S↔∃ p q,p∈S'∧q∈S∧z3i p q = true∧k = [.inl p.1,.inl q.1]∧v = q.2.2.1 - p.2.2.1:=by
 unfold k2T k5y
 simp only [w0F,w0b,w0I]
 constructor
 ·intro z0q; refine cX1 z0q fun p yA=>cA2 yA fun hp yB=>cX1 yB fun q yC=>cA2 yC fun yD e=>cA2 yD fun hq hb=>?_; clear z0q yA yB yC yD
  injection e with e1 e2
  exact ⟨p,q,hp,hq,hb,e1.symm,e2.symm⟩
 ·intro z0q; refine cX2 z0q fun p q yA=>cA5 yA fun hp hq hb yB=>?_; clear z0q yA; subst yB; intro yC; subst yC
  exact ⟨p,hp,q,⟨hq,hb⟩,rfl⟩
theorem k5M {S:Sps} (nd:(S.map (·.1)).Nodup):∀ {S':Sps},(S'.map (·.1)).Nodup→((k2T S' S).map (·.1)).Nodup
 | [],_=>by simp [k2T]
 | p :: S',h=>by
  rw [w0f,w0J] at h
  have e:k2T (p :: S') S = k5y p S ++ k2T S' S:=rfl
  rw [e,w0j,w0w]
  refine ⟨?_,k5M nd h.2,fun x hx y hy=>?_⟩
  ·have e1:(k5y p S).map (·.1) = ((S.filter (z3i p)).map (·.1)).map fun k=>([.inl p.1,.inl k]:Key):=by unfold k5y; rw [w0k,w0k]; rfl
   rw [e1]
   refine List.Pairwise.map _ (fun a b hab q=>?_) (List.Sublist.nodup (List.Sublist.map _ List.filter_sublist) nd)
   injection q with _ q
   injection q with q _
   injection q with q
   exact hab q
  ·refine cX1 (k7z hx) fun q yA=>cA2 yA fun _ yB=>?_; clear yA; subst yB
   refine cX2 (k9x hy) fun p' q' yA=>cA3 yA fun hp' _ yB=>?_; clear yA; subst yB
   intro w
   injection w with w _
   injection w with w
   exact h.1 (w0b.mpr ⟨p',hp',w.symm⟩)
section
variable {h:Hp} {m:Nat} {js:List Jn} {N C:Int} {P:Pl} {B:Bk} {cl:List (Nm × Nat)} {G:Gs}
noncomputable def ncs (js:List Jn):Ncs:=js.map fun j=>(j.x.nm,j.x.u.core)
theorem k9B (js:List Jn):(ncs js).cs = k3Y js:=by unfold ncs Ncs.cs k3Y; rw [w0k]; rfl
theorem k5N {js:List Jn} {nm:Nm} {c:k3M}:(nm,c)∈ncs js↔∃ j,j∈js∧nm = j.x.nm∧c = j.x.u.core:=by
 unfold ncs
 rw [w0b]
 constructor
 ·intro z0q; refine cX1 z0q fun j yA=>cA2 yA fun hj e=>?_; clear z0q yA; injection e with e1 e2; exact ⟨j,hj,e1.symm,e2.symm⟩
 ·intro z0q; refine cX1 z0q fun j yA=>cA3 yA fun hj yB=>?_; clear z0q yA; subst yB; intro yC; subst yC; exact ⟨j,hj,rfl⟩
theorem k5K.same {G:Gs} {N C:Int} (A:k5K G N C) {k:RK} {v v':Bool × Int × Int} (h1:(k,v)∈G) (h2:(k,v')∈G):v = v':=by
 have e1:=k1k A.nd h1
 have e2:=k1k A.nd h2
 rw [e1] at e2
 exact Option.some.inj e2
theorem k5K.far {G:Gs} {N C:Int} (A:k5K G N C) {k k':RK} {s:Bool} {lo hi lo' hi':Int} (h1:(k,s,lo,hi)∈G) (h2:(k',s,lo',hi')∈G) (hk:k≠k'):hi≤lo'∨hi'≤lo:=by
 refine cX1 (w1L h1) fun i hi1=>?_
 refine cX1 (w1L h2) fun j hj1=>?_
 refine cX1 (w0v.mp hi1) fun li ei=>?_
 refine cX1 (w0v.mp hj1) fun lj ej=>?_
 refine Or.elim (Nat.lt_trichotomy i j) (fun w=>?_) fun yZ=>?_; rotate_left; (refine Or.elim yZ (fun w=>?_) fun w=>?_ <;> clear yZ); rotate_right
 ·have:=w2w.mp A.pw i j li lj w
  rw [ei,ej] at this
  exact .inl (this rfl)
 ·subst w
  rw [hi1] at hj1
  refine k1f hj1 fun yA=>?_; clear hj1; refine k2X yA fun yB yC=>?_; clear yA; subst yB; refine k2X yC fun yD yE=>?_; clear yC; cases yD; refine k2X yE fun yF yG=>?_; clear yE; subst yF; subst yG
  exact absurd rfl hk
 ·have:=w2w.mp A.pw j i lj li w
  rw [ei,ej] at this
  exact .inr (this rfl)
variable (X:k9v h m js N C P B cl G) (jok:∀ j,j∈js→j.Ok)
include X jok
theorem z3U {j:Jn} (hj:j∈js) {n:Nm} (hn:n∈names):∃ a,k0Q P (j.x.nm,n) = some (j.x.u.th n,a) ∧
  ((∃ b bg lo hi,k0Q j.rf (j.rt n) = some (b,bg)∧(RK.blk b,(j.x.u.th n).txt,lo,hi)∈G∧a = lo + (j.ds n - bg)∧lo≤a∧a + (j.x.u.th n).size≤hi∧∃ z,k0Q B b = some ((j.x.u.th n).txt,lo,z)) ∨
   (k0Q j.rf (j.rt n) = none∧∃ lo hi,(RK.cls j.x.nm (j.rt n),(j.x.u.th n).txt,lo,hi)∈G∧a = lo - z2Y j.rt j.ds j.x.u.ord (j.rt n) + j.ds n∧lo≤a∧a + (j.x.u.th n).size≤hi)):=by
 have J:=(jok j hj).R
 have ok:=(jok j hj).ok
 refine cA2 ((X.pl j hj).1 n hn) fun h1 h2=>?_
 have hno:=(ok.ord n).mpr hn
 cases e:k0Q j.rf (j.rt n) with
 | some q =>
  obtain ⟨b,bg⟩:=q
  refine cX3 (h1 b bg e) fun s lo z yA=>cA2 yA fun q1 q2=>?_; clear yA
  refine cA3 ((J.roots.get _ _ _).mp e) fun w1 w2 w3=>?_
  refine cX1 ((k3q J.soR b).mpr w1) fun sb hsb=>?_
  have ht:=txt_blk J ok hn hsb w2.symm
  refine cA2 (X.bget b s lo z q1) fun hB hG=>?_
  refine cA2 hB fun yA hmax=>cX1 yA fun c yB=>cA2 yB fun hc hcb=>?_; clear hB yA yB
  have hmem:j.x.u.core∈k3Y js:=w0b.mpr ⟨j,hj,rfl⟩
  have hR:∃ m',k3j (j.x.u.core.BEnd b) m':=by
   refine cX1 (k7f ok J.ab J.soR J.sizes w1) fun m' hm'=>?_
   exact ⟨m',((z1n J ok b m').mpr hm').2⟩
  refine cX1 hR fun m' hm'=>?_; clear hR
  have hz:j.x.u.core.BSz b m':=⟨⟨sb,hsb⟩,hm'⟩
  have hBs:z1l (k3Y js) b sb z:=⟨⟨j.x.u.core,hmem,hsb⟩,hmax⟩
  refine cX1 (X.bcov b sb z hBs) fun lo' hlo'=>?_
  rw [q1] at hlo'
  refine k1f hlo' fun yA=>?_; clear hlo'; refine k2X yA fun yB yC=>?_; clear yA; subst yB; refine k2X yC fun yD yE=>?_; clear yC; subst yD; cases yE
  have hle1:m'≤z:=hmax.le m' ⟨_,hmem,hz⟩
  have hle2:j.ds n - bg + (j.x.u.th n).size≤m':=hm'.le _ ⟨n,hn,j.ds n - bg,by rw [w3]; exact (k5b J.ab _ _ _).mpr ⟨w2,rfl⟩,rfl⟩
  have hge:0≤j.ds n - bg:=(z5U J ok).ahead b s n _ hsb hn (by rw [w3]; exact (k5b J.ab _ _ _).mpr ⟨w2,rfl⟩)
  refine ⟨lo + j.ds n - bg,q2,.inl ⟨b,bg,lo,lo + z,rfl,by rw [ht]; exact hG,by lia,by lia,by lia,z,by rw [ht]; exact q1⟩⟩
 | none =>
  refine cX1 (h2 e) fun lo yA=>cA2 yA fun q1 q2=>?_; clear yA
  rw [z5X J ok hn] at q1
  refine cA3 (k6y (ds:=j.ds) (rt:=j.rt) ok.th hno) fun w1 w2 w3=>?_
  refine ⟨_,q2,.inr ⟨rfl,lo,_,q1,rfl,by lia,?_⟩⟩
  unfold k8k; lia
theorem k5k {j:Jn} (hj:j∈js) {n:Nm} (hn:n∈names):k0Q P (j.x.nm,n) = some (j.x.u.th n,k9w P (j.x.nm,n)):=by
 refine cX1 (z3U X jok hj hn) fun a yA=>cA2 yA fun ha _=>?_; clear yA
 unfold k9w
 rw [ha]; rfl
variable (nmok:∀ j,j∈js→j.x.nm = [85]∨j.x.nm = [86]) (nmd:(js.map fun j=>j.x.nm).Nodup)
include nmok nmd
theorem nm_inj {j j':Jn} (hj:j∈js) (hj':j'∈js) (e:j.x.nm = j'.x.nm):j = j':=by
 refine cX1 (w1L hj) fun i hi=>?_
 refine cX1 (w1L hj') fun i' hi'=>?_
 have e1:(js.map fun j=>j.x.nm)[i]? = (js.map fun j=>j.x.nm)[i']?:=by rw [w0H,w0H,hi,hi']; simp [e]
 have li:i < (js.map fun j=>j.x.nm).length:=by rw [w0u]; exact (w0v.mp hi).1
 have:=(w1r li nmd).mp e1
 subst this
 rw [hi] at hi'
 exact Option.some.inj hi'
theorem k9C:((k1Y P js ++ k1M B).map (·.1)).Nodup:=k9y nmok nmd X.bnd
theorem z6f {k:Nm} {s:Bool} {a e:Int} (hk:(k,s,a,e)∈k1Y P js ++ k1M B):k9z (ncs js) k s (e - a)∧∃ rk lo hi,(rk,s,lo,hi)∈G∧lo≤a∧e≤hi ∧
  ((∃ b o,rk = RK.blk b∧z3j (ncs js) k b o∧a = lo + o)∨∃ j n,j∈js∧n∈names∧k = j.x.nm ++ n∧rk = RK.cls j.x.nm (j.rt n)∧a = lo - z2Y j.rt j.ds j.x.u.ord (j.rt n) + j.ds n):=by
 refine Or.elim (w0g.mp hk) (fun hk=>?_) fun hk=>?_
 ·unfold k1Y at hk
  refine cX1 (w0F.mp hk) fun j yA=>cA2 yA fun hj hk=>?_; clear yA
  refine cX1 (w0b.mp hk) fun n yA=>cA2 yA fun hn e1=>?_; clear yA
  have J:=(jok j hj).R
  unfold k5x at e1
  injection e1 with e1 e2
  injection e2 with e2 e3
  injection e3 with e3 e4
  subst e1; subst e2
  refine cX1 (z3U X jok hj hn) fun a' yA=>cA2 yA fun ha' hw=>?_; clear yA
  have:=k5k X jok hj hn
  rw [ha'] at this
  injection this with this
  injection this with _ this
  rw [← this] at e3 e4
  subst e3; subst e4
  refine ⟨.inl ⟨j.x.nm,j.x.u.core,n,k5N.mpr ⟨j,hj,rfl,rfl⟩,hn,rfl,rfl,by show _ = (j.x.u.th n).size; lia⟩,?_⟩
  refine Or.elim hw (fun yY=>?_) fun yZ=>?_ <;> clear hw; rotate_left; (refine cA2 yZ fun w1 yA=>cX2 yA fun lo hi yB=>cA4 yB fun w2 w3 w4 w5=>?_; clear yZ yA yB); rotate_right; (refine cX4 yY fun b bg lo hi yA=>cA6 yA fun w1 w2 w3 w4 w5 w6=>?_; clear yY yA)
  ·refine cA3 ((J.roots.get _ _ _).mp w1) fun v1 v2 v3=>?_
   refine ⟨_,lo,hi,w2,w4,w5,.inl ⟨b,j.ds n - bg,rfl,.inr ⟨j.x.nm,j.x.u.core,n,k5N.mpr ⟨j,hj,rfl,rfl⟩,hn,rfl,(k3q J.soR b).mpr v1,?_⟩,w3⟩⟩
   rw [v3]; exact (k5b J.ab _ _ _).mpr ⟨v2,rfl⟩
  ·exact ⟨_,lo,hi,w2,w4,w5,.inr ⟨j,n,hj,hn,rfl,rfl,w3⟩⟩
 ·unfold k1M at hk
  refine cX1 (w0b.mp hk) fun x yA=>cA2 yA fun hx e1=>?_; clear yA
  obtain ⟨b,s',lo,z⟩:=x
  injection e1 with e1 e2
  injection e2 with e2 e3
  injection e3 with e3 e4
  have e1':47 :: b = k:=e1
  have e2':s' = s:=e2
  have e3':lo = a:=e3
  have e4':lo + z = e:=e4
  subst e1'; subst e2'; subst e3'; subst e4'
  refine cA2 (X.bget b s' lo z (k1k X.bnd hx)) fun q1 q2=>?_
  refine ⟨.inr ⟨b,rfl,?_⟩,_,lo,lo + z,q2,by lia,by lia,.inl ⟨b,0,rfl,.inl ⟨rfl,rfl,s',z,by rw [k9B]; exact q1⟩,by lia⟩⟩
  rw [k9B]
  have:lo + z - lo = z:=by lia
  rw [this]; exact q1
theorem z6g {k:Nm} {s:Bool} {z:Int} (hk:k9z (ncs js) k s z):∃ a,(k,s,a,a + z)∈k1Y P js ++ k1M B:=by
 refine Or.elim hk (fun yY=>?_) fun yZ=>?_ <;> clear hk; rotate_left; (refine cX1 yZ fun b yA=>cA2 yA fun yB=>?_; clear yZ yA; subst yB; intro h1); rotate_right; (refine cX3 yY fun nm c n yA=>cA5 yA fun h1 h2 yB=>?_; clear yY yA; subst yB; intro yC; subst yC; intro yD; subst yD)
 ·refine cX1 (k5N.mp h1) fun j yA=>cA3 yA fun hj yB=>?_; clear yA; subst yB; intro yC; subst yC
  refine ⟨k9w P (j.x.nm,n),w0R _ (w0F.mpr ⟨j,hj,w0b.mpr ⟨n,h2,rfl⟩⟩)⟩
 ·rw [k9B] at h1
  refine cX1 (X.bcov b s z h1) fun lo hlo=>?_
  exact ⟨lo,w1p _ (w0b.mpr ⟨(b,s,lo,z),k4O hlo,rfl⟩)⟩
theorem z3V {k b:Nm} {o:Int} (hk:z3j (ncs js) k b o) {s:Bool} {a e:Int} (hm:(k,s,a,e)∈k1Y P js ++ k1M B):∃ s' lo z,k0Q B b = some (s',lo,z)∧a = lo + o:=by
 have nd:=k9C X jok nmok nmd
 have e0:=k1k nd hm
 refine Or.elim hk (fun yY=>?_) fun yZ=>?_ <;> clear hk; rotate_left; (refine cX3 yZ fun nm c n yA=>cA5 yA fun h1 h2 yB=>?_; clear yZ yA; subst yB; intro yC h3; refine cX1 yC fun s' hs'=>?_; clear yC); rotate_right; (refine cA3 yY fun yA=>?_; clear yY; subst yA; intro yB; subst yB; intro yC; refine cX2 yC fun s' z hR=>?_; clear yC)
 ·rw [k9B] at hR
  refine cX1 (X.bcov b s' z hR) fun lo hlo=>?_
  have e1:=k1k nd (w1p (k1Y P js) (w0b.mpr ⟨(b,s',lo,z),k4O hlo,rfl⟩):(47 :: b,(s',lo,lo + z))∈k1Y P js ++ k1M B)
  rw [e0] at e1
  injection e1 with e1
  injection e1 with _ e1
  injection e1 with e1 _
  exact ⟨s',lo,z,hlo,by lia⟩
 ·refine cX1 (k5N.mp h1) fun j yA=>cA3 yA fun hj yB=>?_; clear yA; subst yB; intro yC; subst yC
  have J:=(jok j hj).R
  have e1:=k1k nd (w0R (k1M B) (w0F.mpr ⟨j,hj,w0b.mpr ⟨n,h2,rfl⟩⟩):(j.x.nm ++ n,k5x P j n)∈k1Y P js ++ k1M B)
  rw [e0] at e1
  injection e1 with e1
  unfold k5x at e1
  injection e1 with _ e1
  injection e1 with e1 _
  refine cA2 ((k5b J.ab _ _ _).mp h3) fun q1 q2=>?_
  have hr:=(J.roots.get (j.rt n) b (j.ds (47 :: b))).mpr ⟨(k3q J.soR b).mp ⟨s',hs'⟩,q1,rfl⟩
  refine cX3 (((X.pl j hj).1 n h2).1 b _ hr) fun s'' lo z yA=>cA2 yA fun w1 w2=>?_; clear yA
  have:=k5k X jok hj h2
  rw [w2] at this
  injection this with this
  injection this with _ this
  exact ⟨s'',lo,z,w1,by lia⟩
theorem rel_addr {k1 k2:Nm} {d:Int} (hr:Rel (ncs js) k1 k2 d) {s1 s2:Bool} {a1 e1 a2 e2:Int} (h1:(k1,s1,a1,e1)∈k1Y P js ++ k1M B) (h2:(k2,s2,a2,e2)∈k1Y P js ++ k1M B):a2 - a1 = d:=by
 have nd:=k9C X jok nmok nmd
 refine Or.elim hr (fun yY=>?_) fun yZ=>?_ <;> clear hr; rotate_left; (refine cX4 yZ fun nm c n m' yA=>cA6 yA fun q1 hn hm' yB=>?_; clear yZ yA; subst yB; intro yC; subst yC; intro q2); rotate_right; (refine cX3 yY fun b o1 o2 yA=>cA3 yA fun q1 q2 yB=>?_; clear yY yA; subst yB)
 ·refine cX3 (z3V X jok nmok nmd q1 h1) fun s lo z yA=>cA2 yA fun w1 w2=>?_; clear yA
  refine cX3 (z3V X jok nmok nmd q2 h2) fun s' lo' z' yA=>cA2 yA fun w3 w4=>?_; clear yA
  rw [w1] at w3
  refine k1f w3 fun yA=>?_; clear w3; refine k2X yA fun yB yC=>?_; clear yA; subst yB; refine k2X yC fun yD yE=>?_; clear yC; subst yD; subst yE
  lia
 ·refine cX1 (k5N.mp q1) fun j yA=>cA3 yA fun hj yB=>?_; clear yA; subst yB; intro yC; subst yC
  have J:=(jok j hj).R
  have e0:=k1k nd h1
  have e0':=k1k nd h2
  have x1:=k1k nd (w0R (k1M B) (w0F.mpr ⟨j,hj,w0b.mpr ⟨n,hn,rfl⟩⟩):(j.x.nm ++ n,k5x P j n)∈k1Y P js ++ k1M B)
  have x2:=k1k nd (w0R (k1M B) (w0F.mpr ⟨j,hj,w0b.mpr ⟨m',hm',rfl⟩⟩):(j.x.nm ++ m',k5x P j m')∈k1Y P js ++ k1M B)
  rw [e0] at x1
  rw [e0'] at x2
  injection x1 with x1
  injection x2 with x2
  unfold k5x at x1 x2
  injection x1 with _ x1
  injection x1 with x1 _
  injection x2 with _ x2
  injection x2 with x2 _
  refine cA2 ((k5b J.ab _ _ _).mp q2) fun w1 w2=>?_
  have an:=k5k X jok hj hn
  have am:=k5k X jok hj hm'
  refine cA2 ((X.pl j hj).1 n hn) fun p1 p2=>?_
  refine cA2 ((X.pl j hj).1 m' hm') fun p3 p4=>?_
  cases e:k0Q j.rf (j.rt n) with
  | some q =>
   obtain ⟨b,bg⟩:=q
   refine cX3 (p1 b bg e) fun s lo z yA=>cA2 yA fun v1 v2=>?_; clear yA
   refine cX3 (p3 b bg (by rw [← w1]; exact e)) fun s' lo' z' yA=>cA2 yA fun v3 v4=>?_; clear yA
   rw [v1] at v3; refine k1f v3 fun yA=>?_; clear v3; refine k2X yA fun yB yC=>?_; clear yA; subst yB; refine k2X yC fun yD yE=>?_; clear yC; subst yD; subst yE
   rw [v2] at an
   rw [v4] at am
   injection an with an
   injection an with _ an
   injection am with am
   injection am with _ am
   lia
  | none =>
   refine cX1 (p2 e) fun lo yA=>cA2 yA fun v1 v2=>?_; clear yA
   refine cX1 (p4 (by rw [← w1]; exact e)) fun lo' yA=>cA2 yA fun v3 v4=>?_; clear yA
   rw [← w1] at v3 v4
   have:=X.ap.same v1 v3
   injection this with _ this
   injection this with this _
   subst this
   rw [v2] at an
   rw [v4] at am
   injection an with an
   injection an with _ an
   injection am with am
   injection am with _ am
   lia
theorem laps_iff (k:Key) (v:Int):k0Q (k2T (k1Y P js ++ k1M B) (k1Y P js ++ k1M B)) k = some v↔∃ k1 k2,k = [.inl k1,.inl k2]∧LapP (ncs js) k1 k2 v:=by
 have nd:=k9C X jok nmok nmd
 have ndl:=k5M nd nd
 constructor
 ·intro hd
  refine cX2 (z0x.mp (k4O hd)) fun p q yA=>cA5 yA fun hp hq hb yB=>?_; clear yA; subst yB; intro yC; subst yC
  obtain ⟨k1,s1,a1,e1⟩:=p
  obtain ⟨k2,s2,a2,e2⟩:=q
  unfold z3i at hb
  simp only [w1s,beq_iff_eq,decide_eq_true_eq] at hb
  refine cA3 hb fun b1 b2 b3=>?_; clear hb
  subst b1
  refine cA2 (z6f X jok nmok nmd hp) fun x1 yA=>cX3 yA fun rk1 lo1 hi1 yB=>cA4 yB fun g1 l1 u1 c1=>?_; clear yA yB
  refine cA2 (z6f X jok nmok nmd hq) fun x2 yA=>cX3 yA fun rk2 lo2 hi2 yB=>cA4 yB fun g2 l2 u2 c2=>?_; clear yA yB
  refine ⟨k1,k2,rfl,?_,s1,e1 - a1,e2 - a2,x1,x2,by show 0 < a2 - a1 + (e2 - a2); lia,by show a2 - a1 < e1 - a1; lia⟩
  have hk:rk1 = rk2:=Classical.byContradiction fun hne=>by
   refine Or.elim (X.ap.far g1 g2 hne) (fun w=>?_) fun w=>?_ <;> lia
  subst hk
  have:=X.ap.same g1 g2
  injection this with _ this
  injection this with this _
  subst this
  show Rel (ncs js) k1 k2 (a2 - a1)
  refine Or.elim c1 (fun yY=>?_) fun yZ=>?_ <;> clear c1; rotate_left; (refine cX2 yZ fun j n yA=>cA5 yA fun w1 w2 w3 w4 w5=>?_; clear yZ yA); rotate_right; (refine cX2 yY fun b o1 yA=>cA3 yA fun w1 w2 w3=>?_; clear yY yA)
  ·refine Or.elim c2 (fun yY=>?_) fun yZ=>?_ <;> clear c2; rotate_left; (refine cX2 yZ fun j' n' yA=>cA5 yA fun v1 v2 v3 v4 v5=>?_; clear yZ yA); rotate_right; (refine cX2 yY fun b' o2 yA=>cA3 yA fun v1 v2 v3=>?_; clear yY yA)
   ·rw [w1] at v1
    cases v1
    exact .inl ⟨b,o1,o2,w2,v2,by lia⟩
   ·rw [w1] at v4; cases v4
  ·refine Or.elim c2 (fun yY=>?_) fun yZ=>?_ <;> clear c2; rotate_left; (refine cX2 yZ fun j' n' yA=>cA5 yA fun v1 v2 v3 v4 v5=>?_; clear yZ yA); rotate_right; (refine cX2 yY fun b' o2 yA=>cA3 yA fun v1 v2 v3=>?_; clear yY yA)
   ·rw [w4] at v1; cases v1
   ·rw [w4] at v4
    injection v4 with v4 v6
    have:=nm_inj X jok nmok nmd w1 v1 v4
    subst this
    refine .inr ⟨j.x.nm,j.x.u.core,n,n',k5N.mpr ⟨j,w1,rfl,rfl⟩,w2,v2,w3,v3,(k5b (jok j w1).R.ab _ _ _).mpr ⟨v6,?_⟩⟩
    rw [← v6] at v5
    lia
 ·intro z0q; refine cX2 z0q fun k1 k2 yA=>cA3 yA fun yB=>?_; clear z0q yA; subst yB; intro hr yC; refine cX3 yC fun s z1 z2 yD=>cA4 yD fun x1 x2 c1 c2=>?_; clear yC yD
  refine cX1 (z6g X jok nmok nmd x1) fun a1 m1=>?_
  refine cX1 (z6g X jok nmok nmd x2) fun a2 m2=>?_
  have:=rel_addr X jok nmok nmd hr m1 m2
  refine k1k ndl (z0x.mpr ⟨_,_,m1,m2,?_,rfl,?_⟩)
  ·unfold z3i
   simp only [w1s,beq_iff_eq,decide_eq_true_eq]
   exact ⟨trivial,by lia,by lia⟩
  ·show v = a2 - a1; lia
theorem told_of:Told (ncs js) N C (k6n B) (k4I js) (k2T (k1Y P js ++ k1M B) (k1Y P js ++ k1M B)) where
 N:=by rw [k9B]; exact X.eN
 C:=by rw [k9B]; exact X.eC
 dn:=by
  have:(k6n B).map (·.1) = B.map (·.1):=by unfold k6n; rw [w0k]; rfl
  rw [this]; exact X.bnd
 d:=fun b z=>by
  rw [k9B]
  have e:k0Q (k6n B) b = (k0Q B b).map fun q=>q.2.2:=by
   unfold k6n
   clear X
   induction B with
   | nil=>rfl
   | cons x B ih =>
    obtain ⟨k,v⟩:=x
    rw [w0f,k1d,k1d,ih]
    split <;> rfl
  rw [e]
  constructor
  ·intro w
   cases e1:k0Q B b with
   | none=>rw [e1] at w; cases w
   | some q =>
    obtain ⟨s,lo,z'⟩:=q
    rw [e1] at w
    simp at w
    subst w
    exact ⟨s,(X.bget b s lo z' e1).1⟩
  ·intro z0q; refine cX1 z0q fun s hs=>?_; clear z0q
   refine cX1 (X.bcov b s z hs) fun lo hlo=>?_
   rw [hlo]; rfl
 tn:=by
  unfold k4I
  rw [w1x]
  clear X nmok jok
  induction js with
  | nil=>simp
  | cons j js ih =>
   rw [w0f,w0J] at nmd
   rw [w1m,w0w]
   refine ⟨by simp,ih nmd.2,fun x hx y hy=>?_⟩
   rw [w0k] at hx
   refine cX1 (w0b.mp hx) fun s yA=>cA2 yA fun _ yB=>?_; clear yA; subst yB
   refine cX1 (w0F.mp hy) fun j' yA=>cA2 yA fun hj' hy=>?_; clear yA
   rw [w0k] at hy
   refine cX1 (w0b.mp hy) fun s' yA=>cA2 yA fun _ yB=>?_; clear yA; subst yB
   intro q
   have q':([Sum.inl j.x.nm,Sum.inr s]:Key) = [Sum.inl j'.x.nm,Sum.inr s']:=q
   injection q' with q' _
   injection q' with q'
   exact nmd.1 (w0b.mpr ⟨j',hj',q'.symm⟩)
 t:=fun k v=>by
  have nd:((k4I js).map (·.1)).Nodup:=by
   unfold k4I
   rw [w1x]
   clear X nmok jok
   induction js with
   | nil=>simp
   | cons j js ih =>
    rw [w0f,w0J] at nmd
    rw [w1m,w0w]
    refine ⟨by simp,ih nmd.2,fun x hx y hy=>?_⟩
    rw [w0k] at hx
    refine cX1 (w0b.mp hx) fun s yA=>cA2 yA fun _ yB=>?_; clear yA; subst yB
    refine cX1 (w0F.mp hy) fun j' yA=>cA2 yA fun hj' hy=>?_; clear yA
    rw [w0k] at hy
    refine cX1 (w0b.mp hy) fun s' yA=>cA2 yA fun _ yB=>?_; clear yA; subst yB
    intro q
    have q':([Sum.inl j.x.nm,Sum.inr s]:Key) = [Sum.inl j'.x.nm,Sum.inr s']:=q
    injection q' with q' _
    injection q' with q'
    exact nmd.1 (w0b.mpr ⟨j',hj',q'.symm⟩)
  constructor
  ·intro w
   have:=k4O w
   unfold k4I at this
   refine cX1 (w0F.mp this) fun j yA=>cA2 yA fun hj hs=>?_; clear yA
   refine cX1 (w0b.mp hs) fun s yA=>cA2 yA fun _ e=>?_; clear yA
   injection e with e1 e2
   exact ⟨j.x.nm,j.x.u.core,s,k5N.mpr ⟨j,hj,rfl,rfl⟩,e1.symm,e2.symm⟩
  ·intro z0q; refine cX3 z0q fun nm c s yA=>cA3 yA fun h1 yB=>?_; clear z0q yA; subst yB; intro yC; subst yC
   refine cX1 (k5N.mp h1) fun j yA=>cA3 yA fun hj yB=>?_; clear yA; subst yB; intro yC; subst yC
   refine k1k nd (w0F.mpr ⟨j,hj,w0b.mpr ⟨s,by cases s <;> simp,rfl⟩⟩)
 ln:=k5M (k9C X jok nmok nmd) (k9C X jok nmok nmd)
 l:=laps_iff X jok nmok nmd
end
end T
namespace T
theorem k7i (cs cs':List k3M) (h:∀ c,c∈cs'↔c∈cs) (b:Nm) (s:Bool) (m:Int):z1l cs' b s m↔z1l cs b s m:=by
 unfold z1l
 simp only [h]
theorem z3W (cs cs':List k3M) (h:∀ c,c∈cs'↔c∈cs) (b:Nm) (s:Bool):z5S cs' b s = z5S cs b s:=by
 by_cases q:∃ m,z1l cs b s m
 ·refine cX1 q fun m hm=>?_; clear q
  rw [z3d hm,z3d ((k7i cs cs' h b s m).mpr hm)]
 ·rw [k7d fun m hm=>q ⟨m,hm⟩,k7d fun m hm=>q ⟨m,(k7i cs cs' h b s m).mp hm⟩]
theorem sum_rev (l:List Int):l.reverse.sum = l.sum:=by
 induction l with
 | nil=>rfl
 | cons a l ih=>rw [w1W,w0Y,ih,w0Q]; simp; lia
theorem z1p (cs:List k3M) (s:Bool):Tot cs.reverse s = Tot cs s:=by
 unfold Tot
 rw [z3W cs cs.reverse (fun c=>w0G),z3W cs cs.reverse (fun c=>w0G),w1a,sum_rev]
theorem z0y {cs cs':List k3M} (h:∀ c,c∈cs'↔c∈cs) (x:z2k cs):z2k cs' :=
 ⟨fun c hc c' hc'=>x.sort c ((h c).mp hc) c' ((h c').mp hc'),fun c hc c' hc'=>x.size c ((h c).mp hc) c' ((h c').mp hc')⟩
theorem Fits_rev (cs:List k3M) (room:Int):Fits cs.reverse room↔Fits cs room:=by
 constructor
 ·intro x
  exact ⟨fun c hc=>x.good c (w0G.mpr hc),z0y (fun c=>w0G.symm) x.compat,fun s=>by rw [← z1p]; exact x.room s⟩
 ·intro x
  exact ⟨fun c hc=>x.good c (w0G.mp hc),z0y (fun c=>w0G) x.compat,fun s=>by rw [z1p]; exact x.room s⟩
theorem z4L (l l':Ncs) (h:∀ c,c∈l'↔c∈l) (k:Nm) (s:Bool) (z:Int):k9z l' k s z↔k9z l k s z:=by
 have hc:∀ c,c∈l'.cs↔c∈l.cs:=fun c=>by unfold Ncs.cs; simp only [w0b,h]
 unfold k9z
 simp only [h,k7i l.cs l'.cs hc]
theorem z6h (l l':Ncs) (h:∀ c,c∈l'↔c∈l) (k b:Nm) (o:Int):z3j l' k b o↔z3j l k b o:=by
 have hc:∀ c,c∈l'.cs↔c∈l.cs:=fun c=>by unfold Ncs.cs; simp only [w0b,h]
 unfold z3j
 simp only [h,k7i l.cs l'.cs hc]
theorem Rel_rev (l l':Ncs) (h:∀ c,c∈l'↔c∈l) (k1 k2:Nm) (d:Int):Rel l' k1 k2 d↔Rel l k1 k2 d:=by
 unfold Rel
 simp only [h,z6h l l' h]
theorem LapP_rev (l l':Ncs) (h:∀ c,c∈l'↔c∈l) (k1 k2:Nm) (d:Int):LapP l' k1 k2 d↔LapP l k1 k2 d:=by
 unfold LapP
 simp only [Rel_rev l l' h,z4L l l' h]
theorem z3k {α:Type} {a b:Option α} (h:∀ v,a = some v↔b = some v):a = b:=by
 cases a with
 | none =>
  cases b with
  | none=>rfl
  | some v=>exact absurd ((h v).mpr rfl) (by simp)
 | some v=>exact ((h v).mp rfl).symm
theorem told_eq {l:Ncs} {N C N' C':Int} {D D':List (Nm × Int)} {T L T' L':List (Key × Int)} (x:Told l N C D T L) (y:Told l.reverse N' C' D' T' L') :
  (N == N' && (C == C' && (k2g D D' && (k2g T T' && k2g L L')))) = true:=by
 have hm:∀ c,c∈l.reverse↔c∈l:=fun c=>w0G
 have hcs:(Ncs.cs l.reverse) = l.cs.reverse:=by unfold Ncs.cs; rw [w1a]
 have hc:∀ c,c∈(Ncs.cs l.reverse)↔c∈l.cs:=fun c=>by rw [hcs]; exact w0G
 have e1:N = N':=by rw [x.N,y.N,hcs,z1p]
 have e2:C = C':=by rw [x.C,y.C,hcs,z1p]
 have e3:k2g D D' = true:=k9A x.dn y.dn fun b=>z3k fun z=>by rw [x.d,y.d]; simp only [k7i l.cs (Ncs.cs l.reverse) hc]
 have e4:k2g T T' = true:=k9A x.tn y.tn fun k=>z3k fun v=>by rw [x.t,y.t]; simp only [hm]
 have e5:k2g L L' = true:=k9A x.ln y.ln fun k=>z3k fun v=>by rw [x.l,y.l]; simp only [LapP_rev l l.reverse hm]
 simp [e1,e2,e3,e4,e5]
structure Turned (u u':Un):Prop where
 th:u'.th = u.th
 com:u'.com = (u.com.filter fun p=>p.blk == []) ++ u.com.filter fun p=>p.blk == [88]
 grp1:∀ g,g∈u.grp→∃ g',g'∈u'.grp∧∀ i,i∈g'.items↔i∈g.items
 grp2:∀ g',g'∈u'.grp→∃ g,g∈u.grp∧∀ i,i∈g'.items↔i∈g.items
 kept:∀ n,n∈u'.kept↔n∈u.kept
theorem k7V (l:List Com) (b:Nm):(k1U l).filter (fun p=>p.1 = b) = k1U (l.filter fun p=>p.blk == b):=by
 induction l with
 | nil=>rfl
 | cons p l ih =>
  have e:k1U (p :: l) = p.names.map (fun n=>(p.blk,n)) ++ k1U l:=rfl
  rw [e,w0V,ih,w1w]
  by_cases q:p.blk = b
  ·have q':(p.blk == b) = true:=by simpa using q
   rw [if_pos q']
   have e2:k1U (p :: l.filter fun p=>p.blk == b) = p.names.map (fun n=>(p.blk,n)) ++ k1U (l.filter fun p=>p.blk == b):=rfl
   rw [e2]
   congr 1
   rw [List.filter_eq_self]
   intro x hx
   refine cX1 (w0b.mp hx) fun n yA=>cA2 yA fun _ yB=>?_; clear yA; subst yB
   simpa using q
  ·have q':¬ (p.blk == b) = true:=by simpa using q
   rw [if_neg q']
   have:(p.names.map fun n=>(p.blk,n)).filter (fun p=>decide (p.1 = b)) = []:=by
    rw [w1g]
    intro x hx
    refine cX1 (w0b.mp hx) fun n yA=>cA2 yA fun _ yB=>?_; clear yA; subst yB
    simpa using q
   rw [this]; rfl
theorem z3l {l:List Com} (h:∀ p,p∈l→p.blk = [88]∨p.blk = []):(k1U ((l.filter fun p=>p.blk == []) ++ l.filter fun p=>p.blk == [88])).Perm (k1U l):=by
 have key:((l.filter fun p=>p.blk == []) ++ l.filter fun p=>p.blk == [88]).Perm l:=by
  have e:(l.filter fun p=>p.blk == [88]) = l.filter fun p=>!(p.blk == []):=by
   refine w1M fun p hp=>?_
   refine Or.elim (h p hp) (fun q=>?_) fun q=>?_ <;> rw [q] <;> rfl
  rw [e]
  exact w2x _ l
 unfold k1U
 exact List.Perm.flatMap_right _ key
theorem z4M {l:List Com} (h:∀ p,p∈l→p.blk = [88]∨p.blk = []) (b:Nm):k1P (k1U ((l.filter fun p=>p.blk == []) ++ l.filter fun p=>p.blk == [88])) b = k1P (k1U l) b:=by
 unfold k1P
 congr 1
 rw [k7V,k7V,w0V,w2y,w2y]
 by_cases h1:b = []
 ·subst h1
  have e1:(l.filter fun a=>a.blk == [] && a.blk == []) = l.filter fun p=>p.blk == []:=w1M fun p Y=>by simp
  have e2:(l.filter fun a=>a.blk == [] && a.blk == [88]) = []:=by
   rw [w1g]
   intro p hp
   refine Or.elim (h p hp) (fun q=>?_) fun q=>?_ <;> rw [q] <;> decide
  rw [e1,e2,w0M]
 ·by_cases h2:b = [88]
  ·subst h2
   have e1:(l.filter fun a=>a.blk == [88] && a.blk == []) = []:=by
    rw [w1g]
    intro p hp
    refine Or.elim (h p hp) (fun q=>?_) fun q=>?_ <;> rw [q] <;> decide
   have e2:(l.filter fun a=>a.blk == [88] && a.blk == [88]) = l.filter fun p=>p.blk == [88]:=w1M fun p Y=>by simp
   rw [e1,e2,w0r]
  ·have no:∀ f:Com→Bool,(l.filter fun a=>a.blk == b && f a) = []:=fun f=>by
    rw [w1g]
    intro p hp
    have:(p.blk == b) = false:=by
     refine Or.elim (h p hp) (fun q=>?_) fun q=>?_ <;> rw [q]
     ·simpa using Ne.symm h2
     ·simpa using Ne.symm h1
    rw [this]; simp
   have e3:(l.filter fun p=>p.blk == b) = []:=by
    have:=no fun Y=>true
    simpa using this
   rw [no,no,e3]; rfl
theorem z3m {u u':Un} (ok:u.Ok) (t:Turned u u'):u'.core = u.core:=by
 have pp:u'.pairs = k1U ((u.com.filter fun p=>p.blk == []) ++ u.com.filter fun p=>p.blk == [88]):=by
  have:u'.pairs = k1U u'.com:=rfl
  rw [this,t.com]
 have perm:u'.pairs.Perm u.pairs:=by rw [pp]; exact z3l ok.blk
 have bn:∀ b,k1P u'.pairs b = k1P u.pairs b:=fun b=>by rw [pp]; exact z4M ok.blk b
 have eS:Sat u' = Sat u:=by
  funext φ
  refine propext ?_
  unfold Sat k4Q
  rw [t.th]
  simp only [bn]
  constructor
  ·intro z0q; refine cA2 z0q fun h1 h2=>?_; clear z0q
   refine ⟨h1,fun g hg=>?_⟩
   refine cX1 (t.grp1 g hg) fun g' yA=>cA2 yA fun hg' hi=>?_; clear yA
   refine cX1 (h2 g' hg') fun c hc=>?_
   exact ⟨c,fun i him=>hc i ((hi i).mpr him)⟩
  ·intro z0q; refine cA2 z0q fun h1 h2=>?_; clear z0q
   refine ⟨h1,fun g' hg'=>?_⟩
   refine cX1 (t.grp2 g' hg') fun g yA=>cA2 yA fun hg hi=>?_; clear yA
   refine cX1 (h2 g hg) fun c hc=>?_
   exact ⟨c,fun i him=>hc i ((hi i).mp him)⟩
 have eB:(fun (b:Nm) (s:Bool)=>∃ n,(b,n)∈u'.pairs∧s = (u'.th n).txt) = fun b s=>∃ n,(b,n)∈u.pairs∧s = (u.th n).txt:=by
  funext b s
  rw [t.th]
  simp only [perm.mem_iff]
 have eK:(fun n=>n∈u'.kept) = fun n=>n∈u.kept:=by
  funext n; exact propext (t.kept n)
 have eO:(k7w u'.th u'.pairs∧∀ g,g∈u'.grp→k9S u'.th g.items) = (k7w u.th u.pairs∧∀ g,g∈u.grp→k9S u.th g.items):=by
  refine propext ?_
  rw [t.th]
  constructor
  ·intro z0q; refine cA2 z0q fun h1 h2=>?_; clear z0q
   refine ⟨⟨(perm.map (·.2)).nodup_iff.mp h1.nd,fun p hp q hq=>h1.pure p (perm.mem_iff.mpr hp) q (perm.mem_iff.mpr hq)⟩,fun g hg=>?_⟩
   refine cX1 (t.grp1 g hg) fun g' yA=>cA2 yA fun hg' hi=>?_; clear yA
   exact ⟨fun i him=>(h2 g' hg').off i ((hi i).mpr him),fun i him j hjm=>(h2 g' hg').txt i ((hi i).mpr him) j ((hi j).mpr hjm)⟩
  ·intro z0q; refine cA2 z0q fun h1 h2=>?_; clear z0q
   refine ⟨⟨(perm.map (·.2)).nodup_iff.mpr h1.nd,fun p hp q hq=>h1.pure p (perm.mem_iff.mp hp) q (perm.mem_iff.mp hq)⟩,fun g' hg'=>?_⟩
   refine cX1 (t.grp2 g' hg') fun g yA=>cA2 yA fun hg hi=>?_; clear yA
   exact ⟨fun i him=>(h2 g hg).off i ((hi i).mp him),fun i him j hjm=>(h2 g hg).txt i ((hi i).mp him) j ((hi j).mp hjm)⟩
 unfold Un.core
 rw [eS,eB,eK,eO,t.th]
end T
namespace T
structure Rw where
 nm:Nm
 u:Un
 t:Nat
 c:Nat
 g:Nat
 k:Nat
noncomputable def k4i (r:Rw):V:=.tup [.str r.nm,.tup [.loc r.t,.loc r.c,.loc r.g,.loc r.k]]
noncomputable def Sp.rw (x:Sp):Rw:=⟨x.nm,x.u,x.t,x.c,x.g,x.k⟩
noncomputable abbrev RwAt (h:Hp) (b:Nat) (r:Rw):Prop:=k2b h b r.t r.c r.g r.k r.u
theorem k2b.up {h:Hp} {b b' t c g k:Nat} {u:Un} (x:k2b h b t c g k u) (hb:b≤b'):k2b h b' t c g k u where
 tb:=by have:=x.tb; lia
 ht:=x.ht
 cb:=by have:=x.cb; lia
 hc:=x.hc
 hcs:=fun p hp=>⟨by have:=(x.hcs p hp).1; lia,(x.hcs p hp).2⟩
 gb:=by have:=x.gb; lia
 hg:=x.hg
 hgs:=fun p hp=>⟨by have:=(x.hgs p hp).1; lia,(x.hgs p hp).2⟩
 his:=fun p hp i hi=>⟨by have:=(x.his p hp i hi).1; lia,(x.his p hp i hi).2⟩
 kb:=by have:=x.kb; lia
 hk:=x.hk
theorem k7A {h:Hp} {b:Nat} {rws:List Rw} (rl2:rws.length≤2) (rok:∀ r,r∈rws→r.u.Ok) (rat:∀ r,r∈rws→RwAt h b r) (hb:b≤h.length) (nmd:(rws.map fun r=>r.nm).Nodup) {rl:Nat} (hrl:h[rl]? = some (.list (rws.map k4i))) {room:Int} (hroom:0≤room) {Q:Po V}
  (h1:∀ h' m js N C P B cl G,k0M [] h h'→js.map (fun j=>j.x.rw) = rws→(∀ j,j∈js→j.Ok)→Fits (k3Y js) room→k9v h' m js N C P B cl G→Q (.ok (.loc m)) h')
  (h2:∀ h',k0M [] h h'→¬ Fits (rws.map fun r=>r.u.core) room→Q (.ok .none) h') :
  wp (k4G [.loc rl,.int room]) Q h:=by
 have Lr:=k0t hrl
 unfold k4G k9a
 rw [k1z]
 refine ⟨rfl,?_⟩
 simp only [w0f,w0n,List.replicate,w0o,w0r,k0L,k0y,k3U,k0C,k0u,k3H,k1q,k0x,w0e,w0d,k1r,k0o,k2B,k2d,k0s,rg0,rgS,w0a,k0g]
 have K0:k0M [h.length] h (h ++ [O.list []]):=k0M.alloc _ _ _
 have g0:(h ++ [O.list []])[h.length]? = some (.list []):=k0X _ _
 have L0:(h ++ [O.list []]).length = h.length + 1:=by simp
 generalize h ++ [O.list []] = H0 at *
 rw [k1S,K0.get hrl (by simp; lia),k0g]
 simp only [k0u]
 have Bb:k3d [h.length] b:=fun i hi=>by simp at hi; lia
 let I:=fun (pre:List Rw) (reg:Reg) (h':Hp)=>(∃ g3 g4 g5 g6 g7 g8,reg = [some (.loc rl),some (.int room),some (.loc h.length),g3,g4,g5,g6,g7,g8])∧k0M [h.length] h h'∧h.length + 1≤h'.length ∧
  ∃ xs:List Sp,xs.map Sp.rw = pre∧h'[h.length]? = some (.list (xs.map fun x=>.loc x.s))∧∀ x,x∈xs→h.length < x.s∧h.length < x.d∧h'[x.s]? = some (.inst 0 x.d) ∧
   h'[x.d]? = some (.dict [(kName,.str x.nm),(z1b,.loc x.t),(k8j,.loc x.c),(z1c,.loc x.g),(kKept,.loc x.k)])
 refine k4m rws k4i I (by lia) (fun pre suf reg h' e hI=>k3p (hI.2.1.get hrl (by simp; (clear hI; lia))) _) ⟨(iX6 rfl),K0,by lia,[],rfl,g0,fun x hx=>by simp at hx⟩ (fun pre r suf reg h' e hI=>?_) (fun reg h' hI=>?_)
 ·refine cA4 hI fun yA K L yB=>cX6 yA fun g3 g4 g5 g6 g7 g8 yC=>?_; clear hI yA; subst yC; refine cX1 yB fun xs yD=>cA3 yD fun exs hsl hx=>?_; clear yB yD
  have hpl:xs.length≤2:=by
   have:xs.length = pre.length:=by rw [← exs]; simp
   rw [e] at rl2; simp at rl2; lia
  have hxl:(xs.map fun x=>V.loc x.s).length≤4000:=by simp; lia
  unfold k4i
  simp only [k1I,w0s,w0q,w0y,true_and,k1w,k0x,k2j,k1H,w0e,w0d,k0u,k0L,k0y,k0s,rg0,rgS,w0a,k0g,k1q,k1r,k0o,k3P,k4l,k0r,k3I,hsl,k0z,k0K,k0D,k0E,k0C,k0O,k0W]
  refine w_Space fun h'' K'' L'' gs gd=>?_
  have hsl':=K''.get hsl (by simp)
  simp only [k0E,k0C,k0O,k0u,k3J,hsl',k0g,k2R,hxl,if_true,k0o,k1Q,k0S]
  refine ⟨(iX6 rfl),(K.trans' K'' (fun i hi=>by simp at hi)).trans (k0M.set (by simp) _ _),by simp; lia,xs ++ [⟨r.nm,r.u,h'.length + 1,h'.length,r.t,r.c,r.g,r.k⟩],by rw [w0j,exs]; rfl,?_,fun x hxm=>?_⟩
  ·rw [k0J hsl',w0j]; rfl
  ·refine Or.elim (w0g.mp hxm) (fun hxm=>?_) fun hxm=>?_
   ·refine cA4 (hx x hxm) fun q1 q2 q3 q4=>?_
    exact ⟨q1,q2,k0m (K''.get q3 (by simp)) (by lia) _,k0m (K''.get q4 (by simp)) (by lia) _⟩
   ·rw [w0h] at hxm; subst hxm
    exact ⟨by show h.length < h'.length + 1; lia,by show h.length < h'.length; lia,k0m gs (by lia) _,k0m gd (by lia) _⟩
 ·refine cA4 hI fun yA K L yB=>cX6 yA fun g3 g4 g5 g6 g7 g8 yC=>?_; clear hI yA; subst yC; refine cX1 yB fun xs yD=>cA3 yD fun exs hsl hx=>?_; clear yB yD
  have hr:∀ x,x∈xs→x.rw∈rws:=fun x hxm=>by rw [← exs]; exact w0b.mpr ⟨x,hxm,rfl⟩
  have sp:∀ x,x∈xs→SpAt h' h'.length x:=fun x hxm=>by
   refine cA4 (hx x hxm) fun q1 q2 q3 q4=>?_
   exact ⟨k0t q3,q3,k0t q4,q4,k2b.up (k2b.keep (rat x.rw (hr x hxm)) K Bb) (by lia)⟩
  simp only [k0o,k0L,q_tryRet,k6v,k0K,k0D,k0z,k0s,rg0,rgS,w0a,k0g,k0E,k0C,k0O,k0W]
  have ecs:(xs.map fun x=>x.u.core) = rws.map fun r=>r.u.core:=by rw [← exs,w0k]; rfl
  have xl:xs.length = rws.length:=by rw [← exs]; simp
  refine z6a (b:=h'.length) (by lia) (fun x hxm=>rok _ (hr x hxm)) sp (w0l _) (by rw [← exs,w0k] at nmd; exact nmd) hsl hroom (fun h'' m js N C P B cl G K'' ejs jok F X=>?_) (fun h'' K'' hno=>?_)
  ·simp only [k0O,k3O,tryK_ok,k2F]
   refine h1 h'' m js N C P B cl G ((K.mono fun i hi=>.inr (by simp at hi; lia)).trans K'') ?_ jok F X
   rw [← exs,← ejs,w0k]; rfl
  ·simp only [k6d,k2l,tryK_err,true_and,k3O,k2F]
   exact h2 h'' ((K.mono fun i hi=>.inr (by simp at hi; lia)).trans K'') (by rw [← ecs]; exact hno)
end T
namespace T
noncomputable def z1s (k:Int) {α:Type} (l:List α):Nat:=(k.fmod l.length).toNat
noncomputable def rot (k:Int) {α:Type} (l:List α):List α:=l.drop (z1s k l) ++ l.take (z1s k l)
theorem z1r (k:Int) {α:Type} (l:List α) (x:α):x∈rot k l↔x∈l:=by
 unfold rot
 rw [w0g,or_comm,← w0g,w2d]
theorem z6i (n r:Nat):n - r + min r n = n:=by
 refine Or.elim (Nat.le_total r n) (fun h=>?_) fun h=>?_
 ·rw [Nat.min_eq_left h,Nat.sub_add_cancel h]
 ·rw [Nat.min_eq_right h,w2m h,w0y]
theorem len_rot (k:Int) {α:Type} (l:List α):(rot k l).length = l.length:=by
 unfold rot
 rw [w0t,w2z,w0X,z6i]
theorem z3n (ex:Nat→Option (List V)) (Q:Po V) (h:Hp):wp (k4n ex (.str [65,66,67,68]) none none (some (-1))) Q h = Q (.ok (.str [68,67,66,65])) h:=propext ⟨fun x=>x.2,fun x=>⟨⟨rfl,rfl,rfl,rfl⟩,x⟩⟩
theorem z2t {h:Hp} {b t c g k:Nat} {u:Un} (ok:u.Ok) (U:k2b h b t c g k u) (hb:b≤h.length) (y:Int) {Q:Po V}
  (h1:∀ h' u' t' c' g' k',k0M [] h h'→k2b h' h'.length t' c' g' k' u'→u'.Ok→Turned u u'→Q (.ok (.tup [.loc t',.loc c',.loc g',.loc k'])) h') :
  wp (k4s [.tup [.loc t,.loc c,.loc g,.loc k],.int y]) Q h:=by
 unfold k4s k6U
 rw [k1z]
 refine ⟨rfl,?_⟩
 have Lt:=k0t U.ht
 have Lc:=k0t U.hc
 have Lg:=k0t U.hg
 have Lk:=k0t U.hk
 have cl:u.com.length≤2:=ok.coml
 simp only [w0f,w0n,List.replicate,w0o,w0r,k0L,k0y,k0s,rg0,rgS,w0a,k0g,k1q,k1I,w0s,w0q,w0y,true_and,k1w,k0x,k2j,k1H,w0e,w0d,k1r,k0o,k1i,k2W,k2d,k0u,k1S,U.hc,k4j]
 have comb:∀ (H:Hp) (bk:Nm) (Q:Po V),H[c]? = some (.list (u.com.map k2J))→Q (.ok (.loc H.length)) (H ++ [O.list ((u.com.filter fun p=>p.blk == bk).map k2J)]) →
   wp (k4X (k6r (k0l 0) (k2L xEq (k1g k0V (k0d 0) (cI 0)) (cS bk)) (k2H (k0d 0)) (.list c) 64 0 [none] (.list [])) >>= k3r) Q H:=fun H bk Q hc hQ=>by
  refine k9j u.com k2J (fun p=>p.blk == bk) k2J (fun reg=>∃ g0,reg = [g0]) (by lia) (fun i=>k3p hc i) ⟨_,rfl⟩ (fun p hp reg hJ=>?_) hQ
  refine cX1 hJ fun g0 yA=>?_; clear hJ; subst yA
  unfold k2J
  simp only [k0x,w0d]
  refine ⟨_,rfl,trivial,⟨_,rfl⟩,?_,fun Y=>?_⟩
  ·have c0:(0:Int)≤0∧(0:Int) < 4096:=by decide
   simp only [k2a,k1i,k0s,rg0,rgS,w0a,k0g,k0u,k0r,k4k,k3c,c0,and_self,true_and,Int.toNat_zero,q_cS,q_eqS,k1x]
  ·simp only [k0s,rg0,w0a,k0g,and_self]
 refine comb h [] _ U.hc ?_
 have c1:=k0w U.hc (O.list ((u.com.filter fun p=>p.blk == []).map k2J))
 have l1:=k0X h (O.list ((u.com.filter fun p=>p.blk == []).map k2J))
 have K1:k0M [] h (h ++ [O.list ((u.com.filter fun p=>p.blk == []).map k2J)]):=k0M.alloc _ _ _
 have L1:(h ++ [O.list ((u.com.filter fun p=>p.blk == []).map k2J)]).length = h.length + 1:=by simp
 generalize h ++ [O.list ((u.com.filter fun p=>p.blk == []).map k2J)] = H1 at *
 simp only [k0u,k2W,k2d,k0s,rg0,rgS,w0a,k0g,k0r,k1S,c1,k4j,w0n,List.replicate,w0o,w0r]
 rw [← k0r]
 refine comb H1 [88] _ c1 ?_
 have l1':=k0w l1 (O.list ((u.com.filter fun p=>p.blk == [88]).map k2J))
 have l2:=k0X H1 (O.list ((u.com.filter fun p=>p.blk == [88]).map k2J))
 have K2:=K1.trans (k0M.alloc [] H1 (O.list ((u.com.filter fun p=>p.blk == [88]).map k2J)))
 have L2:(H1 ++ [O.list ((u.com.filter fun p=>p.blk == [88]).map k2J)]).length = h.length + 2:=by simp [L1]
 generalize H1 ++ [O.list ((u.com.filter fun p=>p.blk == [88]).map k2J)] = H2 at *
 simp only [k0u,q_addL,q_cat,l1',l2,k0g]
 have f1:=w1f (fun p:Com=>p.blk == []) u.com
 have f2:=w1f (fun p:Com=>p.blk == [88]) u.com
 refine ⟨_,_,rfl,rfl,by simp only [w0u]; lia,?_⟩
 rw [← w0j]
 generalize hcom:(u.com.filter fun p=>p.blk == []) ++ (u.com.filter fun p=>p.blk == [88]) = com'
 have l3:=k0X H2 (O.list (com'.map k2J))
 have K3:=K2.trans (k0M.alloc [] H2 (O.list (com'.map k2J)))
 have L3:(H2 ++ [O.list (com'.map k2J)]).length = h.length + 3:=by simp [L2]
 rw [L2] at l3 ⊢
 generalize H2 ++ [O.list (com'.map k2J)] = H3 at *
 have g3:=K3.get U.hg (by simp)
 have hgl:(u.grp.map k3L).length≤4096:=by have:=ok.grpl; simp; lia
 simp only [k1q,k0x,w0e,w0d,k1r,k0o,k0L,k0y,k2W,k2d,k4t,k0s,rg0,rgS,w0a,k0g,k0u,k0r,k9f,k6W,k4k,k0P,k5s,g3]
 refine ⟨_,rfl,hgl,?_⟩
 have pk:∀ {α:Type} (l:List α),k5w l none none (some (-1)) = some l.reverse:=fun l=>rfl
 rw [pk,k0g,← w1a]
 have l4:=k0X H3 (O.list (u.grp.reverse.map k3L))
 have K4:=K3.trans (k0M.alloc [] H3 (O.list (u.grp.reverse.map k3L)))
 have c4:=k0w l3 (O.list (u.grp.reverse.map k3L))
 have L4:(H3 ++ [O.list (u.grp.reverse.map k3L)]).length = h.length + 4:=by simp [L3]
 rw [L3] at l4 ⊢
 generalize H3 ++ [O.list (u.grp.reverse.map k3L)] = H4 at *
 rw [k1S,l4,k0g]
 simp only [k0u,k4j,w0f,w0n,List.replicate,w0o,w0r,rg0,rgS,w0a]
 let I:=fun (pre:List Grp) (reg:Reg) (o:O) (h':Hp)=>(∃ g0,reg = [g0,some (.int y)])∧k0M [] H4 h'∧∃ gs:List Grp,o = .list (gs.map k3L)∧(gs.map fun g=>g.items) = pre.map (fun g=>rot y g.items)∧∀ g,g∈gs→h'[g.loc]? = some (.list (g.items.map k1a))
 refine z0p u.grp.reverse k3L I (by have:=ok.grpl; simp; lia) (fun pre suf reg o h' e hI=>k3p (hI.2.1.get l4 (by simp)) _) ⟨⟨_,rfl⟩,k0M.refl _ _,[],rfl,rfl,fun g hg=>by simp at hg⟩ (fun pre x suf reg o h' e hI=>?_) (fun reg o H5 hI=>?_)
 ·refine cA3 hI fun yA K yB=>cX1 yA fun g0 yC=>?_; clear hI yA; subst yC; refine cX1 yB fun gs yD=>cA3 yD fun yE=>?_; clear yB yD; subst yE; intro eg hg
  have hx:x∈u.grp:=by
   have:x∈u.grp.reverse:=by rw [e]; simp
   exact w0G.mp this
  refine cA2 (ok.grp1 x hx) fun xne xl3=>?_
  have gx:=K.get (K4.get (U.hgs x hx).2 (by simp)) (by simp)
  have xpos:0 < x.items.length:=w2A.mpr xne
  have lenE:(h'[x.loc]?.bind oLen) = some x.items.length:=by rw [gx]; simp
  have lne:((x.items.length:Nat):Int)≠0:=by lia
  have kpos:0≤y.fmod (x.items.length:Int):=Int.fmod_nonneg_of_pos _ (by lia)
  have klt:y.fmod (x.items.length:Int) < (x.items.length:Int):=Int.fmod_lt_of_pos _ (by lia)
  have hl:(x.items.map k1a).length≤4096:=by simp; lia
  have l4096:x.items.length≤4096:=by lia
  have p1:k5w (x.items.map k1a) (some (y.fmod (x.items.length:Int))) none none = some ((x.items.drop (z1s y x.items)).map k1a):=by
   unfold z1s
   rw [z0m ⟨kpos,by rw [w0u]; exact Int.toNat_le.mpr (Int.le_of_lt klt)⟩,List.map_drop]
  have p2:k5w (x.items.map k1a) none (some (y.fmod (x.items.length:Int))) none = some ((x.items.take (z1s y x.items)).map k1a):=by
   unfold z1s
   rw [k7s kpos,w1N]
  unfold k9i k3L
  have gx1:=k0w gx (O.list ((x.items.drop (z1s y x.items)).map k1a))
  have lenE1:((h' ++ [O.list ((x.items.drop (z1s y x.items)).map k1a)])[x.loc]?.bind oLen) = some x.items.length:=by rw [gx1]; simp
  have n1:=k0w (k0X h' (O.list ((x.items.drop (z1s y x.items)).map k1a))) (O.list ((x.items.take (z1s y x.items)).map k1a))
  have n2:=k0X (h' ++ [O.list ((x.items.drop (z1s y x.items)).map k1a)]) (O.list ((x.items.take (z1s y x.items)).map k1a))
  simp only [k0r,k0x,w0d,k0u,q_tT,k2w,if_true,k2H,k1i,k4t,k0s,rg0,rgS,w0a,k0g,k6W,k0K,k0D,k0z,k0E,k0C,k0O,k0W,z0l,w0S,k5G,q_mod,ne_eq,lne,not_false_eq_true,true_and,k0P,k9f,k5s,gx,w0u]
  refine ⟨l4096,_,rfl,hl,?_⟩
  rw [p1,k0g]
  simp only [w0S,k5G,k0g,q_mod,ne_eq,lne,not_false_eq_true,true_and,k0u,k0P,k0r,k9f,k5s,gx1,k6W,k1i,k0s,rg0,rgS,w0a,k0K,k0D,k0z,k0E,k0C,k0O,k0W,z0l,k4t,w0u]
  refine ⟨l4096,_,rfl,hl,?_⟩
  rw [p2,k0g]
  simp only [q_addL,q_cat]
  rw [n1,k0g,n2,k0g]
  refine ⟨_,_,rfl,rfl,by simp only [w0u,w2z,w0X,z6i]; lia,?_⟩
  simp only [k0u,k0P,k4P]
  rw [← w0j]
  have erot:x.items.drop (z1s y x.items) ++ x.items.take (z1s y x.items) = rot y x.items:=rfl
  rw [erot]
  have K5:k0M [] h' (h' ++ [O.list ((x.items.drop (z1s y x.items)).map k1a)] ++ [O.list ((x.items.take (z1s y x.items)).map k1a)] ++ [O.list ((rot y x.items).map k1a)]):=((k0M.alloc _ _ _).trans (k0M.alloc _ _ _)).trans (k0M.alloc _ _ _)
  refine ⟨⟨_,rfl⟩,K.trans K5,gs ++ [⟨rot y x.items,(h' ++ [O.list ((x.items.drop (z1s y x.items)).map k1a)] ++ [O.list ((x.items.take (z1s y x.items)).map k1a)]).length⟩],by rw [w0j]; rfl,by rw [w0j,w0j,eg]; rfl,fun g hgm=>?_⟩
  refine Or.elim (w0g.mp hgm) (fun hgm=>?_) fun hgm=>?_
  ·exact K5.get (hg g hgm) (by simp)
  ·rw [w0h] at hgm; subst hgm
   exact k0X _ _
 refine cA3 hI fun _ K5 yA=>cX1 yA fun gs yB=>cA3 yB fun yC=>?_; clear hI yA yB; subst yC; intro eg hgs
 have l6:=k0X H5 (O.list (gs.map k3L))
 have K6:=k0M.alloc [] H5 (O.list (gs.map k3L))
 have KA:=(K4.trans K5).trans K6
 have c6:=K6.get (K5.get c4 (by simp)) (by simp)
 have hgs6:∀ g,g∈gs→(H5 ++ [O.list (gs.map k3L)])[g.loc]? = some (.list (g.items.map k1a)):=fun g hg=>K6.get (hgs g hg) (by simp)
 generalize hH6:H5 ++ [O.list (gs.map k3L)] = H6 at *
 have ht6:=KA.get U.ht (by simp)
 simp only [k1q,k0x,w0e,w0d,k1r,k0o,k0L,k6v,k2h,k0z,k2W,k2d,k4t,z4B,k0s,rg0,rgS,w0a,k0g,k0u,k0r,k9f,k6W,k4k,k0P,z3n,z0Y,k4j,w0f,w0n,List.replicate,w0o,w0r]
 refine ⟨by decide,?_⟩
 rw [← k0r]
 let J:=fun (pre:List Nm) (reg:Reg) (o:O) (h':Hp)=>(∃ g0,reg = [g0,some (.loc t)])∧h' = H6∧o = .dict (pre.map fun n=>(n,k2z (u.th n)))
 refine z0p names.reverse V.str J (by decide) (fun pre suf reg o h' e hI=>?_) ⟨⟨_,rfl⟩,rfl,rfl⟩ (fun pre x suf reg o h' e hI=>?_) (fun reg o h' hI=>?_)
 ·exact z3K _ _ _
 ·refine cA3 hI fun yA yB=>?_; clear hI; subst yB; intro yC; subst yC; refine cX1 yA fun g0 yD=>?_; clear yA; subst yD
  have hx:x∈names:=by
   have:x∈names.reverse:=by rw [e]; simp
   exact w0G.mp this
  have hd:=k2S u.ord (fun n=>k2z (u.th n)) ((ok.ord x).mpr hx)
  unfold k9i
  simp only [k0r,k0x,w0d,k0u,q_tT,k2w,if_true,k9X,k0s,rg0,rgS,w0a,k0g,k1i,k1R,ht6,k1j,hd,k0P,k4P]
  refine ⟨⟨_,rfl⟩,rfl,?_⟩
  rw [k2I,w0j]
  ·rfl
  ·rw [k1W,w0k]
   have nd:names.reverse.Nodup:=by decide
   rw [e] at nd
   have hno:=k1C nd
   intro q
   refine cX1 (w0b.mp q) fun n yA=>cA2 yA fun hn en=>?_; clear yA
   have en':n = x:=en
   rw [en'] at hn
   exact hno hn
 refine cA3 hI fun _ yA=>?_; clear hI; subst yA; intro yB; subst yB
 have l7:=k0X h' (O.dict (names.reverse.map fun n=>(n,k2z (u.th n))))
 have K7:=k0M.alloc [] h' (O.dict (names.reverse.map fun n=>(n,k2z (u.th n))))
 have k7:=K7.get (KA.get U.hk (by simp)) (by simp)
 have L7:(h' ++ [O.dict (names.reverse.map fun n=>(n,k2z (u.th n)))]).length = h'.length + 1:=by simp
 have c7:=K7.get c6 (by simp)
 have g7:=K7.get l6 (by simp)
 have gs7:∀ g,g∈gs→(h' ++ [O.dict (names.reverse.map fun n=>(n,k2z (u.th n)))])[g.loc]? = some (.list (g.items.map k1a)):=fun g hg=>K7.get (hgs6 g hg) (by simp)
 have KB:=KA.trans K7
 have hkl:(u.kept.map V.str).length≤4096:=by have:=ok.keptl; simp; lia
 simp only [k0E,k0z,k0s,rg0,rgS,w0a,k0g,k0O,k4t,k0u,k0r,k9f,k6W,k4k,k0P,k5s,k7]
 refine ⟨_,rfl,hkl,?_⟩
 rw [pk,k0g,← w1a]
 have K8:=k0M.alloc [] (h' ++ [O.dict (names.reverse.map fun n=>(n,k2z (u.th n)))]) (O.list (u.kept.reverse.map V.str))
 have l8:=k0X (h' ++ [O.dict (names.reverse.map fun n=>(n,k2z (u.th n)))]) (O.list (u.kept.reverse.map V.str))
 have t8:=K8.get l7 (by simp)
 have c8:=K8.get c7 (by simp)
 have g8:=K8.get g7 (by simp)
 have gs8:∀ g,g∈gs→(h' ++ [O.dict (names.reverse.map fun n=>(n,k2z (u.th n)))] ++ [O.list (u.kept.reverse.map V.str)])[g.loc]? = some (.list (g.items.map k1a)):=fun g hg=>K8.get (gs7 g hg) (by simp)
 have KC:=KB.trans K8
 rw [L7] at l8 ⊢
 generalize hH8:(h' ++ [O.dict (names.reverse.map fun n=>(n,k2z (u.th n)))] ++ [O.list (u.kept.reverse.map V.str)]) = H8 at *
 simp only [k0E,k0C,k0O,k3O,k2F]
 have comsub:∀ p,p∈com'→p∈u.com:=fun p hp=>by
  rw [← hcom] at hp
  refine Or.elim (w0g.mp hp) (fun hp=>?_) fun hp=>?_
  ·exact (w0I.mp hp).1
  ·exact (w0I.mp hp).1
 have grsub:∀ g',g'∈gs→∃ g,g∈u.grp∧g'.items = rot y g.items:=fun g' hg'=>by
  have:g'.items∈u.grp.reverse.map (fun g=>rot y g.items):=by rw [← eg]; exact w0b.mpr ⟨g',hg',rfl⟩
  refine cX1 (w0b.mp this) fun g yA=>cA2 yA fun hg e=>?_; clear yA
  exact ⟨g,w0G.mp hg,e.symm⟩
 have grsup:∀ g,g∈u.grp→∃ g',g'∈gs∧g'.items = rot y g.items:=fun g hg=>by
  have:rot y g.items∈gs.map (fun g=>g.items):=by rw [eg]; exact w0b.mpr ⟨g,w0G.mpr hg,rfl⟩
  refine cX1 (w0b.mp this) fun g' yA=>cA2 yA fun hg' e=>?_; clear yA
  exact ⟨g',hg',e⟩
 have gsl:gs.length = u.grp.length:=by
  have:(gs.map fun g=>g.items).length = (u.grp.reverse.map (fun g=>rot y g.items)).length:=by rw [eg]
  simpa using this
 refine h1 H8 ⟨names.reverse,u.th,com',gs,u.kept.reverse⟩ _ _ _ _ KC ⟨k0t t8,t8,k0t c8,c8,fun p hp=>?_,k0t g8,g8,fun g hg=>⟨k0t (gs8 g hg),gs8 g hg⟩,fun g hg i hi=>?_,k0t l8,l8⟩
  ⟨fun n=>w0G,(by decide:names.reverse.Nodup),rfl,ok.th,fun p hp=>ok.blk p (comsub p hp),fun p hp=>ok.comn p (comsub p hp),?_,fun p hp=>ok.comnl p (comsub p hp),by show gs.length≤2; rw [gsl]; exact ok.grpl,fun g hg=>?_,fun g hg i hi=>?_,by show u.kept.reverse.length≤3; rw [List.length_reverse]; exact ok.keptl⟩
  ⟨rfl,hcom.symm,fun g hg=>?_,fun g' hg'=>?_,fun n=>w0G⟩
 ·have:=KC.get (U.hcs p (comsub p hp)).2 (by simp)
  exact ⟨k0t this,this⟩
 ·refine cX1 (grsub g hg) fun g0 yA=>cA2 yA fun hg0 e=>?_; clear yA
  have hi':i∈g0.items:=by rw [e] at hi; exact (z1r y _ i).mp hi
  have:=KC.get (U.his g0 hg0 i hi').2 (by simp)
  exact ⟨k0t this,this⟩
 ·show com'.length≤2
  rw [← hcom]
  have:=(w2x (fun p:Com=>p.blk == []) u.com).length_eq
  have e:(u.com.filter fun p=>p.blk == [88]) = u.com.filter fun p=>!(p.blk == []):=by
   refine w1M fun p hp=>?_
   refine Or.elim (ok.blk p hp) (fun q=>?_) fun q=>?_ <;> rw [q] <;> rfl
  rw [e,this]; exact cl
 ·refine cX1 (grsub g hg) fun g0 yA=>cA2 yA fun hg0 e=>?_; clear yA
  refine cA2 (ok.grp1 g0 hg0) fun q1 q2=>?_
  have el:=len_rot y g0.items
  rw [e]
  refine ⟨fun q=>?_,by lia⟩
  rw [q] at el
  have:g0.items = []:=List.length_eq_zero_iff.mp el.symm
  exact q1 this
 ·refine cX1 (grsub g hg) fun g0 yA=>cA2 yA fun hg0 e=>?_; clear yA
  exact ok.item g0 hg0 i (by rw [e] at hi; exact (z1r y _ i).mp hi)
 ·refine cX1 (grsup g hg) fun g' yA=>cA2 yA fun hg' e=>?_; clear yA
  exact ⟨g',hg',fun i=>by rw [e]; exact z1r y _ i⟩
 ·refine cX1 (grsub g' hg') fun g yA=>cA2 yA fun hg e=>?_; clear yA
  exact ⟨g,hg,fun i=>by rw [e]; exact z1r y _ i⟩
end T
namespace T
structure CrateAt (h:Hp) (p:Int) (ns:List Int):Prop where
 d:h[1]? = some (.dict [([114,111,119],.loc 0),([97,116],.int p)])
 r:h[0]? = some (.list (ns.map .int))
 p0:0≤p
 nl:ns.length≤60
noncomputable def k3l (h:Hp):Prop:=∃ p ns,CrateAt h p ns
theorem k3l.keep {h h':Hp} {S:List Nat} (x:k3l h) (k:k0M S h h') (hS:∀ i,i∈S→2≤i):k3l h':=by
 refine cX2 x fun p ns c=>?_; clear x
 exact ⟨p,ns,k.get c.d (fun q=>by have:=hS 1 q; lia),k.get c.r (fun q=>by have:=hS 0 q; lia),c.p0,c.nl⟩
theorem k3l.len {h:Hp} (x:k3l h):2≤h.length:=by
 refine cX2 x fun p ns c=>?_; clear x
 have:=k0t c.d
 lia
theorem k3l.list {h:Hp} (x:k3l h) {l:Nat} {vs:List V} (e:h[l]? = some (.list vs)):l≠1:=by
 refine cX2 x fun p ns c=>?_; clear x
 rintro rfl
 rw [c.d] at e; refine k1f e fun yA=>?_; clear e; cases yA
theorem k3t {h:Hp} (C:k3l h) {many:Int} (hm:0 < many) {Q:Po V} (h1:∀ k h',0≤k→k < many→k0M [1] h h'→k3l h'→Q (.ok (.int k)) h'):wp (k0I [.loc 1,.int many]) Q h:=by
 refine cX2 C fun p ns c=>?_; clear C
 have key:wp (k0I [.loc 1,.int many]) (fun r h'=>∃ k,r = .ok (.int k)∧0≤k∧k < many∧h' = h.set 1 (.dict [([114,111,119],.loc 0),([97,116],.int (p + 1))])) h:=by
  unfold k0I k8U
  rw [k1z]
  refine ⟨rfl,?_⟩
  have d1:k0Q [(([114,111,119]:Nm),V.loc 0),([97,116],V.int p)] [97,116] = some (.int p):=rfl
  have d2:k2c [(([114,111,119]:Nm),V.loc 0),([97,116],V.int p)] [97,116] (.int (p + 1)) = [([114,111,119],.loc 0),([97,116],.int (p + 1))]:=rfl
  have d3:k0Q [(([114,111,119]:Nm),V.loc 0),([97,116],V.int (p + 1))] [114,111,119] = some (.loc 0):=rfl
  have g1:=k0J c.d (.dict [([114,111,119],.loc 0),([97,116],.int (p + 1))])
  have g0:=k0m c.r (k:=1) (by lia) (.dict [([114,111,119],.loc 0),([97,116],.int (p + 1))])
  have l2:(2:Nat)≤4000:=by lia
  have lr:ns.length≤4096:=by have:=c.nl; lia
  have mne:many≠0:=by lia
  have fm:∀ v:Int,0≤v.fmod many∧v.fmod many < many:=fun v=>⟨Int.fmod_nonneg_of_pos _ hm,Int.fmod_lt_of_pos _ hm⟩
  simp only [w0f,w0n,List.replicate,w0o,w0r,k0L,k0y,k1i,k0s,rg0,rgS,w0a,k0g,k0u,k0r,q_cS,k1R,c.d,k1j,d1,k1q,k0x,w0e,w0d,k1r,k0o,k4k,k4o,k4H,k6w,k2C,w0s,w0q,w0y,Nat.reduceAdd,l2,if_true,d2,k0P,z0X,k2a,k0K,k0D,k0z,k0E,k0C,k0O,k0W,g1,d3,z0l,g0,w0S,k5G,w0u,lr,true_and,q_lt,k1x,k2w,decide_eq_true_eq]
  by_cases e:p < (ns.length:Int)
  ·have hp:p.toNat < ns.length:=by have:=c.p0; lia
   have pr:0≤p∧p < 4096:=⟨c.p0,by have:=c.nl; lia⟩
   have gi:(ns.map V.int)[p.toNat]? = some (.int ns[p.toNat]):=by rw [w0H,w0A hp]; rfl
   simp only [if_pos e,k1i,k0s,rg0,rgS,w0a,k0g,k0u,k0r,q_cS,k1R,g1,k1j,d3,k1q,k0x,w0e,w0d,k1r,k0o,k0L,k6v,z0X,k2a,k0K,k0D,k0z,k0E,k0C,k0O,k0W,z0l,g0,w0S,k5G,w0u,lr,true_and,q_lt,k1x,k2w,decide_eq_true_eq,k5U,if_pos pr,gi,q_mod,ne_eq,mne,not_false_eq_true,k3O,k2F]
   exact ⟨_,rfl,(fm _).1,(fm _).2,trivial⟩
  ·have lrest:(z1P.map V.int).length≤4096:=by decide
   have lrest':(z1P.map V.int).length = 54:=by decide
   simp only [if_neg e,z4B,z0f,k1q,k0x,w0e,w0d,k1r,k0o,k0L,k6v,z0X,k2a,k0K,k0D,k0z,k0s,rg0,rgS,w0a,k0g,k0u,k0r,k0E,k0C,k0O,k0W,q_lenT,lrest,true_and,q_lt,k1x,k2w,decide_eq_true_eq]
   by_cases e2:p < ((z1P.map V.int).length:Int)
   ·have hp:p.toNat < z1P.length:=by rw [w0u] at e2; have:=c.p0; lia
    have pr:0≤p∧p < 4096:=⟨c.p0,by rw [lrest'] at e2; lia⟩
    have gi:(z1P.map V.int)[p.toNat]? = some (.int z1P[p.toNat]):=by rw [w0H,w0A hp]; rfl
    simp only [if_pos e2,k1i,k0s,rg0,rgS,w0a,k0g,k0u,k0r,k3c,pr,and_self,true_and,gi,q_mod,ne_eq,mne,not_false_eq_true,k0O,k3O,k2F]
    exact ⟨_,rfl,(fm _).1,(fm _).2,trivial⟩
   ·simp only [if_neg e2,k4k,k0O,k3O,k2F]
    exact ⟨0,rfl,by lia,hm,trivial⟩
 refine k8n key fun r h' q=>?_
 refine cX1 q fun k yA=>cA4 yA fun yB=>?_; clear q yA; subst yB; intro k0 k1 yC; subst yC
 refine h1 k _ k0 k1 (k0M.set (by simp) _ _) ⟨p + 1,ns,k0J c.d _,k0m c.r (by lia) _,by have:=c.p0; lia,c.nl⟩
structure Am (h:Hp) (v:V) (l:List Nm):Prop where
 len:∀ (Q:Po V),wp (z3B [v]) Q h = Q (.ok (.int l.length)) h
 at':∀ (k:Int) (Q:Po V),0≤k→k < l.length→∃ n,n∈l∧wp (k0V v (.int k)) Q h = Q (.ok (.str n)) h
 ne:l≠[]
 sub:∀ n,n∈l→n∈names
theorem Am.str (h:Hp):Am h (.str [65,66,67,68]) names where
 len:=fun Q=>by rw [q_lenS]; simp [names]
 at':=fun k Q k0 k1=>by
  have hk:k = 0∨k = 1∨k = 2∨k = 3:=by
   have:(names.length:Int) = 4:=rfl
   lia
  refine Or.elim hk (fun yY=>?_) fun yZ=>?_ <;> clear hk; rotate_left; (refine Or.elim yZ ?_ ?_ <;> clear yZ; rotate_left; (intro yZ; refine Or.elim yZ ?_ ?_ <;> clear yZ; rotate_left; (intro yZ; subst yZ); rotate_right; (intro yY; subst yY)); rotate_right; (intro yY; subst yY)); rotate_right; subst yY
  ·exact ⟨[65],by decide,propext ⟨fun x=>x.2,fun x=>⟨⟨by decide,by decide⟩,x⟩⟩⟩
  ·exact ⟨[66],by decide,propext ⟨fun x=>x.2,fun x=>⟨⟨by decide,by decide⟩,x⟩⟩⟩
  ·exact ⟨[67],by decide,propext ⟨fun x=>x.2,fun x=>⟨⟨by decide,by decide⟩,x⟩⟩⟩
  ·exact ⟨[68],by decide,propext ⟨fun x=>x.2,fun x=>⟨⟨by decide,by decide⟩,x⟩⟩⟩
 ne:=by decide
 sub:=fun n h=>h
theorem Am.list {h:Hp} {a:Nat} {l:List Nm} (ha:h[a]? = some (.list (l.map .str))) (hl:l.length≤4) (ne:l≠[]) (sub:∀ n,n∈l→n∈names):Am h (.loc a) l where
 len:=fun Q=>by
  rw [z0l,ha,w0S,k5G,k0g,w0u]
  have:l.length≤4096:=by lia
  simp only [this,true_and]
 at':=fun k Q k0 k1=>by
  have hp:k.toNat < l.length:=by lia
  refine ⟨l[k.toNat],List.getElem_mem hp,?_⟩
  rw [k1R,ha,k0g,k5U,if_pos ⟨k0,by lia⟩,w0H,w0A hp]
  rfl
 ne:=ne
 sub:=sub
theorem w_item {h:Hp} (C:k3l h) {t:Nat} {th:Nm→Th} (thok:∀ n,(th n).Ok) (ht:h[t]? = some (.dict (names.map fun n=>(n,k2z (th n))))) (t1:t≠1) {v:V} {l:List Nm} (am:∀ h',k0M [1] h h'→Am h' v l) {Q:Po V}
  (h1:∀ h' (i:Item),k0M [1] h h'→k3l h'→i.nm∈l→i.subs.length≤1→h'[i.loc]? = some (.list (i.subs.map .int))→h.length≤i.loc→Q (.ok (k1a i)) h') :
  wp (k3T [.loc 1,.loc t,v]) Q h:=by
 unfold k3T k9c
 rw [k1z]
 refine ⟨rfl,?_⟩
 have am0:=am h (k0M.refl _ _)
 have lpos:0 < l.length:=w2A.mpr am0.ne
 simp only [w0f,w0n,List.replicate,w0o,w0r,k0L,k0y,k1i,k0s,rg0,rgS,w0a,k0g,k0u,k0r,k0K,k0D,k0z,k0E,am0.len,k0C,k0O,k0W]
 refine k3t C (by lia) fun k h2 k0 k1 K2 C2=>?_
 rw [k0u]
 refine cX1 ((am h2 K2).at' k (aK (k0l 3) [some (V.loc 1),some (V.loc t),some v,none,none,none,none,none] (sK
      (k0H (k0p (k1g k0V (k0d 1) (k0d 3)) (k1o 3 (k0q (k0l 4) (k0q (k0l 5) (k0q (k0l 6) k1n)))))
 (k0H (k0p (k4S k0T) (k0l 7))
 (k0H (xIf (z2u (k2L xNe (k0d 6) (k3e k0T)) (z2u (k2L xEq (k1c k0I (k0f (k0d 0) (k0f (cI 2) k0T))) (cI 1)) tT)) (k0H (k0p (cIf (k2L xEq (k1c k0I (k0f (k0d 0) (k0f (cI 8) k0T))) (cI 6)) (k4S (k0f (cI 4) k0T)) (k4S (k0f (k1g k4T (cI 1) (k1c k0I (k0f (k0d 0) (k0f (k1g k0V (k1g k0V (k0d 6) (cI 0)) (cI 1)) k0T)))) k0T))) (k0l 7))
 k1s) k1s)
 (k0H (k5A (k3e (k0f (k0d 3) (k0f (k0d 7) (k0f (cIf (k2L xEq (k0d 4) (cG (.int 5))) (k1g k4T (cI 1) (k1c k0I (k0f (k0d 0) (k0f (cI 2) k0T)))) (cI 1)) k0T)))))
 k1s))))
      (clK Q))) k0 k1) fun n yA=>cA2 yA fun hn en=>?_; clear yA
 rw [en]
 have hnn:=am0.sub n hn
 have ht2:=K2.get ht (by simp; exact t1)
 have hd:=k2S names (fun n=>k2z (th n)) hnn
 simp only [k1q,k0x,w0e,w0d,k1r,k0o,k0L,k0y,k1i,k0s,rg0,rgS,w0a,k0g,k0u,k0r,k1R,ht2,k1j,hd]
 simp only [k2z,k1q,k0x,w0e,w0d,k1r,k0o,k0L,k0y,k1i,k0s,rg0,rgS,w0a,k0g,k0u,k0r,k1I,w0s,w0q,w0y,true_and,k1w,k2j,k1H,k3U,k0C,k3H,z0W,z1W,k2a,k6X,k2h,k0O,q_neT]
 have C3:=C2.keep (k0M.alloc [] h2 (O.list [])) (by simp)
 have K3:=K2.trans (k0M.alloc [1] h2 (O.list []))
 have g3:=k0X h2 (O.list [])
 have hs0:=K2.len
 generalize hsub:h2.length = s0 at *
 generalize h2 ++ [O.list []] = h3 at *
 have fin:∀ (h4:Hp) (s:Nat) (subs:List Int),subs.length≤1→k0M [1] h h4→k3l h4→h4[s]? = some (.list (subs.map .int))→h.length≤s →
   wp (k5A (k3e (k0f (k0d 3) (k0f (k0d 7) (k0f (cIf (k2L xEq (k0d 4) (cG (.int 5))) (k1g k4T (cI 1) (k1c k0I (k0f (k0d 0) (k0f (cI 2) k0T)))) (cI 1)) k0T)))) [some (V.loc 1),some (V.loc t),some v,some (V.str n),some (V.int (th n).kind),some (V.int (th n).len),some (V.tup (k5j (th n).many)),some (V.loc s)]) (sK k1s (clK Q)) h4:=by
  intro h4 s subs sl K4 C4 g4 hs
  simp only [k6v,k2h,k0z,k0s,rg0,rgS,w0a,k0g,k0E,z0X,k2a,k0u,k0r,z4B,k9P,k1x,k2w]
  by_cases e5:(th n).kind = 5
  ·have b5:((th n).kind == 5) = true:=by simpa using e5
   simp only [b5,if_true,k1i,k4k,k0u,k0r,k0K,k0D,k0z,k0s,rg0,rgS,w0a,k0g,k0E,k0C,k0O,k0W]
   refine k3t C4 (by lia) fun k h5 k0 k1 K5 C5=>?_
   simp only [k0u,k4o,k0E,k0C,k0O,k3O,k2F]
   exact h1 h5 ⟨n,subs,1 + k,s⟩ (K4.trans K5) C5 hn sl (K5.get g4 (by simp; exact C4.list g4)) hs
  ·have b5:((th n).kind == 5) = false:=by simpa using e5
   simp only [b5,w0p,if_false,k4k,k0E,k0C,k0O,k3O,k2F]
   exact h1 h4 ⟨n,subs,1,s⟩ K4 C4 hn sl g4 hs
 by_cases em:(th n).many = 0
 ·have ed:k5j (th n).many = []:=by unfold k5j; rw [if_pos em]
  have e2:k4B (k5j (th n).many) [] = some true:=by rw [ed]; rfl
  simp only [e2,k0g,w1j,k0u,k1x,k2w,w0p,if_false,k0P,k1Q,k0o,k0L]
  exact fin h3 s0 [] (by simp) K3 C3 g3 hs0
 ·have ed:k5j (th n).many = [.tup [.int 1,.int (th n).many]]:=by unfold k5j; rw [if_neg em]
  have e2:k4B (k5j (th n).many) [] = some false:=by rw [ed]; rfl
  simp only [e2,k0g,w1J,k0u,k1x,k2w,if_true,z1W,k2a,k0K,k0D,k0z,k0s,rg0,rgS,w0a,k0E,k4k,k0C,k0O,k0W]
  refine k3t C3 (by lia) fun k h4 k0 k1 K4 C4=>?_
  have g4:=K4.get g3 (by simp; exact C3.list g3)
  simp only [k0u,k0r,k4k,k9P,k1x,k2w]
  by_cases ek:k = 1
  ·have bk:(k == 1) = true:=by simpa using ek
   simp only [bk,if_true,q_tT,k0u,k2w,k0L,k0y,z0X,k2a,k0K,k0D,k0z,k0s,rg0,rgS,w0a,k0g,k0E,k4k,k0C,k0O,k0W]
   refine k3t C4 (by lia) fun k' h5 k0' k1' K5 C5=>?_
   simp only [k0u,k0r,k4k,k9P,k1x,k2w]
   by_cases ek':k' = 6
   ·have bk':(k' == 6) = true:=by simpa using ek'
    simp only [bk',if_true,k3U,k0z,k4k,k0E,k0C,k0O,k0u,k3H,k1q,k0x,w0e,w0d,k1r,k0o,k1Q,k0L]
    exact fin _ _ [4] (by simp) (((K3.trans K4).trans K5).trans (k0M.alloc _ _ _)) (C5.keep (k0M.alloc [] _ _) (by simp)) (k0X _ _) ((K3.trans K4).trans K5).len
   ·have bk':(k' == 6) = false:=by simpa using ek'
    have i0:(k5j (th n).many)[(0:Int).toNat]? = some (.tup [.int 1,.int (th n).many]):=by rw [ed]; rfl
    have c0:(0:Int)≤0∧(0:Int) < 4096:=by decide
    have c1:(0:Int)≤1∧(1:Int) < 4096:=by decide
    simp only [bk',w0p,if_false,k3U,k0z,k1i,k4k,k0u,k0r,k0K,k0D,k0s,rg0,rgS,w0a,k0g,k0E,k3c,c0,c1,and_self,true_and,i0,Int.toNat_one,k0C,k0O,k0W]
    refine k3t C5 (by lia) fun k'' h6 k0'' k1'' K6 C6=>?_
    simp only [k0u,k4o,k0E,k0C,k0O,k3H,k1q,k0x,w0e,w0d,k1r,k0o,k1Q,k0L]
    exact fin _ _ [1 + k''] (by simp) ((((K3.trans K4).trans K5).trans K6).trans (k0M.alloc _ _ _)) (C6.keep (k0M.alloc [] _ _) (by simp)) (k0X _ _) (((K3.trans K4).trans K5).trans K6).len
  ·have bk:(k == 1) = false:=by simpa using ek
   simp only [bk,w0p,if_false,k0P,k0u,k2w,k1Q,k0o,k0L]
   exact fin h4 s0 [] (by simp) (K3.trans K4) C4 g4 hs0
end T
namespace T
theorem k3l.set {h:Hp} (C:k3l h) {l:Nat} (hl:2≤l) (o:O):k3l (h.set l o):=C.keep (k0M.set (S:=[l]) (by simp) h o) (by simp; lia)
theorem k3l.alloc {h:Hp} (C:k3l h) (o:O):k3l (h ++ [o]):=C.keep (k0M.alloc [] h o) (by simp)
theorem w_group {h:Hp} (C:k3l h) {t:Nat} {th:Nm→Th} (thok:∀ n,(th n).Ok) (ht:h[t]? = some (.dict (names.map fun n=>(n,k2z (th n))))) (t1:t≠1) {Q:Po V}
  (h1:∀ h' (g:Grp),k0M [1] h h'→k3l h'→g.items≠[]→g.items.length≤3→(∀ i,i∈g.items→i.nm∈names∧i.subs.length≤1)→h'[g.loc]? = some (.list (g.items.map k1a))→(∀ i,i∈g.items→h'[i.loc]? = some (.list (i.subs.map .int))∧h.length≤i.loc)→h.length≤g.loc→Q (.ok (k3L g)) h') :
  wp (k4h [.loc 1,.loc t]) Q h:=by
 unfold k4h k7T
 rw [k1z]
 refine ⟨rfl,?_⟩
 have Lt:=k0t ht
 simp only [w0f,w0n,List.replicate,w0o,w0r,k0L,k0y,k3U,k0z,k0K,k0D,k0s,rg0,rgS,w0a,k0g,k0E,z4B,k0C,k0O,k0W]
 refine w_item C thok ht t1 (fun h' Y=>Am.str h') fun h2 i0 K2 C2 hi0 si0 gi0 li0=>?_
 have ht2:=K2.get ht (by simp; exact t1)
 have hd0:=k2S names (fun n=>k2z (th n)) hi0
 simp only [k0E,k0C,k0O,k0u,k3H,k1q,k0x,w0e,w0d,k1r,k0o,k0L,k0y]
 have gr:=k0X h2 (O.list [k1a i0])
 have ht3:=k0w ht2 (O.list [k1a i0])
 have gi3:=k0w gi0 (O.list [k1a i0])
 have C3:=C2.alloc (O.list [k1a i0])
 have K3:=K2.trans (k0M.alloc [1] h2 (O.list [k1a i0]))
 have L3:(h2 ++ [O.list [k1a i0]]).length = h2.length + 1:=by simp
 have Lh2:=K2.len
 have Lc:=C.len
 generalize hrl:h2.length = rl at *
 generalize h2 ++ [O.list [k1a i0]] = h3 at *
 have c0:(0:Int)≤0∧(0:Int) < 4096:=by decide
 have e0:([k1a i0])[(0:Int).toNat]? = some (k1a i0):=rfl
 simp only [k1i,k0s,rg0,rgS,w0a,k0g,k0u,k0r,k4k,k1R,gr,k5U,if_true,e0,k1a,k3c,c0,and_self,true_and,Int.toNat_zero,ht3,k1j,hd0]
 simp only [k2z,k3c,c0,and_self,true_and,Int.toNat_zero,rg0,k0g,k0u,k0r,z4B,k9P,k1q,k0x,w0e,w0d,k1r,k0o,k0L,k0y,k2W,k2d,z0Y,k4j,w0f,w0n,List.replicate,w0o,w0r,rgS,w0a,k4k]
 refine ⟨by decide,?_⟩
 rw [← k0r]
 refine k9j names V.str (fun n=>((th n).kind == 5) == ((th i0.nm).kind == 5)) V.str (fun reg=>∃ g0,reg = [g0,some (.loc t),some (.bool ((th i0.nm).kind == 5))]) (by decide) (fun i=>z3K [65,66,67,68] i h3) ⟨_,rfl⟩ (fun n hn reg hJ=>?_) ?_
 ·refine cX1 hJ fun g0 yA=>?_; clear hJ; subst yA
  have hd:=k2S names (fun n=>k2z (th n)) hn
  simp only [k0x,w0d]
  refine ⟨_,rfl,trivial,⟨_,rfl⟩,?_,fun Y=>?_⟩
  ·simp only [k2a,k1i,k0s,rg0,rgS,w0a,k0g,k0u,k0r,k1R,ht3,k1j,hd]
   simp only [k2z,k4k,k3c,c0,and_self,true_and,Int.toNat_zero,rg0,k0g,k0u,k0r,z4B,k9P,k0s,rgS,w0a,q_eqB,k1x]
  ·simp only [k0s,rg0,w0a,k0g,and_self]
 generalize hal:names.filter (fun n=>((th n).kind == 5) == ((th i0.nm).kind == 5)) = al
 have alne:al≠[]:=by
  rw [← hal]
  intro q
  rw [w1g] at q
  exact q i0.nm hi0 (by simp)
 have alsub:∀ n,n∈al→n∈names:=fun n hn=>by rw [← hal] at hn; exact (w0I.mp hn).1
 have all4:al.length≤4:=by rw [← hal]; exact w1f _ names
 have ga:=k0X h3 (O.list (al.map V.str))
 have gr4:=k0w gr (O.list (al.map V.str))
 have ht4:=k0w ht3 (O.list (al.map V.str))
 have gi4:=k0w gi3 (O.list (al.map V.str))
 have C4:=C3.alloc (O.list (al.map V.str))
 have K4:=K3.trans (k0M.alloc [1] h3 (O.list (al.map V.str)))
 rw [L3] at ga ⊢
 generalize h3 ++ [O.list (al.map V.str)] = h4 at *
 simp only [k1q,k0x,w0e,w0d,k1r,k0o,k0L,k2B,k6V,k0z,k1i,k4k,k0u,k0r,k0K,k0D,k0s,rg0,rgS,w0a,k0g,k0E,k0C,k0O,k0W]
 refine k3t C4 (by lia) fun k h5 k0 k1 K5 C5=>?_
 simp only [k0u,k4o,k0E,k0C,k0O,k9g]
 refine ⟨⟨by lia,by lia⟩,?_⟩
 have ga5:=K5.get ga (by simp; lia)
 have gr5:=K5.get gr4 (by simp; exact C4.list gr4)
 have ht5:=K5.get ht4 (by simp; exact t1)
 have gi5:=K5.get gi4 (by simp; exact C4.list gi4)
 have K05:=K4.trans K5
 let I:=fun (pre:List Nat) (reg:Reg) (h':Hp)=>(∃ g5,reg = [some (.loc 1),some (.loc t),some (.loc rl),some (.bool ((th i0.nm).kind == 5)),some (.loc (rl + 1)),g5])∧k0M [1,rl] h5 h'∧k3l h' ∧
  ∃ is:List Item,is.length = 1 + pre.length∧h'[rl]? = some (.list (is.map k1a))∧(∀ i,i∈is→i.nm∈names∧i.subs.length≤1∧h'[i.loc]? = some (.list (i.subs.map .int))∧i.loc≠rl∧h.length≤i.loc)
 have hi0r:i0.loc≠rl:=fun q=>by
  have:=k0t gi0
  lia
 refine k4m (List.range (1 + k).toNat) (fun i:Nat=>V.int (i:Int)) I (by simp; lia) (fun pre suf reg h' e hI=>z1Z _ _ _) ⟨⟨_,rfl⟩,k0M.refl _ _,C5,[i0],rfl,gr5,fun i hi=>?_⟩ (fun pre x suf reg h' e hI=>?_) (fun reg h' hI=>?_)
 ·rw [w0h] at hi; subst hi
  exact ⟨hi0,si0,gi5,hi0r,li0⟩
 ·refine cA4 hI fun yA K C' yB=>cX1 yA fun g5 yC=>?_; clear hI yA; subst yC; refine cX1 yB fun is yD=>cA3 yD fun isl gis his=>?_; clear yB yD
  have hpl:pre.length≤2:=by
   have:(List.range (1 + k).toNat).length = (pre ++ x :: suf).length:=by rw [e]
   simp at this; lia
  have ht':=K.get ht5 (by simp; exact ⟨t1,by lia⟩)
  have ga':=K.get ga5 (by simp; lia)
  have hisl:(is.map k1a).length≤4000:=by simp; lia
  rw [k0x,k0u]
  simp only [w0e,w0d,k0L,k3P,k4l,k0s,rg0,rgS,w0a,k0g,k0u,k0r,k3I,gis,k0z,k0K,k0D,k0E,z0X,k2a,k4k,k0C,k0O,k0W]
  refine k3t C' (by lia) fun k' h6 k0' k1' K6 C6=>?_
  have ht6:=K6.get ht' (by simp; exact t1)
  have ga6:=K6.get ga' (by simp; lia)
  simp only [k0u,k9P,k1x,k2w,k4k,k0r]
  have rest:∀ v l,(∀ h',k0M [1] h6 h'→Am h' v l)→wp (k3T [V.loc 1,V.loc t,v]) (coK k0T [some (.loc 1),some (.loc t),some (.loc rl),some (.bool ((th i0.nm).kind == 5)),some (.loc (rl + 1)),some (.int x)] (bK (fun vs=>k3o (V.loc rl :: vs)) (rK (fun Y=>(Fl.next,[some (.loc 1),some (.loc t),some (.loc rl),some (.bool ((th i0.nm).kind == 5)),some (.loc (rl + 1)),some (.int x)])) (sK k1s (k9Q (I (pre ++ [x])) (sK (k0H (k5A (k0d 2)) k1s) (clK Q))))))) h6:=fun v l am=>by
   refine w_item C6 thok ht6 t1 am fun h7 i K7 C7 hi si gi li=>?_
   have gis7:=K7.get (K6.get gis (by simp; exact C'.list gis)) (by simp; exact C6.list (K6.get gis (by simp; exact C'.list gis)))
   simp only [k0E,k0C,k0O,k0u,k3J,gis7,k0g,k2R,hisl,if_true,k0o,k1Q,k0S]
   have hne:i.loc≠rl:=fun q=>by
    rw [q,gis7] at gi
    injection gi with gi
    injection gi with gi
    have hl:0 < is.length:=by lia
    cases is with
    | nil=>simp at hl
    | cons i' is' =>
     cases hs:i.subs with
     | nil=>rw [hs] at gi; simp at gi
     | cons a as=>rw [hs] at gi; simp [k1a] at gi
   refine ⟨⟨_,rfl⟩,(K.trans ((K6.trans K7).mono fun i hi=>.inl (by simp at hi; simp [hi]))).trans (k0M.set (by simp) _ _),C7.set (by lia) _,is ++ [i],by simp; lia,?_,fun j hj=>?_⟩
   ·rw [k0J gis7,w0j]; rfl
   ·refine Or.elim (w0g.mp hj) (fun hj=>?_) fun hj=>?_
    ·refine cA5 (his j hj) fun q1 q2 q3 q4 q6=>?_
     have q5:=K6.get q3 (by simp; exact C'.list q3)
     exact ⟨q1,q2,k0m (K7.get q5 (by simp; exact C6.list q5)) (Ne.symm q4) _,q4,q6⟩
    ·rw [w0h] at hj; subst hj
     have hin:j.nm∈names:=(am h6 (k0M.refl _ _)).sub _ hi
     exact ⟨hin,si,k0m gi (Ne.symm hne) _,hne,by have:=K05.len; have:=K.len; have:=K6.len; lia⟩
  by_cases e5:k' = 5
  ·have b5:(k' == 5) = true:=by simpa using e5
   simp only [b5,if_true,z4B,k0E,k0C,k0O,k0W]
   exact rest _ names fun h' Y=>Am.str h'
  ·have b5:(k' == 5) = false:=by simpa using e5
   simp only [b5,w0p,if_false,k0s,rg0,rgS,w0a,k0g,k0E,k0C,k0O,k0W]
   exact rest _ al fun h' Kh=>Am.list (Kh.get ga6 (by simp; lia)) all4 alne alsub
 ·refine cA4 hI fun yA K C' yB=>cX1 yA fun g5 yC=>?_; clear hI yA; subst yC; refine cX1 yB fun is yD=>cA3 yD fun isl gis his=>?_; clear yB yD
  rw [w1e] at isl
  simp only [k0o,k0L,k6v,k0s,rg0,rgS,w0a,k0g,k0O,k3O,k2F]
  refine h1 h' ⟨is,rl⟩ (K05.trans' K (fun i hi=>?_)) C' (fun q=>?_) (by show is.length≤3; lia) (fun i hi=>⟨(his i hi).1,(his i hi).2.1⟩) gis (fun i hi=>⟨(his i hi).2.2.1,(his i hi).2.2.2.2⟩) Lh2
  ·simp at hi
   refine Or.elim hi (fun yY=>?_) fun yZ=>?_ <;> clear hi; rotate_left; subst yZ; rotate_right; subst yY
   ·exact .inl (by simp)
   ·exact .inr (by lia)
  ·have:is.length = 0:=by
    have q':is = []:=q
    rw [q']; rfl
   lia
end T
namespace T
theorem z6j {h:Hp} (C:k3l h) {Q:Po V}
  (h1:∀ h' u t c g k,k0M [1] h h'→k3l h'→k2b h' h'.length t c g k u→u.Ok→t≠1→Q (.ok (.tup [.loc t,.loc c,.loc g,.loc k])) h') :
  wp (k5q [.loc 1]) Q h:=by
 unfold k5q k9d
 rw [k1z]
 refine ⟨rfl,?_⟩
 have Lc:=C.len
 have c0:(0:Int)≤0∧(0:Int) < 4096:=by decide
 simp only [w0f,w0n,List.replicate,w0o,w0r,k0L,z3I,k2h,k0z,k3Z,k0E,k3U,k0C,k0u,k3H,k0O,z1V,k0o,w0e,w0d,w0t,w0B,k2B,k2d,z4B,z0Y]
 refine ⟨by decide,?_⟩
 have gt0:(h ++ [O.dict []] ++ [O.list []])[h.length]? = some (.dict []):=k0w (k0X _ _) _
 have gc0:(h ++ [O.dict []] ++ [O.list []])[h.length + 1]? = some (.list []):=by
  have:=k0X (h ++ [O.dict []]) (O.list [])
  rw [w0t,w0B] at this; exact this
 have C0:k3l (h ++ [O.dict []] ++ [O.list []]):=(C.alloc _).alloc _
 have K0:k0M [1] h (h ++ [O.dict []] ++ [O.list []]):=(k0M.alloc _ _ _).trans (k0M.alloc _ _ _)
 have L0:(h ++ [O.dict []] ++ [O.list []]).length = h.length + 2:=by simp
 generalize ht0:h.length = t0 at *
 generalize h ++ [O.dict []] ++ [O.list []] = H0 at *
 let I:=fun (pre:List Nm) (reg:Reg) (h':Hp)=>(∃ g3 g4 g5 g6,reg = [some (.loc 1),some (.loc t0),some (.loc (t0 + 1)),g3,g4,g5,g6,none,none,none])∧k0M [1,t0] H0 h'∧k3l h' ∧
  ∃ th:Nm→Th,(∀ n,(th n).Ok)∧h'[t0]? = some (.dict (pre.map fun n=>(n,k2z (th n))))
 refine k4m names V.str I (by decide) (fun pre suf reg h' e hI=>z3K _ _ _) ⟨(iX4 rfl),k0M.refl _ _,C0,fun Y=>⟨0,0,0⟩,fun Y=>⟨.inl rfl,Int.le_refl 0,(by decide:(0:Int)≤3),fun q=>absurd q (by decide:¬ (0:Int) = 5),(by decide:(0:Nat)≤3)⟩,gt0⟩ (fun pre x suf reg h' e hI=>?_) (fun reg h' hI=>?_)
 ·refine cA4 hI fun yA K C1 yB=>cX4 yA fun g3 g4 g5 g6 yC=>?_; clear hI yA; subst yC; refine cX1 yB fun th yD=>cA2 yD fun thok gt=>?_; clear yB yD
  have hpl:pre.length≤4:=by
   have:names.length = (pre ++ x :: suf).length:=by rw [← e]
   have h4:names.length = 4:=rfl
   simp at this; lia
  have hxp:x∉pre:=by
   have nd:names.Nodup:=by decide
   rw [e] at nd
   exact k1C nd
  have fin:∀ (h4:Hp) (kd ln:Int) (mn:Nat),k0M [1,t0] H0 h4→k3l h4→h4[t0]? = some (.dict (pre.map fun n=>(n,k2z (th n))))→Th.Ok ⟨kd,ln,mn⟩ →
    wp (k0H (k0p (k3e (k0f (k0d 4) (k0f (k0d 5) (k0f (cIf (k2L xEq (k0d 6) (cI 0)) (k3e k0T) (k3e (k0f (k3e (k0f (cI 1) (k0f (k0d 6) k0T))) k0T))) k0T)))) (k7Z (k0d 1) (k0d 3))) k1s
     [some (.loc 1),some (.loc t0),some (.loc (t0 + 1)),some (.str x),some (.int kd),some (.int ln),some (.int mn),none,none,none]) (k9Q (I (pre ++ [x])) (sK
      (k0H (k5z (k5B (k0f (k1c k0I (k0f (k0d 0) (k0f (cI 3) k0T))) k0T)) (k0l 7) (k0H (k0p (k1g k0V (k3e (k0f (cS [88]) (k0f (cS []) k0T))) (k1c k0I (k0f (k0d 0) (k0f (cI 2) k0T)))) (k0l 8))
 (k0H (k4c (k5m k3A k3o (k0d 2) (k0f (k3e (k0f (k0d 8) (k0f (k3z 1 [0] (k5B (k0f (k1g k4T (cI 1) (k1c k0I (k0f (k0d 0) (k0f (cI 2) k0T)))) k0T)) (k0l 0) tT (k2H (k1g k0V (cG (.str [65,66,67,68])) (k1c k0I (k0f (k0d 1) (k0f (cI 4) k0T))))) (.list [])) k0T))) k0T)))
 k1s)))
 (k0H (k0p (k4S k0T) (k0l 9))
 (k0H (k5z (k5B (k0f (k1g k4T (cI 1) (k1c k0I (k0f (k0d 0) (k0f (cI 2) k0T)))) k0T)) (k0l 7) (k0H (k4c (k5m k3A k3o (k0d 9) (k0f (k1c k4h (k0f (k0d 0) (k0f (k0d 1) k0T))) k0T)))
 k1s))
 (k0H (k5A (k3e (k0f (k0d 1) (k0f (k0d 2) (k0f (k0d 9) (k0f (k5g (k4n noEx) (k4S (k0f (cS [65]) (k0f (cS [67]) k0T))) cNo (k7n (k1c k0I (k0f (k0d 0) (k0f (cI 3) k0T)))) cNo) k0T))))))
 k1s)))) (clK Q))) h4:=by
   intro h4 kd ln mn K4 C4 gt4 okn
   have hl:(pre.map fun n=>(n,k2z (th n))).length≤4000:=by simp; lia
   have edims:∀ (Q:Po V) (h:Hp),wp (cIf (k2L xEq (k0d 6) (cI 0)) (k3e k0T) (k3e (k0f (k3e (k0f (cI 1) (k0f (k0d 6) k0T))) k0T)) [some (.loc 1),some (.loc t0),some (.loc (t0 + 1)),some (.str x),some (.int kd),some (.int ln),some (.int mn),none,none,none]) Q h = Q (.ok (k6X mn)) h:=by
    intro Q h
    simp only [z0X,k2a,k0s,rg0,rgS,w0a,k0g,k0u,k0r,k4k,k9P,k1x,k2w]
    by_cases em:mn = 0
    ·have bm:((mn:Int) == 0) = true:=by simpa using em
     simp only [bm,if_true,k2h,k0C,k0O]
     unfold k6X k5j; rw [if_pos em]
    ·have bm:((mn:Int) == 0) = false:=by simpa using em
     simp only [bm,w0p,if_false,k2h,k0z,k4k,k0E,k0s,rg0,rgS,w0a,k0g,k0C,k0O]
     unfold k6X k5j; rw [if_neg em]
   simp only [k0L,k0y,k2h,k0z,k0s,rg0,rgS,w0a,k0g,k0E,edims,k0C,k0O,k1q,k4H,k0u,k0r,k6w,gt4,k2C,hl,if_true,k0P,k1r,k0o,k1Q,k0S]
   refine ⟨(iX4 rfl),K4.trans (k0M.set (by simp) _ _),C4.set (by lia) _,fun m=>if m = x then ⟨kd,ln,mn⟩ else th m,fun n=>?_,?_⟩
   ·by_cases q:n = x
    ·simp only [if_pos q]; exact okn
    ·simp only [if_neg q]; exact thok n
   ·rw [k0J gt4,k2I,w0j]
    ·congr 2
     congr 1
     ·refine w1G fun n hn=>?_
      have:n≠x:=fun q=>hxp (q ▸ hn)
      show (n,k2z (th n)) = (n,k2z (if n = x then _ else th n))
      rw [if_neg this]
     ·show _ = [(x,k2z (if x = x then (⟨kd,ln,mn⟩:Th) else th x))]
      rw [if_pos rfl]
      rfl
    ·rw [k1W,w0k]
     intro q
     refine cX1 (w0b.mp q) fun n yA=>cA2 yA fun hn en=>?_; clear yA
     have en':n = x:=en
     exact hxp (en' ▸ hn)
  rw [k0x,k0u]
  simp only [w0e,w0d,k0L,k0y,k1i,k2h,k0z,z4B,k0E,k0C,k0O,k0u,k0r,k0K,k0D,k0s,rg0,rgS,w0a,k0g,k4k,k0W]
  refine k3t C1 (by lia) fun k h2 k0 k1 K2 C2=>?_
  have gt2:=K2.get gt (by simp; lia)
  rw [k0u,k3c]
  refine ⟨⟨k0,by lia⟩,?_⟩
  obtain ⟨kd,hkd,hkv⟩:∃ kd:Int,[V.int 0,V.int 2,V.int 5,V.int 0][k.toNat]? = some (.int kd)∧(kd = 0∨kd = 2∨kd = 5):=by
   have:k = 0∨k = 1∨k = 2∨k = 3:=by lia
   refine Or.elim this (fun yY=>?_) fun yZ=>?_ <;> clear this; rotate_left; (refine Or.elim yZ ?_ ?_ <;> clear yZ; rotate_left; (intro yZ; refine Or.elim yZ ?_ ?_ <;> clear yZ; rotate_left; (intro yZ; subst yZ); rotate_right; (intro yY; subst yY)); rotate_right; (intro yY; subst yY)); rotate_right; subst yY
   ·exact ⟨0,rfl,.inl rfl⟩
   ·exact ⟨2,rfl,.inr (.inl rfl)⟩
   ·exact ⟨5,rfl,.inr (.inr rfl)⟩
   ·exact ⟨0,rfl,.inl rfl⟩
  have K02:k0M [1,t0] H0 h2:=K.trans (K2.mono fun i hi=>.inl (by simp at hi; simp [hi]))
  rw [hkd,k0g]
  simp only [k1q,k0x,w0e,w0d,k1r,k0o,k0L,k0y,z0X,k2a,k0s,rg0,rgS,w0a,k0g,k0u,k0r,z4B,k9P,k1x,k2w]
  by_cases e5:kd = 5
  ·have b5:(kd == 5) = true:=by simpa using e5
   simp only [b5,if_true,k1i,k4k,k0u,k0r,k0K,k0D,k0z,k0s,rg0,rgS,w0a,k0g,k0E,k0C,k0O,k0W]
   refine k3t C2 (by lia) fun k' h3 k0' k1' K3 C3=>?_
   have gt3:=K3.get gt2 (by simp; lia)
   simp only [k0u,k4o,k1q,k0x,w0e,w0d,k1r,k0o,k0L,k0y,k0K,k0D,k0z,k0s,rg0,rgS,w0a,k0g,k0E,k4k,k0C,k0O,k0W]
   refine k3t C3 (by lia) fun k'' h4 k0'' k1'' K4 C4=>?_
   have gt4:=K4.get gt3 (by simp; lia)
   simp only [k1q,k0x,w0e,w0d,k1r,k0o]
   have ek:k'' = ((k''.toNat:Nat):Int):=by lia
   rw [ek]
   exact fin h4 kd (1 + k') k''.toNat ((K02.trans (K3.mono fun i hi=>.inl (by simp at hi; simp [hi]))).trans (K4.mono fun i hi=>.inl (by simp at hi; simp [hi]))) C4 gt4 ⟨hkv,by show 0≤1 + k'; lia,by show 1 + k'≤3; lia,fun Y=>by show 1≤1 + k'; lia,by show k''.toNat≤3; lia⟩
  ·have b5:(kd == 5) = false:=by simpa using e5
   simp only [b5,w0p,if_false,k4k,k1q,k0x,w0e,w0d,k1r,k0o,k0L,k0y,k0K,k0D,k0z,k0s,rg0,rgS,w0a,k0g,k0E,k0C,k0O,k0W]
   refine k3t C2 (by lia) fun k'' h4 k0'' k1'' K4 C4=>?_
   have gt4:=K4.get gt2 (by simp; lia)
   simp only [k1q,k0x,w0e,w0d,k1r,k0o]
   have ek:k'' = ((k''.toNat:Nat):Int):=by lia
   rw [ek]
   exact fin h4 kd 0 k''.toNat (K02.trans (K4.mono fun i hi=>.inl (by simp at hi; simp [hi]))) C4 gt4 ⟨hkv,by show (0:Int)≤0; lia,by show (0:Int)≤3; lia,fun q=>absurd q e5,by show k''.toNat≤3; lia⟩
 refine cA4 hI fun yA K1 C1 yB=>cX4 yA fun g3 g4 g5 g6 yC=>?_; clear hI yA; subst yC; refine cX1 yB fun th yD=>cA2 yD fun thok gt1=>?_; clear yB yD
 have gc1:=K1.get gc0 (by simp; lia)
 have L1:=K1.len
 simp only [k0o,k0L,k2B,k6V,k0z,k0K,k0D,k0s,rg0,rgS,w0a,k0g,k0E,k4k,k0C,k0O,k0W]
 refine k3t C1 (by lia) fun k h2 k0 k1 K2 C2=>?_
 simp only [k0E,k0C,k0O,k0u,k9g]
 refine ⟨⟨by lia,by lia⟩,?_⟩
 have gt2:=K2.get gt1 (by simp; lia)
 have gc2:=K2.get gc1 (by simp; lia)
 have L2:=K2.len
 let I2:=fun (pre:List Nat) (reg:Reg) (h':Hp)=>(∃ g7 g8,reg = [some (.loc 1),some (.loc t0),some (.loc (t0 + 1)),g3,g4,g5,g6,g7,g8,none])∧k0M [1,t0 + 1] h2 h'∧k3l h' ∧
  ∃ cs:List Com,cs.length = pre.length∧h'[t0 + 1]? = some (.list (cs.map k2J))∧∀ p,p∈cs→(p.blk = [88]∨p.blk = [])∧(∀ n,n∈p.names→n∈names)∧p.names.length≤2∧h'[p.loc]? = some (.list (p.names.map .str))∧t0 + 1 < p.loc
 refine k4m (List.range k.toNat) (fun i:Nat=>V.int (i:Int)) I2 (by simp; lia) (fun pre suf reg h' e hI=>z1Z _ _ _) ⟨(iX2 rfl),k0M.refl _ _,C2,[],rfl,gc2,fun p hp=>by simp at hp⟩ (fun pre x suf reg h' e hI=>?_) (fun reg h' hI=>?_)
 ·refine cA4 hI fun yA K C' yB=>cX2 yA fun g7 g8 yC=>?_; clear hI yA; subst yC; refine cX1 yB fun cs yD=>cA3 yD fun csl gcs hcs=>?_; clear yB yD
  have hpl:pre.length≤2:=by
   have:(List.range k.toNat).length = (pre ++ x :: suf).length:=by rw [e]
   simp at this; lia
  have hcl:(cs.map k2J).length≤4000:=by simp; lia
  have LK:=K.len
  rw [k0x,k0u]
  simp only [w0e,w0d,k0L,k0y,k1i,k2h,k0z,q_cS,k0E,k0C,k0O,k0u,k0r,k0K,k0D,k0s,rg0,rgS,w0a,k0g,k4k,k0W]
  refine k3t C' (by lia) fun k' h3 k0' k1' K3 C3=>?_
  rw [k0u,k3c]
  refine ⟨⟨k0',by lia⟩,?_⟩
  obtain ⟨bk,hbk,hbv⟩:∃ bk:Nm,[V.str [88],V.str []][k'.toNat]? = some (.str bk)∧(bk = [88]∨bk = []):=by
   have:k' = 0∨k' = 1:=by lia
   refine Or.elim this (fun yY=>?_) fun yZ=>?_ <;> clear this; rotate_left; subst yZ; rotate_right; subst yY
   ·exact ⟨[88],rfl,.inl rfl⟩
   ·exact ⟨[],rfl,.inr rfl⟩
  rw [hbk,k0g]
  have gcs3:=K3.get gcs (by simp; lia)
  simp only [k1q,k0x,w0e,w0d,k1r,k0o,k0L,k3P,k4l,k0s,rg0,rgS,w0a,k0g,k0u,k0r,k3I,gcs3,k0z,k2h,k0E,k2W,k6V,k1i,k4k,k0K,k0D,k0C,k0O,k0W]
  refine k3t C3 (by lia) fun k'' h4 k0'' k1'' K4 C4=>?_
  simp only [k0u,k4o,k0E,k0C,k0O,k9g]
  refine ⟨⟨by lia,by lia⟩,?_⟩
  have gcs4:=K4.get gcs3 (by simp; lia)
  simp only [k4j,w0f,w0n,List.replicate,w0o,w0r,rg0,w0a]
  let I3:=fun (pre:List Nat) (reg:Reg) (o:O) (h':Hp)=>(∃ g0,reg = [g0,some (.loc 1)])∧k0M [1] h4 h'∧k3l h'∧∃ l:List Nm,o = .list (l.map .str)∧l.length = pre.length∧∀ n,n∈l→n∈names
  refine z0p (List.range (1 + k'').toNat) (fun i:Nat=>V.int (i:Int)) I3 (by simp; lia) (fun pre suf reg o h' e hI=>z1Z _ _ _) ⟨⟨_,rfl⟩,k0M.refl _ _,C4,[],rfl,rfl,fun n hn=>by simp at hn⟩ (fun pre2 x2 suf2 reg o h5 e2 hI=>?_) (fun reg o h5 hI=>?_)
  ·refine cA4 hI fun yA K5 C5 yB=>cX1 yA fun g0 yC=>?_; clear hI yA; subst yC; refine cX1 yB fun l yD=>cA3 yD fun yE=>?_; clear yB yD; subst yE; intro ll hl
   unfold k9i
   simp only [k0r,k0x,w0d,k0u,q_tT,k2w,if_true,k2H,k1i,z4B,k0K,k0D,k0z,k0s,rg0,rgS,w0a,k0g,k0E,k4k,k0C,k0O,k0W]
   refine k3t C5 (by lia) fun k3 h6 k03 k13 K6 C6=>?_
   rw [k0u]
   refine cX1 ((Am.str h6).at' k3 (bK (fun v=>Pure.pure (O.list (l.map V.str ++ [v]))) (bK (fun o'=>Pure.pure ([some (V.int x2),some (V.loc 1)],o')) (z4D (I3 (pre2 ++ [x2]))))) k03 (by
    have:(names.length:Int) = 4:=rfl
    lia)) fun n yA=>cA2 yA fun hn en=>?_; clear yA
   rw [en]
   simp only [k0u,k0P,k4P]
   refine ⟨⟨_,rfl⟩,K5.trans K6,C6,l ++ [n],by rw [w0j]; rfl,by simp; lia,fun m hm=>?_⟩
   refine Or.elim (w0g.mp hm) (fun hm=>?_) fun hm=>?_
   ·exact hl m hm
   ·rw [w0h] at hm; subst hm; exact hn
  ·refine cA4 hI fun _ K5 C5 yA=>cX1 yA fun l yB=>cA3 yB fun yC=>?_; clear hI yA yB; subst yC; intro ll hl
   rw [w1e] at ll
   have gcs5:=k0w (K5.get gcs4 (by simp; lia)) (O.list (l.map V.str))
   simp only [k0E,k0C,k0O,k0u,k3J,gcs5,k0g,k2R,hcl,if_true,k0o,k1Q,k0S]
   have gn:=k0X h5 (O.list (l.map V.str))
   have KK:k0M [1] h' h5:=(K3.trans K4).trans K5
   have L5:=KK.len
   refine ⟨(iX2 rfl),((K.trans (KK.mono fun i hi=>.inl (by simp at hi; simp [hi]))).trans (k0M.alloc _ _ _)).trans (k0M.set (by simp) _ _),(C5.alloc _).set (by lia) _,cs ++ [⟨bk,l,h5.length⟩],by simp [csl],?_,fun p hp=>?_⟩
   ·rw [k0J gcs5,w0j]; rfl
   ·refine Or.elim (w0g.mp hp) (fun hp=>?_) fun hp=>?_
    ·refine cA5 (hcs p hp) fun q1 q2 q3 q4 q5=>?_
     exact ⟨q1,q2,q3,k0m (k0w (KK.get q4 (by simp; exact C'.list q4)) _) (by lia) _,q5⟩
    ·rw [w0h] at hp; subst hp
     refine ⟨hbv,hl,by show l.length≤2; lia,k0m gn (by lia) _,by show t0 + 1 < h5.length; lia⟩
 refine cA4 hI fun yA K3 C3 yB=>cX2 yA fun g7 g8 yC=>?_; clear hI yA; subst yC; refine cX1 yB fun cs yD=>cA3 yD fun csl gcs3 hcs3=>?_; clear yB yD
 rw [w1e] at csl
 have L3:=K3.len
 have gt3:=K3.get gt2 (by simp; lia)
 have gg4:=k0X h' (O.list [])
 have gt4:=k0w gt3 (O.list [])
 have gcs4:=k0w gcs3 (O.list [])
 have C4:=C3.alloc (O.list [])
 have hcs4:∀ p,p∈cs→(h' ++ [O.list []])[p.loc]? = some (.list (p.names.map .str))∧t0 + 1 < p.loc∧p.loc < h'.length:=fun p hp=>⟨k0w (hcs3 p hp).2.2.2.1 _,(hcs3 p hp).2.2.2.2,k0t (hcs3 p hp).2.2.2.1⟩
 have L4:(h' ++ [O.list []]).length = h'.length + 1:=by simp
 have K4:k0M [1,t0 + 1] h2 (h' ++ [O.list []]):=K3.trans (k0M.alloc _ _ _)
 simp only [k0o,k0L,k0y,k3U,k0C,k0u,k3H,k1q,k0x,w0e,w0d,k1r,k2B,k6V,k0z,k1i,k4k,k0r,k0K,k0D,k0s,rg0,rgS,w0a,k0g,k0E,k0O,k0W]
 generalize hg0:h'.length = g0 at *
 generalize h' ++ [O.list []] = H4 at *
 refine k3t C4 (by lia) fun k5 h5 k05 k15 K5 C5=>?_
 simp only [k0u,k4o,k0E,k0C,k0O,k9g]
 refine ⟨⟨by lia,by lia⟩,?_⟩
 have gg5:=K5.get gg4 (by simp; lia)
 have gt5:=K5.get gt4 (by simp; lia)
 have gcs5:=K5.get gcs4 (by simp; lia)
 have hcs5:∀ p,p∈cs→h5[p.loc]? = some (.list (p.names.map .str)):=fun p hp=>K5.get (hcs4 p hp).1 (by simp; exact C4.list (hcs4 p hp).1)
 have L5:=K5.len
 let I4:=fun (pre:List Nat) (reg:Reg) (hh:Hp)=>(∃ g7,reg = [some (.loc 1),some (.loc t0),some (.loc (t0 + 1)),g3,g4,g5,g6,g7,g8,some (.loc g0)])∧k0M [1,g0] h5 hh∧k3l hh ∧
  ∃ gs:List Grp,gs.length = pre.length∧hh[g0]? = some (.list (gs.map k3L))∧∀ g,g∈gs→(g.items≠[]∧g.items.length≤3)∧(∀ i,i∈g.items→i.nm∈names∧i.subs.length≤1)∧hh[g.loc]? = some (.list (g.items.map k1a))∧g0 < g.loc∧∀ i,i∈g.items→hh[i.loc]? = some (.list (i.subs.map .int))∧g0 < i.loc
 refine k4m (List.range (1 + k5).toNat) (fun i:Nat=>V.int (i:Int)) I4 (by simp; lia) (fun pre suf reg hh e hI=>z1Z _ _ _) ⟨⟨_,rfl⟩,k0M.refl _ _,C5,[],rfl,gg5,fun g hg=>by simp at hg⟩ (fun pre x suf reg hh e hI=>?_) (fun reg hh hI=>?_)
 ·refine cA4 hI fun yA K C' yB=>cX1 yA fun g7 yC=>?_; clear hI yA; subst yC; refine cX1 yB fun gs yD=>cA3 yD fun gsl ggs hgs=>?_; clear yB yD
  have hpl:pre.length≤2:=by
   have:(List.range (1 + k5).toNat).length = (pre ++ x :: suf).length:=by rw [e]
   simp at this; lia
  have hgl:(gs.map k3L).length≤4000:=by simp; lia
  have LK:=K.len
  have gt':=K.get gt5 (by simp; lia)
  rw [k0x,k0u]
  simp only [w0e,w0d,k0L,k3P,k4l,k0s,rg0,rgS,w0a,k0g,k0u,k0r,k3I,ggs,k0z,k0K,k0D,k0E,k0C,k0O,k0W]
  refine w_group C' thok gt' (by lia) fun h6 g K6 C6 gne gl3 gi gg gil gll=>?_
  have ggs6:=K6.get ggs (by simp; lia)
  simp only [k0E,k0C,k0O,k0u,k3J,ggs6,k0g,k2R,hgl,if_true,k0o,k1Q,k0S]
  refine ⟨⟨_,rfl⟩,(K.trans (K6.mono fun i hi=>.inl (by simp at hi; simp [hi]))).trans (k0M.set (by simp) _ _),C6.set (by lia) _,gs ++ [g],by simp [gsl],?_,fun g' hg'=>?_⟩
  ·rw [k0J ggs6,w0j]; rfl
  ·refine Or.elim (w0g.mp hg') (fun hg'=>?_) fun hg'=>?_
   ·refine cA5 (hgs g' hg') fun q1 q2 q3 q4 q5=>?_
    exact ⟨q1,q2,k0m (K6.get q3 (by simp; lia)) (by lia) _,q4,fun i hi=>⟨k0m (K6.get (q5 i hi).1 (by have:=(q5 i hi).2; simp; lia)) (by have:=(q5 i hi).2; lia) _,(q5 i hi).2⟩⟩
   ·rw [w0h] at hg'; subst hg'
    exact ⟨⟨gne,gl3⟩,gi,k0m gg (by lia) _,by lia,fun i hi=>⟨k0m (gil i hi).1 (by have:=(gil i hi).2; lia) _,by have:=(gil i hi).2; lia⟩⟩
 refine cA4 hI fun yA K6 C6 yB=>cX1 yA fun g7' yC=>?_; clear hI yA; subst yC; refine cX1 yB fun gs yD=>cA3 yD fun gsl ggs6 hgs6=>?_; clear yB yD
 rw [w1e] at gsl
 have L6:=K6.len
 have gt6:=K6.get gt5 (by simp; lia)
 have gcs6:=K6.get gcs5 (by simp; lia)
 have hcs6:∀ p,p∈cs→hh[p.loc]? = some (.list (p.names.map .str)):=fun p hp=>K6.get (hcs5 p hp) (by have:=(hcs4 p hp).2; simp; lia)
 simp only [k0o,k0L,k6v,k2h,k0z,k0s,rg0,rgS,w0a,k0g,k0E,k4t,k3U,q_cS,k0C,k0O,k0u,k3H,k0r,k9f,k6W,k0K,k0D,k4k,k0W]
 have gk7:=k0X hh (O.list [V.str [65],V.str [67]])
 have C7:=C6.alloc (O.list [V.str [65],V.str [67]])
 have K7:=k0M.alloc [1] hh (O.list [V.str [65],V.str [67]])
 have L7:(hh ++ [O.list [V.str [65],V.str [67]]]).length = hh.length + 1:=by simp
 generalize hk0:hh.length = kk at *
 generalize hh ++ [O.list [V.str [65],V.str [67]]] = H7 at *
 refine k3t C7 (by lia) fun k8 h8 k08 k18 K8 C8=>?_
 have gk8:=K8.get gk7 (by simp; lia)
 have L8:=K8.len
 simp only [k0u,k0P,k0r,k9f,k5s,gk8,k0g]
 refine ⟨_,rfl,by decide,?_⟩
 have pk:k5w [V.str [65],V.str [67]] none (some k8) none = some (([[65],[67]].take k8.toNat).map V.str):=by
  rw [k7s k08,w1N]; rfl
 rw [pk,k0g]
 simp only [k0E,k0C,k0O,k3O,k2F]
 have K78:k0M [1] hh (h8 ++ [O.list (([[65],[67]].take k8.toNat).map V.str)]):=(K7.trans K8).trans (k0M.alloc _ _ _)
 have C9:=C8.alloc (O.list (([[65],[67]].take k8.toNat).map V.str))
 have KA:k0M [1] H0 (h8 ++ [O.list (([[65],[67]].take k8.toNat).map V.str)])∨True:=.inr trivial
 have f:∀ {l:Nat} {o:O},hh[l]? = some o→l≠1→(h8 ++ [O.list (([[65],[67]].take k8.toNat).map V.str)])[l]? = some o:=fun q w=>K78.get q (by simp; exact w)
 have t9:=f gt6 (by lia)
 have c9:=f gcs6 (by lia)
 have g9:=f ggs6 (by lia)
 have k9:=k0X h8 (O.list (([[65],[67]].take k8.toNat).map V.str))
 have hcs9:∀ p,p∈cs→(h8 ++ [O.list (([[65],[67]].take k8.toNat).map V.str)])[p.loc]? = some (.list (p.names.map .str)):=fun p hp=>f (hcs6 p hp) (C6.list (hcs6 p hp))
 have hgs9:∀ g,g∈gs→(h8 ++ [O.list (([[65],[67]].take k8.toNat).map V.str)])[g.loc]? = some (.list (g.items.map k1a)):=fun g hg=>f (hgs6 g hg).2.2.1 (C6.list (hgs6 g hg).2.2.1)
 have his9:∀ g,g∈gs→∀ i,i∈g.items→(h8 ++ [O.list (([[65],[67]].take k8.toNat).map V.str)])[i.loc]? = some (.list (i.subs.map .int)):=fun g hg i hi=>f ((hgs6 g hg).2.2.2.2 i hi).1 (C6.list ((hgs6 g hg).2.2.2.2 i hi).1)
 have KH:k0M [1] h (h8 ++ [O.list (([[65],[67]].take k8.toNat).map V.str)]):=by
  refine ((((((K0.trans' K1 (fun i hi=>?_)).trans K2).trans' K4 (fun i hi=>?_)).trans K5).trans' K6 (fun i hi=>?_)).trans K78)
  ·simp at hi
   refine Or.elim hi (fun yY=>?_) fun yZ=>?_ <;> clear hi; rotate_left; subst yZ; rotate_right; subst yY
   ·exact .inl (by simp)
   ·exact .inr (by lia)
  ·simp at hi
   refine Or.elim hi (fun yY=>?_) fun yZ=>?_ <;> clear hi; rotate_left; subst yZ; rotate_right; subst yY
   ·exact .inl (by simp)
   ·exact .inr (by lia)
  ·simp at hi
   refine Or.elim hi (fun yY=>?_) fun yZ=>?_ <;> clear hi; rotate_left; subst yZ; rotate_right; subst yY
   ·exact .inl (by simp)
   ·exact .inr (by lia)
 refine h1 _ ⟨names,th,cs,gs,[[65],[67]].take k8.toNat⟩ _ _ _ _ KH C9 ⟨k0t t9,t9,k0t c9,c9,fun p hp=>⟨k0t (hcs9 p hp),hcs9 p hp⟩,k0t g9,g9,fun g hg=>⟨k0t (hgs9 g hg),hgs9 g hg⟩,fun g hg i hi=>⟨k0t (his9 g hg i hi),his9 g hg i hi⟩,k0t k9,k9⟩
  ⟨fun n=>Iff.rfl,(by decide:names.Nodup),rfl,thok,fun p hp=>(hcs3 p hp).1,fun p hp=>(hcs3 p hp).2.1,by show cs.length≤2; lia,fun p hp=>(hcs3 p hp).2.2.1,by show gs.length≤2; lia,fun g hg=>(hgs6 g hg).1,fun g hg=>(hgs6 g hg).2.1,?_⟩ (by lia)
 show (List.take k8.toNat [[65],[67]]).length≤3
 rw [w0X]
 simp only [w0s,w0q]
 lia
end T
namespace T
theorem k2b.keep1 {h h':Hp} {b t c g k:Nat} {u:Un} (x:k2b h b t c g k u) (C:k3l h) (t1:t≠1) (K:k0M [1] h h'):k2b h' b t c g k u where
 tb:=x.tb
 ht:=K.get x.ht (by simp; exact t1)
 cb:=x.cb
 hc:=K.get x.hc (by simp; exact C.list x.hc)
 hcs:=fun p hp=>⟨(x.hcs p hp).1,K.get (x.hcs p hp).2 (by simp; exact C.list (x.hcs p hp).2)⟩
 gb:=x.gb
 hg:=K.get x.hg (by simp; exact C.list x.hg)
 hgs:=fun p hp=>⟨(x.hgs p hp).1,K.get (x.hgs p hp).2 (by simp; exact C.list (x.hgs p hp).2)⟩
 his:=fun p hp i hi=>⟨(x.his p hp i hi).1,K.get (x.his p hp i hi).2 (by simp; exact C.list (x.his p hp i hi).2)⟩
 kb:=x.kb
 hk:=K.get x.hk (by simp; exact C.list x.hk)
theorem k9v.keep {h h':Hp} {m:Nat} {js:List Jn} {N C:Int} {P:Pl} {B:Bk} {cl:List (Nm × Nat)} {G:Gs} (x:k9v h m js N C P B cl G) (K:k0M [] h h'):k9v h' m js N C P B cl G where
 made:=by
  refine cX4 x.made fun d p bk c M=>?_
  exact ⟨d,p,bk,c,M.keep K (fun i Y=>by simp)⟩
 eN:=x.eN
 eC:=x.eC
 ap:=x.ap
 bnd:=x.bnd
 bkeys:=x.bkeys
 bget:=x.bget
 bcov:=x.bcov
 pl:=fun j hj=>⟨(x.pl j hj).1,by
  refine cX2 ((x.pl j hj).2) fun lc cr yA=>cA3 yA fun q1 q2 q3=>?_; clear yA
  exact ⟨lc,cr,q1,K.get q2 (by simp),q3⟩⟩
theorem k7W (D:List (Nm × Int)):k2O (k1F V.int D) = some D:=by
 induction D with
 | nil=>rfl
 | cons e D ih =>
  obtain ⟨a,b⟩:=e
  have:k1F V.int ((a,b) :: D) = (a,V.int b) :: k1F V.int D:=rfl
  rw [this,k2O,ih]; rfl
theorem k7X (T:List (Key × Int)):k2O (k6B T) = some T:=by
 induction T with
 | nil=>rfl
 | cons e T ih =>
  obtain ⟨a,b⟩:=e
  have:k6B ((a,b) :: T) = (a,V.int b) :: k6B T:=rfl
  rw [this,k2O,ih]; rfl
theorem lEq_D {p p':Nat} {h:Hp} {D D':List (Nm × Int)} (e:h[p]? = some (.dict (k1F .int D))) (e':h[p']? = some (.dict (k1F .int D'))) (n:p≠p'):lEq h p (.loc p') = some (k2g D D'):=by
 unfold lEq
 dsimp only
 rw [if_neg n,e,e']
 show ((k2O _).bind fun m=>(k2O _).map fun m'=>k2g m m') = _
 rw [k7W,k7W]
 rfl
theorem lEq_T {p p':Nat} {h:Hp} {D D':List (Key × Int)} (e:h[p]? = some (.tdict (k6B D))) (e':h[p']? = some (.tdict (k6B D'))) (n:p≠p'):lEq h p (.loc p') = some (k2g D D'):=by
 unfold lEq
 dsimp only
 rw [if_neg n,e,e']
 show ((k2O _).bind fun m=>(k2O _).map fun m'=>k2g m m') = _
 rw [k7X,k7X]
 rfl
theorem q_told {a b a' b':Int} {p q r p' q' r':Nat} {h:Hp} {D D':List (Nm × Int)} {T L T' L':List (Key × Int)} (e1:h[p]? = some (.dict (k1F .int D))) (e2:h[q]? = some (.tdict (k6B T))) (e3:h[r]? = some (.tdict (k6B L)))
  (e1':h[p']? = some (.dict (k1F .int D'))) (e2':h[q']? = some (.tdict (k6B T'))) (e3':h[r']? = some (.tdict (k6B L'))) (n1:p≠p') (n2:q≠q') (n3:r≠r') (Q:Po V) :
  wp (xTold (.tup [.int a,.int b,.loc p,.loc q,.loc r]) (.tup [.int a',.int b',.loc p',.loc q',.loc r'])) Q h = Q (.ok (.bool (a == a' && (b == b' && (k2g D D' && (k2g T T' && k2g L L')))))) h:=by
 have g:vsEq h [.int a,.int b,.loc p,.loc q,.loc r] [.int a',.int b',.loc p',.loc q',.loc r'] = some (a == a' && (b == b' && (k2g D D' && (k2g T T' && (k2g L L' && true))))):=by
  simp only [vsEq,vEq,iEq,lEq_D e1 e1' n1,lEq_T e2 e2' n2,lEq_T e3 e3' n3,w0S,w0x,List.isEmpty_nil,if_true]
 show oK (vsEq h _ _) _ = _
 rw [g,Bool.and_true]
 rfl
theorem two_len:∀ (l:List Nm),l.Nodup→(∀ b,b∈l→b = [88]∨b = [])→l.length≤2
 | [],_,_=>by simp
 | [_],_,_=>by simp
 | [_,_],_,_=>by simp
 | x :: y :: z :: l,nd,h=>by
  exfalso
  simp only [w0J,w0c,not_or] at nd
  refine cA3 nd fun yA yB _=>cA3 yA fun n1 n2 _=>cA2 yB fun n3 _=>?_; clear nd yA yB
  (refine Or.elim (h x (by simp)) (fun yY=>?_) fun yZ=>?_; rotate_left; subst yZ; rotate_right; subst yY) <;> (refine Or.elim (h y (by simp)) (fun yY=>?_) fun yZ=>?_; rotate_left; subst yZ; rotate_right; subst yY) <;> (refine Or.elim (h z (by simp)) (fun yY=>?_) fun yZ=>?_; rotate_left; subst yZ; rotate_right; subst yY) <;> simp_all
theorem w_told {h:Hp} {m:Nat} {js:List Jn} {N C:Int} {P:Pl} {B:Bk} {cl:List (Nm × Nat)} {G:Gs} (X:k9v h m js N C P B cl G) (jl:js.length≤2) (jok:∀ j,j∈js→j.Ok) (nmok:∀ j,j∈js→j.x.nm = [85]∨j.x.nm = [86])
  (nmd:(js.map fun j=>j.x.nm).Nodup) {rl:Nat} (hrl:h[rl]? = some (.list (js.map fun j=>z0v j.x))) {Q:Po V}
  (h1:∀ h' a b e D T L,k0M [] h h'→h.length≤a→h.length≤b→h.length≤e→h'[a]? = some (.dict (k1F .int D))→h'[b]? = some (.tdict (k6B T))→h'[e]? = some (.tdict (k6B L))→Told (ncs js) N C D T L →
   Q (.ok (.tup [.int N,.int C,.loc a,.loc b,.loc e])) h'):wp (k3S [.loc m,.loc rl]) Q h:=by
 refine cX4 X.made fun d p bk c M=>?_
 have hBl:B.length≤2:=by
  have:=two_len _ X.bnd X.bkeys
  simpa using this
 refine z4K M jl jok nmok nmd (fun j hj n hn=>⟨_,k5k X jok hj hn⟩) (fun j hj=>(X.pl j hj).2) X.bnd X.bkeys hBl hrl fun h' a b e K Y Y Y la lb le ga gb ge=>?_
 exact h1 h' a b e _ _ _ K la lb le ga gb ge (told_of X jok nmok nmd)
end T
namespace T
theorem law_true (a:Nat) (ns:List Int) (hns:ns.length≤63):wp (f_law a (ns.map .int) [.ext a]) (fun r Y=>r = .ok (.bool true)) []:=by
 unfold f_law c_law
 rw [k1z]
 refine ⟨rfl,?_⟩
 have ex:exL a (ns.map V.int) a = some (ns.map V.int):=by unfold exL; rw [if_pos rfl]
 have s1:∀ (Q:Po V) (h:Hp),wp (k4n (exL a (ns.map V.int)) (.ext a) none (some 60) none) Q h = Q (.ok (.loc h.length)) (h ++ [O.list ((ns.take 60).map V.int)]):=fun Q h=>by
  have hl:(ns.map V.int).length≤4096:=by simp; lia
  have pk:k5w (ns.map V.int) none (some 60) none = some ((ns.take 60).map V.int):=by
   rw [k7s (by decide),w1N]; rfl
  show oK (exL a (ns.map V.int) a) (fun xs=>xs.length≤4096∧oK (k5w xs none (some 60) none) fun ys=>Q (.ok (.loc h.length)) (h ++ [O.list ys])) = _
  rw [ex]
  show (_∧oK (k5w (ns.map V.int) none (some 60) none) _) = _
  rw [pk]
  exact propext ⟨fun x=>x.2,fun x=>⟨hl,x⟩⟩
 simp only [w0f,w0n,List.replicate,w0o,w0r,k0L,k0y,q_dict2,k4t,k0s,rg0,rgS,w0a,k0g,k0u,k0r,k9f,k6W,k4k,k0P,s1,k3H,w0q,w0B,w0t,w0y,k1q,k0x,w0e,w0d,k1r,k0o,k2W,k2d,k2h,k0z,q_cS,k0E,k0C,k0O,k1i,k0K,k0D,k0W]
 have C0:k3l [O.list ((ns.take 60).map V.int),O.dict [([114,111,119],V.loc 0),([97,116],V.int 0)]]:=⟨0,ns.take 60,rfl,rfl,Int.le_refl 0,by rw [w0X]; lia⟩
 generalize [O.list ((ns.take 60).map V.int),O.dict [([114,111,119],V.loc 0),([97,116],V.int 0)]] = H0 at *
 refine k3t C0 (by lia) fun k h1 k0 k1 K1 C1=>?_
 have s2:∀ (Q:Po V) (h:Hp),wp (k4n (exL a (ns.map V.int)) (.tup [.str [85],.str [86]]) none (some (1 + k)) none) Q h = Q (.ok (.tup (([[85],[86]].take (1 + k).toNat).map V.str))) h:=fun Q h=>by
  rw [w1N]
  exact propext ⟨fun x=>x.2,fun x=>⟨⟨rfl,rfl,by lia,by simp; lia,by simp⟩,x⟩⟩
 simp only [k0u,k4o,k0P,k0r,k9f,s2,z5J,k4j,w0f,w0n,List.replicate,w0o,w0r,rg0,rgS,w0a]
 obtain ⟨nl,hnl⟩:∃ nl,([[85],[86]]:List Nm).take (1 + k).toNat = nl:=⟨_,rfl⟩
 simp only [hnl]
 have nll:nl.length≤2:=by rw [← hnl,w0X]; simp; lia
 have nlok:∀ n,n∈nl→n = [85]∨n = [86]:=fun n hn=>by
  rw [← hnl] at hn
  have:=List.mem_of_mem_take hn
  simpa using this
 have nlnd:nl.Nodup:=by
  rw [← hnl]
  exact List.Sublist.nodup (w1P _ _) (by decide)
 let I:=fun (pre:List Nm) (reg:Reg) (o:O) (h':Hp)=>(∃ g0,reg = [g0,some (.loc 1)])∧k3l h'∧∃ rws:List Rw,rws.map (fun r=>r.nm) = pre∧o = .list (rws.map k4i)∧∀ r,r∈rws→RwAt h' h'.length r∧r.u.Ok∧r.t≠1
 refine z6e nl V.str I (by lia) (fun pre suf reg o h' e hI=>it_tup _ _ _) ⟨⟨_,rfl⟩,C1,[],rfl,rfl,fun r hr=>by simp at hr⟩ (fun pre x suf reg o h' e hI=>?_) (fun reg o h' hI=>?_)
 ·refine cA3 hI fun yA C' yB=>cX1 yA fun g0 yC=>?_; clear hI yA; subst yC; refine cX1 yB fun rws yD=>cA3 yD fun er yE=>?_; clear yB yD; subst yE; intro hr
  unfold k9i
  simp only [k0r,k0x,w0d,k0u,q_tT,k2w,if_true,k2H,k2h,k0z,k0s,rg0,rgS,w0a,k0g,k0E,k0K,k0D,k0C,k0O,k0W]
  refine z6j C' fun h2 u t c g k K2 C2 U ok t1=>?_
  simp only [k0E,k0C,k0O,k0u,k0P,k4P]
  refine ⟨⟨_,rfl⟩,C2,rws ++ [⟨x,u,t,c,g,k⟩],by rw [w0j,er]; rfl,by rw [w0j]; rfl,fun r hrm=>?_⟩
  refine Or.elim (w0g.mp hrm) (fun hrm=>?_) fun hrm=>?_
  ·refine cA3 (hr r hrm) fun q1 q2 q3=>?_
   exact ⟨k2b.up (k2b.keep1 q1 C' q3 K2) K2.len,q2,q3⟩
  ·rw [w0h] at hrm; subst hrm
   exact ⟨U,ok,t1⟩
 refine cA3 hI fun _ C2 yA=>cX1 yA fun rws yB=>cA3 yB fun er yC=>?_; clear hI yA yB; subst yC; intro hr
 have gr3:=k0X h' (O.list (rws.map k4i))
 have C3:=C2.alloc (O.list (rws.map k4i))
 have K3:=k0M.alloc [] h' (O.list (rws.map k4i))
 have L3:(h' ++ [O.list (rws.map k4i)]).length = h'.length + 1:=by simp
 have rl2:rws.length≤2:=by
  have:rws.length = nl.length:=by rw [← er]; simp
  lia
 have hr3:∀ r,r∈rws→RwAt (h' ++ [O.list (rws.map k4i)]) h'.length r∧r.u.Ok∧r.t≠1:=fun r hrm=>⟨k2b.keep (hr r hrm).1 K3 (by simp [k3d]),(hr r hrm).2⟩
 generalize hrl:h'.length = rl at *
 generalize h' ++ [O.list (rws.map k4i)] = h3 at *
 simp only [k1q,k0x,w0e,w0d,k1r,k0o,k0L,k0y,k0K,k0D,k0z,k0s,rg0,rgS,w0a,k0g,k0E,k4k,k0C,k0O,k0W]
 refine k3t C3 (by lia) fun y h4 y0 y1 K4 C4=>?_
 simp only [k1q,k0x,w0e,w0d,k1r,k0o,k0L,k0y,z0X,k2a,k0K,k0D,k0z,k0s,rg0,rgS,w0a,k0g,k0E,k4k,k0C,k0O,k0W]
 refine k3t C4 (by lia) fun z h5 z0 z1 K5 C5=>?_
 have gr5:=K5.get (K4.get gr3 (by simp; exact C3.list gr3)) (by simp; exact C3.list gr3)
 have hr5:∀ r,r∈rws→RwAt h5 rl r∧r.u.Ok:=fun r hrm=>⟨k2b.keep1 (k2b.keep1 (hr3 r hrm).1 C3 (hr3 r hrm).2.2 K4) C4 (hr3 r hrm).2.2 K5,(hr3 r hrm).2.1⟩
 have L5:rl + 1≤h5.length:=by have:=K4.len; have:=K5.len; lia
 obtain ⟨room,hroom,eroom⟩:∃ room:Int,0≤room∧∀ (Q:Po V) (h:Hp),wp (if (z == 3) = true then cI 12 [some (.ext a),some (.loc 1),some (.loc rl),some (.int y),none,none,none,none] else cI 200 [some (.ext a),some (.loc 1),some (.loc rl),some (.int y),none,none,none,none]) Q h = Q (.ok (.int room)) h:=by
  by_cases e:(z == 3) = true
  ·exact ⟨12,by decide,fun Q h=>by rw [if_pos e]; rfl⟩
  ·exact ⟨200,by decide,fun Q h=>by rw [if_neg e]; rfl⟩
 simp only [k0u,k0r,k4k,k9P,k1x]
 rw [eroom]
 have hrll:(rws.map k4i).length≤4096:=by simp; lia
 simp only [k1q,k0x,w0e,w0d,k1r,k0o,k0L,k0y,k2W,k2d,k4t,k0s,rg0,rgS,w0a,k0g,k0u,k0r,k9f,k6W,k4k,k0P,k5s,gr5]
 refine ⟨_,rfl,hrll,?_⟩
 have pk:∀ {α:Type} (l:List α),k5w l none none (some (-1)) = some l.reverse:=fun l=>rfl
 rw [pk,k0g,← w1a]
 have gv6:=k0X h5 (O.list (rws.reverse.map k4i))
 have K6:=k0M.alloc [] h5 (O.list (rws.reverse.map k4i))
 have gr6:=k0w gr5 (O.list (rws.reverse.map k4i))
 have hr6:∀ r,r∈rws→RwAt (h5 ++ [O.list (rws.reverse.map k4i)]) rl r∧r.u.Ok:=fun r hrm=>⟨k2b.keep (hr5 r hrm).1 K6 (by simp [k3d]),(hr5 r hrm).2⟩
 have L6:(h5 ++ [O.list (rws.reverse.map k4i)]).length = h5.length + 1:=by simp
 generalize h5 ++ [O.list (rws.reverse.map k4i)] = h6 at *
 rw [k1S,gv6,k0g]
 simp only [k0u,k4j,w0f,w0n,List.replicate,w0o,w0r,rg0,rgS,w0a]
 let I2:=fun (pre:List Rw) (reg:Reg) (o:O) (h':Hp)=>(∃ g0 g1,reg = [g0,g1,some (.int y)])∧k0M [] h6 h'∧∃ rws':List Rw,rws'.map (fun r=>(r.nm,r.u.core)) = pre.map (fun r=>(r.nm,r.u.core))∧o = .list (rws'.map k4i)∧∀ r,r∈rws'→RwAt h' h'.length r∧r.u.Ok
 refine z0p rws.reverse k4i I2 (by simp; lia) (fun pre suf reg o h' e hI=>k3p (hI.2.1.get gv6 (by simp)) _) ⟨(iX2 rfl),k0M.refl _ _,[],rfl,rfl,fun r hr=>by simp at hr⟩ (fun pre x suf reg o h' e hI=>?_) (fun reg o h7 hI=>?_)
 ·refine cA3 hI fun yA K yB=>cX2 yA fun g0 g1 yC=>?_; clear hI yA; subst yC; refine cX1 yB fun rws' yD=>cA3 yD fun er' yE=>?_; clear yB yD; subst yE; intro hr'
  have hx:x∈rws:=by
   have:x∈rws.reverse:=by rw [e]; simp
   exact w0G.mp this
  refine cA2 (hr6 x hx) fun q1 q2=>?_
  have LK:=K.len
  unfold k9i k4i
  simp only [k0r,k1I,w0s,w0q,w0y,true_and,k1w,k0x,k2j,k1H,w0e,w0d,k0u,q_tT,k2w,if_true,k2H,k2h,k0z,k0s,rg0,rgS,w0a,k0g,k0E,k0K,k0D,k0C,k0O,k0W]
  refine z2t q2 (k2b.keep q1 K (by simp [k3d])) (by lia) y fun h2 u' t' c' g' k' K2 U' ok' T'=>?_
  simp only [k0E,k0C,k0O,k0u,k0P,k4P]
  refine ⟨(iX2 rfl),K.trans K2,rws' ++ [⟨x.nm,u',t',c',g',k'⟩],?_,by rw [w0j]; rfl,fun r hrm=>?_⟩
  ·rw [w0j,w0j,er',w0f,w0n,w0f,w0n,z3m q2 T']
  ·refine Or.elim (w0g.mp hrm) (fun hrm=>?_) fun hrm=>?_
   ·exact ⟨k2b.up (k2b.keep (hr' r hrm).1 K2 (by simp [k3d])) K2.len,(hr' r hrm).2⟩
   ·rw [w0h] at hrm; subst hrm
    exact ⟨U',ok'⟩
 refine cA3 hI fun _ K7 yA=>cX1 yA fun rws' yB=>cA3 yB fun er' yC=>?_; clear hI yA yB; subst yC; intro hr'
 have go8:=k0X h7 (O.list (rws'.map k4i))
 have K8:=k0M.alloc [] h7 (O.list (rws'.map k4i))
 have gr8:=K8.get (K7.get gr6 (by simp)) (by simp)
 have hr8:∀ r,r∈rws→RwAt (h7 ++ [O.list (rws'.map k4i)]) rl r:=fun r hrm=>k2b.keep (k2b.keep (hr6 r hrm).1 K7 (by simp [k3d])) K8 (by simp [k3d])
 have hr8':∀ r,r∈rws'→RwAt (h7 ++ [O.list (rws'.map k4i)]) h7.length r:=fun r hrm=>k2b.keep (hr' r hrm).1 K8 (by simp [k3d])
 have L7:=K7.len
 have L8:(h7 ++ [O.list (rws'.map k4i)]).length = h7.length + 1:=by simp
 generalize hol:h7.length = ol at *
 generalize h7 ++ [O.list (rws'.map k4i)] = h8 at *
 have nmd:(rws.map fun r=>r.nm).Nodup:=by rw [er]; exact nlnd
 have enm':rws'.map (fun r=>r.nm) = (rws.map fun r=>r.nm).reverse:=by
  have:rws'.map (fun r=>r.nm) = (rws'.map fun r=>(r.nm,r.u.core)).map (·.1):=by rw [w0k]; rfl
  rw [this,er',w0k,← w1a]; rfl
 have ecr':rws'.map (fun r=>r.u.core) = (rws.map fun r=>r.u.core).reverse:=by
  have:rws'.map (fun r=>r.u.core) = (rws'.map fun r=>(r.nm,r.u.core)).map (·.2):=by rw [w0k]; rfl
  rw [this,er',w0k,← w1a]; rfl
 have nmd':(rws'.map fun r=>r.nm).Nodup:=by rw [enm']; exact (List.reverse_perm _).nodup_iff.mpr nmd
 have rl2':rws'.length≤2:=by
  have:(rws'.map fun r=>r.nm).length = ((rws.map fun r=>r.nm).reverse).length:=by rw [enm']
  simp at this; lia
 have nmok:∀ r,r∈rws→r.nm = [85]∨r.nm = [86]:=fun r hrm=>nlok _ (by rw [← er]; exact w0b.mpr ⟨r,hrm,rfl⟩)
 have nmok':∀ r,r∈rws'→r.nm = [85]∨r.nm = [86]:=fun r hrm=>by
  have:r.nm∈(rws.map fun r=>r.nm).reverse:=by rw [← enm']; exact w0b.mpr ⟨r,hrm,rfl⟩
  rw [w0G] at this
  refine cX1 (w0b.mp this) fun r' yA=>cA2 yA fun h1 h2=>?_; clear yA
  rw [← h2]; exact nmok r' h1
 have okr:∀ r,r∈rws→r.u.Ok:=fun r hrm=>(hr6 r hrm).2
 have okr':∀ r,r∈rws'→r.u.Ok:=fun r hrm=>(hr' r hrm).2
 have fitE:Fits (rws'.map fun r=>r.u.core) room↔Fits (rws.map fun r=>r.u.core) room:=by rw [ecr']; exact Fits_rev _ _
 have coresE:∀ (js:List Jn) (rr:List Rw),js.map (fun j=>j.x.rw) = rr→k3Y js = rr.map fun r=>r.u.core:=fun js rr e=>by rw [← e,w0k]; rfl
 simp only [k1q,k0x,w0e,w0d,k1r,k0o,k0L,z3I,k2h,k0z,k0K,k0D,k0s,rg0,rgS,w0a,k0g,k0E,k0C,k0O,k0W]
 refine k7A (b:=rl) rl2 okr hr8 (by lia) nmd gr8 hroom (fun h9 m js N C P B cl G K9 ejs jok F X=>?_) (fun h9 K9 hno=>?_)
 ·
  rw [coresE js rws ejs] at F
  simp only [k0E,k0z,k0K,k0D,k0s,rg0,rgS,w0a,k0g,k0C,k0O,k0W]
  refine k7A (b:=ol) rl2' okr' (fun r hrm=>k2b.keep (hr8' r hrm) K9 (by simp [k3d])) (by have:=K9.len; lia) nmd' (K9.get go8 (by simp)) hroom (fun h10 m' js' N' C' P' B' cl' G' K10 ejs' jok' F' X'=>?_) (fun h10 K10 hno=>?_)
  ·simp only [k0E,k0C,k0O,z1V,w0e,w0d,k0o,k0L,z0W,q_tOr,k2a,k0s,rg0,rgS,w0a,k0g,k0u,k0r,z5G,q_isLN,k1x,k2w,w0p,if_false,q_tF,k1Q,k6v,k1i,k0K,k0D,k0z,k0E,k0C,k0O,k0W]
   have K810:=K9.trans K10
   have hjr:h10[rl]? = some (.list (js.map fun j=>z0v j.x)):=by
    have:=K810.get gr8 (by simp)
    rw [← ejs,w0k] at this
    exact this
   have jnm:(js.map fun j=>j.x.nm) = rws.map fun r=>r.nm:=by rw [← ejs,w0k]; rfl
   have jnm':(js'.map fun j=>j.x.nm) = rws'.map fun r=>r.nm:=by rw [← ejs',w0k]; rfl
   have jl1:js.length = rws.length:=by rw [← ejs]; simp
   refine w_told (X.keep K10) (by lia) jok (fun j hj=>nmok j.x.rw (by rw [← ejs]; exact w0b.mpr ⟨j,hj,rfl⟩)) (by rw [jnm]; exact nmd) hjr fun h11 a1 b1 e1 D T L K11 la lb le ga gb ge TT=>?_
   simp only [k0u,k0r,k0K,k0D,k0z,k0s,rg0,rgS,w0a,k0g,k0E,k0C,k0O,k0W]
   have hjr':h11[ol]? = some (.list (js'.map fun j=>z0v j.x)):=by
    have:=K11.get (K810.get go8 (by simp)) (by simp)
    rw [← ejs',w0k] at this
    exact this
   have jl2:js'.length = rws'.length:=by rw [← ejs']; simp
   refine w_told (X'.keep K11) (by lia) jok' (fun j hj=>nmok' j.x.rw (by rw [← ejs']; exact w0b.mpr ⟨j,hj,rfl⟩)) (by rw [jnm']; exact nmd') hjr' fun h12 a2 b2 e2 D' T' L' K12 la' lb' le' ga' gb' ge' TT'=>?_
   have l1:=k0t ga
   have l2:=k0t gb
   have l3:=k0t ge
   rw [k0u,q_told (K12.get ga (by simp)) (K12.get gb (by simp)) (K12.get ge (by simp)) ga' gb' ge' (by lia) (by lia) (by lia)]
   simp only [k0O,k3O,k2F]
   have encs:ncs js' = (ncs js).reverse:=by
    have h1:ncs js = rws.map fun r=>(r.nm,r.u.core):=by rw [← ejs,w0k]; rfl
    have h2:ncs js' = rws'.map fun r=>(r.nm,r.u.core):=by rw [← ejs',w0k]; rfl
    rw [h1,h2,er',w1a]
   rw [encs] at TT'
   rw [told_eq TT TT']
  ·exact absurd (fitE.mpr F) hno
 ·simp only [k0E,k0z,k0K,k0D,k0s,rg0,rgS,w0a,k0g,k0C,k0O,k0W]
  refine k7A (b:=ol) rl2' okr' (fun r hrm=>k2b.keep (hr8' r hrm) K9 (by simp [k3d])) (by have:=K9.len; lia) nmd' (K9.get go8 (by simp)) hroom (fun h10 m' js' N' C' P' B' cl' G' K10 ejs' jok' F' X'=>?_) (fun h10 K10 hno'=>?_)
  ·rw [coresE js' rws' ejs'] at F'
   exact absurd (fitE.mp F') hno
  ·simp only [k0E,k0C,k0O,z1V,w0e,w0d,k0o,k0L,z0W,q_tOr,k2a,k0s,rg0,rgS,w0a,k0g,k0u,k0r,z5G,q_isNN,k1x,k2w,if_true,k0P,k6v,q_cAnd2,k1i,k0O,k3O,k2F]
end T
end Mine
end
section
open PySem PySem.W PyProof.Rows PySem.Calls
namespace Mine
noncomputable def Pure:Prop:=∀ (a:Nat) (ns:List Int),ns.length≤63→wp (f_law a (ns.map .int) [.ext a]) (fun r Y=>r = .ok (.bool true)) []
theorem run_law (hp:Mine.Pure) {w:World} {s₁:Shared} {mg mb:Str→Option Value} {L:Addr} {vs:List Value} {ns:List Int} (hK:(Mine.K w.params).In s₁.heap) (hg:s₁.heap.Ns mainGlobals mg) (hb:s₁.heap.Ns builtinsNs mb) (hl:s₁.heap.NoLimit) (hbt:∀ x:Str,x≠"__name__"→mb x = bootBuiltins x)
  (hgens:s₁.gens = #[]) (hL:s₁.heap.IsList L vs.toArray) (hI:IntsAre vs ns) (hn:ns.length≤63) {R:Result→Shared→Prop}
  (hR:∀ s',(∀ b o,s₁.heap.get? b = some o→s'.heap.get? b = some o)→s'.os = s₁.os→s'.gens = #[]→R (.ok (.ret (.bool true))) s') :
  codeAny (model PySem.Challenge.rw_sa0212_01.row.prog w) callerA (.call (.ref 292) ⟨[.ref L],[]⟩) R s₁:=by
 have cok:(mkC w s₁.heap mg mb s₁.drawn s₁.os).Ok:=⟨hK,hg,hb,hl,hbt⟩
 have vrs:∀ {vs:List Value} {ns:List Int},IntsAre vs ns→∀ ρ h,VRs ρ h (ns.map V.int) vs:=by
  intro vs ns hI
  induction hI with
  | nil=>intro ρ h; exact .nil
  | cons n t _ ih=>intro ρ h; exact .cons (.int _ _) (ih ρ h)
 have hex:ExtOk (mkC w s₁.heap mg mb s₁.drawn s₁.os) (exL L (ns.map .int)):=fun a xs h=>by
  unfold exL at h
  split at h
  ·rename_i e
   cases h
   subst e
   exact ⟨vs,hL,vrs hI⟩
  ·cases h
 have hinv:CInv (mkC w s₁.heap mg mb s₁.drawn s₁.os) [] [] [] s₁:=by
  refine ⟨?_,fun b o e=>e,⟨rfl,.nil,fun i a o e1 e2=>by simp at e1,fun a h=>by simp at h,fun a h=>by simp at h⟩,fun e h=>by simp at h⟩
  show s₁ = ⟨s₁.heap,#[],s₁.drawn,s₁.toks,s₁.os⟩
  rw [← hgens]
 have room:k8p 8 callerA []:=⟨rfl,rfl,by decide +kernel,by decide +kernel⟩
 refine codeAny_mono (ok_law cok hex callerA [] [] [] s₁ [.ext L] [.ref L] _ room hinv (.cons (.ext L) .nil) (hp L ns hn)) fun res s' h=>?_
 cases h with
 | err x ea ρ' H' p e=>cases p
 | ok V v ρ' H' p e hv ci st =>
 subst e
 cases p
 cases hv
 refine hR s' ci.base ?_ ?_
 ·rw [ci.sh]
 ·rw [ci.sh]
end Mine
end
section
open PySem PySem.W PyProof.Rows
theorem Mine.pure_holds:Mine.Pure:=fun a ns hns=>Mine.T.law_true a ns hns
theorem Mine.law_holds:PySem.Challenge.rw_sa0212_01.Holds:=by
 refine holds_law Mine.Hd.wsa fun said=>?_
 refine W.holds_open (q:=Mine.Hd.vw) (loose:=[]) (Xt:=Mine.Hd.Xt) (XP:=XL Mine.Hd.vw []) (Yf:=Mine.Hd.hk.obs) (Ya:=Mine.Hd.hk.val) (YP:=Mine.Hd.hk.says) (N:=4564) Mine.Hd.hl Mine.Hd.hk.of Mine.Hd.hk.keeps (fun s e=>xl_of s (Bool.and_eq_true_iff.mp e).1) XL.keeps Mine.Hd.dIs Mine.Hd.dDef Mine.Hd.dKw (fun s e=>recFacts_of (Bool.and_eq_true_iff.mp e).2) rfl said Mine.Hd.okV ⟨rfl,rfl,rfl,rfl,rfl,Mine.Hd.tabs⟩ ?hw ?hc
 case hw=>w_witness2
 intro w s₀ s₁ mg mb G YY fa o pm cd doc dV kV ho hd hcd hD hmg hg args vals as hpre hlay hrd hwl hlo
 have KX:=kIn_of YY
 have X:=(Ground.X G).1
 have V:=(Ground.X G).2
 have GL:=glob_more (Ground.glob G (by decide +kernel) (by decide +kernel)) V
 refine Ground.open G ?_
 intro T B D TE TW
 clear hd ho hcd hD
 wrow_args hpre hlay hrd hwl hlo
 all_goals (
  first | refine callC_kw (enter_call ?_) | refine enter_call ?_ | refine callC_kw (enter_callW ?_) | refine enter_callW ?_ | w_how
  w_top on
  try refine codeAny_mono ?_ (fun Y Y g=>GoodW.toG g)
  clear X V GL
  rename_i hcond _
  rename IntsAre _ _=>hI
  rename Heap.IsList _ _ _=>hL
  have e292:mg "law" = some (.ref 292):=W.mg_of KX T.g (by kernel_rfl)
  cases Mine.Hd.fa_of hmg e292
  refine Mine.run_law Mine.pure_holds KX T.g T.b T.nolimit T.builtins hg hL hI (by omega) (fun s' k1 k2 k3=>?_)
  exact ⟨.inl ⟨.bool true,.bool true,[],rfl,fun cls=>by rfl,ReadsW.bool true,postW_of (X:=true) (by rfl) (by show WTm.value _ (.eq .res (.lit (.bool true))) _ = _; simp [WTm.value,same_self]) rfl,fun Y=>⟨List.nodup_nil,by simp⟩⟩,k1,k2,k3⟩)
end
theorem PySem.Challenge.cw_sa0212_01_holds : PySem.Challenge.rw_sa0212_01.Holds :=
  Mine.law_holds
