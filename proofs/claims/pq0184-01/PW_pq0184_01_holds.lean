import PyProof.Rows.All
import Wide.All
import OpenK.AllK
import Wide.FinOn
import Lean
import PySem.Challenge.RW_pq0184_01
open PySem PySem.W PyProof.Rows PySem.Calls
set_option Elab.async false
set_option tactic.hygienic false
set_option maxRecDepth 100000
set_option linter.all false
set_option genSizeOfSpec false
set_option genInjectivity false
namespace Mine
abbrev Led := List (Addr × Obj)
abbrev Al := List (Str × Option Value)
abbrev VSP := Value → Shared → Prop
abbrev VAP := Value → Al → Led → Prop
abbrev VLP := Value → Led → Prop
abbrev ALP := Al → Led → Prop
abbrev SoV := Str → Option Value
abbrev NKs := List (Str × NameKind)
abbrev SAs := List (Str × Addr)
abbrev NNI := Nat → Nat → Int
theorem jR {α : Type} {a : α} {b : List α} (as : List α) (h : a ∈ b) : a ∈ as ++ b := List.mem_append_right as h
theorem jL {α : Type} {a : α} {as : List α} (b : List α) (h : a ∈ as) : a ∈ as ++ b := List.mem_append_left b h
theorem jC {α : Type} {a : α} {as : List α} (b : α) (h : a ∈ as) : a ∈ b :: as := List.mem_cons_of_mem b h
theorem jX {α : Type} {a b : α} {as : List α} (h : a ∈ b :: as) : a = b ∨ a ∈ as := List.mem_cons.mp h
theorem jA {α : Type} {a : α} {s t : List α} (h : a ∈ s ++ t) : a ∈ s ∨ a ∈ t := List.mem_append.mp h
theorem jO {α : Type} {a b : α} (h : a ∈ [b]) : a = b := List.mem_singleton.mp h
end Mine
namespace Mine
noncomputable abbrev PG : Program := Challenge.rw_pq0184_01.row.prog
noncomputable def nth : List Stmt → Nat → Stmt
 | s :: _, 0 => s
 | _ :: r, n + 1 => nth r n
 | [], _ => .Pass ⟨0, 0, 0, 0⟩
noncomputable def S (i : Nat) : Stmt := nth PG.main.body i
noncomputable def M (i j : Nat) : Stmt := match S i with
 | .ClassDef _ _ _ b .. => nth b j
 | s => s
noncomputable def fO (st : Stmt) (q : String) (cl : SAs) (df : Value) (md : String) (mt : Nat) (cd : Addr) (ct : Value) : Obj := match st with
 | .FunctionDef name args body _ _ _ scope _ _ _ => { cls := .type "function", data := .func { name := name, qualname := Str.ofString q, params := args, body := .stmts body, scope := scope, globals := 3, closure := cl, defaults := df, kwdefaults := .none, doc := .none, pyModule := .str (Str.ofString md) mt, code := .ref cd, closureTuple := ct } }
 | _ => default
noncomputable def cO (n q : String) (t : Nat) (ln na fl : Int) (b b1 : Addr) (r1 r2 : Value) (b4 : Addr) (x : Nat) : Obj :=
 { cls := .type "code", data := .fields #[.str (Str.ofString n) t, .str (Str.ofString q) (t + 1), .str (Str.ofString "/claim/cut.py") (t + 2), .int ln 0, .int na 0, .int 0 0, .int 0 0, .int fl 0, .ref b, .bool true, .int 181 0, .ref b1, .none, r1, r2, .ref b4, .int x 0, .int ln 0, .str (Str.ofString "/claim/cut.py") (x + 1)] }
noncomputable def tO (vs : List Value) : Obj := { cls := .type "tuple", data := .seq vs.toArray 0 }
noncomputable def dO (P : Params) (c : Value) (es : List (String × Nat × Value)) (n : Nat) : Obj := { cls := c, data := .dict (es.map fun e => ⟨PyData.keyHash P (Str.ofString e.1), .str (Str.ofString e.1) e.2.1, e.2.2⟩).toArray n }
noncomputable def K39 (P : Params) : Frag :=
 (nat_lit 2, dO P (.none) (("type.__subclasses__.Exception.0", 223, .int 34 0) :: ("type.__subclasses__.Exception.n", 224, .int 1 0) :: []) 2) ::
 (nat_lit 3, dO P (.type "dict") (("__name__", 165, .str "law_pq0184_01" 1042) :: ("__doc__", 166, .none) :: ("__package__", 167, .none) :: ("__loader__", 168, .builtin "__main__.__loader__#opaque") :: ("__spec__", 169, .none) :: ("__annotations__", 170, .ref 6) :: ("__builtins__", 171, .ref 4) :: ("__file__", 173, .str "/claim/cut.py" 172) :: ("__cached__", 174, .none) :: ("MOST_TEXT", 190, .int 255 189) :: ("MOST_EXPONENT", 192, .int 99 191) :: ("BasicError", 226, .ref 34) :: ("kind_of_name", 235, .ref 44) :: ("first_value", 242, .ref 51) :: ("figures_of", 251, .ref 58) :: ("rounded_by", 262, .ref 65) :: ("made", 274, .ref 72) :: ("whole_near", 284, .ref 79) :: ("fits", 292, .ref 86) :: ("whole_of", 301, .ref 93) :: ("decimal_of", 309, .ref 100) :: ("text_of", 316, .ref 107) :: ("checked_text", 323, .ref 114) :: ("suited", 333, .ref 121) :: ("ONE", 338, .ref 122) :: ("MOST_POWER", 340, .int 9999 339) :: ("d_negated", 347, .ref 129) :: ("alike", 356, .ref 136) :: ("d_add", 368, .ref 143) :: ("d_sub", 377, .ref 150) :: ("d_mul", 386, .ref 157) :: ("with_rest", 395, .ref 164) :: ("d_div", 409, .ref 171) :: ("d_power", 421, .ref 178) :: ("square_or_end", 429, .ref 185) :: ("is_whole", 438, .ref 192) :: ("settled", 447, .ref 199) :: ("whole_reckoned", 458, .ref 206) :: ("cut_quotient", 467, .ref 213) :: ("cut_rest", 475, .ref 220) :: ("exponent_of", 482, .ref 227) :: ("whole_power", 492, .ref 234) :: ("raised", 503, .ref 241) :: ("reckoned", 519, .ref 248) :: ("USUAL_HIGH", 523, .int 10 522) :: ("Grid", 558, .ref 265) :: ("count_of", 568, .ref 276) :: ("kind_in", 576, .ref 283) :: ("check_highs", 585, .ref 290) :: ("dim", 594, .ref 297) :: ("grid_of", 603, .ref 304) :: ("option_base", 611, .ref 311) :: ("place_of", 622, .ref 318) :: ("get_item", 632, .ref 325) :: ("redim", 641, .ref 332) :: ("rows_of", 647, .ref 337) :: ("put_rows", 661, .ref 344) :: ("SINGULAR", 665, .str "DZ" 664) :: ("UNLIKE", 667, .str "BS" 666) :: ("grid_shape", 674, .ref 351) :: ("constant_grid", 680, .ref 356) :: ("unit_grid", 686, .ref 361) :: ("cell_by_cell", 692, .ref 366) :: ("scaled_grid", 698, .ref 371) :: ("turned_grid", 704, .ref 376) :: ("grid_product", 710, .ref 381) :: ("row_by_column", 724, .ref 388) :: ("common_divisor", 732, .ref 395) :: ("fraction", 741, .ref 402) :: ("fraction_of", 750, .ref 409) :: ("fraction_times", 758, .ref 416) :: ("fraction_less", 766, .ref 423) :: ("fraction_by", 774, .ref 430) :: ("decimal_of_fraction", 787, .ref 437) :: ("pivot_row", 796, .ref 444) :: ("cleared_row", 802, .ref 449) :: ("solved_rows", 808, .ref 454) :: ("square_rows", 814, .ref 459) :: ("inverse_of", 820, .ref 464) :: ("DETERMINANT", 824, .str "DET" 823) :: ("Reckoner", 881, .ref 502) :: ("rows_named", 889, .ref 513) :: ("sizes_of", 895, .ref 518) :: ("led_to", 904, .ref 525) :: ("shaped", 915, .ref 532) :: ("put_result", 927, .ref 539) :: ("filled_rows", 940, .ref 546) :: ("reckoned_rows", 956, .ref 553) :: ("filled_by", 962, .ref 558) :: ("do_mat", 974, .ref 565) :: ("World", 1041, .ref 583) :: ("_law_tape", 1049, .ref 592) :: ("_law_next", 1058, .ref 599) :: ("_law_code", 1066, .ref 606) :: ("_law_kept", 1072, .ref 611) :: ("_law_grid", 1078, .ref 616) :: ("_law_product", 1084, .ref 621) :: ("_law_is", 1090, .ref 626) :: ("_law_set", 1099, .ref 633) :: ("law", 1105, .ref 638) :: []) 100) ::
 (nat_lit 15, tO [.type "Exception"]) ::
 (nat_lit 18, { cls := .type "cell", data := .cell (some (.ref 34)) }) ::
 (nat_lit 23, tO [.str "" 205]) ::
 (nat_lit 24, tO [.ref 18]) ::
 (nat_lit 30, cO "__init__" "BasicError.__init__" 206 6 3 3 25 26 (.ref 27) (.ref 28) 29 213) ::
 (nat_lit 31, fO (M 3 0) "BasicError.__init__" [(Str.ofString "__class__", 18)] (.ref 23) "basicplus.values" 187 30 (.ref 24)) ::
 (nat_lit 33, dO P (.type "dict") (("__module__", 200, .str "basicplus.values" 187) :: ("__firstlineno__", 204, .int 4 203) :: ("__init__", 215, .ref 31) :: ("__static_attributes__", 218, .ref 32) :: ("__weakref__", 221, .ref 35) :: ("__doc__", 222, .none) :: []) 4) ::
 (nat_lit 34, { cls := .type "type", data := .cls { name := "BasicError", bases := [.type "Exception"], mro := [.ref 34, .type "Exception", .type "BaseException", .type "object"], ns := 33, qualname := "BasicError" }, slots := #[some (.ref 15), none, some (.str "BasicError" 193), some (.str "BasicError" 201), some (.builtin "Exception.__new__"), some (.bool true)] }) ::
 (nat_lit 35, { cls := .type "getset_descriptor", data := .fields #[.str "__weakref__" 220, .ref 34, .builtin "ExceptionGroup.__weakref__", .none] }) ::
 (nat_lit 43, cO "kind_of_name" "kind_of_name" 227 10 2 3 38 39 (.ref 40) (.ref 41) 42 233) ::
 (nat_lit 44, fO (S 4) "kind_of_name" [] (.none) "basicplus.values" 187 43 (.none)) ::
 (nat_lit 50, cO "first_value" "first_value" 236 17 1 3 45 46 (.ref 47) (.ref 48) 49 240) ::
 (nat_lit 51, fO (S 5) "first_value" [] (.none) "basicplus.values" 187 50 (.none)) ::
 (nat_lit 57, cO "figures_of" "figures_of" 243 21 1 3 52 53 (.ref 54) (.ref 55) 56 249) ::
 (nat_lit 58, fO (S 6) "figures_of" [] (.none) "basicplus.values" 187 57 (.none)) ::
 (nat_lit 64, cO "rounded_by" "rounded_by" 252 27 2 3 59 60 (.ref 61) (.ref 62) 63 260) ::
 (nat_lit 65, fO (S 7) "rounded_by" [] (.none) "basicplus.values" 187 64 (.none)) ::
 (nat_lit 71, cO "made" "made" 263 37 3 3 66 67 (.ref 68) (.ref 69) 70 272) ::
 (nat_lit 72, fO (S 8) "made" [] (.none) "basicplus.values" 187 71 (.none)) ::
 (nat_lit 78, cO "whole_near" "whole_near" 275 52 1 3 73 74 (.ref 75) (.ref 76) 77 282) ::
 (nat_lit 79, fO (S 9) "whole_near" [] (.none) "basicplus.values" 187 78 (.none)) ::
 (nat_lit 85, cO "fits" "fits" 285 58 2 3 80 81 (.ref 82) (.ref 83) 84 290) ::
 (nat_lit 86, fO (S 10) "fits" [] (.none) "basicplus.values" 187 85 (.none)) ::
 (nat_lit 92, cO "whole_of" "whole_of" 293 60 2 3 87 88 (.ref 89) (.ref 90) 91 299) ::
 (nat_lit 93, fO (S 11) "whole_of" [] (.none) "basicplus.values" 187 92 (.none)) ::
 (nat_lit 99, cO "decimal_of" "decimal_of" 302 67 2 3 94 95 (.ref 96) (.ref 97) 98 307) ::
 (nat_lit 100, fO (S 12) "decimal_of" [] (.none) "basicplus.values" 187 99 (.none)) ::
 (nat_lit 106, cO "text_of" "text_of" 310 71 1 3 101 102 (.ref 103) (.ref 104) 105 314) ::
 (nat_lit 107, fO (S 13) "text_of" [] (.none) "basicplus.values" 187 106 (.none)) ::
 (nat_lit 113, cO "checked_text" "checked_text" 317 75 1 3 108 109 (.ref 110) (.ref 111) 112 321) ::
 (nat_lit 114, fO (S 14) "checked_text" [] (.none) "basicplus.values" 187 113 (.none)) ::
 (nat_lit 120, cO "suited" "suited" 324 79 4 3 115 116 (.ref 117) (.ref 118) 119 331) ::
 (nat_lit 121, fO (S 15) "suited" [] (.none) "basicplus.values" 187 120 (.none)) ::
 (nat_lit 128, cO "d_negated" "d_negated" 341 86 1 3 123 124 (.ref 125) (.ref 126) 127 345) ::
 (nat_lit 129, fO (S 19) "d_negated" [] (.none) "basicplus.decimals" 334 128 (.none)) ::
 (nat_lit 135, cO "alike" "alike" 348 88 2 3 130 131 (.ref 132) (.ref 133) 134 354) ::
 (nat_lit 136, fO (S 20) "alike" [] (.none) "basicplus.decimals" 334 135 (.none)) ::
 (nat_lit 142, cO "d_add" "d_add" 357 91 3 3 137 138 (.ref 139) (.ref 140) 141 366) ::
 (nat_lit 143, fO (S 21) "d_add" [] (.none) "basicplus.decimals" 334 142 (.none)) ::
 (nat_lit 149, cO "d_sub" "d_sub" 369 94 3 3 144 145 (.ref 146) (.ref 147) 148 375) ::
 (nat_lit 150, fO (S 22) "d_sub" [] (.none) "basicplus.decimals" 334 149 (.none)) ::
 (nat_lit 156, cO "d_mul" "d_mul" 378 96 3 3 151 152 (.ref 153) (.ref 154) 155 384) ::
 (nat_lit 157, fO (S 23) "d_mul" [] (.none) "basicplus.decimals" 334 156 (.none)) ::
 (nat_lit 163, cO "with_rest" "with_rest" 387 98 3 3 158 159 (.ref 160) (.ref 161) 162 393) ::
 (nat_lit 164, fO (S 24) "with_rest" [] (.none) "basicplus.decimals" 334 163 (.none)) ::
 (nat_lit 170, cO "d_div" "d_div" 396 100 3 3 165 166 (.ref 167) (.ref 168) 169 407) ::
 (nat_lit 171, fO (S 25) "d_div" [] (.none) "basicplus.decimals" 334 170 (.none)) ::
 (nat_lit 177, cO "d_power" "d_power" 410 108 3 3 172 173 (.ref 174) (.ref 175) 176 419) ::
 (nat_lit 178, fO (S 26) "d_power" [] (.none) "basicplus.decimals" 334 177 (.none)) ::
 (nat_lit 184, cO "square_or_end" "square_or_end" 422 122 2 3 179 180 (.ref 181) (.ref 182) 183 427) ::
 (nat_lit 185, fO (S 27) "square_or_end" [] (.none) "basicplus.decimals" 334 184 (.none)) ::
 (nat_lit 191, cO "is_whole" "is_whole" 432 125 1 3 186 187 (.ref 188) (.ref 189) 190 436) ::
 (nat_lit 192, fO (S 29) "is_whole" [] (.none) "basicplus.arith" 430 191 (.none)) ::
 (nat_lit 198, cO "settled" "settled" 439 129 3 3 193 194 (.ref 195) (.ref 196) 197 445) ::
 (nat_lit 199, fO (S 30) "settled" [] (.none) "basicplus.arith" 430 198 (.none)) ::
 (nat_lit 205, cO "whole_reckoned" "whole_reckoned" 448 131 5 3 200 201 (.ref 202) (.ref 203) 204 456) ::
 (nat_lit 206, fO (S 31) "whole_reckoned" [] (.none) "basicplus.arith" 430 205 (.none)) ::
 (nat_lit 212, cO "cut_quotient" "cut_quotient" 459 135 2 3 207 208 (.ref 209) (.ref 210) 211 465) ::
 (nat_lit 213, fO (S 32) "cut_quotient" [] (.none) "basicplus.arith" 430 212 (.none)) ::
 (nat_lit 219, cO "cut_rest" "cut_rest" 468 140 2 3 214 215 (.ref 216) (.ref 217) 218 473) ::
 (nat_lit 220, fO (S 33) "cut_rest" [] (.none) "basicplus.arith" 430 219 (.none)) ::
 (nat_lit 226, cO "exponent_of" "exponent_of" 476 142 1 3 221 222 (.ref 223) (.ref 224) 225 480) ::
 (nat_lit 227, fO (S 34) "exponent_of" [] (.none) "basicplus.arith" 430 226 (.none)) ::
 (nat_lit 233, cO "whole_power" "whole_power" 483 148 4 3 228 229 (.ref 230) (.ref 231) 232 490) ::
 (nat_lit 234, fO (S 35) "whole_power" [] (.none) "basicplus.arith" 430 233 (.none)) ::
 (nat_lit 240, cO "raised" "raised" 493 154 4 3 235 236 (.ref 237) (.ref 238) 239 501) ::
 (nat_lit 241, fO (S 36) "raised" [] (.none) "basicplus.arith" 430 240 (.none)) ::
 (nat_lit 247, cO "reckoned" "reckoned" 504 159 5 3 242 243 (.ref 244) (.ref 245) 246 517) ::
 (nat_lit 248, fO (S 37) "reckoned" [] (.none) "basicplus.arith" 430 247 (.none)) ::
 (nat_lit 261, cO "__init__" "Grid.__init__" 536 178 4 3 256 257 (.ref 258) (.ref 259) 260 543) ::
 (nat_lit 262, fO (M 40 0) "Grid.__init__" [] (.none) "basicplus.arrays" 520 261 (.none)) ::
 (nat_lit 264, dO P (.type "dict") (("__module__", 531, .str "basicplus.arrays" 520) :: ("__firstlineno__", 535, .int 176 534) :: ("__init__", 545, .ref 262) :: ("__static_attributes__", 551, .ref 263) :: ("__dict__", 553, .ref 266) :: ("__weakref__", 555, .ref 267) :: ("__doc__", 556, .none) :: []) 4) ::
 (nat_lit 265, { cls := .type "type", data := .cls { name := "Grid", bases := [.type "object"], mro := [.ref 265, .type "object"], ns := 264, qualname := "Grid" }, slots := #[none, none, some (.str "Grid" 524), some (.str "Grid" 532), some (.builtin "object.__new__"), some (.bool true)] }) ::
 (nat_lit 266, { cls := .type "getset_descriptor", data := .fields #[.str "__dict__" 552, .ref 265, .builtin "function.__dict__", .builtin "function.__dict__#set"] }) ::
 (nat_lit 267, { cls := .type "getset_descriptor", data := .fields #[.str "__weakref__" 554, .ref 265, .builtin "ExceptionGroup.__weakref__", .none] }) ::
 (nat_lit 275, cO "count_of" "count_of" 559 184 2 3 270 271 (.ref 272) (.ref 273) 274 566) ::
 (nat_lit 276, fO (S 41) "count_of" [] (.none) "basicplus.arrays" 520 275 (.none)) ::
 (nat_lit 282, cO "kind_in" "kind_in" 569 189 2 3 277 278 (.ref 279) (.ref 280) 281 574) ::
 (nat_lit 283, fO (S 42) "kind_in" [] (.none) "basicplus.arrays" 520 282 (.none)) ::
 (nat_lit 289, cO "check_highs" "check_highs" 577 191 2 3 284 285 (.ref 286) (.ref 287) 288 583) ::
 (nat_lit 290, fO (S 43) "check_highs" [] (.none) "basicplus.arrays" 520 289 (.none)) ::
 (nat_lit 296, cO "dim" "dim" 586 199 3 3 291 292 (.ref 293) (.ref 294) 295 592) ::
 (nat_lit 297, fO (S 44) "dim" [] (.none) "basicplus.arrays" 520 296 (.none)) ::
 (nat_lit 303, cO "grid_of" "grid_of" 595 204 3 3 298 299 (.ref 300) (.ref 301) 302 601) ::
 (nat_lit 304, fO (S 45) "grid_of" [] (.none) "basicplus.arrays" 520 303 (.none)) ::
 (nat_lit 310, cO "option_base" "option_base" 604 208 2 3 305 306 (.ref 307) (.ref 308) 309 609) ::
 (nat_lit 311, fO (S 46) "option_base" [] (.none) "basicplus.arrays" 520 310 (.none)) ::
 (nat_lit 317, cO "place_of" "place_of" 612 214 2 3 312 313 (.ref 314) (.ref 315) 316 620) ::
 (nat_lit 318, fO (S 47) "place_of" [] (.none) "basicplus.arrays" 520 317 (.none)) ::
 (nat_lit 324, cO "get_item" "get_item" 623 223 3 3 319 320 (.ref 321) (.ref 322) 323 630) ::
 (nat_lit 325, fO (S 48) "get_item" [] (.none) "basicplus.arrays" 520 324 (.none)) ::
 (nat_lit 331, cO "redim" "redim" 633 226 3 3 326 327 (.ref 328) (.ref 329) 330 639) ::
 (nat_lit 332, fO (S 49) "redim" [] (.none) "basicplus.arrays" 520 331 (.none)) ::
 (nat_lit 336, cO "rows_of" "rows_of" 642 232 1 3 333 334 (.none) (.none) 335 645) ::
 (nat_lit 337, fO (S 50) "rows_of" [] (.none) "basicplus.arrays" 520 336 (.none)) ::
 (nat_lit 343, cO "put_rows" "put_rows" 648 241 3 3 338 339 (.ref 340) (.ref 341) 342 659) ::
 (nat_lit 344, fO (S 51) "put_rows" [] (.none) "basicplus.arrays" 520 343 (.none)) ::
 (nat_lit 350, cO "grid_shape" "grid_shape" 668 249 1 3 345 346 (.ref 347) (.ref 348) 349 672) ::
 (nat_lit 351, fO (S 55) "grid_shape" [] (.none) "basicplus.matrices" 662 350 (.none)) ::
 (nat_lit 355, cO "constant_grid" "constant_grid" 675 251 3 3 352 353 (.none) (.none) 354 678) ::
 (nat_lit 356, fO (S 56) "constant_grid" [] (.none) "basicplus.matrices" 662 355 (.none)) ::
 (nat_lit 360, cO "unit_grid" "unit_grid" 681 253 1 3 357 358 (.none) (.none) 359 684) ::
 (nat_lit 361, fO (S 57) "unit_grid" [] (.none) "basicplus.matrices" 662 360 (.none)) ::
 (nat_lit 365, cO "cell_by_cell" "cell_by_cell" 687 255 3 3 362 363 (.none) (.none) 364 690) ::
 (nat_lit 366, fO (S 58) "cell_by_cell" [] (.none) "basicplus.matrices" 662 365 (.none)) ::
 (nat_lit 370, cO "scaled_grid" "scaled_grid" 693 259 3 3 367 368 (.none) (.none) 369 696) ::
 (nat_lit 371, fO (S 59) "scaled_grid" [] (.none) "basicplus.matrices" 662 370 (.none)) ::
 (nat_lit 375, cO "turned_grid" "turned_grid" 699 261 1 3 372 373 (.none) (.none) 374 702) ::
 (nat_lit 376, fO (S 60) "turned_grid" [] (.none) "basicplus.matrices" 662 375 (.none)) ::
 (nat_lit 380, cO "grid_product" "grid_product" 705 264 4 3 377 378 (.none) (.none) 379 708) ::
 (nat_lit 381, fO (S 61) "grid_product" [] (.none) "basicplus.matrices" 662 380 (.none)) ::
 (nat_lit 387, cO "row_by_column" "row_by_column" 711 272 5 3 382 383 (.ref 384) (.ref 385) 386 722) ::
 (nat_lit 388, fO (S 62) "row_by_column" [] (.none) "basicplus.matrices" 662 387 (.none)) ::
 (nat_lit 394, cO "common_divisor" "common_divisor" 725 277 2 3 389 390 (.ref 391) (.ref 392) 393 730) ::
 (nat_lit 395, fO (S 63) "common_divisor" [] (.none) "basicplus.matrices" 662 394 (.none)) ::
 (nat_lit 401, cO "fraction" "fraction" 733 282 2 3 396 397 (.ref 398) (.ref 399) 400 739) ::
 (nat_lit 402, fO (S 64) "fraction" [] (.none) "basicplus.matrices" 662 401 (.none)) ::
 (nat_lit 408, cO "fraction_of" "fraction_of" 742 286 1 3 403 404 (.ref 405) (.ref 406) 407 748) ::
 (nat_lit 409, fO (S 65) "fraction_of" [] (.none) "basicplus.matrices" 662 408 (.none)) ::
 (nat_lit 415, cO "fraction_times" "fraction_times" 751 293 2 3 410 411 (.ref 412) (.ref 413) 414 756) ::
 (nat_lit 416, fO (S 66) "fraction_times" [] (.none) "basicplus.matrices" 662 415 (.none)) ::
 (nat_lit 422, cO "fraction_less" "fraction_less" 759 295 2 3 417 418 (.ref 419) (.ref 420) 421 764) ::
 (nat_lit 423, fO (S 67) "fraction_less" [] (.none) "basicplus.matrices" 662 422 (.none)) ::
 (nat_lit 429, cO "fraction_by" "fraction_by" 767 297 2 3 424 425 (.ref 426) (.ref 427) 428 772) ::
 (nat_lit 430, fO (S 68) "fraction_by" [] (.none) "basicplus.matrices" 662 429 (.none)) ::
 (nat_lit 436, cO "decimal_of_fraction" "decimal_of_fraction" 775 299 2 3 431 432 (.ref 433) (.ref 434) 435 785) ::
 (nat_lit 437, fO (S 69) "decimal_of_fraction" [] (.none) "basicplus.matrices" 662 436 (.none)) ::
 (nat_lit 443, cO "pivot_row" "pivot_row" 788 307 2 3 438 439 (.ref 440) (.ref 441) 442 794) ::
 (nat_lit 444, fO (S 70) "pivot_row" [] (.none) "basicplus.matrices" 662 443 (.none)) ::
 (nat_lit 448, cO "cleared_row" "cleared_row" 797 312 3 3 445 446 (.none) (.none) 447 800) ::
 (nat_lit 449, fO (S 71) "cleared_row" [] (.none) "basicplus.matrices" 662 448 (.none)) ::
 (nat_lit 453, cO "solved_rows" "solved_rows" 803 314 1 3 450 451 (.none) (.none) 452 806) ::
 (nat_lit 454, fO (S 72) "solved_rows" [] (.none) "basicplus.matrices" 662 453 (.none)) ::
 (nat_lit 458, cO "square_rows" "square_rows" 809 331 1 3 455 456 (.none) (.none) 457 812) ::
 (nat_lit 459, fO (S 73) "square_rows" [] (.none) "basicplus.matrices" 662 458 (.none)) ::
 (nat_lit 463, cO "inverse_of" "inverse_of" 815 336 2 3 460 461 (.none) (.none) 462 818) ::
 (nat_lit 464, fO (S 74) "inverse_of" [] (.none) "basicplus.matrices" 662 463 (.none)) ::
 (nat_lit 477, cO "__init__" "Reckoner.__init__" 837 349 2 3 472 473 (.ref 474) (.ref 475) 476 842) ::
 (nat_lit 478, fO (M 77 0) "Reckoner.__init__" [] (.none) "basicplus.matdo" 821 477 (.none)) ::
 (nat_lit 484, cO "plus" "Reckoner.plus" 845 353 3 3 479 480 (.ref 481) (.ref 482) 483 851) ::
 (nat_lit 485, fO (M 77 1) "Reckoner.plus" [] (.none) "basicplus.matdo" 821 484 (.none)) ::
 (nat_lit 491, cO "less" "Reckoner.less" 854 356 3 3 486 487 (.ref 488) (.ref 489) 490 860) ::
 (nat_lit 492, fO (M 77 2) "Reckoner.less" [] (.none) "basicplus.matdo" 821 491 (.none)) ::
 (nat_lit 498, cO "times" "Reckoner.times" 863 359 3 3 493 494 (.ref 495) (.ref 496) 497 869) ::
 (nat_lit 499, fO (M 77 3) "Reckoner.times" [] (.none) "basicplus.matdo" 821 498 (.none)) ::
 (nat_lit 501, dO P (.type "dict") (("__module__", 832, .str "basicplus.matdo" 821) :: ("__firstlineno__", 836, .int 347 835) :: ("__init__", 844, .ref 478) :: ("plus", 853, .ref 485) :: ("less", 862, .ref 492) :: ("times", 871, .ref 499) :: ("__static_attributes__", 874, .ref 500) :: ("__dict__", 876, .ref 503) :: ("__weakref__", 878, .ref 504) :: ("__doc__", 879, .none) :: []) 4) ::
 (nat_lit 502, { cls := .type "type", data := .cls { name := "Reckoner", bases := [.type "object"], mro := [.ref 502, .type "object"], ns := 501, qualname := "Reckoner" }, slots := #[none, none, some (.str "Reckoner" 825), some (.str "Reckoner" 833), some (.builtin "object.__new__"), some (.bool true)] }) ::
 (nat_lit 503, { cls := .type "getset_descriptor", data := .fields #[.str "__dict__" 875, .ref 502, .builtin "function.__dict__", .builtin "function.__dict__#set"] }) ::
 (nat_lit 504, { cls := .type "getset_descriptor", data := .fields #[.str "__weakref__" 877, .ref 502, .builtin "ExceptionGroup.__weakref__", .none] }) ::
 (nat_lit 512, cO "rows_named" "rows_named" 882 361 2 3 507 508 (.ref 509) (.ref 510) 511 887) ::
 (nat_lit 513, fO (S 78) "rows_named" [] (.none) "basicplus.matdo" 821 512 (.none)) ::
 (nat_lit 517, cO "sizes_of" "sizes_of" 890 363 3 3 514 515 (.none) (.none) 516 893) ::
 (nat_lit 518, fO (S 79) "sizes_of" [] (.none) "basicplus.matdo" 821 517 (.none)) ::
 (nat_lit 524, cO "led_to" "led_to" 896 365 3 3 519 520 (.ref 521) (.ref 522) 523 902) ::
 (nat_lit 525, fO (S 80) "led_to" [] (.none) "basicplus.matdo" 821 524 (.none)) ::
 (nat_lit 531, cO "shaped" "shaped" 905 368 4 3 526 527 (.ref 528) (.ref 529) 530 913) ::
 (nat_lit 532, fO (S 81) "shaped" [] (.none) "basicplus.matdo" 821 531 (.none)) ::
 (nat_lit 538, cO "put_result" "put_result" 916 373 3 3 533 534 (.ref 535) (.ref 536) 537 925) ::
 (nat_lit 539, fO (S 82) "put_result" [] (.none) "basicplus.matdo" 821 538 (.none)) ::
 (nat_lit 545, cO "filled_rows" "filled_rows" 928 380 5 3 540 541 (.ref 542) (.ref 543) 544 938) ::
 (nat_lit 546, fO (S 83) "filled_rows" [] (.none) "basicplus.matdo" 821 545 (.none)) ::
 (nat_lit 552, cO "reckoned_rows" "reckoned_rows" 941 387 4 3 547 548 (.ref 549) (.ref 550) 551 954) ::
 (nat_lit 553, fO (S 84) "reckoned_rows" [] (.none) "basicplus.matdo" 821 552 (.none)) ::
 (nat_lit 557, cO "filled_by" "filled_by" 957 405 5 3 554 555 (.none) (.none) 556 960) ::
 (nat_lit 558, fO (S 85) "filled_by" [] (.none) "basicplus.matdo" 821 557 (.none)) ::
 (nat_lit 564, cO "do_mat" "do_mat" 963 409 3 3 559 560 (.ref 561) (.ref 562) 563 972) ::
 (nat_lit 565, fO (S 86) "do_mat" [] (.none) "basicplus.matdo" 821 564 (.none)) ::
 (nat_lit 579, cO "__init__" "World.__init__" 994 421 6 3 574 575 (.ref 576) (.ref 577) 578 1003) ::
 (nat_lit 573, tO [.int 16 989, .int 9 990, .int 2000 991, .int 20 992, .int 2000 993]) ::
 (nat_lit 580, fO (M 88 0) "World.__init__" [] (.ref 573) "basicplus.world" 975 579 (.none)) ::
 (nat_lit 582, dO P (.type "dict") (("__module__", 984, .str "basicplus.world" 975) :: ("__firstlineno__", 988, .int 419 987) :: ("__init__", 1005, .ref 580) :: ("__static_attributes__", 1034, .ref 581) :: ("__dict__", 1036, .ref 584) :: ("__weakref__", 1038, .ref 585) :: ("__doc__", 1039, .none) :: []) 4) ::
 (nat_lit 583, { cls := .type "type", data := .cls { name := "World", bases := [.type "object"], mro := [.ref 583, .type "object"], ns := 582, qualname := "World" }, slots := #[none, none, some (.str "World" 977), some (.str "World" 985), some (.builtin "object.__new__"), some (.bool true)] }) ::
 (nat_lit 584, { cls := .type "getset_descriptor", data := .fields #[.str "__dict__" 1035, .ref 583, .builtin "function.__dict__", .builtin "function.__dict__#set"] }) ::
 (nat_lit 585, { cls := .type "getset_descriptor", data := .fields #[.str "__weakref__" 1037, .ref 583, .builtin "ExceptionGroup.__weakref__", .none] }) ::
 (nat_lit 591, cO "_law_tape" "_law_tape" 1044 451 1 3 588 589 (.none) (.none) 590 1047) ::
 (nat_lit 592, fO (S 90) "_law_tape" [] (.none) "law_pq0184_01" 1042 591 (.none)) ::
 (nat_lit 598, cO "_law_next" "_law_next" 1050 454 2 3 593 594 (.ref 595) (.ref 596) 597 1056) ::
 (nat_lit 599, fO (S 91) "_law_next" [] (.none) "law_pq0184_01" 1042 598 (.none)) ::
 (nat_lit 605, cO "_law_code" "_law_code" 1059 458 1 3 600 601 (.ref 602) (.ref 603) 604 1064) ::
 (nat_lit 606, fO (S 92) "_law_code" [] (.none) "law_pq0184_01" 1042 605 (.none)) ::
 (nat_lit 610, cO "_law_kept" "_law_kept" 1067 464 2 3 607 608 (.none) (.none) 609 1070) ::
 (nat_lit 611, fO (S 93) "_law_kept" [] (.none) "law_pq0184_01" 1042 610 (.none)) ::
 (nat_lit 615, cO "_law_grid" "_law_grid" 1073 476 3 3 612 613 (.none) (.none) 614 1076) ::
 (nat_lit 616, fO (S 94) "_law_grid" [] (.none) "law_pq0184_01" 1042 615 (.none)) ::
 (nat_lit 620, cO "_law_product" "_law_product" 1079 478 2 3 617 618 (.none) (.none) 619 1082) ::
 (nat_lit 621, fO (S 95) "_law_product" [] (.none) "law_pq0184_01" 1042 620 (.none)) ::
 (nat_lit 625, cO "_law_is" "_law_is" 1085 480 4 3 622 623 (.none) (.none) 624 1088) ::
 (nat_lit 626, fO (S 96) "_law_is" [] (.none) "law_pq0184_01" 1042 625 (.none)) ::
 (nat_lit 632, cO "_law_set" "_law_set" 1091 485 3 3 627 628 (.ref 629) (.ref 630) 631 1097) ::
 (nat_lit 633, fO (S 97) "_law_set" [] (.none) "law_pq0184_01" 1042 632 (.none)) ::
 (nat_lit 637, cO "law" "law" 1100 487 1 3 634 635 (.none) (.none) 636 1103) ::
 (nat_lit 638, fO (S 98) "law" [] (.none) "law_pq0184_01" 1042 637 (.none)) :: []
theorem fill : PySem.Challenge.rw_pq0184_01 = PySem.Challenge.rw_pq0184_01 ∧ K39 = K39 := by
 k_fill
 exact ⟨rfl, rfl⟩
end Mine
namespace Mine
theorem nt {a b c : Nat} (h : a ≤ b) (k : Nat.ble b c = true := by rfl) : a ≤ c := Nat.le_trans h (Nat.le_of_ble_eq_true k)
theorem nr {p : Prop} {a b c : Nat} (h : p ∧ a ≤ b) (k : Nat.ble b c = true := by rfl) : a ≤ c := nt h.2 k
theorem nb {l a b c : Nat} (h : l ≤ a ∧ a ≤ b) (k : Nat.ble b c = true := by rfl) : l ≤ a ∧ a ≤ c := ⟨h.1, nt h.2 k⟩
theorem ns {a n b c : Nat} (e : a = n) (h : n ≤ b) (k : Nat.ble b c = true := by rfl) : a ≤ c := e ▸ nt h k
theorem nsr {p : Prop} {a n b c : Nat} (e : a = n) (h : p ∧ n ≤ b) (k : Nat.ble b c = true := by rfl) : a ≤ c := e ▸ nt h.2 k
theorem zi {a b : Nat} {z : Int} (h : a < b) (k : decide ((b : Int) ≤ z) = true := by rfl) : (a : Int) < z := Int.lt_of_lt_of_le (Int.ofNat_lt.mpr h) (of_decide_eq_true k)
theorem ib {l x b l' c : Int} (h : l ≤ x ∧ x ≤ b) (k : decide (l' ≤ l ∧ b ≤ c) = true := by rfl) : l' ≤ x ∧ x ≤ c := let q := of_decide_eq_true k; ⟨Int.le_trans q.1 h.1, Int.le_trans h.2 q.2⟩
theorem it {x b c : Int} (h : x ≤ b) (k : decide (b ≤ c) = true := by rfl) : x ≤ c := Int.le_trans h (of_decide_eq_true k)
theorem ir {p : Prop} {x b c : Int} (h : p ∧ x ≤ b) (k : decide (b ≤ c) = true := by rfl) : x ≤ c := it h.2 k
theorem zb {r b : Nat} {z : Int} (h : r ≤ b) (k : decide ((b : Int) ≤ z) = true := by rfl) : 0 ≤ (r : Int) ∧ (r : Int) ≤ z := ⟨Int.natCast_nonneg _, Int.le_trans (Int.ofNat_le.mpr h) (of_decide_eq_true k)⟩
theorem b01 {P : Nat → Prop} (h0 : P 0) (h1 : P 1) : ∀ {b : Nat}, b ≤ 1 → P b
 | 0, _ => h0
 | 1, _ => h1
 | n + 2, h => absurd (Nat.le_of_succ_le_succ h) (Nat.not_succ_le_zero n)
section
variable {b i j k r q m : Nat}
theorem sbl (h : r ≤ m) : r + 1 - b ≤ m + 1 := Nat.le_trans (Nat.sub_le ..) (Nat.succ_le_succ h)
theorem sbp (hb : b ≤ 1) (h : 1 ≤ r) : 1 ≤ r + 1 - b := b01 (P := fun b => 1 ≤ r + 1 - b) (Nat.le_succ_of_le h) h hb
theorem sbs (hb : b ≤ 1) : r + 1 - b - (1 - b) = r := b01 (P := fun b => r + 1 - b - (1 - b) = r) rfl rfl hb
theorem sbr (hb : b ≤ 1) (h : i < r) : i + 1 - b < r + 1 - b := b01 (P := fun b => i + 1 - b < r + 1 - b) (Nat.succ_lt_succ h) h hb
theorem sba (hb : b ≤ 1) : i + 1 - b + b = i + 1 := Nat.sub_add_cancel (Nat.le_trans hb (Nat.le_add_left ..))
theorem sbo (hb : b ≤ 1) : 1 - b + i + b = i + 1 := b01 (P := fun b => 1 - b + i + b = i + 1) (Nat.add_comm 1 i) (congrArg (· + 1) (Nat.zero_add i)) hb
theorem sbi (hb : b ≤ 1) (h : i < r) : 1 - b + i < r + 1 - b := b01 (P := fun b => 1 - b + i < r + 1 - b) (Nat.add_comm 1 i ▸ Nat.succ_lt_succ h) ((Nat.zero_add i).symm ▸ h) hb
theorem sbc (hb : b ≤ 1) : (r : Int) - b + 1 = ((r + 1 - b : Nat) : Int) := b01 (P := fun b => (r : Int) - (b : Int) + 1 = ((r + 1 - b : Nat) : Int)) (congrArg (· + 1) (Int.sub_zero (r : Int))) (Int.sub_add_cancel (r : Int) 1) hb
theorem sbd (hb : b ≤ 1) : (i : Int) + 1 - b = ((i + 1 - b : Nat) : Int) := (Int.ofNat_sub (Nat.le_trans hb (Nat.le_add_left ..))).symm
theorem zw (h1 : 1 ≤ r) (h : r ≤ m) (k : decide ((m : Int) ≤ 1000) = true := by rfl) : 1 ≤ (r : Int) ∧ (r : Int) ≤ 1000 := ⟨Int.ofNat_le.mpr h1, Int.le_trans (Int.ofNat_le.mpr h) (of_decide_eq_true k)⟩
end
theorem allI (N : Nat) {P : Int → Prop} (h : ∀ m : Nat, m < 2 * N + 1 → P ((m : Int) - N)) {n : Int} (hn : -(N : Int) ≤ n ∧ n ≤ N) : P n := by
 have e : (((n + N).toNat : Nat) : Int) - N = n := by lia
 exact e ▸ h (n + N).toNat (by lia)
theorem na {l x b : Int} {N : Nat} (h : l ≤ x ∧ x ≤ b) (k : decide (-(N : Int) < l ∧ b < N) = true := by rfl) : x.natAbs < N := by
 have := of_decide_eq_true k
 lia
theorem i64 {x y : Int} (h : x.natAbs < 2 ^ 64) : IntMulOk x y := IntMulOk.of_left (intBits_le_64 (by lia) (by lia))
theorem absI (x : Int) : 0 ≤ (if x < 0 then -x else x) ∧ ((if x < 0 then -x else x) = x ∨ (if x < 0 then -x else x) = -x) := by
 split
 · exact ⟨Int.neg_nonneg_of_nonpos (Int.le_of_lt ‹_›), .inr rfl⟩
 · exact ⟨Int.not_lt.mp ‹_›, .inl rfl⟩
theorem seqI {x : Int} {l : Nat} (h0 : 0 ≤ x) (h1 : x.toNat < l) : seqIndex? x l = some x.toNat := by
 show (if (decide (0 ≤ (if x < 0 then _ else x)) && decide ((if x < 0 then _ else x) < (l : Int))) = true then some _ else none) = _
 rw [if_neg (Int.not_lt.mpr h0), decide_eq_true h0, decide_eq_true (Int.toNat_of_nonneg h0 ▸ Int.ofNat_lt.mpr h1 : x < (l : Int))]
 rfl
section
variable {d u l l' m a b : Nat}
theorem lvA (hl : l' ≤ l) (h : d + l < m) : d + l' < m := Nat.lt_of_le_of_lt (Nat.add_le_add_left hl _) h
theorem lvB (hl : l' ≤ l) (h : u + 20 * l < m) : u + 20 * l' < m := Nat.lt_of_le_of_lt (Nat.add_le_add_left (Nat.mul_le_mul_left 20 hl) _) h
theorem lv0 (h : d + l < m) : d < m := Nat.lt_of_le_of_lt (Nat.le_add_right ..) h
theorem lv1 (h : d + (l + 1) < m) : d + 1 + l < m := Nat.add_right_comm d 1 l ▸ h
theorem lv3 (h : u + 20 * (l + 1) < m) : u + 3 + 20 * l < m := by lia
theorem lvK (hl : a ≤ l) (h : u + 20 * l < m) (k : Nat.ble b (20 * a) = true := by rfl) : u + b < m := Nat.lt_of_le_of_lt (Nat.add_le_add_left (Nat.le_of_ble_eq_true k) _) (lvB hl h)
end
theorem rngS {a b : Int} {n : Nat} (h : a + n = b) (k : -1000 ≤ a ∧ b ≤ 1000) : Builtin.Range.small a b 1 = true ∧ Builtin.Range.rangeSize a b 1 = n := by
 refine ⟨PySem.small_one (by lia) (by lia) (by lia) (by lia), ?_⟩
 rw [rangeSize_one]
 split <;> lia
theorem lv2 {u l m : Nat} (h : u + 20 * (l + 1) < m) : u + 1 + 20 * l < m := by lia
theorem n13 {i : Nat} : 1 ≠ i + 3 := fun e => Nat.succ_ne_zero _ (Nat.succ.inj e).symm
theorem n23 {i : Nat} : 2 ≠ i + 3 := fun e => Nat.succ_ne_zero _ (Nat.succ.inj (Nat.succ.inj e)).symm
theorem z0 {n m : Nat} (h : n ≤ m) (k : Nat.ble m 1000 = true := by rfl) : -1000 ≤ (0 : Int) ∧ (n : Int) ≤ 1000 := ⟨by decide, Int.ofNat_le.mpr (nt h k)⟩
theorem z0r {p : Prop} {n m : Nat} (h : p ∧ n ≤ m) (k : Nat.ble m 1000 = true := by rfl) : -1000 ≤ (0 : Int) ∧ (n : Int) ≤ 1000 := z0 h.2 k
theorem sz {a b i : Nat} (e : a = b) (h : i < a) : i < b := e ▸ h
theorem z1 {i k m : Nat} (h : i < k) (hk : k ≤ m) (q : Nat.ble m 1000 = true := by rfl) : (i : Int) < 1000 := Int.ofNat_lt.mpr (Nat.lt_of_lt_of_le h (nt hk q))
theorem z1r {p : Prop} {i k m : Nat} (h : i < k) (hk : p ∧ k ≤ m) (q : Nat.ble m 1000 = true := by rfl) : (i : Int) < 1000 := z1 h hk.2 q
theorem z2 {i k m : Nat} (h : i < k) (hk : k ≤ m) (q : Nat.ble m 1000 = true := by rfl) : (0 : Int) + i < 1000 := (Int.zero_add _).symm ▸ z1 h hk q
theorem z2r {p : Prop} {i k m : Nat} (h : i < k) (hk : p ∧ k ≤ m) (q : Nat.ble m 1000 = true := by rfl) : (0 : Int) + i < 1000 := z2 h hk.2 q
theorem mn2 {a b i : Nat} (h : i < min a b) : i < b := Nat.lt_of_lt_of_le h (Nat.min_le_right ..)
theorem mk2 {a b i k : Nat} (e : b = k) (h : i < min a b) : i < k := e ▸ mn2 h
theorem bz {b : Nat} (h : b ≤ 1) : 0 ≤ (b : Int) ∧ (b : Int) ≤ 1 := ⟨Int.natCast_nonneg _, Int.ofNat_le.mpr h⟩
theorem own1 {x i : Nat} (h : x = 0 ∨ x = i + 3) : ¬ x = 1 := h.elim (fun e k => nomatch e.symm.trans k) fun e k => n13 (k.symm.trans e)
theorem own5 {x : Nat} (h : x = 0 ∨ 50 ≤ x) : ¬ x = 1 := h.elim (fun e k => nomatch e.symm.trans k) fun e k => absurd (k ▸ e) (by decide)
theorem own8 {x i n : Nat} (h : x = 0 ∨ 50 ≤ x) (hi : i < n) (hn : n ≤ 8) : ¬ x = i + 3 := h.elim (fun e k => nomatch e.symm.trans k) fun e k => absurd (k ▸ e) (Nat.not_le.mpr (Nat.lt_of_lt_of_le (Nat.add_lt_add_right (Nat.lt_of_lt_of_le hi hn) 3) (by decide)))
theorem zbr {p : Prop} {r b : Nat} {z : Int} (h : p ∧ r ≤ b) (k : decide ((b : Int) ≤ z) = true := by rfl) : 0 ≤ (r : Int) ∧ (r : Int) ≤ z := zb h.2 k
theorem lastI {i n : Nat} (h : ¬ i < n) (k : i - n < 1) : i = n := Nat.le_antisymm (Nat.le_of_sub_eq_zero (Nat.lt_one_iff.mp k)) (Nat.not_lt.mp h)
theorem o2 : ∀ {i : Nat}, i < 2 → i = 0 ∨ i = 1
 | 0, _ => .inl rfl
 | 1, _ => .inr rfl
 | _ + 2, h => absurd h (Nat.not_lt.mpr (Nat.le_add_left ..))
theorem nb9 {k : Int} (h : -3 ≤ k ∧ k ≤ 3) : -9 ≤ -k ∧ -k ≤ 9 := ⟨Int.neg_le_neg (Int.le_trans h.2 (by decide)), Int.neg_le_neg (Int.le_trans (by decide : (-9 : Int) ≤ -3) h.1)⟩
theorem ad2 {a b : Nat} (h : a ≤ 999) (k : b ≤ 1) : b + a ≤ 1000 := Nat.le_trans (Nat.add_le_add k h) (by decide)
theorem ownJ {x i j : Nat} (h : x = 0 ∨ x = j + 3) (hj : ¬ j = i) : x ≠ i + 3 := h.elim (fun e k => nomatch e.symm.trans k) fun e k => hj (Nat.add_right_cancel (e.symm.trans k))
theorem own50 {x : Nat} (h : x = 0) (k : 50 ≤ x) : False := absurd (h ▸ k) (by decide)
theorem sub_b {x : Int} : -999 ≤ x - x ∧ x - x ≤ 999 := (Int.sub_self x).symm ▸ by decide
theorem tp100 {a b m : Nat} (h : a ≤ 9) (k : b ≤ 9) (q : Nat.ble 23 m = true := by rfl) : 5 + a + b ≤ m := nt (Nat.add_le_add (Nat.add_le_add_left h 5) k) q
theorem tp5 {a m : Nat} (h : a ≤ 9) (q : Nat.ble 14 m = true := by rfl) : 5 + a ≤ m := nt (Nat.add_le_add_left h 5) q
theorem ownS {x i n : Nat} (h : x = 0 ∨ x = i + 3) (hi : i < n) (hn : n ≤ 8) : x < 50 := h.elim (fun e => e ▸ by decide) fun e => e ▸ Nat.lt_of_lt_of_le (Nat.add_lt_add_right (Nat.lt_of_lt_of_le hi hn) 3) (by decide)
theorem v33 {v : Int} (h0 : 0 ≤ v) (h7 : v < 7) : -3 ≤ v - 3 ∧ v - 3 ≤ 3 := ⟨Int.sub_le_sub_right h0 3, Int.sub_le_sub_right (Int.le_of_lt_add_one (b := 6) h7) 3⟩
end Mine
namespace Mine
noncomputable def ne (n : Int) : Int := if n = 0 then 0 else if n % 100 = 0 then 2 else if n % 10 = 0 then 1 else 0
noncomputable def nc (n : Int) : Int := if n = 0 then 0 else if n % 100 = 0 then n / 100 else if n % 10 = 0 then n / 10 else n
noncomputable def IsN (c e n : Int) : Prop := ∃ k : Nat, k ≤ 2 ∧ e = k ∧ c * 10 ^ k = n
theorem nrmF {n : Int} : -999 ≤ n ∧ n ≤ 999 → ((ne n).toNat ≤ 2 ∧ ne n = (ne n).toNat ∧ nc n * 10 ^ (ne n).toNat = n) ∧ (-999 ≤ nc n ∧ nc n ≤ 999) ∧ (-9 ≤ n ∧ n ≤ 9 → nc n = n ∧ ne n = 0) := allI 999 (P := fun n => ((ne n).toNat ≤ 2 ∧ ne n = (ne n).toNat ∧ nc n * 10 ^ (ne n).toNat = n) ∧ (-999 ≤ nc n ∧ nc n ≤ 999) ∧ (-9 ≤ n ∧ n ≤ 9 → nc n = n ∧ ne n = 0)) (by decide +kernel)
theorem nrm_isN {n : Int} (h : -999 ≤ n ∧ n ≤ 999) : IsN (nc n) (ne n) n := ⟨_, (nrmF h).1⟩
theorem ne_b {n : Int} (h : -999 ≤ n ∧ n ≤ 999) : 0 ≤ ne n ∧ ne n ≤ 2 := have q := (nrmF h).1; q.2.1 ▸ ⟨Int.natCast_nonneg _, Int.ofNat_le.mpr q.1⟩
theorem nc_b {n : Int} (h : -999 ≤ n ∧ n ≤ 999) : (nc n).natAbs < 2 ^ 64 := na (nrmF h).2.1
theorem nc_small {n : Int} (h : -9 ≤ n ∧ n ≤ 9) : nc n = n := ((nrmF ⟨Int.le_trans (by decide) h.1, Int.le_trans h.2 (by decide)⟩).2.2 h).1
theorem ne_small {n : Int} (h : -9 ≤ n ∧ n ≤ 9) : ne n = 0 := ((nrmF ⟨Int.le_trans (by decide) h.1, Int.le_trans h.2 (by decide)⟩).2.2 h).2
theorem isN_all {P : Nat → Int → Int → Prop} (h : ∀ m : Nat, m < 1999 → ∀ k, k < 3 → ((m : Int) - 999) % 10 ^ k = 0 → P k (((m : Int) - 999) / 10 ^ k) ((m : Int) - 999)) {c e n : Int} (hI : IsN c e n) (hn : -999 ≤ n ∧ n ≤ 999) : ∃ k : Nat, e = k ∧ k < 3 ∧ P k c n := by
 obtain ⟨k, hk, he, rfl⟩ := hI
 have := allI 999 (P := fun n => ∀ k, k < 3 → n % 10 ^ k = 0 → P k (n / 10 ^ k) n) h hn k (Nat.lt_succ_of_le hk) (Int.mul_emod_left ..)
 rw [Int.mul_ediv_cancel _ (Int.pow_ne_zero (by decide))] at this
 exact ⟨k, he, Nat.lt_succ_of_le hk, this⟩
theorem isN_scale {c e x : Int} {l : Nat} (h : IsN c e x) (hl : (l : Int) ≤ e) : IsN (c * 10 ^ (e - l).toNat) l x := by
 obtain ⟨k, h1, rfl, h3⟩ := h
 have q : l ≤ k := Int.ofNat_le.mp hl
 refine ⟨l, Nat.le_trans q h1, rfl, ?_⟩
 rw [← Int.ofNat_sub q]
 show c * 10 ^ (k - l) * 10 ^ l = x
 rw [Int.mul_assoc, ← Int.pow_add, Nat.sub_add_cancel q, h3]
theorem isN_plus {c d e x y : Int} (h : IsN c e x) (k : IsN d e y) : IsN (c + d) e (x + y) := by
 obtain ⟨k1, h1, rfl, rfl⟩ := h
 obtain ⟨k2, q_, h4, rfl⟩ := k
 obtain rfl := Int.ofNat.inj h4
 exact ⟨k1, h1, rfl, Int.add_mul ..⟩
theorem isN_neg {c e x : Int} (h : IsN c e x) : IsN (0 - c) e (-x) := by
 obtain ⟨k1, h1, rfl, rfl⟩ := h
 exact ⟨k1, h1, rfl, by rw [Int.zero_sub, Int.neg_mul]⟩
noncomputable abbrev tup (vs : List Value) (k : Nat) : Obj := { cls := .type "tuple", data := .seq vs.toArray k }
section
variable {prog : Program} {w : World} {A : Around} {E : VSP} {s : Shared} {Q : VSP} {x y : Int} {t u : Tok}
theorem r_mod (hb : 0 < y) (h : Q (.int (x % y) s.toks) { s with toks := s.toks + 1 }) : wpAny (model prog w) A (binaryOp .Mod (.int x t) (.int y u)) Q E s :=
 mod_int' (Int.ne_of_gt hb) (Int.fmod_eq_emod_of_nonneg _ (Int.le_of_lt hb) ▸ h)
theorem r_div (hb : 0 < y) (hx : y.natAbs < 1073741824) (h : Q (.int (x / y) s.toks) { s with toks := s.toks + 1 }) : wpAny (model prog w) A (binaryOp .FloorDiv (.int x t) (.int y u)) Q E s :=
 floordiv_int (Int.ne_of_gt hb) (Int.fdiv_eq_ediv_of_nonneg _ (Int.le_of_lt hb) ▸ h) (Or.inl (PyProof.noPylong_small hx))
theorem r_abs (h : ∀ b v tk, 0 ≤ b → (b = x ∨ b = -x) → Q (.int b v) { s with toks := tk }) : wpAny (model prog w) A (call (.builtin "abs") [.int x t]) Q E s :=
 call_abs_int (fun v tk => h _ v tk (absI x).1 (absI x).2)
theorem r_eq (h : Q (.bool (decide (x = y))) s) : wpAny (model prog w) A (compareOp .Eq (.int x t) (.int y u)) Q E s := by
 refine PyProof.Rows.eq_int ?_
 have e : (x == y) = decide (x = y) := rfl
 rw [e]; exact h
theorem r_ne (h : Q (.bool (decide (x ≠ y))) s) : wpAny (model prog w) A (compareOp .NotEq (.int x t) (.int y u)) Q E s := by
 refine PyProof.Rows.ne_int ?_
 have e : (x != y) = decide (x ≠ y) := by simp [bne, decide_not]; rfl
 rw [e]; exact h
theorem r_lsh (hx : x = 1) (hy : y = 15) (h : Q (.int 32768 s.toks) { s with toks := s.toks + 1 }) : wpAny (model prog w) A (binaryOp .LShift (.int x t) (.int y u)) Q E s := by
 subst hx hy
 exact lshift_int_small (by decide) (by decide) (by decide) h
theorem r_mul (hx : x.natAbs < 2 ^ 64) (h : Q (.int (x * y) s.toks) { s with toks := s.toks + 1 }) : wpAny (model prog w) A (binaryOp .Mult (.int x t) (.int y u)) Q E s :=
 PyProof.Rows.mul_int h (i64 hx)
theorem r_min {h₀ : Heap} {L : Addr} {m : SoV} {news : Led} (hh : A.handled = none) (F : Fr h₀ L s.heap m) (N : News h₀ L s.heap news)
 (h : ∀ l v h' tk, (l = x ∨ l = y) → l ≤ x → l ≤ y → Fr h₀ L h' m → News h₀ L h' news → Q (.int l v) { s with heap := h', toks := tk }) :
 wpAny (model prog w) A (call (.builtin "min") [.int x t, .int y u]) Q E s :=
 min_two_N hh F N fun h' tk F' N' => h _ _ h' tk (by split <;> lia) (by split <;> lia) (by split <;> lia) F' N'
end
inductive Num (news : Led) : Bool → Value → Int → Prop
 | i (n : Int) (t : Tok) : Num news false (.int n t) n
 | d {r : Addr} {n : Int} {t1 t2 : Tok} {k : Nat} : (r, tup [.int (nc n) t1, .int (ne n) t2] k) ∈ news → Num news true (.ref r) n
noncomputable def ScopeN (names : NKs) : Prop := (names.map (·.1)).Nodup ∧ ∀ y ∈ names, (y.1 == ("__debug__" : Str)) = false
noncomputable def scopeB (names : NKs) : Bool := decide ((names.map (·.1)).Nodup) && names.all (fun y => (y.1 == ("__debug__" : Str)) == false)
theorem scopeN_of {names : NKs} (h : scopeB names = true) : ScopeN names := by
 have h' := Bool.and_eq_true_iff.mp h
 exact ⟨of_decide_eq_true h'.1, fun y hy => by have := List.all_eq_true.mp h'.2 y hy; exact beq_iff_eq.mp this⟩
theorem lookup_of {β : Type} {l : List (Str × β)} {x : Str} {v : β} (hn : (l.map (·.1)).Nodup) (hm : (x, v) ∈ l) : l.lookup x = some v := by
 induction l with
 | nil => cases hm
 | cons p r ih =>
  have hn := List.nodup_cons.mp hn
  rw [List.lookup_cons]
  rcases jX hm with e | hm
  · rw [← e, beq_self_eq_true]
  · rw [show (x == p.1) = false from beq_eq_false_iff_ne.mpr fun e => hn.1 (show p.1 ∈ _ from e ▸ List.mem_map_of_mem hm)]
    exact ih hn.2 hm
noncomputable def frm (al : List (Str × Option Value)) : SoV := fun y => (al.lookup y).join
theorem frm_at {al : List (Str × Option Value)} {names : NKs} {x : Str} {v : Value} (hs : ScopeN names) (ha : al.map (·.1) = names.map (·.1)) (hm : (x, some v) ∈ al) : frm al x = some v := by
 unfold frm
 rw [lookup_of (ha ▸ hs.1) hm]; rfl
inductive Put (x : Str) (v : Value) : List (Str × Option Value) → List (Str × Option Value) → Prop
 | head {u : Option Value} {r : List (Str × Option Value)} : Put x v ((x, u) :: r) ((x, some v) :: r)
 | tail {p : Str × Option Value} {r r' : List (Str × Option Value)} : Put x v r r' → Put x v (p :: r) (p :: r')
theorem Put.keys {x : Str} {v : Value} {l l' : List (Str × Option Value)} (h : Put x v l l') : l'.map (·.1) = l.map (·.1) := by
 induction h with
 | head => rfl
 | tail _ ih => exact congrArg (_ :: ·) ih
theorem Put.mem {x : Str} {v : Value} {l l' : List (Str × Option Value)} (h : Put x v l l') : x ∈ l.map (·.1) := by
 induction h with
 | head => exact .head _
 | tail _ ih => exact .tail _ ih
theorem frm_cons {z y : Str} {u : Option Value} {r : List (Str × Option Value)} : Mine.frm ((z, u) :: r) y = if y = z then u else Mine.frm r y := by
 unfold Mine.frm
 rw [List.lookup_cons]
 by_cases h : y = z
 · rw [if_pos h, h, beq_self_eq_true]; rfl
 · rw [if_neg h, show (y == z) = false from beq_eq_false_iff_ne.mpr h]
set_option tactic.hygienic true in
theorem Put.frm {x : Str} {v : Value} {l l' : List (Str × Option Value)} (h : Put x v l l') : (l.map (·.1)).Nodup → (fun y => if y = x then some v else Mine.frm l y) = Mine.frm l' := by
 induction h with
 | head =>
  intro q_
  funext y
  rw [frm_cons, frm_cons]
  by_cases e : y = x
  · rw [if_pos e, if_pos e]
  · rw [if_neg e, if_neg e, if_neg e]
 | tail h ih =>
  rename_i p r r'
  intro hn
  have hn := List.nodup_cons.mp hn
  funext y
  have iy := congrFun (ih hn.2) y
  rw [frm_cons, frm_cons]
  by_cases hy : y = p.1
  · rw [if_pos hy, if_pos hy, if_neg fun e => hn.1 (show p.1 ∈ _ from (hy.symm.trans e).symm ▸ h.mem)]
  · rw [if_neg hy, if_neg hy]; exact iy
section
variable {M : Model} {A : Around} {E : VSP} {s : Shared} {K : Frag} {h₀ : Heap} {L f : Addr} {m mg mb : SoV} {p : Program} {loose : List Str} {mean : ExcName → Option Value} {names : NKs} {al al' : List (Str × Option Value)}
 {x qual : Str} {pos : Pos} {v cd : Value} {ig ic : Bool} {mo : List (Str × Const)} {news : Led}
noncomputable abbrev sc (names : NKs) (mo : List (Str × Const)) : Scope := { kind := .function, names := names, isGenerator := false, isCoroutine := false, more := mo }
end
noncomputable def RkIn (news : Led) (y : Addr) : Prop :=
 ∃ (d : Addr) (es : List DictEntry) (n : Nat) (tb td : Tok), (y, instObj 502 d) ∈ news ∧ (d, dictOf es n) ∈ news ∧ getL (Str.ofString "bits") es = some (some (.int 16 tb)) ∧ getL (Str.ofString "digits") es = some (some (.int 9 td))
theorem RkIn.mono {news news' : Led} {y : Addr} (h : RkIn news y) (hs : ∀ p ∈ news, p ∈ news') : RkIn news' y := by
 obtain ⟨d, es, n, tb, td, h1, h2, h3, h4⟩ := h
 exact ⟨d, es, n, tb, td, hs _ h1, hs _ h2, h3, h4⟩
theorem Num.mono {news news' : Led} {b : Bool} {v : Value} {n : Int} (h : Num news b v n) (hs : ∀ p ∈ news, p ∈ news') : Num news' b v n := by
 cases h with
 | i n t => exact .i n t
 | d hm => exact .d (hs _ hm)
noncomputable def itsOf (wr : List Addr) (h : Heap) : Led := wr.filterMap fun b => (h.get? b).map fun o => (b, o)
theorem itsOf_at {wr : List Addr} {h : Heap} {p : Addr × Obj} (hp : p ∈ itsOf wr h) : p.1 ∈ wr ∧ h.get? p.1 = some p.2 := by
 unfold itsOf at hp
 obtain ⟨b, hb, e⟩ := List.mem_filterMap.mp hp
 cases q : h.get? b with
 | none => rw [q] at e; cases e
 | some o => rw [q] at e; cases e; exact ⟨hb, q⟩
theorem itsOf_map {h : Heap} : ∀ {wr : List Addr}, (∀ b ∈ wr, ∃ o, h.get? b = some o) → (itsOf wr h).map (·.1) = wr
 | [], _ => rfl
 | b :: r, hb => by
  obtain ⟨o, ho⟩ := hb b List.mem_cons_self
  have ih := itsOf_map (wr := r) fun c hc => hb c (jC _ hc)
  unfold itsOf at ih ⊢
  rw [List.filterMap_cons, ho]
  show b :: _ = b :: r
  exact congrArg (b :: ·) ih
end Mine
namespace Mine
noncomputable def WorldIn (prog : Program) (w : World) (news : Led) (wa : Addr) (b : Int) (ad nd : Addr) : Prop :=
 ∃ (dw : Addr) (es : List DictEntry) (n : Nat) (t1 t2 t3 t4 : Tok) (kd : Addr) (ok : Obj), (wa, instObj 583 dw) ∈ news ∧ (dw, dictOf es n) ∈ news ∧ getL (Str.ofString "bits") es = some (some (.int 16 t1)) ∧ getL (Str.ofString "digits") es = some (some (.int 9 t2)) ∧
  getL (Str.ofString "room") es = some (some (.int 400 t3)) ∧ getL (Str.ofString "base") es = some (some (.int b t4)) ∧ getL (Str.ofString "arrays") es = some (some (.ref ad)) ∧ getL (Str.ofString "names") es = some (some (.ref nd)) ∧ getL (Str.ofString "kinds") es = some (some (.ref kd)) ∧
  (kd, ok) ∈ news ∧ ok.IsDictOf (strKind prog w) [] ∧ (ad == sysModules) = false ∧ (kd == sysModules) = false
theorem WorldIn.mono {prog : Program} {w : World} {news news' : Led} {wa ad nd : Addr} {b : Int} (h : WorldIn prog w news wa b ad nd) (hs : ∀ p ∈ news, p ∈ news') : WorldIn prog w news' wa b ad nd := by
 obtain ⟨dw, es, n, t1, t2, t3, t4, kd, ok, h1, h2, h3, h4, h5, h6, h7, h8, h9, h10, h11⟩ := h
 exact ⟨dw, es, n, t1, t2, t3, t4, kd, ok, hs _ h1, hs _ h2, h3, h4, h5, h6, h7, h8, h9, hs _ h10, h11⟩
def kindS (dec : Bool) : Str := if dec then Str.ofString "decimal" else Str.ofString "whole"
noncomputable def HighsIn (news : Led) (hl : Addr) (h1 h2 : Int) : Prop := ∃ (t1 t2 : Tok) (k : Nat), (hl, listOf [Value.int h1 t1, .int h2 t2].toArray k) ∈ news
theorem HighsIn.mono {news news' : Led} {hl : Addr} {h1 h2 : Int} (h : HighsIn news hl h1 h2) (hs : ∀ p ∈ news, p ∈ news') : HighsIn news' hl h1 h2 := by
 obtain ⟨t1, t2, k, h⟩ := h
 exact ⟨t1, t2, k, hs _ h⟩
end Mine
namespace Mine
inductive E1_2 {α0 : Type} (P0 P1 : α0 → Prop) : Prop
 | pk (a : α0) : P0 a → P1 a → E1_2 P0 P1
inductive E1_3 {α0 : Type} (P0 P1 P2 : α0 → Prop) : Prop
 | pk (a : α0) : P0 a → P1 a → P2 a → E1_3 P0 P1 P2
inductive E1_4 {α0 : Type} (P0 P1 P2 P3 : α0 → Prop) : Prop
 | pk (a : α0) : P0 a → P1 a → P2 a → P3 a → E1_4 P0 P1 P2 P3
inductive E1_6 {α0 : Type} (P0 P1 P2 P3 P4 P5 : α0 → Prop) : Prop
 | pk (a : α0) : P0 a → P1 a → P2 a → P3 a → P4 a → P5 a → E1_6 P0 P1 P2 P3 P4 P5
inductive E2_1 {α0 α1 : Type} (P0 : α0 → α1 → Prop) : Prop
 | pk (a : α0) (b : α1) : P0 a b → E2_1 P0
inductive E2_2 {α0 α1 : Type} (P0 P1 : α0 → α1 → Prop) : Prop
 | pk (a : α0) (b : α1) : P0 a b → P1 a b → E2_2 P0 P1
inductive E2_3 {α0 α1 : Type} (P0 P1 P2 : α0 → α1 → Prop) : Prop
 | pk (a : α0) (b : α1) : P0 a b → P1 a b → P2 a b → E2_3 P0 P1 P2
inductive E2_4 {α0 α1 : Type} (P0 P1 P2 P3 : α0 → α1 → Prop) : Prop
 | pk (a : α0) (b : α1) : P0 a b → P1 a b → P2 a b → P3 a b → E2_4 P0 P1 P2 P3
inductive E2_5 {α0 α1 : Type} (P0 P1 P2 P3 P4 : α0 → α1 → Prop) : Prop
 | pk (a : α0) (b : α1) : P0 a b → P1 a b → P2 a b → P3 a b → P4 a b → E2_5 P0 P1 P2 P3 P4
inductive E3_1 {α0 α1 α2 : Type} (P0 : α0 → α1 → α2 → Prop) : Prop
 | pk (a : α0) (b : α1) (c : α2) : P0 a b c → E3_1 P0
inductive E3_2 {α0 α1 α2 : Type} (P0 P1 : α0 → α1 → α2 → Prop) : Prop
 | pk (a : α0) (b : α1) (c : α2) : P0 a b c → P1 a b c → E3_2 P0 P1
inductive E3_3 {α0 α1 α2 : Type} (P0 P1 P2 : α0 → α1 → α2 → Prop) : Prop
 | pk (a : α0) (b : α1) (c : α2) : P0 a b c → P1 a b c → P2 a b c → E3_3 P0 P1 P2
inductive E3_4 {α0 α1 α2 : Type} (P0 P1 P2 P3 : α0 → α1 → α2 → Prop) : Prop
 | pk (a : α0) (b : α1) (c : α2) : P0 a b c → P1 a b c → P2 a b c → P3 a b c → E3_4 P0 P1 P2 P3
inductive E4_1 {α0 α1 α2 α3 : Type} (P0 : α0 → α1 → α2 → α3 → Prop) : Prop
 | pk (a : α0) (b : α1) (c : α2) (d : α3) : P0 a b c d → E4_1 P0
inductive E4_2 {α0 α1 α2 α3 : Type} (P0 P1 : α0 → α1 → α2 → α3 → Prop) : Prop
 | pk (a : α0) (b : α1) (c : α2) (d : α3) : P0 a b c d → P1 a b c d → E4_2 P0 P1
inductive E4_3 {α0 α1 α2 α3 : Type} (P0 P1 P2 : α0 → α1 → α2 → α3 → Prop) : Prop
 | pk (a : α0) (b : α1) (c : α2) (d : α3) : P0 a b c d → P1 a b c d → P2 a b c d → E4_3 P0 P1 P2
inductive E4_4 {α0 α1 α2 α3 : Type} (P0 P1 P2 P3 : α0 → α1 → α2 → α3 → Prop) : Prop
 | pk (a : α0) (b : α1) (c : α2) (d : α3) : P0 a b c d → P1 a b c d → P2 a b c d → P3 a b c d → E4_4 P0 P1 P2 P3
inductive E4_5 {α0 α1 α2 α3 : Type} (P0 P1 P2 P3 P4 : α0 → α1 → α2 → α3 → Prop) : Prop
 | pk (a : α0) (b : α1) (c : α2) (d : α3) : P0 a b c d → P1 a b c d → P2 a b c d → P3 a b c d → P4 a b c d → E4_5 P0 P1 P2 P3 P4
inductive E4_6 {α0 α1 α2 α3 : Type} (P0 P1 P2 P3 P4 P5 : α0 → α1 → α2 → α3 → Prop) : Prop
 | pk (a : α0) (b : α1) (c : α2) (d : α3) : P0 a b c d → P1 a b c d → P2 a b c d → P3 a b c d → P4 a b c d → P5 a b c d → E4_6 P0 P1 P2 P3 P4 P5
inductive E4_7 {α0 α1 α2 α3 : Type} (P0 P1 P2 P3 P4 P5 P6 : α0 → α1 → α2 → α3 → Prop) : Prop
 | pk (a : α0) (b : α1) (c : α2) (d : α3) : P0 a b c d → P1 a b c d → P2 a b c d → P3 a b c d → P4 a b c d → P5 a b c d → P6 a b c d → E4_7 P0 P1 P2 P3 P4 P5 P6
inductive E5_1 {α0 α1 α2 α3 α4 : Type} (P0 : α0 → α1 → α2 → α3 → α4 → Prop) : Prop
 | pk (a : α0) (b : α1) (c : α2) (d : α3) (e : α4) : P0 a b c d e → E5_1 P0
inductive E5_3 {α0 α1 α2 α3 α4 : Type} (P0 P1 P2 : α0 → α1 → α2 → α3 → α4 → Prop) : Prop
 | pk (a : α0) (b : α1) (c : α2) (d : α3) (e : α4) : P0 a b c d e → P1 a b c d e → P2 a b c d e → E5_3 P0 P1 P2
inductive E5_5 {α0 α1 α2 α3 α4 : Type} (P0 P1 P2 P3 P4 : α0 → α1 → α2 → α3 → α4 → Prop) : Prop
 | pk (a : α0) (b : α1) (c : α2) (d : α3) (e : α4) : P0 a b c d e → P1 a b c d e → P2 a b c d e → P3 a b c d e → P4 a b c d e → E5_5 P0 P1 P2 P3 P4
inductive E5_6 {α0 α1 α2 α3 α4 : Type} (P0 P1 P2 P3 P4 P5 : α0 → α1 → α2 → α3 → α4 → Prop) : Prop
 | pk (a : α0) (b : α1) (c : α2) (d : α3) (e : α4) : P0 a b c d e → P1 a b c d e → P2 a b c d e → P3 a b c d e → P4 a b c d e → P5 a b c d e → E5_6 P0 P1 P2 P3 P4 P5
inductive E6_4 {α0 α1 α2 α3 α4 α5 : Type} (P0 P1 P2 P3 : α0 → α1 → α2 → α3 → α4 → α5 → Prop) : Prop
 | pk (a : α0) (b : α1) (c : α2) (d : α3) (e : α4) (f : α5) : P0 a b c d e f → P1 a b c d e f → P2 a b c d e f → P3 a b c d e f → E6_4 P0 P1 P2 P3
inductive E6_6 {α0 α1 α2 α3 α4 α5 : Type} (P0 P1 P2 P3 P4 P5 : α0 → α1 → α2 → α3 → α4 → α5 → Prop) : Prop
 | pk (a : α0) (b : α1) (c : α2) (d : α3) (e : α4) (f : α5) : P0 a b c d e f → P1 a b c d e f → P2 a b c d e f → P3 a b c d e f → P4 a b c d e f → P5 a b c d e f → E6_6 P0 P1 P2 P3 P4 P5
inductive E7_5 {α0 α1 α2 α3 α4 α5 α6 : Type} (P0 P1 P2 P3 P4 : α0 → α1 → α2 → α3 → α4 → α5 → α6 → Prop) : Prop
 | pk (a : α0) (b : α1) (c : α2) (d : α3) (e : α4) (f : α5) (g : α6) : P0 a b c d e f g → P1 a b c d e f g → P2 a b c d e f g → P3 a b c d e f g → P4 a b c d e f g → E7_5 P0 P1 P2 P3 P4
inductive E8_2 {α0 α1 α2 α3 α4 α5 α6 α7 : Type} (P0 P1 : α0 → α1 → α2 → α3 → α4 → α5 → α6 → α7 → Prop) : Prop
 | pk (a : α0) (b : α1) (c : α2) (d : α3) (e : α4) (f : α5) (g : α6) (h : α7) : P0 a b c d e f g h → P1 a b c d e f g h → E8_2 P0 P1
inductive E8_4 {α0 α1 α2 α3 α4 α5 α6 α7 : Type} (P0 P1 P2 P3 : α0 → α1 → α2 → α3 → α4 → α5 → α6 → α7 → Prop) : Prop
 | pk (a : α0) (b : α1) (c : α2) (d : α3) (e : α4) (f : α5) (g : α6) (h : α7) : P0 a b c d e f g h → P1 a b c d e f g h → P2 a b c d e f g h → P3 a b c d e f g h → E8_4 P0 P1 P2 P3
open LCg
section
variable {prog : Program} {w : World} {A : Around} {E : VSP} {s : Shared} {h₀ : Heap} {L : Addr} {m : SoV} {env : Env}
noncomputable def Abv (news tl : Led) : Prop := ∀ q ∈ tl, ∀ p ∈ news, p.1 < q.1
noncomputable def OffW (ws : List Addr) (news : Led) : Prop := ∀ p ∈ news, p.1 ∉ ws
theorem cellsFrom_app : ∀ (names : NKs) (n : Nat) (acc : SAs), cellsFrom n names acc = cellsFrom n names [] ++ acc
 | [], _, _ => rfl
 | (x, k) :: r, n, acc => by
  unfold cellsFrom
  split
  · rw [cellsFrom_app r (n + 1) ((x, n) :: acc), cellsFrom_app r (n + 1) [(x, n)]]; simp
  · exact cellsFrom_app r n acc
structure CState (h : Heap) (C : Addr) (own : SAs) (m cm : SoV) : Prop where
 ns : h.Ns C m
 cells : ∀ p ∈ own, h.IsCell p.2 (cm p.1)
theorem CState.at {h h' : Heap} {C : Addr} {own : SAs} {m cm : SoV} (x : CState h C own m cm) (k : ∀ b ∈ C :: own.map (·.2), ∀ o, h.get? b = some o → h'.get? b = some o) : CState h' C own m cm :=
 ⟨x.ns.at' fun o e => k C List.mem_cons_self o e, fun p hp => let ⟨o, e, d⟩ := x.cells p hp; ⟨o, k _ (jC _ (List.mem_map_of_mem hp)) o e, d⟩⟩
theorem nfe_comp {scope : Scope} {cl : SAs} {Q : Env → Shared → Prop} {M : Model}
 (hQ : Q (newEnv scope s.heap.objs.size env.globals (cellsFrom (s.heap.objs.size + 1) scope.names [] ++ cl) env.qual none .none (some env) builtinsNs) { s with heap := pushCells (s.heap.push { cls := .type "dict", data := .dict #[] }) scope.names }) :
 wpAny M A (newFunctionEnv scope env.globals cl [] env.qual none .none (some env)) Q E s := by
 simp only [newFunctionEnv, Option.isSome_some, if_true]
 refine wpAny_bind (wpAny_alloc ?_)
 refine wpAny_bind (wpAny_layCells _ (fun name kind cells => by cases hkc : kind == NameKind.cell <;> simp [hkc]) _ _ _ _ ?_)
 rw [show ({ s with heap := s.heap.push { cls := .type "dict", data := .dict #[] } } : Shared).heap.objs.size = s.heap.objs.size + 1 from Heap.size_push .., cellsFrom_app]
 refine wpAny_bind (wpAny_pure (wpAny_pure ?_))
 exact hQ
theorem compLoop_any {elt target iter : Expr} {scope : Scope} {pos : Pos} {it acc : Value} {env : Env} {R : Result → Shared → Prop} (I : Nat → Shared → Prop)
 (turn : ∀ n s, I n s → wpAny (model prog w) A (pyNext it) (fun r s₁ => match r with
  | none => R (.ok .next) s₁
  | some v => wpAny (model prog w) A (letOwnedTupleGo target it v) (fun q_ s₁' => wpAny (model prog w) A (assign target env v) (fun q_ s₂ =>
   wpAny (model prog w) A (eval elt env) (fun x s₄ =>
    wpAny (model prog w) A (call (.builtin "list.append") [acc, x]) (fun q_ s₅ => ∃ m, m < n ∧ I m s₅) (notedBy (model prog w) A env fun e s' => R (.error e) s') s₄) (notedBy (model prog w) A env fun e s' => R (.error e) s') s₂)
   (notedBy (model prog w) A env fun e s' => R (.error e) s') s₁') (notedBy (model prog w) A env fun e s' => R (.error e) s') s₁) (notedBy (model prog w) A env fun e s' => R (.error e) s') s)
 (n : Nat) (h : I n s) : codeAny (model prog w) A (.compLoop (.ListComp elt [⟨target, iter, [], 0⟩] scope pos) 0 it acc env) R s := by
 refine codeAny_loop rfl I (fun n s hI => ?_) n h
 show wpAny _ A ((compTurn (.ListComp elt [⟨target, iter, [], 0⟩] scope pos) 0 it acc env).onRaise (fun x => do noteFrame x env; theTreesLotGoes x)) _ _ s
 refine wpAny_noted ?_
 rw [compTurn_list]
 refine wpAny_bind (wpAny_standAt (wpAny_bind (wpAny_mono (turn n s hI) (fun r s₁ h₁ => ?_) fun q_ q_ h' => h')))
 cases r with
 | none => exact wpAny_pure h₁
 | some v =>
  refine wpAny_bind (wpAny_mono h₁ (fun q_ s₁' h₁' => ?_) fun q_ q_ h' => h')
  refine wpAny_bind (wpAny_mono h₁' (fun q_ s₂ h₂ => wpAny_bind (wpAny_mono (wpAny_tests_nil (Q := fun ok s₃ => ok = true ∧ s₃ = s₂) ⟨rfl, rfl⟩) (fun ok s₃ h₃ => ?_) fun q_ q_ h' => h')) fun q_ q_ h' => h')
  obtain ⟨rfl, rfl⟩ := h₃
  exact wpAny_bind (wpAny_bind (wpAny_mono h₂ (fun x s₄ h₄ => wpAny_bind (wpAny_mono h₄ (fun q_ s₅ h₅ => wpAny_pure (wpAny_pure ⟨rfl, h₅⟩)) fun q_ q_ h' => h')) fun q_ q_ h' => h'))
noncomputable def AsgOk (prog : Program) (w : World) (A : Around) (target : Expr) (cenv : Env) (C : Addr) (own : SAs) (pre : Value → Heap → Prop) (asg : Value → Heap → (SoV) → (SoV) → Prop) : Prop :=
 ∀ (v : Value) (s : Shared) (m cm : SoV) (Q : Unit → Shared → Prop) (E : VSP), pre v s.heap → CState s.heap C own m cm →
  (∀ h' tk' m' cm', CState h' C own m' cm' → asg v s.heap m' cm' → (∀ b o, b ∉ C :: own.map (·.2) → s.heap.get? b = some o → h'.get? b = some o) → Q () { s with heap := h', toks := tk' }) →
  wpAny (model prog w) A (assign target cenv v) Q E s
noncomputable def LcTurn (prog : Program) (w : World) (A : Around) (h₀ : Heap) (L : Addr) (m : SoV) (env : Env) (elt : Expr) (scope : Scope) (cl : SAs) (own : Addr → SAs) (mus : List Addr) (news : Led)
 (P : Nat → Value → Heap → Prop) (asg : Value → Heap → (SoV) → (SoV) → Prop) (J : Nat → List Value → Led → Led → Prop) (n : Nat) (s : Shared) : Prop :=
 ∀ (i : Nat) (v : Value) (ys : List Value) (mu tl led : Led) (C : Addr) (oC : Obj) (os : Led) (m₂ cm₂ : SoV) (g h₁ : Heap) (tk : Nat) (E' : VSP),
  i < n → P i v g → asg v g m₂ cm₂ → (∀ p ∈ mu ++ (tl ++ news), g.get? p.1 = some p.2) → J i ys mu tl → Abv news tl → mu.map (·.1) = mus → (∀ p ∈ tl ++ news, p ∈ led) → (∀ p ∈ led, p.1 ∉ mus) → (C, oC) ∈ led → NsObj oC m₂ → CellsAre cm₂ (own C) os → (∀ p ∈ os, p ∈ led) →
  Fr h₀ L h₁ m → News h₀ L h₁ (mu ++ led) →
  wpAny (model prog w) A (eval elt (compEnvC scope (own C ++ cl) C env)) (fun y s₂ => E4_6 (fun h' tk' mu' tl' => s₂ = { s with heap := h', toks := tk' }) (fun h' tk' mu' tl' => Fr h₀ L h' m) (fun h' tk' mu' tl' => News h₀ L h' (mu' ++ (tl' ++ led))) (fun h' tk' mu' tl' => Abv (mu ++ led) tl') (fun h' tk' mu' tl' => mu'.map (·.1) = mus) (fun h' tk' mu' tl' => J (i + 1) (ys ++ [y]) mu' (tl' ++ tl))) E' { s with heap := h₁, toks := tk }
theorem cellsAre_of {h : Heap} {cm : SoV} : ∀ {own : SAs}, (∀ p ∈ own, h.IsCell p.2 (cm p.1)) → E1_3 (fun os => CellsAre cm own os) (fun os => os.map (·.1) = own.map (·.2)) (fun os => ∀ p ∈ os, h.get? p.1 = some p.2)
 | [], _ => ⟨[], .nil, rfl, fun q_ hp => nomatch hp⟩
 | (x, c) :: r, hx => by
  obtain ⟨os, h1, h2, h3⟩ := cellsAre_of (own := r) fun p hp => hx p (jC _ hp)
  obtain ⟨o, e, d⟩ := hx (x, c) List.mem_cons_self
  exact ⟨(c, o) :: os, .cons d h1, by simp [h2], fun p hp => by
   rcases jX hp with rfl | hp
   · exact e
   · exact h3 p hp⟩
inductive LcI (h₀ : Heap) (L : Addr) (m : SoV) (C : Addr) (own : SAs) (D : Addr) (wr : List Addr) (news : Led) (mus : List Addr) (J : Nat → List Value → Led → Led → Prop) (n : Nat) (St : Nat → Heap → Prop) (s : Shared) (k : Nat) (s' : Shared) : Prop
 | pk (h' : Heap) (tk' i : Nat) (ys : List Value) (m' cm' : SoV) (mu' tl : Led) : s' = { s with heap := h', toks := tk' } → i ≤ n → k = n + 1 - i → ys.length = i → St i h' → Fr h₀ L h' m → CState h' C own m' cm' → h'.get? D = some (lst ys) → News h₀ L h' (mu' ++ (tl ++ news)) → Abv news tl →
  OffW (wr ++ (C :: own.map (·.2)) ++ [D]) (mu' ++ (tl ++ news)) → (∀ p ∈ tl ++ news, p.1 ∉ mus) → mu'.map (·.1) = mus → J i ys mu' tl → LcI h₀ L m C own D wr news mus J n St s k s'
theorem lc_loop {elt iter target : Expr} {scope : Scope} {cl : SAs} {pos : Pos} {R : Result → Shared → Prop} {I D C : Addr} {fp wr : List Addr} {n : Nat} {P Md : Nat → Value → Heap → Prop} {St : Nat → Heap → Prop} {own : Addr → SAs} {pre : Value → Heap → Prop} {asg : Value → Heap → (SoV) → (SoV) → Prop}
 {news mu : Led} {mus : List Addr} {J : Nat → List Value → Led → Led → Prop} {m₁ cm₁ : SoV} {tk : Nat} {h : Heap}
 (W : KTurns prog w A target I fp wr n P Md St) (hsz : n ≤ sizeLine) (hpre : ∀ i v h, P i v h → pre v h) (ha : AsgOk prog w A target (compEnvC scope (own C ++ cl) C env) C (own C) pre asg)
 (hLf : L ∉ fp) (hfo : ∀ b ∈ fp, h₀.get? b = none) (hwo : ∀ i h, St i h → ∀ b ∈ fp, ∃ o, h.get? b = some o) (hfm : ∀ b ∈ fp, b ∉ mus)
 (hCf : ∀ b ∈ C :: (own C).map (·.2), b ∉ fp ∧ b ≠ D ∧ b ≠ L ∧ h₀.get? b = none) (hDf : D ∉ fp) (hDL : D ≠ L) (hD₀ : h₀.get? D = none)
 (off : OffW (wr ++ (C :: (own C).map (·.2)) ++ [D]) (mu ++ news)) (mo : ∀ p ∈ news, p.1 ∉ mus) (hm : mu.map (·.1) = mus)
 (hst : St 0 h) (F : Fr h₀ L h m) (N : News h₀ L h (mu ++ news)) (hD : h.get? D = some (lst [])) (hC : CState h C (own C) m₁ cm₁) (h0 : J 0 [] mu [])
 (step : LcTurn prog w A h₀ L m env elt scope cl own mus news P asg J n s)
 (hR : ∀ h' tk' m' cm' ys mu' tl, Fr h₀ L h' m → News h₀ L h' (mu' ++ (tl ++ news)) → h'.get? D = some (lst ys) → CState h' C (own C) m' cm' → Abv news tl → OffW (wr ++ (C :: (own C).map (·.2)) ++ [D]) (mu' ++ (tl ++ news)) → (∀ p ∈ tl ++ news, p.1 ∉ mus) → mu'.map (·.1) = mus → J n ys mu' tl → R (.ok .next) { s with heap := h', toks := tk' }) :
 codeAny (model prog w) A (.compLoop (.ListComp elt [⟨target, iter, [], 0⟩] scope pos) 0 (.ref I) (.ref D) (compEnvC scope (own C ++ cl) C env)) R { s with heap := h, toks := tk } := by
 have old : ∀ b o, h₀.get? b = some o → b ∉ wr := fun b o e hb => by rw [hfo b (W.sub _ hb)] at e; cases e
 have hLw : L ∉ wr := fun x => hLf (W.sub _ x)
 have hDw : D ∉ wr := fun x => hDf (W.sub _ x)
 have hCw : ∀ b ∈ C :: (own C).map (·.2), b ∉ wr := fun b hb x => (hCf b hb).1 (W.sub _ x)
 refine compLoop_any (LcI h₀ L m C (own C) D wr news mus J n St s) ?_ (n + 1)
  ⟨h, tk, 0, [], m₁, cm₁, mu, [], rfl, Nat.zero_le _, rfl, rfl, hst, F, hC, hD, N, (fun q_ hq => nomatch hq), off, mo, hm, h0⟩
 rintro k s' ⟨h', tk', i, ys, m', cm', mu', tl, rfl, hi, rfl, hyl, hst', F', hC', hD', N', ab, off', mo', hm', hJ⟩
 have mem_ws : ∀ {p}, p ∈ mu' ++ (tl ++ news) → p.1 ∉ wr ∧ p.1 ∉ C :: (own C).map (·.2) ∧ p.1 ≠ D := fun {p} hp => by
  have := off' p hp
  simp only [List.mem_append, not_or, List.mem_singleton] at this
  exact ⟨this.1.1, this.1.2, this.2⟩
 by_cases hlt : i < n
 · refine W.item i _ _ _ hlt hst' fun v h₁ tk₁ hMd hk₁ => ?_
   refine W.go i v _ _ _ hMd fun h₂ hP hst₂ hk₂ => ?_
   have hk12 : ∀ b o, b ∉ wr → h'.get? b = some o → h₂.get? b = some o := fun b o hb e => hk₂ b o hb (hk₁ b o hb e)
   have hC₂ := hC'.at (h' := h₂) fun b hb o e => hk12 b o (hCw b hb) e
   refine ha v { s with heap := h₂, toks := tk₁ } _ _ _ _ (hpre _ _ _ hP) hC₂ fun h₃ tk₃ m₃ cm₃ hC₃ hasg hk₃ => ?_
   have F₃ : Fr h₀ L h₃ m := ⟨F'.ns.at' fun o e => hk₃ L o (fun x => (hCf L x).2.2.1 rfl) (hk12 L o hLw e), fun b o e => hk₃ b o (fun x => by rw [(hCf b x).2.2.2] at e; cases e) (hk12 b o (old b o e) (F'.keep b o e)), F'.above⟩
   have hst₃ : St (i + 1) h₃ := W.frame _ _ _ hst₂ fun b hb o e => hk₃ b o (fun x => (hCf b x).1 hb) e
   obtain ⟨oC, heC, hoC⟩ := ns_obj hC₃.ns
   obtain ⟨os, hos, hosm, hose⟩ := cellsAre_of hC₃.cells
   have hD₃ : h₃.get? D = some (lst ys) := hk₃ D _ (fun x => (hCf D x).2.1 rfl) (hk12 D _ hDw hD')
   let its := itsOf fp h₃
   have hits : its.map (·.1) = fp := itsOf_map (hwo _ _ hst₃)
   let led := its ++ ((C, oC) :: (os ++ ((D, lst ys) :: (tl ++ news))))
   have hmu : ∀ p ∈ mu' ++ (tl ++ news), h₂.get? p.1 = some p.2 := fun p hp => hk12 _ _ (mem_ws hp).1 (N' p hp).1
   have osIn : ∀ p ∈ os, p.1 ∈ C :: (own C).map (·.2) := fun p hp => jC _ (hosm ▸ List.mem_map_of_mem hp)
   have N₃ : News h₀ L h₃ (mu' ++ led) := fun p hp => by
    rcases jA hp with hp | hp
    · have q := mem_ws (jL _ hp)
      exact ⟨hk₃ _ _ q.2.1 (hmu p (jL _ hp)), (N' p (jL _ hp)).2⟩
    · rcases jA hp with hp | hp
      · have q := itsOf_at hp
        exact ⟨q.2, fun e => hLf (e ▸ q.1), hfo _ q.1⟩
      · rcases jX hp with rfl | hp
        · exact ⟨heC, (hCf C List.mem_cons_self).2.2⟩
        · rcases jA hp with hp | hp
          · exact ⟨hose p hp, (hCf _ (osIn p hp)).2.2⟩
          · rcases jX hp with rfl | hp
            · exact ⟨hD₃, hDL, hD₀⟩
            · have q := mem_ws (jR _ hp)
              exact ⟨hk₃ _ _ q.2.1 (hmu p (jR _ hp)), (N' p (jR _ hp)).2⟩
   have mus_of : ∀ x ∈ mus, ∃ p ∈ mu', p.1 = x := fun x hx => by rw [← hm'] at hx; exact List.mem_map.mp hx
   have moL : ∀ p ∈ led, p.1 ∉ mus := fun p hp hx => by
    rcases jA hp with hp | hp
    · exact hfm _ (itsOf_at hp).1 hx
    · obtain ⟨z, hz, ez⟩ := mus_of _ hx
      have q := mem_ws (jL _ hz)
      rcases jX hp with rfl | hp
      · exact q.2.1 (ez ▸ List.mem_cons_self)
      · rcases jA hp with hp | hp
        · exact q.2.1 (ez ▸ osIn p hp)
        · rcases jX hp with rfl | hp
          · exact q.2.2 ez
          · exact mo' p hp hx
   have subL : ∀ p ∈ tl ++ news, p ∈ led := fun p hp => jR _ (jC _ (jR _ (jC _ hp)))
   refine wpAny_mono (step i v ys mu' tl led C oC os m₃ cm₃ h₂ h₃ tk₃ _ hlt hP hasg hmu hJ ab hm' subL moL (jR _ List.mem_cons_self) hoC hos (fun p hp => jR _ (jC _ (jL _ hp))) F₃ N₃) (fun y s₄ h₄ => ?_) fun q_ q_ e => e
   obtain ⟨h₄, tk₄, mu₄, tl₄, rfl, F₄, N₄, ab₄, hm₄, hJ₄⟩ := h₄
   have NL : ∀ p ∈ led, h₄.get? p.1 = some p.2 := fun p hp => (N₄ p (jR _ (jR _ hp))).1
   have memD : (D, lst ys) ∈ led := jR _ (jC _ (jR _ List.mem_cons_self))
   have hst₄ : St (i + 1) h₄ := W.frame _ _ _ hst₃ fun b hb o e => by
    obtain ⟨p, hp, ep⟩ := List.mem_map.mp (hits.symm ▸ hb : b ∈ its.map (·.1))
    have h1 := NL p (jL _ hp)
    have h2 := (itsOf_at hp).2
    rw [ep] at h1 h2
    rw [h1, ← h2, e]
   have hC₄ : CState h₄ C (own C) m₃ cm₃ := hC₃.at fun b hb o e => by
    rcases jX hb with rfl | hb
    · rw [heC] at e; cases e
      exact NL (b, oC) (jR _ List.mem_cons_self)
    · obtain ⟨p, hp, ep⟩ := List.mem_map.mp (hosm.symm ▸ hb : b ∈ os.map (·.1))
      have h1 := NL p (jR _ (jC _ (jL _ hp)))
      have h2 := hose p hp
      rw [ep] at h1 h2
      rw [h1, ← h2, e]
   refine append_at (hsz := by show ys.toArray.size ≤ sizeLine; rw [List.size_toArray, hyl]; exact Nat.le_trans hi hsz) (NL _ memD) fun h₅ hs₅ hD₅ => ?_
   have tl4 : ∀ p ∈ tl₄, p.1 ∉ fp ∧ p.1 ∉ C :: (own C).map (·.2) ∧ p.1 ≠ D := fun p hp => ⟨fun x => by
    obtain ⟨q, hq, eq⟩ := List.mem_map.mp (hits.symm ▸ x : p.1 ∈ its.map (·.1))
    exact absurd (ab₄ p hp q (jR _ (jL _ hq))) (by rw [eq]; exact Nat.lt_irrefl _),
    fun x => by
     rcases jX x with x | x
     · exact absurd (ab₄ p hp (C, oC) (jR _ (jR _ List.mem_cons_self))) (by rw [x]; exact Nat.lt_irrefl _)
     · obtain ⟨q, hq, eq⟩ := List.mem_map.mp (hosm.symm ▸ x : p.1 ∈ os.map (·.1))
       exact absurd (ab₄ p hp q (jR _ (jR _ (jC _ (jL _ hq))))) (by rw [eq]; exact Nat.lt_irrefl _),
    fun x => absurd (ab₄ p hp (D, lst ys) (jR _ memD)) (by rw [x]; exact Nat.lt_irrefl _)⟩
   have mu4 : ∀ p ∈ mu₄, p.1 ∈ mus := fun p hp => hm₄ ▸ List.mem_map_of_mem hp
   have off₅ : OffW (wr ++ (C :: (own C).map (·.2)) ++ [D]) (mu₄ ++ ((tl₄ ++ tl) ++ news)) := fun p hp => by
    have z : p.1 ∉ wr ∧ p.1 ∉ C :: (own C).map (·.2) ∧ p.1 ≠ D := by
     rcases jA hp with hp | hp
     · obtain ⟨q, hq, eq⟩ := mus_of _ (mu4 p hp)
       rw [← eq]; exact mem_ws (jL _ hq)
     · rw [List.append_assoc] at hp
       rcases jA hp with hp | hp
       · exact ⟨fun x => (tl4 p hp).1 (W.sub _ x), (tl4 p hp).2⟩
       · exact mem_ws (jR _ hp)
    simp only [List.mem_append, not_or, List.mem_singleton]
    exact ⟨⟨z.1, z.2.1⟩, z.2.2⟩
   have mo₅ : ∀ p ∈ (tl₄ ++ tl) ++ news, p.1 ∉ mus := fun p hp => by
    rw [List.append_assoc] at hp
    rcases jA hp with hp | hp
    · intro x
      obtain ⟨q, hq, eq⟩ := mus_of _ x
      exact absurd (ab₄ p hp q (jL _ hq)) (by rw [eq]; exact Nat.lt_irrefl _)
    · exact mo' p hp
   have ab₅ : Abv news (tl₄ ++ tl) := fun q hq p hp => by
    rcases jA hq with hq | hq
    · exact ab₄ q hq p (jR _ (subL p (jR _ hp)))
    · exact ab q hq p hp
   have notD : ∀ p ∈ mu₄ ++ ((tl₄ ++ tl) ++ news), p.1 ≠ D := fun p hp x => by
    have := off₅ p hp
    simp only [List.mem_append, not_or, List.mem_singleton] at this
    exact this.2 x
   refine ⟨n + 1 - (i + 1), Nat.sub_lt_sub_left (Nat.lt_succ_of_lt hlt) (Nat.lt_succ_self i), h₅, tk₄, i + 1, ys ++ [y], _, _, mu₄, tl₄ ++ tl, rfl, hlt, rfl, by rw [List.length_append, List.length_singleton, hyl], W.frame _ _ _ hst₄ fun b hb o e => hs₅.extBut b o (fun q => hDf (q ▸ hb)) e, F₄.change hs₅ hDL hD₀,
    hC₄.at fun b hb o e => hs₅.extBut b o (hCf b hb).2.1 e, hD₅.trans (congrArg some (lst_snoc ys y)), fun p hp => ?_, ab₅, off₅, mo₅, hm₄, hJ₄⟩
   have q : p ∈ mu₄ ++ (tl₄ ++ led) := by
    rcases jA hp with hp | hp
    · exact jL _ hp
    · rw [List.append_assoc] at hp
      rcases jA hp with hp | hp
      · exact jR _ (jL _ hp)
      · exact jR _ (jR _ (subL p hp))
   exact ⟨hs₅.extBut _ _ (notD p hp) (N₄ p q).1, (N₄ p q).2⟩
 · obtain rfl : i = n := Nat.le_antisymm hi (Nat.not_lt.mp hlt)
   refine W.done _ _ _ hst' fun h₂ tk₂ hk₂ => ?_
   refine hR h₂ tk₂ m' cm' ys mu' tl ⟨F'.ns.at' fun o e => hk₂ _ o hLw e, fun b o e => hk₂ b o (old b o e) (F'.keep b o e), F'.above⟩ (fun p hp => ⟨hk₂ _ _ (mem_ws hp).1 (N' p hp).1, (N' p hp).2⟩) (hk₂ D _ hDw hD') (hC'.at fun b hb o e => hk₂ b o (hCw b hb) e) ab off' mo' hm' hJ
end
section
variable {prog : Program} {w : World} {A : Around} {E : VSP} {s : Shared} {h₀ : Heap} {L : Addr} {m : SoV} {env : Env}
theorem lc_block {elt iter target : Expr} {scope : Scope} {cl : SAs} {pos : Pos} {s₂ : Shared} {I : Addr} {fp wr : List Addr} {n : Nat} {P Md : Nat → Value → Heap → Prop} {St : Nat → Heap → Prop} {own : Addr → SAs} {pre : Value → Heap → Prop} {asg : Value → Heap → (SoV) → (SoV) → Prop}
 {news mu : Led} {mus : List Addr} {J : Nat → List Value → Led → Led → Prop} {RR : Value → Addr → Result → Shared → Prop}
 (W : KTurns prog w A target I fp wr n P Md St) (self : ∀ i (s : Shared) (Q : VSP) (E : VSP), St i s.heap → Q (.ref I) s → wpAny (model prog w) A (pyIter (.ref I)) Q E s)
 (hsz : n ≤ sizeLine) (hpre : ∀ i v h, P i v h → pre v h) (hown : ∀ C, cellsFrom (C + 1) scope.names [] = own C) (ha : ∀ C, AsgOk prog w A target (compEnvC scope (own C ++ cl) C env) C (own C) pre asg)
 (hLf : L ∉ fp) (hfo : ∀ b ∈ fp, h₀.get? b = none) (hwo : ∀ i h, St i h → ∀ b ∈ fp, ∃ o, h.get? b = some o) (hfm : ∀ b ∈ fp, b ∉ mus)
 (off : OffW wr (mu ++ news)) (mo : ∀ p ∈ news, p.1 ∉ mus) (hm : mu.map (·.1) = mus)
 (hst : St 0 s₂.heap) (F : Fr h₀ L s₂.heap m) (N : News h₀ L s₂.heap (mu ++ news)) (h0 : J 0 [] mu [])
 (step : LcTurn prog w A h₀ L m env elt scope cl own mus news P asg J n s₂)
 (hRR : ∀ D C h' tk' m' ys mu' tl, Fr h₀ L h' m → News h₀ L h' (mu' ++ ((D, lst ys) :: (tl ++ news))) → Abv news ((D, lst ys) :: tl) → (∀ p ∈ (D, lst ys) :: (tl ++ news), p.1 ∉ mus) → (∀ p ∈ tl ++ news, p.1 ≠ D) → h'.Ns C m' → h₀.get? C = none → C ≠ L → (∀ p ∈ mu' ++ ((D, lst ys) :: (tl ++ news)), p.1 ≠ C) → mu'.map (·.1) = mus → J n ys mu' tl → RR (.ref D) C (.ok .next) { s₂ with heap := h', toks := tk' }) :
 wpAny (model prog w) A (newList []) (fun acc s₃ => wpAny (model prog w) A (newFunctionEnv scope env.globals cl [] env.qual none .none (some env)) (fun cenv s₄ =>
  codeAny (model prog w) A (.compStart (.ListComp elt [⟨target, iter, [], 0⟩] scope pos) 0 (.ref I) acc { cenv with scope := relabel scope env }) (RR acc cenv.locals) s₄) E s₃) E s₂ := by
 refine wpAny_newObj_type (nfe_comp ?_)
 have hC : (s₂.heap.push { cls := .type "list", dict := none, data := .seq ([] : List Value).toArray }).objs.size = s₂.heap.objs.size + 1 := by rw [Heap.size_push]
 dsimp only
 generalize hH : (s₂.heap.push { cls := .type "list", dict := none, data := .seq ([] : List Value).toArray }) = H at hC ⊢
 have okk := cellsFrom_ok scope.names (H.push { cls := .type "dict", data := .dict #[] }) (H.objs.size + 1) [] ⟨fun q_ q_ hm => (nomatch hm), List.Pairwise.nil⟩ (by rw [Heap.size_push]; exact Nat.le_refl _)
 rw [Heap.size_push, hown] at okk
 rw [hown]
 have keep : ∀ b o, s₂.heap.get? b = some o → (pushCells (H.push { cls := .type "dict", data := .dict #[] }) scope.names).get? b = some o := fun b o e => pushCells_keeps _ _ b o (Heap.get?_push_of_some _ (hH ▸ Heap.get?_push_of_some _ e))
 have hD : (pushCells (H.push { cls := .type "dict", data := .dict #[] }) scope.names).get? s₂.heap.objs.size = some (lst []) := pushCells_keeps _ _ _ _ (Heap.get?_push_of_some _ (hH ▸ Heap.get?_push_size _ rfl))
 have hNs : (pushCells (H.push { cls := .type "dict", data := .dict #[] }) scope.names).Ns H.objs.size (fun q_ => none) := (Heap.Ns.new H (.type "dict")).keeps (pushCells_keeps _ _)
 have fresh₀ : ∀ a, s₂.heap.objs.size ≤ a → h₀.get? a = none := fun a ha => by
  cases e : h₀.get? a with
  | none => rfl
  | some o' => exact absurd (Heap.lt_size (F.keep a o' e)) (Nat.not_lt.mpr ha)
 have hfp : ∀ b ∈ fp, b < s₂.heap.objs.size := fun b hb => by obtain ⟨o, e⟩ := hwo _ _ hst b hb; exact Heap.lt_size e
 have hLlt : L < s₂.heap.objs.size := F.ns.lt
 have hCs : ∀ b ∈ H.objs.size :: (own H.objs.size).map (·.2), s₂.heap.objs.size + 1 ≤ b := fun b hb => by
  rcases jX hb with rfl | hb
  · exact Nat.le_of_eq hC.symm
  · obtain ⟨p, hp, rfl⟩ := List.mem_map.mp hb
    have := (okk.empty p.1 p.2 hp).2
    rw [hC] at this
    exact Nat.le_of_succ_le this
 have hCf : ∀ b ∈ H.objs.size :: (own H.objs.size).map (·.2), b ∉ fp ∧ b ≠ s₂.heap.objs.size ∧ b ≠ L ∧ h₀.get? b = none := fun b hb => by
  have := hCs b hb
  exact ⟨fun x => absurd (hfp b x) (Nat.not_lt.mpr (Nat.le_of_succ_le this)), Nat.ne_of_gt this, fun e => by rw [e] at this; exact absurd hLlt (Nat.not_lt.mpr (Nat.le_of_succ_le this)), fresh₀ b (Nat.le_of_succ_le this)⟩
 have nlt : ∀ p ∈ mu ++ news, p.1 < s₂.heap.objs.size := fun p hp => Heap.lt_size (N p hp).1
 have hst' := W.frame 0 _ _ hst fun b q_ o e => keep b o e
 have loop : codeAny (model prog w) A (.compLoop (.ListComp elt [⟨target, iter, [], 0⟩] scope pos) 0 (.ref I) (.ref s₂.heap.objs.size) (compEnvC scope (own H.objs.size ++ cl) H.objs.size env)) (RR (.ref s₂.heap.objs.size) H.objs.size)
  { s₂ with heap := pushCells (H.push { cls := .type "dict", data := .dict #[] }) scope.names, toks := s₂.toks } := by
  refine lc_loop W hsz hpre (ha _) hLf hfo hwo hfm hCf (fun x => Nat.lt_irrefl _ (hfp _ x)) (Nat.ne_of_gt hLlt) (fresh₀ _ (Nat.le_refl _)) (fun p hp => ?_) mo hm hst' (F.keeps keep) (N.grown keep) hD (show CState _ _ _ (fun q_ => none) (fun q_ => none) from ⟨hNs, fun p hp => (okk.empty p.1 p.2 hp).1⟩) h0 step
   fun h' tk' m' cm' ys mu' tl F' N' hD' hC' ab' off' mo' hm' hJ => ?_
  · simp only [List.mem_append, not_or, List.mem_singleton]
    exact ⟨⟨off p hp, fun x => absurd (hCs _ x) (Nat.not_le.mpr (Nat.lt_succ_of_lt (nlt p hp)))⟩, Nat.ne_of_lt (nlt p hp)⟩
  · have z : ∀ p ∈ mu' ++ (tl ++ news), p.1 ≠ H.objs.size ∧ p.1 ≠ s₂.heap.objs.size := fun p hp => by
     have := off' p hp
     simp only [List.mem_append, not_or, List.mem_cons] at this
     exact ⟨this.1.2.1, this.2.1⟩
    have mus_of : ∀ x ∈ mus, ∃ p ∈ mu', p.1 = x := fun x hx => by rw [← hm'] at hx; exact List.mem_map.mp hx
    refine hRR _ _ h' tk' m' ys mu' tl F' (fun p hp => ?_) (fun q hq p hp => ?_) (fun p hp => ?_) (fun p hp => (z p (jR _ hp)).2) hC'.ns (hCf _ List.mem_cons_self).2.2.2 (hCf _ List.mem_cons_self).2.2.1 (fun p hp => ?_) hm' hJ
    · rcases jA hp with hp | hp
      · exact N' p (jL _ hp)
      · rcases jX hp with rfl | hp
        · exact ⟨hD', Nat.ne_of_gt hLlt, fresh₀ _ (Nat.le_refl _)⟩
        · exact N' p (jR _ hp)
    · rcases jX hq with rfl | hq
      · exact nlt p (jR _ hp)
      · exact ab' q hq p hp
    · rcases jX hp with rfl | hp
      · intro x
        obtain ⟨q, hq, eq⟩ := mus_of _ x
        exact (z q (jL _ hq)).2 eq
      · exact mo' p hp
    · rcases jA hp with hp | hp
      · exact (z p (jL _ hp)).1
      · rcases jX hp with rfl | hp
        · exact Ne.symm (hCf _ List.mem_cons_self).2.1
        · exact (z p (jR _ hp)).1
 exact codeAny_compStart_list loop (self 0 _ _ _ hst' loop)
inductive CompAt (prog : Program) (w : World) (A : Around) (h₀ : Heap) (L : Addr) (m : SoV) (env : Env) (elt target : Expr) (scope : Scope) (cl : SAs) (own : Addr → SAs) (pre : Value → Heap → Prop) (asg : Value → Heap → (SoV) → (SoV) → Prop)
 (Fin : Shared → Nat → (Nat → List Value → Led → Led → Prop) → List Addr → Led → Prop) (it : Value) (s₂ : Shared) : Prop
 | pk (I : Addr) (fp wr : List Addr) (n : Nat) (P Md : Nat → Value → Heap → Prop) (St : Nat → Heap → Prop) (news mu : Led) (mus : List Addr) (J : Nat → List Value → Led → Led → Prop) :
  it = .ref I → KTurns prog w A target I fp wr n P Md St → (∀ i (s : Shared) (Q : VSP) (E : VSP), St i s.heap → Q (.ref I) s → wpAny (model prog w) A (pyIter (.ref I)) Q E s) → n ≤ sizeLine → (∀ i v h, P i v h → pre v h) →
  L ∉ fp → (∀ b ∈ fp, h₀.get? b = none) → (∀ i h, St i h → ∀ b ∈ fp, ∃ o, h.get? b = some o) → (∀ b ∈ fp, b ∉ mus) → OffW wr (mu ++ news) → (∀ p ∈ news, p.1 ∉ mus) → mu.map (·.1) = mus → St 0 s₂.heap → Fr h₀ L s₂.heap m → News h₀ L s₂.heap (mu ++ news) → J 0 [] mu [] →
  LcTurn prog w A h₀ L m env elt scope cl own mus news P asg J n s₂ → Fin s₂ n J mus news → CompAt prog w A h₀ L m env elt target scope cl own pre asg Fin it s₂
noncomputable def FinLE (h₀ : Heap) (L : Addr) (m : SoV) (Q : VSP) (s : Shared) (n : Nat) (J : Nat → List Value → Led → Led → Prop) (mus : List Addr) (news : Led) : Prop :=
 ∀ D h' tk' ys mu' tl, Fr h₀ L h' m → News h₀ L h' (mu' ++ ((D, lst ys) :: (tl ++ news))) → Abv news ((D, lst ys) :: tl) → (∀ p ∈ (D, lst ys) :: (tl ++ news), p.1 ∉ mus) → (∀ p ∈ tl ++ news, p.1 ≠ D) → mu'.map (·.1) = mus → J n ys mu' tl → Q (.ref D) { s with heap := h', toks := tk' }
noncomputable def FinLA (h₀ : Heap) (L : Addr) (m : SoV) (y : Str) (Q : Flow → Shared → Prop) (s : Shared) (n : Nat) (J : Nat → List Value → Led → Led → Prop) (mus : List Addr) (news : Led) : Prop :=
 ∀ D h' tk' ys mu' tl, Fr h₀ L h' (fun z => if z = y then some (.ref D) else m z) → News h₀ L h' (mu' ++ ((D, lst ys) :: (tl ++ news))) → Abv news ((D, lst ys) :: tl) → (∀ p ∈ (D, lst ys) :: (tl ++ news), p.1 ∉ mus) → (∀ p ∈ tl ++ news, p.1 ≠ D) → mu'.map (·.1) = mus → J n ys mu' tl → Q .next { s with heap := h', toks := tk' }
theorem lc_eval {elt iter target : Expr} {scope : Scope} {cl : SAs} {pos : Pos} {own : Addr → SAs} {pre : Value → Heap → Prop} {asg : Value → Heap → (SoV) → (SoV) → Prop} {Q : VSP} (_F₀ : Fr h₀ L s.heap m)
 (hclos : closureFor scope env = pure cl) (hkind : scope.kind = .function) (hnames : ∀ y ∈ scope.names, y.2 = .local → scope.names.lookup y.1 = some .local) (hown : ∀ C, cellsFrom (C + 1) scope.names [] = own C)
 (ha : ∀ C, AsgOk prog w A target (compEnvC scope (own C ++ cl) C env) C (own C) pre asg)
 (h : wpAny (model prog w) A (eval iter env) (fun xv s₁ => wpAny (model prog w) A (pyIter xv) (CompAt prog w A h₀ L m env elt target scope cl own pre asg (FinLE h₀ L m Q)) E s₁) E s)
 (hs : ∀ x, foldedSetIterable iter env x = pure x) :
 wpAny (model prog w) A (eval (.ListComp elt [⟨target, iter, [], 0⟩] scope pos) env) Q E s := by
 rw [eval_ListComp]
 refine wpAny_comprehension_free (use := none) rfl hs hclos hkind hnames (wpAny_mono h (fun xv s₁ h₁ => wpAny_mono h₁ (fun it s₂ h₂ => ?_) fun q_ q_ e => e) fun q_ q_ e => e)
 obtain ⟨I, fp, wr, n, P, Md, St, news, mu, mus, J, rfl, W, self, hsz, hpre, hLf, hfo, hwo, hfm, off, mo, hm, hst, F, N, h0, step, fin⟩ := h₂
 refine lc_block W self hsz hpre hown ha hLf hfo hwo hfm off mo hm hst F N h0 step fun D C h' tk' m' ys mu' tl F' N' ab hmo hD hn hC₀ hCL hC hm' hJ => ?_
 exact ⟨m', hn, fun h'' hs'' => fin D h'' tk' ys mu' tl (F'.change hs'' hCL hC₀) (fun p hp => ⟨hs''.extBut _ _ (hC p hp) (N' p hp).1, (N' p hp).2⟩) ab hmo hD hm' hJ⟩
theorem lc_assign {elt iter target : Expr} {scope : Scope} {cl : SAs} {pos spos py : Pos} {y : Str} {own : Addr → SAs} {pre : Value → Heap → Prop} {asg : Value → Heap → (SoV) → (SoV) → Prop} {Q : Flow → Shared → Prop} (_F₀ : Fr h₀ L s.heap m)
 (hLe : env.locals = L) (hsw : swapsWith (.ListComp elt [⟨target, iter, [], 0⟩] scope pos) (some (.Name y py)) spos.line env = pure true)
 (hclos : closureFor scope env = pure cl) (hkind : scope.kind = .function) (hnames : ∀ y ∈ scope.names, y.2 = .local → scope.names.lookup y.1 = some .local) (hown : ∀ C, cellsFrom (C + 1) scope.names [] = own C)
 (ha : ∀ C, AsgOk prog w A target (compEnvC scope (own C ++ cl) C env) C (own C) pre asg)
 (hy : env.kindOf y = some .local) (hp : (env.scope.kind == .class || (env.scope.kind == .module && env.locals != env.globals)) = false)
 (h : wpAny (model prog w) A (eval iter env) (fun xv s₁ => wpAny (model prog w) A (pyIter xv) (CompAt prog w A h₀ L m env elt target scope cl own pre asg (FinLA h₀ L m y Q)) E s₁) E s)
 (hs : ∀ x, foldedSetIterable iter env x = pure x) :
 wpAny (model prog w) A (exec (.Assign [.Name y py] (.ListComp elt [⟨target, iter, [], 0⟩] scope pos) spos) env) Q E s := by
 subst hLe
 rw [exec_Assign_Name_used _ _ _ _ hsw]
 refine wpAny_bind (wpAny_standAt (wpAny_bind ?_))
 show wpAny _ A (do let _ ← comprehension (.ListComp elt [⟨target, iter, [], 0⟩] scope pos) scope env _ (newList []) false (eval iter env) (some (assign (.Name y py) env))) _ _ s
 refine wpAny_bind (wpAny_mono (wpAny_comprehension_free (use := some (assign (.Name y py) env)) (Q := fun q_ s' => Q .next s') rfl hs hclos hkind hnames
  (wpAny_mono h (fun xv s₁ h₁ => wpAny_mono h₁ (fun it s₂ h₂ => ?_) fun q_ q_ e => e) fun q_ q_ e => e)) (fun q_ s' hq => wpAny_pure (wpAny_pure hq)) fun q_ q_ e => e)
 obtain ⟨I, fp, wr, n, P, Md, St, news, mu, mus, J, rfl, W, self, hsz, hpre, hLf, hfo, hwo, hfm, off, mo, hm, hst, F, N, h0, step, fin⟩ := h₂
 refine lc_block W self hsz hpre hown ha hLf hfo hwo hfm off mo hm hst F N h0 step fun D C h' tk' m' ys mu' tl F' N' ab hmo hD hn hC₀ hCL hC hm' hJ => ?_
 show wpAny _ A (assign (.Name y py) env (.ref D)) _ _ _
 refine wpAny_assign_Name (wpAny_storeName_local hy F'.ns (fun h₂ hn₂ hs₂ => ?_) hp)
 have hL₀ : h₀.get? env.locals = none := Heap.get?_none_of_le F'.above
 have F₂ : Fr h₀ env.locals h₂ (fun z => if z = y then some (.ref D) else m z) := ⟨hn₂, fun b o e => hs₂.extBut b o (fun q => by rw [q, hL₀] at e; cases e) (F'.keep b o e), F'.above⟩
 refine ⟨m', hn.sameBut hs₂ hCL, fun h'' hs'' => fin D h'' _ ys mu' tl (F₂.change hs'' hCL hC₀) (fun p hp => ?_) ab hmo hD hm' hJ⟩
 exact ⟨hs''.extBut _ _ (hC p hp) (hs₂.extBut _ _ (N' p hp).2.1 (N' p hp).1), (N' p hp).2⟩
end
end Mine
namespace Mine
open LCg
section
variable {prog : Program} {w : World} {A : Around} {E : VSP} {s : Shared} {h₀ : Heap} {L : Addr} {m : SoV} {env : Env}
theorem fa2 {p : Addr → Prop} {a b : Addr} (h1 : p a) (h2 : p b) : ∀ x ∈ [a, b], p x := List.forall_mem_cons.mpr ⟨h1, List.forall_mem_singleton.mpr h2⟩
theorem fa3 {p : Addr → Prop} {a b c : Addr} (h1 : p a) (h2 : p b) (h3 : p c) : ∀ x ∈ [a, b, c], p x := List.forall_mem_cons.mpr ⟨h1, fa2 h2 h3⟩
theorem fa4 {p : Addr → Prop} {a b c d : Addr} (h1 : p a) (h2 : p b) (h3 : p c) (h4 : p d) : ∀ x ∈ [a, b, c, d], p x := List.forall_mem_cons.mpr ⟨h1, fa3 h2 h3 h4⟩
theorem fa7 {p : Addr → Prop} {a b c d e f g : Addr} (h1 : p a) (h2 : p b) (h3 : p c) (h4 : p d) (h5 : p e) (h6 : p f) (h7 : p g) : ∀ x ∈ [a, b, c, d, e, f, g], p x := List.forall_mem_cons.mpr ⟨h1, List.forall_mem_cons.mpr ⟨h2, List.forall_mem_cons.mpr ⟨h3, fa4 h4 h5 h6 h7⟩⟩⟩
theorem new_none {h₀ h : Heap} {L : Addr} {m : SoV} (F : Fr h₀ L h m) {a : Addr} (ha : h.objs.size ≤ a) : h₀.get? a = none := by
 cases e : h₀.get? a with
 | none => rfl
 | some o' => exact absurd (Heap.lt_size (F.keep a o' e)) (Nat.not_lt.mpr ha)
theorem src_list {elt : Expr} {x : Str} {px : Pos} {scope : Scope} {cl : SAs} {own : Addr → SAs} {asg : Value → Heap → (SoV) → (SoV) → Prop} {Fin : Shared → Nat → (Nat → List Value → Led → Led → Prop) → List Addr → Led → Prop}
 {ax : Addr} {its : Array Value} {k : Nat} {news mu : Led} {mus : List Addr} (J : Nat → List Value → Led → Led → Prop)
 (hh : A.handled = none) (F : Fr h₀ L s.heap m) (N : News h₀ L s.heap (mu ++ news)) (hm : (ax, listOf its k) ∈ news) (hsz : its.size ≤ sizeLine) (mo : ∀ p ∈ news, p.1 ∉ mus) (hmu : mu.map (·.1) = mus) (h0 : J 0 [] mu [])
 (step : ∀ s₂, (∃ g, s₂ = { s with heap := g }) → LcTurn prog w A h₀ L m env elt scope cl own mus news (fun i v q_ => its[i]? = some v) asg J its.size s₂)
 (fin : ∀ s₂, (∃ g, s₂ = { s with heap := g }) → Fin s₂ its.size J mus news) :
 wpAny (model prog w) A (pyIter (.ref ax)) (CompAt prog w A h₀ L m env elt (.Name x px) scope cl own (fun q_ q_ => True) asg Fin) E s := by
 have Nx := N _ (jR _ hm)
 have hl : s.heap.IsList ax its := ⟨_, Nx.1, rfl, k, rfl⟩
 have hlt : ax < s.heap.objs.size := Heap.lt_size Nx.1
 refine wpAny_pyIter_list hl ?_
 have up : ∀ b o, s.heap.get? b = some o → (s.heap.push { cls := .type "list_iterator", data := .fields #[.ref ax, .int 0 0] }).get? b = some o := fun b o e => Heap.get?_push_of_some _ e
 have W := Walks.list (prog := prog) (w := w) hh s.heap.objs.size ax (Nat.ne_of_lt hlt) its
 have nlt : ∀ p ∈ mu ++ news, p.1 < s.heap.objs.size := fun p hp => Heap.lt_size (N p hp).1
 have mu_of : ∀ z ∈ mus, ∃ p ∈ mu, p.1 = z := fun z hz => by rw [← hmu] at hz; exact List.mem_map.mp hz
 refine ⟨s.heap.objs.size, _, _, _, _, _, _, news, mu, mus, J, rfl, KTurns.ofWalks W (target := .Name x px) (fun i v s Q' E' st hQ => wpAny_pure hQ), W.self, hsz, (fun q_ q_ q_ q_ => trivial), ?_, ?_, ?_, ?_, ?_, mo, hmu, ?_, F.keeps up, N.grown up, h0, step _ ⟨_, rfl⟩, fin _ ⟨_, rfl⟩⟩
 · intro hm'
   rcases jX hm' with e | hm'
   · exact Nat.ne_of_lt F.ns.lt e
   · exact Nx.2.1 (jO hm').symm
 · intro b hb
   rcases jX hb with rfl | hb
   · exact next_is_new F
   · rw [jO hb]; exact Nx.2.2
 · rintro i h ⟨⟨o, e, q_⟩, ⟨o', e', q_⟩⟩ b hb
   rcases jX hb with rfl | hb
   · exact ⟨o, e⟩
   · rw [jO hb]; exact ⟨o', e'⟩
 · intro b hb hx
   rcases jX hb with rfl | hb
   · obtain ⟨p, hp, e⟩ := mu_of _ hx
     exact Nat.ne_of_lt (nlt p (jL _ hp)) e
   · rw [jO hb] at hx; exact mo _ hm hx
 · intro p hp hx; exact Nat.ne_of_lt (nlt p hp) (jO hx)
 · exact ⟨⟨_, Heap.get?_push_size _ rfl, rfl, rfl⟩, hl.push _⟩
theorem src_range {elt : Expr} {x : Str} {px : Pos} {scope : Scope} {cl : SAs} {own : Addr → SAs} {asg : Value → Heap → (SoV) → (SoV) → Prop} {Fin : Shared → Nat → (Nat → List Value → Led → Led → Prop) → List Addr → Led → Prop}
 {r : Addr} {a b c : Int} {t u v : Tok} {n : Nat} {news mu : Led} {mus : List Addr} (J : Nat → List Value → Led → Led → Prop)
 (hr : IsRange s.heap r a b c t u v) (hsm : Builtin.Range.small a b c = true) (hn : Builtin.Range.rangeSize a b c = ((n : Nat) : Int))
 (hh : A.handled = none) (F : Fr h₀ L s.heap m) (N : News h₀ L s.heap (mu ++ news)) (hsz : n ≤ sizeLine) (mo : ∀ p ∈ news, p.1 ∉ mus) (hmu : mu.map (·.1) = mus) (h0 : J 0 [] mu [])
 (step : ∀ s₂, (∃ g, s₂ = { s with heap := g }) → LcTurn prog w A h₀ L m env elt scope cl own mus news (fun i v q_ => ∃ t, v = .int (a + i * c) t) asg J n s₂)
 (fin : ∀ s₂, (∃ g, s₂ = { s with heap := g }) → Fin s₂ n J mus news) :
 wpAny (model prog w) A (pyIter (.ref r)) (CompAt prog w A h₀ L m env elt (.Name x px) scope cl own (fun q_ q_ => True) asg Fin) E s := by
 refine wpAny_pyIter_range hr hsm ?_
 have up : ∀ z o, s.heap.get? z = some o → (s.heap.push { cls := .type "range_iterator", data := .fields #[rawInt a, rawInt (Builtin.Range.rangeSize a b c), rawInt c] }).get? z = some o := fun z o e => Heap.get?_push_of_some _ e
 have W := Walks.range (prog := prog) (w := w) hh s.heap.objs.size a c n
 have nlt : ∀ p ∈ mu ++ news, p.1 < s.heap.objs.size := fun p hp => Heap.lt_size (N p hp).1
 have mu_of : ∀ z ∈ mus, ∃ p ∈ mu, p.1 = z := fun z hz => by rw [← hmu] at hz; exact List.mem_map.mp hz
 refine ⟨s.heap.objs.size, _, _, _, _, _, _, news, mu, mus, J, rfl, KTurns.ofWalks W (target := .Name x px) (fun i v s Q' E' st hQ => wpAny_pure hQ), W.self, hsz, (fun q_ q_ q_ q_ => trivial), ?_, ?_, ?_, ?_, ?_, mo, hmu, ?_, F.keeps up, N.grown up, h0, step _ ⟨_, rfl⟩, fin _ ⟨_, rfl⟩⟩
 · intro hm'; exact Nat.ne_of_lt F.ns.lt (jO hm')
 · intro b hb; rw [jO hb]; exact next_is_new F
 · intro i h st b hb; rw [jO hb]; exact ⟨_, st⟩
 · intro b hb hx
   rw [jO hb] at hx
   obtain ⟨p, hp, e⟩ := mu_of _ hx
   exact Nat.ne_of_lt (nlt p (jL _ hp)) e
 · intro p hp hx; exact Nat.ne_of_lt (nlt p hp) (jO hx)
 · show IsRangeIter _ _ _ _ _
   rw [hn]
   simpa using Heap.get?_push_size _ rfl
theorem src_zip {elt : Expr} {elts : List Expr} {k9 : Nat} {tp : Pos} {scope : Scope} {cl : SAs} {own : Addr → SAs} {asg : Value → Heap → (SoV) → (SoV) → Prop} {Fin : Shared → Nat → (Nat → List Value → Led → Led → Prop) → List Addr → Led → Prop}
 {l1 l2 : Addr} {xs ys : Array Value} {k1 k2 : Nat} {news mu : Led} {mus : List Addr} (J : Nat → List Value → Led → Led → Prop)
 (hh : A.handled = none) (F : Fr h₀ L s.heap m) (N : News h₀ L s.heap (mu ++ news)) (hm1 : (l1, listOf xs k1) ∈ news) (hm2 : (l2, listOf ys k2) ∈ news) (hsz : min xs.size ys.size ≤ sizeLine) (mo : ∀ p ∈ news, p.1 ∉ mus) (hmu : mu.map (·.1) = mus) (h0 : J 0 [] mu [])
 (step : ∀ s₂, (∃ g, s₂ = { s with heap := g }) → LcTurn prog w A h₀ L m env elt scope cl own mus news (fun i v h => ∃ T x y, v = .ref T ∧ xs[i]? = some x ∧ ys[i]? = some y ∧ IsTup h T #[x, y]) asg J (min xs.size ys.size) s₂)
 (fin : ∀ s₂, (∃ g, s₂ = { s with heap := g }) → Fin s₂ (min xs.size ys.size) J mus news) :
 wpAny (model prog w) A (call (.type "zip") [.ref l1, .ref l2]) (fun xv s₁ => wpAny (model prog w) A (pyIter xv) (CompAt prog w A h₀ L m env elt (.Tuple elts k9 tp) scope cl own (fun v h => ∃ T x y, v = .ref T ∧ IsTup h T #[x, y]) asg Fin) E s₁) E s := by
 have Nx1 := N _ (jR _ hm1)
 have Nx2 := N _ (jR _ hm2)
 have hl1 : s.heap.IsList l1 xs := ⟨_, Nx1.1, rfl, k1, rfl⟩
 have hl2 : s.heap.IsList l2 ys := ⟨_, Nx2.1, rfl, k2, rfl⟩
 have hlt1 : l1 < s.heap.objs.size := Heap.lt_size Nx1.1
 have hlt2 : l2 < s.heap.objs.size := Heap.lt_size Nx2.1
 have D : ZipApart (s.heap.objs.size + 4) (s.heap.objs.size + 2) (s.heap.objs.size + 3) s.heap.objs.size (s.heap.objs.size + 1) l1 l2 := ktu_apart _ _ _ hlt1 hlt2
 have nlt : ∀ p ∈ mu ++ news, p.1 < s.heap.objs.size := fun p hp => Heap.lt_size (N p hp).1
 have mu_of : ∀ z ∈ mus, ∃ p ∈ mu, p.1 = z := fun z hz => by rw [← hmu] at hz; exact List.mem_map.mp hz
 refine call_zip_2 hl1 hl2 fun h' hz hTI hTO hi1 hi2 hsz' hk => ?_
 refine wpAny_pyIter_zip hz ?_
 have W := (WalksT.zip2 (prog := prog) (w := w) hh _ _ _ _ _ _ _ D xs ys).toU
 have K := KTurns.ofWalksU (elts := elts) (k := k9) (pos := tp) W
 refine ⟨_, _, _, min xs.size ys.size, (fun i v h => ∃ T x y, v = .ref T ∧ xs[i]? = some x ∧ ys[i]? = some y ∧ IsTup h T #[x, y]), _, _, news, mu, mus, J, rfl,
  { sub := K.sub, frame := K.frame, item := K.item, done := K.done, go := fun i v s Q E hm hQ => K.go i v s Q E hm fun h' hP st hk => hQ h' (by obtain ⟨T, vals, rfl, ⟨x, y, hx, hy, rfl⟩, hT⟩ := hP; exact ⟨T, x, y, rfl, hx, hy, hT⟩) st hk }, W.self, hsz, ?_, ?_, ?_, ?_, ?_, ?_, mo, hmu, ?_, F.keeps hk, N.grown hk, h0, step _ ⟨h', rfl⟩, fin _ ⟨h', rfl⟩⟩
 · rintro i v h ⟨T, x, y, rfl, q_, q_, hT⟩; exact ⟨T, x, y, rfl, hT⟩
 · have hL : L < s.heap.objs.size := F.ns.lt
   have ne : ∀ k, s.heap.objs.size + k ≠ L := fun k => Nat.ne_of_gt (Nat.lt_of_lt_of_le hL (Nat.le_add_right _ _))
   exact fun h => fa7 (p := (· ≠ L)) (ne 4) (ne 2) (ne 3) (ne 0) (ne 1) Nx1.2.1 Nx2.2.1 _ h rfl
 · exact fa7 (p := fun b => h₀.get? b = none) (new_none F (Nat.le_add_right _ _)) (new_none F (Nat.le_add_right _ _)) (new_none F (Nat.le_add_right _ _)) (new_none F (Nat.le_refl _)) (new_none F (Nat.le_add_right _ _)) Nx1.2.2 Nx2.2.2
 · rintro i h ⟨hz, hTI, ⟨a, b', hTO⟩, ⟨o1, ho1, q_⟩, ⟨o2, ho2, q_⟩, ⟨o3, ho3, q_⟩, ⟨o4, ho4, q_⟩⟩
   exact fa7 (p := fun b => ∃ o, h.get? b = some o) ⟨_, hz⟩ ⟨_, hTI⟩ ⟨_, hTO⟩ ⟨_, ho1⟩ ⟨_, ho2⟩ ⟨_, ho3⟩ ⟨_, ho4⟩
 · have big : ∀ a, s.heap.objs.size ≤ a → a ∉ mus := fun a ha hx => by
    obtain ⟨p, hp, e⟩ := mu_of _ hx
    exact absurd (nlt p (jL _ hp)) (Nat.not_lt.mpr (e ▸ ha))
   exact fa7 (p := (· ∉ mus)) (big _ (Nat.le_add_right _ _)) (big _ (Nat.le_add_right _ _)) (big _ (Nat.le_add_right _ _)) (big _ (Nat.le_refl _)) (big _ (Nat.le_add_right _ _)) (mo _ hm1) (mo _ hm2)
 · intro p hp hx
   have ne : ∀ k, s.heap.objs.size + k ≠ p.1 := fun k => Nat.ne_of_gt (Nat.lt_of_lt_of_le (nlt p hp) (Nat.le_add_right _ _))
   exact fa4 (p := (· ≠ p.1)) (ne 4) (ne 3) (ne 0) (ne 1) _ hx rfl
 · exact ⟨hz, hTI, ⟨_, _, hTO⟩, hi1, hi2, hl1.at fun o e => hk _ o e, hl2.at fun o e => hk _ o e⟩
end
theorem look_map {f : Str × NameKind → Str × NameKind} (hf : ∀ p, (f p).1 = p.1) {names : NKs} {x : Str} {k : NameKind} (h : names.lookup x = some k) : (names.map f).lookup x = some (f (x, k)).2 := by
 induction names with
 | nil => cases h
 | cons p r ih =>
  rw [List.map_cons, List.lookup_cons, hf]
  rw [List.lookup_cons] at h
  cases q : x == p.1 with
  | true => rw [q] at h; cases h; rw [eq_of_beq q]
  | false => rw [q] at h; exact ih h
theorem ite_fst {q : Bool} {n : Str} {a b : NameKind} : (if q = true then (n, a) else (n, b)).1 = n := by cases q <;> rfl
theorem lookup_relabel {env : Env} {k : NameKind} (hk : k ≠ .free) {names : NKs} {x : Str} (h : names.lookup x = some k) :
 (names.map fun (n, k) => if (k == NameKind.free && env.scope.kind == .function && env.kindOf n == some .cell) then (n, NameKind.cell) else (n, k)).lookup x = some k := by
 refine (look_map (fun p => ite_fst) h).trans ?_
 show some (if (k == NameKind.free && env.scope.kind == .function && env.kindOf x == some .cell) = true then (x, NameKind.cell) else (x, k)).2 = _
 rw [beq_eq_false_iff_ne.mpr hk]
 rfl
structure OwnOk (C : Addr) (own : SAs) : Prop where
 off : ∀ p ∈ own, p.2 ≠ C
 addr : ∀ p ∈ own, ∀ q ∈ own, p.2 = q.2 → p.1 = q.1
 name : ∀ p ∈ own, ∀ q ∈ own, p.1 = q.1 → p.2 = q.2
theorem ownOk_nil {C : Addr} : OwnOk C [] := ⟨fun q_ h => (nomatch h), fun q_ h => (nomatch h), fun q_ h => (nomatch h)⟩
theorem ownOk_one {C : Addr} {x : Str} : OwnOk C [(x, C + 1)] :=
 ⟨fun p hp => by rw [jO hp]; exact Nat.succ_ne_self C, fun p hp q hq q_ => by rw [jO hp, jO hq], fun p hp q hq q_ => by rw [jO hp, jO hq]⟩
theorem ownOk_two {C : Addr} {x y : Str} (hxy : x ≠ y) : OwnOk C [(y, C + 1 + 1), (x, C + 1)] := by
 have h1 : C + 1 ≠ C := Nat.succ_ne_self C
 have h2 : C + 1 + 1 ≠ C := Nat.ne_of_gt (Nat.lt_succ_of_lt (Nat.lt_succ_self C))
 have h3 : C + 1 + 1 ≠ C + 1 := Nat.succ_ne_self _
 refine ⟨fun p hp => ?_, fun p hp q hq e => ?_, fun p hp q hq e => ?_⟩
 · simp only [List.mem_cons, List.not_mem_nil, or_false] at hp
   rcases hp with rfl | rfl
   · exact h2
   · exact h1
 · simp only [List.mem_cons, List.not_mem_nil, or_false] at hp hq
   rcases hp with rfl | rfl <;> rcases hq with rfl | rfl
   · rfl
   · exact absurd e h3
   · exact absurd e.symm h3
   · rfl
 · simp only [List.mem_cons, List.not_mem_nil, or_false] at hp hq
   rcases hp with rfl | rfl <;> rcases hq with rfl | rfl
   · rfl
   · exact absurd e.symm hxy
   · exact absurd e hxy
   · rfl
section
variable {prog : Program} {w : World} {A : Around} {E : VSP} {s : Shared} {env : Env} {scope : Scope} {own cl : SAs} {C : Addr} {m cm : SoV} {x y : Str} {px py tp : Pos}
theorem cst_L {v : Value} {Q : Unit → Shared → Prop} (hk : scope.kind = .function) (hx : scope.names.lookup x = some .local) (ho : OwnOk C own) (S : CState s.heap C own m cm)
 (h : ∀ h' tk', CState h' C own (fun z => if z = x then some v else m z) cm → (∀ b o, b ∉ C :: own.map (·.2) → s.heap.get? b = some o → h'.get? b = some o) → Q () { s with heap := h', toks := tk' }) :
 wpAny (model prog w) A (storeName (compEnvC scope (own ++ cl) C env) x v) Q E s :=
 wpAny_storeName_local (lookup_relabel_local hx) S.ns (fun h₃ hn₃ hs₃ => h h₃ _ ⟨hn₃, fun p hp => (S.cells p hp).sameBut hs₃ (ho.off p hp)⟩ fun b o hb e => hs₃.extBut b o (fun q => hb (q ▸ List.mem_cons_self)) e) (by simp [compEnvC, relabel, hk])
theorem cst_C {v : Value} {c : Addr} {Q : Unit → Shared → Prop} (hk : scope.kind = .function) (hx : scope.names.lookup x = some .cell) (hc : own.lookup x = some c) (ho : OwnOk C own) (S : CState s.heap C own m cm)
 (h : ∀ h' tk', CState h' C own m (fun z => if z = x then some v else cm z) → (∀ b o, b ∉ C :: own.map (·.2) → s.heap.get? b = some o → h'.get? b = some o) → Q () { s with heap := h', toks := tk' }) :
 wpAny (model prog w) A (storeName (compEnvC scope (own ++ cl) C env) x v) Q E s := by
 have hm : (x, c) ∈ own := mem_of_lookup hc
 refine wpAny_storeName_cell (c := c) (by simp [compEnvC, relabel, hk]) (lookup_relabel (by decide) hx) ?_ (S.cells _ hm) (fun h₃ hc₃ hs₃ => ?_)
 · show (own ++ cl).lookup x = some c
   rw [List.lookup_append, hc]; rfl
 · refine h h₃ s.toks ⟨S.ns.sameBut hs₃ (Ne.symm (ho.off _ hm)), fun p hp => ?_⟩ fun b o hb e => hs₃.extBut b o (fun q => hb (q ▸ jC _ (List.mem_map_of_mem hm))) e
   by_cases hpx : p.1 = x
   · have : p.2 = c := ho.name p hp _ hm hpx
     rw [this, if_pos hpx]; exact hc₃
   · rw [if_neg hpx]
     exact (S.cells p hp).sameBut hs₃ fun e => hpx (ho.addr p hp _ hm e)
theorem asg_L (hk : scope.kind = .function) (hx : scope.names.lookup x = some .local) (ho : OwnOk C own) : AsgOk prog w A (.Name x px) (compEnvC scope (own ++ cl) C env) C own (fun q_ q_ => True) (fun v q_ m q_ => m x = some v) := fun v s m cm Q E q_ S h =>
 wpAny_assign_Name (cst_L hk hx ho S fun h' tk' S' k => h h' tk' _ _ S' (by simp) k)
theorem asg_C {c : Addr} (hk : scope.kind = .function) (hx : scope.names.lookup x = some .cell) (hc : own.lookup x = some c) (ho : OwnOk C own) : AsgOk prog w A (.Name x px) (compEnvC scope (own ++ cl) C env) C own (fun q_ q_ => True) (fun v q_ q_ cm => cm x = some v) := fun v s m cm Q E q_ S h =>
 wpAny_assign_Name (cst_C hk hx hc ho S fun h' tk' S' k => h h' tk' _ _ S' (by simp) k)
theorem tup_inj {h : Heap} {T : Addr} {xs ys : Array Value} (a : IsTup h T xs) (b : IsTup h T ys) : xs = ys := by
 obtain ⟨o, e, q_, n, d⟩ := a
 obtain ⟨o', e', q_, n', d'⟩ := b
 rw [e] at e'; cases e'; rw [d] at d'; cases d'; rfl
theorem asg_LL {k9 : Nat} (hh : A.handled = none) (hk : scope.kind = .function) (hx : scope.names.lookup x = some .local) (hy : scope.names.lookup y = some .local) (hxy : x ≠ y) (ho : OwnOk C own) :
 AsgOk prog w A (.Tuple [.Name x px, .Name y py] k9 tp) (compEnvC scope (own ++ cl) C env) C own (fun v h => ∃ T a b, v = .ref T ∧ IsTup h T #[a, b]) (fun v h m q_ => ∀ T a b, v = .ref T → IsTup h T #[a, b] → m x = some a ∧ m y = some b) := fun v s m cm Q E hp S h => by
 obtain ⟨T, a, b, rfl, hT⟩ := hp
 refine assign_Tuple_tuple hh hT rfl rfl fun h₅ he => ?_
 have he' : ∀ b o, s.heap.get? b = some o → h₅.get? b = some o := fun b o e => he b o (Nat.ne_of_lt (Heap.lt_size e)) e
 refine assignInOrder_cons (wpAny_assign_Name (cst_L (s := { s with heap := h₅ }) hk hx ho (S.at fun b q_ o e => he' b o e) fun h₆ tk₆ S₆ k₆ => ?_))
 refine assignInOrder_cons (wpAny_assign_Name (cst_L (s := { s with heap := h₆, toks := tk₆ }) hk hy ho S₆ fun h₇ tk₇ S₇ k₇ => assignInOrder_nil (h h₇ tk₇ _ _ S₇ ?_ fun b o hb e => k₇ b o hb (k₆ b o hb (he' b o e)))))
 intro T' a' b' e hT'
 cases e
 have := tup_inj hT hT'
 cases this
 simp [hxy]
theorem asg_CC {k9 : Nat} {c c' : Addr} (hh : A.handled = none) (hk : scope.kind = .function) (hx : scope.names.lookup x = some .cell) (hy : scope.names.lookup y = some .cell) (hc : own.lookup x = some c) (hc' : own.lookup y = some c') (hxy : x ≠ y) (ho : OwnOk C own) :
 AsgOk prog w A (.Tuple [.Name x px, .Name y py] k9 tp) (compEnvC scope (own ++ cl) C env) C own (fun v h => ∃ T a b, v = .ref T ∧ IsTup h T #[a, b]) (fun v h q_ cm => ∀ T a b, v = .ref T → IsTup h T #[a, b] → cm x = some a ∧ cm y = some b) := fun v s m cm Q E hp S h => by
 obtain ⟨T, a, b, rfl, hT⟩ := hp
 refine assign_Tuple_tuple hh hT rfl rfl fun h₅ he => ?_
 have he' : ∀ b o, s.heap.get? b = some o → h₅.get? b = some o := fun b o e => he b o (Nat.ne_of_lt (Heap.lt_size e)) e
 refine assignInOrder_cons (wpAny_assign_Name (cst_C (s := { s with heap := h₅ }) hk hx hc ho (S.at fun b q_ o e => he' b o e) fun h₆ tk₆ S₆ k₆ => ?_))
 refine assignInOrder_cons (wpAny_assign_Name (cst_C (s := { s with heap := h₆, toks := tk₆ }) hk hy hc' ho S₆ fun h₇ tk₇ S₇ k₇ => assignInOrder_nil (h h₇ tk₇ _ _ S₇ ?_ fun b o hb e => k₇ b o hb (k₆ b o hb (he' b o e)))))
 intro T' a' b' e hT'
 cases e
 have := tup_inj hT hT'
 cases this
 simp [hxy]
end
end Mine
namespace Mine
section
theorem bindL_at (kd : Str → Option NameKind) : ∀ (binds : List (Str × Value)) (m : SoV) (y : Str), bindL kd binds m y = if kd y = some .local then (match binds.reverse.lookup y with | some v => some v | none => m y) else m y
 | [], m, y => by unfold bindL; simp
 | (n, v) :: r, m, y => by
  unfold bindL
  rw [bindL_at kd r _ y]
  by_cases hy : kd y = some .local
  · rw [if_pos hy, if_pos hy, List.reverse_cons]
    have e : (r.reverse ++ [(n, v)]).lookup y = (r.reverse.lookup y).or (if y == n then some v else none) := by
     rw [List.lookup_append, List.lookup_cons]
     cases y == n <;> rfl
    rw [e]
    cases r.reverse.lookup y with
    | some u => rfl
    | none =>
     by_cases hn : y = n
     · subst hn; simp [hy]
     · have : (y == n) = false := by simpa using hn
       by_cases hk : kd n = some .local
       · rw [if_pos hk]; simp [this, hn]
       · rw [if_neg hk]; simp [this]
  · rw [if_neg hy, if_neg hy]
    by_cases hk : kd n = some .local
    · rw [if_pos hk]
      have : y ≠ n := fun e => hy (e ▸ hk)
      simp [this]
    · rw [if_neg hk]
noncomputable abbrev alC (binds : List (Str × Value)) (names : NKs) : List (Str × Option Value) := names.map fun y => (y.1, if y.2 == .local then binds.reverse.lookup y.1 else none)
theorem lookup_map {names : NKs} {f : Str × NameKind → Option Value} : ∀ (y : Str), (names.map fun z => (z.1, f z)).lookup y = (names.lookup y).map fun k => f (y, k) := by
 induction names with
 | nil => intro y; rfl
 | cons p r ih =>
  intro y
  obtain ⟨n, k⟩ := p
  rw [List.map_cons, List.lookup_cons, List.lookup_cons]
  cases h : y == n with
  | true => rw [beq_iff_eq.mp h]; rfl
  | false => exact ih y
theorem bindL_frm {names : NKs} {binds : List (Str × Value)} : bindL (fun y => names.lookup y) binds (fun q_ => none) = frm (alC binds names) := by
 funext y
 rw [bindL_at]
 unfold frm alC
 rw [lookup_map (f := fun z => if z.2 == .local then binds.reverse.lookup z.1 else none)]
 cases h : names.lookup y with
 | none => simp
 | some k =>
  by_cases hk : k = .local
  · subst hk
    simp only [if_true, Option.map_some, beq_self_eq_true, Option.join_some]
    cases binds.reverse.lookup y <;> rfl
  · have : (k == NameKind.local) = false := by simpa using hk
    simp [hk]
variable {prog : Program} {w : World} {A A₀ : Around} {s : Shared} {K : Frag} {L : Addr} {h₀ base : Heap} {m mg mb : SoV} {news : Led} {p : Program} {loose : List Str} {mean : ExcName → Option Value}
theorem code_defCF {mo : List (Str × Const)} {env : Env} {outer : List Env} {R : Result → Shared → Prop} {name qual : Str} {params : Arguments} {body : List Stmt} {names : NKs} {dV kV doc pm cdv ct oc : Value} {an od : Option Addr} {osl : Array (Option Value)} {f : Addr} {args : Args} {binds : List (Str × Value)} {al : List (Str × Option Value)}
 (B : Below A₀ base outer h₀) (F : Fr h₀ L s.heap m) (X₀ : K.In h₀) (N : News h₀ L s.heap news) (T : Top p loose mean mg mb h₀) (hA : A.frames = some (env :: outer)) (hf : env.frame = some L) (hke : env.scope.kind = .function)
 (ho : K.lookup f = some ⟨oc, od, .func (fnOf name qual params body (sc names mo) dV kV doc pm an cdv ct), osl⟩) (hcd : codeIn K cdv qual = true) (hroom : A.depth < recursionLimit)
 (hbind : BindsTo s (fnOf name qual params body (sc names mo) dV kV doc pm an cdv ct) args binds) (hkind : (binds.all fun y => (sc names mo).names.lookup y.1 == some .local || (sc names mo).names.lookup y.1 == some .cell) = true)
 (hnd : ((cellsFrom 0 names []).map (·.1)).Nodup) (hs : ScopeN names) (hal : alC binds names = al) (own : Addr → SAs) (hown : ∀ L', cellsFrom (L' + 1) names [] = own L')
 (h : ∀ g L' h₁ tk cells, Fr h₀ L g m → Fr g L' h₁ (frm al) → al.map (·.1) = names.map (·.1) → ScopeN names → News g L' h₁ (cells ++ news) →
  CellsAre (bindC (fun y => names.lookup y) binds fun q_ => none) (own L') cells → Below A base (env :: outer) g → K.In g → Top p loose mean mg mb g → (∀ p ∈ news, p.1 < L') →
  wpAny (model prog w) (A.deeper (envX qual (sc names mo) L' f cdv (own L'))) (execs body (envX qual (sc names mo) L' f cdv (own L')))
   (fun fl s' => LeaveK h₀ L m g R (match fl with | .ret v => v | _ => .none) s')
   (fun e s' => wpAny (model prog w) (A.deeper (envX qual (sc names mo) L' f cdv (own L'))) (leaving (envX qual (sc names mo) L' f cdv (own L')) e) (fun q_ s'' => R (.error e) s'') (fun e' s'' => R (.error e') s'') s')
   { s with heap := h₁, toks := tk }) : codeAny (model prog w) A (.call (.ref f) args) R s :=
 code_defC B F X₀ N T hA hf hke ho hcd hroom hbind hkind hnd (fun g L' h₁ tk cells FG F' N' Y B' X' T' l => by
  have e : envOfC qual (sc names mo) L' f cdv = envX qual (sc names mo) L' f cdv (own L') := by rw [← hown]; rfl
  rw [e]
  exact h g L' h₁ tk cells FG (hal ▸ ((bindL_frm (names := names) (binds := binds)) ▸ F')) (by rw [← hal]; simp [alC]) hs N' (hown L' ▸ Y) B' X' T' l) rfl rfl rfl
end
section
variable {M : Model} {A : Around} {E : VSP} {s : Shared} {K : Frag} {h₀ : Heap} {L f : Addr} {m mg mb : SoV} {p : Program} {loose : List Str} {mean : ExcName → Option Value} {names : NKs} {al al' : List (Str × Option Value)}
 {x qual : Str} {pos : Pos} {v cd : Value} {news : Led} {cl : SAs} {c : Addr} {o : Obj} {mo : List (Str × Const)}
theorem nxL {Q : VSP} (F : Fr h₀ L s.heap (frm al)) (hs : ScopeN names) (ha : al.map (·.1) = names.map (·.1)) (hx : (x, NameKind.local) ∈ names) (hm : (x, some v) ∈ al) (h : Q v s) :
 wpAny M A (eval (.Name x pos) (envX qual (sc names mo) L f cd cl)) Q E s :=
 wpAny_Name (wpAny_loadName_local rfl (lookup_of hs.1 hx) F.ns (frm_at hs ha hm) h) (hs.2 _ hx)
theorem nxC {Q : VSP} (N : News h₀ L s.heap news) (hs : ScopeN names) (hx : (x, NameKind.cell) ∈ names) (hc : cl.lookup x = some c) (hm : (c, o) ∈ news) (hd : o.data = .cell (some v)) (h : Q v s) :
 wpAny M A (eval (.Name x pos) (envX qual (sc names mo) L f cd cl)) Q E s := wpAny_Name (wpAny_loadName_cell rfl (lookup_of hs.1 hx) hc ⟨o, N.get hm, hd⟩ h) (hs.2 _ hx)
theorem nxG {Q : VSP} (F : Fr h₀ L s.heap m) (X : K.In h₀) (T : Top p loose mean mg mb h₀) (hs : ScopeN names) (hx : (x, NameKind.globalImplicit) ∈ names) (e : nsIn K mainGlobals x = some (some v)) (h : Q v s) :
 wpAny M A (eval (.Name x pos) (envX qual (sc names mo) L f cd cl)) Q E s :=
 PySem.Calls.Name_function_global rfl (lookup_of hs.1 hx) (PySem.Calls.loadGlobal_global (env := envX qual (sc names mo) L f cd cl) (T.g.keeps F.keep) (mg_of X T.g e) h) (hs.2 _ hx)
theorem nxB {Q : VSP} (F : Fr h₀ L s.heap m) (X : K.In h₀) (T : Top p loose mean mg mb h₀) (hs : ScopeN names) (hx : (x, NameKind.globalImplicit) ∈ names) (e : nsIn K mainGlobals x = some none) (hv : bootBuiltins x = some v) (hn : x ≠ "__name__") (h : Q v s) :
 wpAny M A (eval (.Name x pos) (envX qual (sc names mo) L f cd cl)) Q E s :=
 PySem.Calls.Name_function_global rfl (lookup_of hs.1 hx) (PySem.Calls.loadGlobal_builtin (env := envX qual (sc names mo) L f cd cl) (T.g.keeps F.keep) (mg_none_of X T.g e) (T.b.keeps F.keep) ((T.builtins x hn).trans hv) h) (hs.2 _ hx)
theorem sxL {Q : Unit → Shared → Prop} (F : Fr h₀ L s.heap (frm al)) (N : News h₀ L s.heap news) (hs : ScopeN names) (ha : al.map (·.1) = names.map (·.1)) (hx : (x, NameKind.local) ∈ names) (hp : Put x v al al')
 (h : ∀ h', Fr h₀ L h' (frm al') → News h₀ L h' news → al'.map (·.1) = names.map (·.1) → Q () { s with heap := h', toks := s.toks + 1 }) :
 wpAny M A (storeName (envX qual (sc names mo) L f cd cl) x v) Q E s :=
 storeX_L F N (fun h' F' N' => h h' (hp.frm (ha ▸ hs.1) ▸ F') N' (hp.keys.trans ha)) rfl (lookup_of hs.1 hx)
end
inductive NumO (o : Option Bool) (news : Led) (v : Value) (n : Int) : Prop
 | pk (b : Bool) : (∀ d, o = some d → b = d) → Num news b v n → NumO o news v n
theorem NumO.mono {o : Option Bool} {news news' : Led} {v : Value} {n : Int} (h : NumO o news v n) (hs : ∀ p ∈ news, p ∈ news') : NumO o news' v n := let ⟨b, e, x⟩ := h; ⟨b, e, x.mono hs⟩
theorem NumO.any {o : Option Bool} {news : Led} {v : Value} {n : Int} (h : NumO o news v n) : NumO none news v n := let ⟨b, _, x⟩ := h; ⟨b, fun q_ e => (nomatch e), x⟩
theorem NumO.of {b : Bool} {news : Led} {v : Value} {n : Int} (h : Num news b v n) : NumO (some b) news v n := ⟨b, fun q_ e => by cases e; rfl, h⟩
inductive RowF (ok : Addr → Prop) (o : Option Bool) (news : Led) (r : Addr) (c : Nat) (f : Nat → Int) : Prop
 | pk (h : ok r) (vs : Array Value) (k : Nat) : (r, listOf vs k) ∈ news → vs.size = c → (∀ (j : Nat) v, vs[j]? = some v → NumO o news v (f j)) → RowF ok o news r c f
inductive GridF (ok : Addr → Prop) (o : Option Bool) (news : Led) (g : Addr) (r c : Nat) (f : NNI) : Prop
 | pk (h : ok g) (vs : Array Value) (k : Nat) : (g, listOf vs k) ∈ news → vs.size = r → (∀ (i : Nat) v, vs[i]? = some v → E1_2 (fun a => v = .ref a) (fun a => RowF ok o news a c (f i))) → GridF ok o news g r c f
theorem RowF.mono {ok : Addr → Prop} {o : Option Bool} {news news' : Led} {r : Addr} {c : Nat} {f : Nat → Int} (h : RowF ok o news r c f) (hs : ∀ p ∈ news, p ∈ news') : RowF ok o news' r c f :=
 let ⟨a, vs, k, h1, h2, h3⟩ := h; ⟨a, vs, k, hs _ h1, h2, fun j v e => (h3 j v e).mono hs⟩
theorem GridF.mono {ok : Addr → Prop} {o : Option Bool} {news news' : Led} {r : Addr} {c d : Nat} {f : NNI} (h : GridF ok o news r c d f) (hs : ∀ p ∈ news, p ∈ news') : GridF ok o news' r c d f :=
 let ⟨a, vs, k, h1, h2, h3⟩ := h; ⟨a, vs, k, hs _ h1, h2, fun j v e => let ⟨b, x, y⟩ := h3 j v e; ⟨b, x, y.mono hs⟩⟩
noncomputable def Upto (i : Nat) (ys : List Value) (P : Nat → Value → Prop) : Prop := ys.length = i ∧ ∀ (j : Nat) v, ys[j]? = some v → P j v
theorem one_at {α : Type} {y v : α} : ∀ {k : Nat}, [y][k]? = some v → k = 0 ∧ y = v
 | 0, e => ⟨rfl, Option.some.inj e⟩
 | _ + 1, e => nomatch e
theorem Upto.zero {P : Nat → Value → Prop} : Upto 0 [] P := ⟨rfl, fun j v e => by simp at e⟩
theorem Upto.snoc {i : Nat} {ys : List Value} {y : Value} {P P' : Nat → Value → Prop} (h : Upto i ys P) (hm : ∀ j v, P j v → P' j v) (hy : P' i y) : Upto (i + 1) (ys ++ [y]) P' := by
 refine ⟨by rw [List.length_append, h.1]; rfl, fun j v e => ?_⟩
 by_cases hj : j < ys.length
 · rw [List.getElem?_append_left hj] at e; exact hm _ _ (h.2 j v e)
 · rw [List.getElem?_append_right (Nat.not_lt.mp hj)] at e
   obtain ⟨h0, rfl⟩ := one_at e
   rw [Nat.le_antisymm (Nat.le_of_sub_eq_zero h0) (Nat.not_lt.mp hj), h.1]
   exact hy
theorem Upto.row {ok : Addr → Prop} {o : Option Bool} {news : Led} {D : Addr} {n : Nat} {ys : List Value} {f : Nat → Int} (h : Upto n ys (fun j v => NumO o news v (f j))) (hD : (D, LCg.lst ys) ∈ news) (hk : ok D) : RowF ok o news D n f :=
 ⟨hk, ys.toArray, ys.length, hD, by rw [List.size_toArray, h.1], fun j v e => h.2 j v (by simpa using e)⟩
theorem Upto.grid {ok : Addr → Prop} {o : Option Bool} {news : Led} {D : Addr} {n c : Nat} {ys : List Value} {f : NNI} (h : Upto n ys (fun i v => E1_2 (fun a => v = .ref a) (fun a => RowF ok o news a c (f i)))) (hD : (D, LCg.lst ys) ∈ news) (hk : ok D) : GridF ok o news D n c f :=
 ⟨hk, ys.toArray, ys.length, hD, by rw [List.size_toArray, h.1], fun j v e => h.2 j v (by simpa using e)⟩
theorem Abv.nil {news : Led} : Abv news [] := fun q_ h => nomatch h
theorem Abv.cons {news tl : Led} {r : Addr} {o : Obj} (h : ∀ p ∈ news, p.1 < r) (ht : Abv news tl) : Abv news ((r, o) :: tl) := fun q hq p hp => by
 rcases jX hq with rfl | hq
 · exact h p hp
 · exact ht q hq p hp
noncomputable def Hold (p : Prop) : Prop := p
theorem Hold.mk {p : Prop} (h : Hold p) : p := h
theorem Hold.out {p : Prop} (h : p) : Hold p := h
section
open LCg
variable {prog : Program} {w : World} {A : Around} {E : VSP} {s : Shared} {h₀ : Heap} {L : Addr} {m : SoV} {env : Env} {elt : Expr} {scope : Scope} {cl : SAs} {own : Addr → SAs} {news : Led}
 {P : Nat → Value → Heap → Prop} {asg : Value → Heap → (SoV) → (SoV) → Prop} {J : Nat → List Value → Led → Prop} {n : Nat}
theorem szl {n : Nat} (h : n ≤ 1000) : n ≤ sizeLine := PySem.sizeLine_eq ▸ nt h
end
theorem Abv.mid {news cs tl : Led} (h : Abv (cs ++ news) tl) (hc : Abv news cs) : Abv news (tl ++ cs) := fun q hq p hp => by
 rcases jA hq with hq | hq
 · exact h q hq p (jR _ hp)
 · exact hc q hq p hp
theorem ltc1 {news : Led} {L : Addr} (h : ∀ p ∈ news, p.1 < L) : ∀ p ∈ news, p.1 < L + 1 := fun p hp => Nat.lt_succ_of_lt (h p hp)
theorem ltc2 {news : Led} {L : Addr} {o1 : Obj} (h : ∀ p ∈ news, p.1 < L) : ∀ p ∈ (L + 1, o1) :: news, p.1 < L + 1 + 1 := fun p hp => by
 rcases jX hp with rfl | hp
 · exact Nat.lt_succ_self _
 · exact Nat.lt_succ_of_lt (ltc1 h p hp)
theorem ltc3 {news : Led} {L : Addr} {o1 o2 : Obj} (h : ∀ p ∈ news, p.1 < L) : ∀ p ∈ (L + 1 + 1, o2) :: (L + 1, o1) :: news, p.1 < L + 1 + 1 + 1 := fun p hp => by
 rcases jX hp with rfl | hp
 · exact Nat.lt_succ_self _
 · exact Nat.lt_succ_of_lt (ltc2 h p hp)
theorem ltc4 {news : Led} {L : Addr} {o1 o2 o3 : Obj} (h : ∀ p ∈ news, p.1 < L) : ∀ p ∈ (L + 1 + 1 + 1, o3) :: (L + 1 + 1, o2) :: (L + 1, o1) :: news, p.1 < L + 1 + 1 + 1 + 1 := fun p hp => by
 rcases jX hp with rfl | hp
 · exact Nat.lt_succ_self _
 · exact Nat.lt_succ_of_lt (ltc3 h p hp)
theorem Upto.mono {i : Nat} {ys : List Value} {P P' : Nat → Value → Prop} (h : Upto i ys P) (hm : ∀ j v, P j v → P' j v) : Upto i ys P' := ⟨h.1, fun j v e => hm j v (h.2 j v e)⟩
theorem rep_size {c : Nat} {x : Value} : (List.replicate (c : Int).toNat [x]).flatten.toArray.size = c := by simp
theorem rep_at {k : Nat} {x u : Value} {j : Nat} (h : (List.replicate k [x]).flatten.toArray[j]? = some u) : u = x := by
 have : u ∈ (List.replicate k [x]).flatten.toArray := Array.mem_of_getElem? h
 simp only [List.mem_toArray, List.mem_flatten] at this
 obtain ⟨l, hl, hu⟩ := this
 rw [(List.mem_replicate.mp hl).2] at hu
 exact jO hu
theorem gridO {news₀ news news' : Led} {o : Option Bool} {D : Addr} {n c : Nat} {ys : List Value} {f : NNI} (h : Upto n ys (fun i v => E1_2 (fun a => v = .ref a) (fun a => RowF (fun a => ∀ p ∈ news₀, p.1 < a) o news a c (f i)))) (hD : (D, LCg.lst ys) ∈ news') (hk : ∀ p ∈ news₀, p.1 < D) (hs : ∀ p ∈ news, p ∈ news') :
 GridF (fun a => ∀ p ∈ news₀, p.1 < a) o news' D n c f := (h.mono fun q_ q_2 ⟨a, e, x⟩ => ⟨a, e, x.mono hs⟩).grid hD hk
theorem rowO {news₀ news news' : Led} {o : Option Bool} {D : Addr} {n : Nat} {ys : List Value} {f : Nat → Int} (h : Upto n ys (fun i v => NumO o news v (f i))) (hD : (D, LCg.lst ys) ∈ news') (hk : ∀ p ∈ news₀, p.1 < D) (hs : ∀ p ∈ news, p ∈ news') :
 RowF (fun a => ∀ p ∈ news₀, p.1 < a) o news' D n f := (h.mono fun q_ q_ x => x.mono hs).row hD hk
end Mine
namespace Mine
open LCg
section
variable {prog : Program} {w : World} {A : Around} {E : VSP} {s : Shared} {h₀ : Heap} {L : Addr} {env : Env} {target : PySem.Expr} {body : List Stmt} {Q : Flow → Shared → Prop} {names : NKs} {al : List (Str × Option Value)}
 {mus : List Addr} {mu news : Led} {P : Nat → Value → Heap → Prop} {J : Nat → List (Str × Option Value) → Led → Led → Prop} {n : Nat}
inductive FNext (h₀ : Heap) (L : Addr) (names : NKs) (mus : List Addr) (J : Nat → List (Str × Option Value) → Led → Led → Prop) (s : Shared) (mu led tl : Led) (i : Nat) (s₂ : Shared) : Prop
 | pk (h' : Heap) (tk' : Nat) (al' : List (Str × Option Value)) (mu' tl' : Led) : s₂ = { s with heap := h', toks := tk' } → Fr h₀ L h' (frm al') → al'.map (·.1) = names.map (·.1) → News h₀ L h' (mu' ++ (tl' ++ led)) → Abv (mu ++ led) tl' → mu'.map (·.1) = mus → J (i + 1) al' mu' (tl' ++ tl) → FNext h₀ L names mus J s mu led tl i s₂
noncomputable def FEnd (h₀ : Heap) (L : Addr) (names : NKs) (mus : List Addr) (J : Nat → List (Str × Option Value) → Led → Led → Prop) (s : Shared) (Q : Flow → Shared → Prop) (mu led tl : Led) (i : Nat) (f : Flow) (s₂ : Shared) : Prop :=
 match f with
 | .ret v => Q (.ret v) s₂
 | .brk => Q .next s₂
 | _ => FNext h₀ L names mus J s mu led tl i s₂
noncomputable def FTurn (prog : Program) (w : World) (A : Around) (h₀ : Heap) (L : Addr) (env : Env) (target : PySem.Expr) (body : List Stmt) (names : NKs) (mus : List Addr) (news : Led) (P : Nat → Value → Heap → Prop)
 (J : Nat → List (Str × Option Value) → Led → Led → Prop) (n : Nat) (s : Shared) (Q : Flow → Shared → Prop) (E : VSP) : Prop :=
 ∀ (i : Nat) (v : Value) (al : List (Str × Option Value)) (mu tl led : Led) (h₁ : Heap) (tk : Nat), i < n → P i v h₁ → J i al mu tl → Abv news tl → mu.map (·.1) = mus → (∀ p ∈ tl ++ news, p ∈ led) → (∀ p ∈ led, p.1 ∉ mus) →
  Fr h₀ L h₁ (frm al) → al.map (·.1) = names.map (·.1) → News h₀ L h₁ (mu ++ led) →
  wpAny (model prog w) A (assign target env v) (fun q_ s₃ => wpAny (model prog w) A (execs body env) (FEnd h₀ L names mus J s Q mu led tl i) E s₃) E { s with heap := h₁, toks := tk }
inductive ForI (names : NKs) (mus : List Addr) (news : Led) (J : Nat → List (Str × Option Value) → Led → Led → Prop) (i : Nat) (m : SoV) (nw : Led) : Prop
 | pk (al : List (Str × Option Value)) (mu tl : Led) : m = frm al → nw = mu ++ (tl ++ news) → al.map (·.1) = names.map (·.1) → Abv news tl → mu.map (·.1) = mus → (∀ p ∈ tl, p.1 ∉ mus) → J i al mu tl → ForI names mus news J i m nw
theorem for_core {I : Addr} {fp wr : List Addr} {Md : Nat → Value → Heap → Prop} {St : Nat → Heap → Prop} (W : KTurns prog w A target I fp wr n P Md St) (hL : env.locals = L) (hLf : L ∉ fp) (hfo : ∀ b ∈ fp, h₀.get? b = none)
 (hwo : ∀ i h, St i h → ∀ b ∈ fp, ∃ o, h.get? b = some o) (hfm : ∀ b ∈ fp, b ∉ mus) (off : OffW wr (mu ++ news)) (mo : ∀ p ∈ news, p.1 ∉ mus) (hm : mu.map (·.1) = mus) (hst : St 0 s.heap) (F : Fr h₀ L s.heap (frm al)) (N : News h₀ L s.heap (mu ++ news))
 (ha : al.map (·.1) = names.map (·.1)) (h0 : J 0 al mu []) (step : FTurn prog w A h₀ L env target body names mus news P J n s Q E)
 (fin : ∀ h' tk' al' mu' tl, Fr h₀ L h' (frm al') → al'.map (·.1) = names.map (·.1) → News h₀ L h' (mu' ++ (tl ++ news)) → Abv news tl → mu'.map (·.1) = mus → J n al' mu' tl → Q .next { s with heap := h', toks := tk' }) :
 TurnsAt prog w A h₀ env target body Q E (.ref I) s := by
 subst hL
 refine ⟨I, fp, wr, n, P, Md, St, frm al, mu ++ news, ForI names mus news J,
  rfl, W, hLf, fun b hb => hfo b (W.sub _ hb), off, hst, F, N, ⟨al, mu, [], rfl, rfl, ha, fun q_ h => (nomatch h), hm, fun q_ h => (nomatch h), h0⟩, ?_, ?_⟩
 · rintro i v m₁ news₁ h₁ tk₁ own hi hP ⟨al₁, mu₁, tl, rfl, rfl, ha₁, ab, hm₁, htm, hJ⟩ off₁ hown1 hown2 hown3 hst₁ F₁ N₁
   have st : ∀ p ∈ tl ++ news, p ∈ own ++ (tl ++ news) := fun p hp => jR _ hp
   have moL : ∀ p ∈ own ++ (tl ++ news), p.1 ∉ mus := fun p hp => by
    rcases jA hp with hp | hp
    · exact hfm _ (hown1 p hp)
    · rcases jA hp with hp | hp
      · exact htm p hp
      · exact mo p hp
   have N₂ : News h₀ env.locals h₁ (mu₁ ++ (own ++ (tl ++ news))) := fun p hp => N₁ p (by
    rcases jA hp with hp | hp
    · exact jR _ (jL _ hp)
    · rcases jA hp with hp | hp
      · exact jL _ hp
      · exact jR _ (jR _ hp))
   have fin' : ∀ s₂, FNext h₀ env.locals names mus J s mu₁ (own ++ (tl ++ news)) tl i s₂ →
    ∃ h' tk m' news', s₂ = { s with heap := h', toks := tk } ∧ Fr h₀ env.locals h' m' ∧ News h₀ env.locals h' (own ++ news') ∧ (∀ p ∈ news', p.1 ∉ wr) ∧
     ForI names mus news J (i + 1) m' news' := by
    rintro q_ ⟨h', tk', al', mu', tl', rfl, F', ha', N', ab', hm', hJ'⟩
    refine ⟨h', tk', frm al', mu' ++ ((tl' ++ tl) ++ news), rfl, F', fun p hp => N' p ?_, fun p hp => ?_, ⟨al', mu', tl' ++ tl, rfl, rfl, ha', ?_, hm', ?_, hJ'⟩⟩
    · rcases jA hp with hp | hp
      · exact jR _ (jR _ (jL _ hp))
      · rcases jA hp with hp | hp
        · exact jL _ hp
        · rw [List.append_assoc] at hp
          rcases jA hp with hp | hp
          · exact jR _ (jL _ hp)
          · exact jR _ (jR _ (jR _ hp))
    · rcases jA hp with hp | hp
      · intro x
        exact hfm _ (W.sub _ x) (hm' ▸ List.mem_map_of_mem hp)
      · rw [List.append_assoc] at hp
        rcases jA hp with hp | hp
        · intro x
          obtain ⟨o, ho⟩ := hwo _ _ hst₁ _ (W.sub _ x)
          have := hown3 _ (W.sub _ x) (hfo _ (W.sub _ x)) o ho
          exact absurd (ab' p hp _ (jR _ (jL _ this))) (Nat.lt_irrefl _)
        · exact off₁ p (jR _ hp)
    · intro q hq p hp
      rcases jA hq with hq | hq
      · exact ab' q hq p (jR _ (jR _ (jR _ hp)))
      · exact ab q hq p hp
    · intro p hp
      rcases jA hp with hp | hp
      · intro x
        rw [← hm₁] at x
        obtain ⟨q, hq, e⟩ := List.mem_map.mp x
        exact absurd (ab' p hp q (jL _ hq)) (by rw [e]; exact Nat.lt_irrefl _)
      · exact htm p hp
   refine wpAny_mono (step i v al₁ mu₁ tl (own ++ (tl ++ news)) h₁ tk₁ hi hP hJ ab hm₁ st moL F₁ ha₁ N₂) (fun q_ s₃ h₃ => wpAny_mono h₃ (fun f s₄ h₄ => ?_) fun q_ q_ e => e) fun q_ q_ e => e
   cases f with
   | ret v => exact h₄
   | brk => exact h₄
   | cont =>
    obtain ⟨h', tk, m', news', e, F', N', o', J'⟩ := fin' _ h₄
    exact ⟨rfl, h', tk, m', news', e, F', N', o', J'⟩
   | next =>
    obtain ⟨h', tk, m', news', e, F', N', o', J'⟩ := fin' _ h₄
    exact ⟨rfl, h', tk, m', news', e, F', N', o', J'⟩
 · rintro h' tk m' news' F' N' off' ⟨al', mu', tl, rfl, rfl, ha', ab, hm', q_, hJ⟩
   exact fin h' tk al' mu' tl F' ha' N' ab hm' hJ
theorem fsrc_list {x : Str} {px : Pos} {ax : Addr} {its : Array Value} {k : Nat} (J : Nat → List (Str × Option Value) → Led → Led → Prop)
 (hh : A.handled = none) (hL : env.locals = L) (F : Fr h₀ L s.heap (frm al)) (N : News h₀ L s.heap (mu ++ news)) (hm : (ax, listOf its k) ∈ news) (mo : ∀ p ∈ news, p.1 ∉ mus) (hmu : mu.map (·.1) = mus) (ha : al.map (·.1) = names.map (·.1)) (h0 : J 0 al mu [])
 (step : ∀ s₂, (∃ g, s₂ = { s with heap := g }) → FTurn prog w A h₀ L env (.Name x px) body names mus news (fun i v q_ => its[i]? = some v) J its.size s₂ Q E)
 (fin : ∀ s₂, (∃ g, s₂ = { s with heap := g }) → ∀ h' tk' al' mu' tl, Fr h₀ L h' (frm al') → al'.map (·.1) = names.map (·.1) → News h₀ L h' (mu' ++ (tl ++ news)) → Abv news tl → mu'.map (·.1) = mus → J its.size al' mu' tl → Q .next { s₂ with heap := h', toks := tk' }) :
 wpAny (model prog w) A (pyIter (.ref ax)) (fun it s₂ => TurnsAt prog w A h₀ env (.Name x px) body Q E it s₂) E s := by
 have Nx := N _ (jR _ hm)
 have hl : s.heap.IsList ax its := ⟨_, Nx.1, rfl, k, rfl⟩
 have hlt : ax < s.heap.objs.size := Heap.lt_size Nx.1
 refine wpAny_pyIter_list hl ?_
 have up : ∀ b o, s.heap.get? b = some o → (s.heap.push { cls := .type "list_iterator", data := .fields #[.ref ax, .int 0 0] }).get? b = some o := fun b o e => Heap.get?_push_of_some _ e
 have W := Walks.list (prog := prog) (w := w) hh s.heap.objs.size ax (Nat.ne_of_lt hlt) its
 have nlt : ∀ p ∈ mu ++ news, p.1 < s.heap.objs.size := fun p hp => Heap.lt_size (N p hp).1
 have mu_of : ∀ z ∈ mus, ∃ p ∈ mu, p.1 = z := fun z hz => by rw [← hmu] at hz; exact List.mem_map.mp hz
 refine for_core (KTurns.ofWalks W (target := .Name x px) (fun i v s Q' E' st hQ => wpAny_pure hQ)) hL ?_ ?_ ?_ ?_ ?_ mo hmu ?_ (F.keeps up) (N.grown up) ha h0 (step _ ⟨_, rfl⟩) (fin _ ⟨_, rfl⟩)
 · intro hm'
   rcases jX hm' with e | hm'
   · exact Nat.ne_of_lt F.ns.lt e
   · exact Nx.2.1 (jO hm').symm
 · intro b hb
   rcases jX hb with rfl | hb
   · exact next_is_new F
   · rw [jO hb]; exact Nx.2.2
 · rintro i h ⟨⟨o, e, q_⟩, ⟨o', e', q_⟩⟩ b hb
   rcases jX hb with rfl | hb
   · exact ⟨o, e⟩
   · rw [jO hb]; exact ⟨o', e'⟩
 · intro b hb hx
   rcases jX hb with rfl | hb
   · obtain ⟨p, hp, e⟩ := mu_of _ hx
     exact Nat.ne_of_lt (nlt p (jL _ hp)) e
   · rw [jO hb] at hx; exact mo _ hm hx
 · intro p hp hx; exact Nat.ne_of_lt (nlt p hp) (jO hx)
 · exact ⟨⟨_, Heap.get?_push_size _ rfl, rfl, rfl⟩, hl.push _⟩
theorem fsrc_enum {elts : List PySem.Expr} {k9 : Nat} {tp : Pos} {ax : Addr} {its : Array Value} {k : Nat} (J : Nat → List (Str × Option Value) → Led → Led → Prop)
 (hh : A.handled = none) (hL : env.locals = L) (F : Fr h₀ L s.heap (frm al)) (N : News h₀ L s.heap (mu ++ news)) (hm : (ax, listOf its k) ∈ news) (mo : ∀ p ∈ news, p.1 ∉ mus) (hmu : mu.map (·.1) = mus) (ha : al.map (·.1) = names.map (·.1)) (h0 : J 0 al mu [])
 (step : ∀ s₂, (∃ g, s₂ = { s with heap := g }) → FTurn prog w A h₀ L env (.Tuple elts k9 tp) body names mus news (fun i v h => ∃ T t x, v = .ref T ∧ its[i]? = some x ∧ IsTup h T #[.int i t, x]) J its.size s₂ Q E)
 (fin : ∀ s₂, (∃ g, s₂ = { s with heap := g }) → ∀ h' tk' al' mu' tl, Fr h₀ L h' (frm al') → al'.map (·.1) = names.map (·.1) → News h₀ L h' (mu' ++ (tl ++ news)) → Abv news tl → mu'.map (·.1) = mus → J its.size al' mu' tl → Q .next { s₂ with heap := h', toks := tk' }) :
 wpAny (model prog w) A (call (.type "enumerate") [.ref ax]) (fun xv s₁ => wpAny (model prog w) A (pyIter xv) (fun it s₂ => TurnsAt prog w A h₀ env (.Tuple elts k9 tp) body Q E it s₂) E s₁) E s := by
 have Nx := N _ (jR _ hm)
 have hl : s.heap.IsList ax its := ⟨_, Nx.1, rfl, k, rfl⟩
 have hlt : ax < s.heap.objs.size := Heap.lt_size Nx.1
 have nlt : ∀ p ∈ mu ++ news, p.1 < s.heap.objs.size := fun p hp => Heap.lt_size (N p hp).1
 have mu_of : ∀ z ∈ mus, ∃ p ∈ mu, p.1 = z := fun z hz => by rw [← hmu] at hz; exact List.mem_map.mp hz
 refine call_enumerate_list hl fun h' he hit hsz hk => ?_
 refine wpAny_pyIter_enum he ?_
 have D1 : s.heap.objs.size + 1 ≠ s.heap.objs.size := Nat.succ_ne_self _
 have D2 : ax ≠ s.heap.objs.size + 1 := Nat.ne_of_lt (Nat.lt_succ_of_lt hlt)
 have W := (WalksT.enumerate (prog := prog) (w := w) hh (s.heap.objs.size + 1) s.heap.objs.size ax D1 D2 (Nat.ne_of_lt hlt) its).toU
 have K := KTurns.ofWalksU (elts := elts) (k := k9) (pos := tp) W
 have K' : KTurns prog w A (.Tuple elts k9 tp) (s.heap.objs.size + 1) [s.heap.objs.size + 1, s.heap.objs.size, ax] [s.heap.objs.size + 1, s.heap.objs.size] its.size (fun i v h => ∃ T t x, v = .ref T ∧ its[i]? = some x ∧ IsTup h T #[.int i t, x]) _ _ :=
  { sub := K.sub, frame := K.frame, item := K.item, done := K.done, go := fun i v s Q E hm hQ => K.go i v s Q E hm fun h' hP st hk => hQ h' (by obtain ⟨T, vals, rfl, ⟨t, x, hx, rfl⟩, hT⟩ := hP; exact ⟨T, t, x, rfl, hx, hT⟩) st hk }
 refine for_core (s := { s with heap := h' }) K' hL ?_ ?_ ?_ ?_ ?_ mo hmu ?_ (F.keeps hk) (N.grown hk) ha h0 (step _ ⟨h', rfl⟩) (fin _ ⟨h', rfl⟩)
 · have hLs : L < s.heap.objs.size := F.ns.lt
   exact fun h => fa3 (p := (· ≠ L)) (Nat.ne_of_gt (Nat.lt_succ_of_lt hLs)) (Nat.ne_of_gt hLs) Nx.2.1 _ h rfl
 · exact fa3 (p := fun b => h₀.get? b = none) (new_none F (Nat.le_succ _)) (new_none F (Nat.le_refl _)) Nx.2.2
 · rintro i h ⟨⟨q_, he⟩, ⟨o1, ho1, q_⟩, ⟨o2, ho2, q_⟩⟩
   exact fa3 (p := fun b => ∃ o, h.get? b = some o) ⟨_, he⟩ ⟨_, ho1⟩ ⟨_, ho2⟩
 · have big : ∀ a, s.heap.objs.size ≤ a → a ∉ mus := fun a ha hx => by
    obtain ⟨p, hp, e⟩ := mu_of _ hx
    exact absurd (nlt p (jL _ hp)) (Nat.not_lt.mpr (e ▸ ha))
   exact fa3 (p := (· ∉ mus)) (big _ (Nat.le_succ _)) (big _ (Nat.le_refl _)) (mo _ hm)
 · intro p hp hx
   exact fa2 (p := (· ≠ p.1)) (Nat.ne_of_gt (Nat.lt_succ_of_lt (nlt p hp))) (Nat.ne_of_gt (nlt p hp)) _ hx rfl
 · exact ⟨⟨_, he⟩, hit, hl.at fun o e => hk _ o e⟩
end
noncomputable def dotN (f g : Nat → Int) : Nat → Int
 | 0 => 0
 | i + 1 => dotN f g i + f i * g i
theorem mul81 {x y : Int} (hx : -9 ≤ x ∧ x ≤ 9) (hy : -9 ≤ y ∧ y ≤ 9) : -81 ≤ x * y ∧ x * y ≤ 81 := by
 exact allI 9 (P := fun y => -81 ≤ x * y ∧ x * y ≤ 81) (allI 9 (P := fun x => ∀ m : Nat, m < 2 * 9 + 1 → -81 ≤ x * ((m : Int) - (9 : Nat)) ∧ x * ((m : Int) - (9 : Nat)) ≤ 81) (by decide +kernel) hx) hy
theorem dotN_le {f g : Nat → Int} (n : Nat) (hf : ∀ i, i < n → -9 ≤ f i ∧ f i ≤ 9) (hg : ∀ i, i < n → -9 ≤ g i ∧ g i ≤ 9) : -(81 * (n : Int)) ≤ dotN f g n ∧ dotN f g n ≤ 81 * (n : Int) := by
 induction n with
 | zero => exact ⟨Int.le_refl 0, Int.le_refl 0⟩
 | succ n ih =>
  have h1 := ih (fun i hi => hf i (Nat.lt_succ_of_lt hi)) (fun i hi => hg i (Nat.lt_succ_of_lt hi))
  have h2 := mul81 (hf n (Nat.lt_succ_self n)) (hg n (Nat.lt_succ_self n))
  rw [show 81 * ((n + 1 : Nat) : Int) = 81 * n + 81 from Int.mul_add 81 n 1, Int.neg_add]
  exact ⟨Int.add_le_add h1.1 h2.1, Int.add_le_add h1.2 h2.2⟩
end Mine
namespace Mine
noncomputable def WordOk (word : Str) (dec : Bool) : Prop := (word, dec) ∈ [((Str.ofString "A%" : Str), false), ((Str.ofString "A" : Str), true), ((Str.ofString "B%" : Str), false), ((Str.ofString "B" : Str), true), ((Str.ofString "C%" : Str), false), ((Str.ofString "C" : Str), true), ((Str.ofString "D%" : Str), false), ((Str.ofString "D" : Str), true), ((Str.ofString "E%" : Str), false), ((Str.ofString "E" : Str), true), ((Str.ofString "S%" : Str), false), ((Str.ofString "S" : Str), true)]
end Mine
namespace Mine
theorem pick_run {its : Array Value} {a b : Nat} (hb : b ≤ its.size) (hab : a ≤ b) : (slicePick its (some (a : Int)) (some (b : Int)) none).size = b - a ∧ ∀ q, q < b - a → (slicePick its (some (a : Int)) (some (b : Int)) none)[q]? = its[a + q]? := by
 rw [slicePick_run its a b hb hab]
 refine ⟨?_, fun q hq => ?_⟩
 · simp only [List.size_toArray, List.length_take, List.length_drop, Array.length_toList]
   exact Nat.min_eq_left (Nat.sub_le_sub_right hb a)
 · simp only [List.getElem?_toArray, List.getElem?_take, List.getElem?_drop, Array.getElem?_toList]
   rw [if_pos hq]
theorem pick_from {its : Array Value} {a : Nat} : (slicePick its (some (a : Int)) none none).size = its.size - a ∧ ∀ q, (slicePick its (some (a : Int)) none none)[q]? = its[a + q]? := by
 rw [slicePick_from' its a]
 refine ⟨?_, fun q => ?_⟩
 · simp only [List.size_toArray, List.length_drop, Array.length_toList]
 · simp only [List.getElem?_toArray, List.getElem?_drop, Array.getElem?_toList]
theorem rs13 : ∀ R, R < 14 → ∀ W, W < 14 → 1 ≤ R → 1 ≤ W → Builtin.Range.rangeSize 0 ((R * W : Nat) : Int) (W : Int) = ((R : Nat) : Int) ∧ Builtin.Range.small 0 ((R * W : Nat) : Int) (W : Int) = true := by decide +kernel
noncomputable def cellF (F : NNI) : NNI
 | i + 1, j + 1 => F i j
 | _, _ => 0
structure ArrIs (dec : Bool) (b : Nat) (news : Led) (its : Array Value) (r c : Nat) (F : NNI) : Prop where
 size : its.size = (r + 1 - b) * (c + 1 - b)
 item : ∀ p q : Nat, p < r + 1 - b → q < c + 1 - b → ∃ v, its[p * (c + 1 - b) + q]? = some v ∧ NumO (some dec) news v (cellF F (p + b) (q + b))
theorem ArrIs.mono {dec : Bool} {b : Nat} {news news' : Led} {its : Array Value} {r c : Nat} {F : NNI} (h : ArrIs dec b news its r c F) (hs : ∀ p ∈ news, p ∈ news') : ArrIs dec b news' its r c F :=
 ⟨h.size, fun p q hp hq => let ⟨v, e, x⟩ := h.item p q hp hq; ⟨v, e, x.mono hs⟩⟩
noncomputable abbrev gEs (P : Params) (t : Nat → Tok) (kd : Str) (hl : Addr) (b : Int) (il : Addr) (room : Int) : List DictEntry :=
 [⟨PyData.keyHash P (Str.ofString "kind"), .str (Str.ofString "kind") (t 0), .str kd (t 1)⟩, ⟨PyData.keyHash P (Str.ofString "highs"), .str (Str.ofString "highs") (t 2), .ref hl⟩, ⟨PyData.keyHash P (Str.ofString "base"), .str (Str.ofString "base") (t 3), .int b (t 4)⟩,
  ⟨PyData.keyHash P (Str.ofString "items"), .str (Str.ofString "items") (t 5), .ref il⟩, ⟨PyData.keyHash P (Str.ofString "room"), .str (Str.ofString "room") (t 6), .int room (t 7)⟩]
section
variable {prog : Program} {w : World} {A : Around} {E : VSP} {s : Shared} {h₀ : Heap} {L : Addr} {led : Led} {l : Addr} {its : Array Value} {q : Nat} {Q : VSP} {value slice : PySem.Expr} {k : Int} {u : Tok} {v : Value}
theorem sub_list (N : News h₀ L s.heap led) (hm : (l, listOf its q) ∈ led) (hk : 0 ≤ k) (hj : k < 1000) (e : its[k.toNat]? = some v) (h : Q v s)
 (hu : subscripted slice false (.ref l) (.int k u) = operate [.ref l, .int k u] (getItem (.ref l) (.int k u))) :
 wpAny (model prog w) A (subscriptTail value slice (.ref l) (.int k u)) Q E s := by
 have hl := News.isList N hm
 exact tail_any hl.typeIs slot_list_getitem.lookup (wpAny_getItem_list hl (by lia) (by lia) (x := v) e h) hu
theorem len_list (N : News h₀ L s.heap led) (hm : (l, listOf its q) ∈ led) (hr : its.size ≤ 1000) (h : Q (.int its.size (s.toks + 1)) { s with toks := s.toks + 1 + 1 }) : wpAny (model prog w) A (call (.builtin "len") [.ref l]) Q E s :=
 kun_lenL (k := its.size) (News.isList N hm) rfl (by lia) h
end
theorem slice_any {prog : Program} {w : World} {A : Around} {E : VSP} {s : Shared} {h₀ : Heap} {L l : Addr} {m : SoV} {news : Led} {value slice : PySem.Expr} {its : Array Value} {vl vu : Value} {lo hi : Option Int} {Q : VSP} {k : Nat}
 (F : Fr h₀ L s.heap m) (N : News h₀ L s.heap news) (hm : (l, listOf its k) ∈ news) (pl : IsPart vl lo) (pu : IsPart vu hi)
 (h : ∀ D h', Fr h₀ L h' m → News h₀ L h' ((D, listOf (slicePick its lo hi none) 0) :: news) → (∀ p ∈ news, p.1 < D) → Q (.ref D) { s with heap := h' })
 (hs : subscripted slice false (.ref l) (.ref s.heap.objs.size) = operate [.ref s.heap.objs.size, .ref l] (getItem (.ref l) (.ref s.heap.objs.size))) (hz : its.size ≤ 1000) :
 wpAny (model prog w) A (subscriptTail value slice (.ref l) (.ref s.heap.objs.size)) Q E { s with heap := s.heap.push { cls := .type "slice", data := .fields #[vl, vu, .none] } } := by
 have hl := News.isList N hm
 refine tail_any (Heap.IsList.typeIs (s := { s with heap := s.heap.push { cls := .type "slice", data := .fields #[vl, vu, .none] } }) (hl.push _)) slot_list_getitem.lookup
  (wpAny_getItem_list_slice (hl.push _) (Heap.IsSliceOf.new ..) pl pu .none (by simp) ?_ (by rw [PySem.sizeLine_eq]; lia)) hs
 have N1 := News.push (F.push { cls := .type "slice", data := .fields #[vl, vu, .none] }) (N.grown fun q_ q_ e => Heap.get?_push_of_some _ e) { cls := .type "list", data := .seq (slicePick its lo hi none) }
 rw [Heap.size_push] at N1
 show Q (.ref (s.heap.push _).objs.size) _
 rw [Heap.size_push]
 exact h _ _ ((F.push _).push _) N1 fun p hp => Nat.lt_succ_of_lt (Heap.lt_size (N p hp).1)
end Mine
namespace Mine
open LCg
section
variable {prog : Program} {w : World} {A : Around} {E : VSP} {s : Shared} {h₀ : Heap} {L : Addr} {env : Env} {target : PySem.Expr} {body : List Stmt} {Q : Flow → Shared → Prop} {names : NKs} {al : List (Str × Option Value)}
 {mus : List Addr} {mu news : Led} {J : Nat → List (Str × Option Value) → Led → Led → Prop} {n : Nat}
theorem fsrc_zip {elts : List PySem.Expr} {k9 : Nat} {tp : Pos} {l1 l2 : Addr} {xs ys : Array Value} {k1 k2 : Nat} (J : Nat → List (Str × Option Value) → Led → Led → Prop)
 (hh : A.handled = none) (hL : env.locals = L) (F : Fr h₀ L s.heap (frm al)) (N : News h₀ L s.heap (mu ++ news)) (hm1 : (l1, listOf xs k1) ∈ news) (hm2 : (l2, listOf ys k2) ∈ news) (mo : ∀ p ∈ news, p.1 ∉ mus) (hmu : mu.map (·.1) = mus) (ha : al.map (·.1) = names.map (·.1)) (h0 : J 0 al mu [])
 (step : ∀ s₂, (∃ g, s₂ = { s with heap := g }) → FTurn prog w A h₀ L env (.Tuple elts k9 tp) body names mus news (fun i v h => ∃ T x y, v = .ref T ∧ xs[i]? = some x ∧ ys[i]? = some y ∧ IsTup h T #[x, y]) J (min xs.size ys.size) s₂ Q E)
 (fin : ∀ s₂, (∃ g, s₂ = { s with heap := g }) → ∀ h' tk' al' mu' tl, Fr h₀ L h' (frm al') → al'.map (·.1) = names.map (·.1) → News h₀ L h' (mu' ++ (tl ++ news)) → Abv news tl → mu'.map (·.1) = mus → J (min xs.size ys.size) al' mu' tl → Q .next { s₂ with heap := h', toks := tk' }) :
 wpAny (model prog w) A (call (.type "zip") [.ref l1, .ref l2]) (fun xv s₁ => wpAny (model prog w) A (pyIter xv) (fun it s₂ => TurnsAt prog w A h₀ env (.Tuple elts k9 tp) body Q E it s₂) E s₁) E s := by
 have Nx1 := N _ (jR _ hm1)
 have Nx2 := N _ (jR _ hm2)
 have hl1 : s.heap.IsList l1 xs := ⟨_, Nx1.1, rfl, k1, rfl⟩
 have hl2 : s.heap.IsList l2 ys := ⟨_, Nx2.1, rfl, k2, rfl⟩
 have hlt1 : l1 < s.heap.objs.size := Heap.lt_size Nx1.1
 have hlt2 : l2 < s.heap.objs.size := Heap.lt_size Nx2.1
 have D : ZipApart (s.heap.objs.size + 4) (s.heap.objs.size + 2) (s.heap.objs.size + 3) s.heap.objs.size (s.heap.objs.size + 1) l1 l2 := ktu_apart _ _ _ hlt1 hlt2
 have nlt : ∀ p ∈ mu ++ news, p.1 < s.heap.objs.size := fun p hp => Heap.lt_size (N p hp).1
 have mu_of : ∀ z ∈ mus, ∃ p ∈ mu, p.1 = z := fun z hz => by rw [← hmu] at hz; exact List.mem_map.mp hz
 refine call_zip_2 hl1 hl2 fun h' hz hTI hTO hi1 hi2 hsz' hk => ?_
 refine wpAny_pyIter_zip hz ?_
 have W := (WalksT.zip2 (prog := prog) (w := w) hh _ _ _ _ _ _ _ D xs ys).toU
 have K := KTurns.ofWalksU (elts := elts) (k := k9) (pos := tp) W
 have K' : KTurns prog w A (.Tuple elts k9 tp) _ _ _ (min xs.size ys.size) (fun i v h => ∃ T x y, v = .ref T ∧ xs[i]? = some x ∧ ys[i]? = some y ∧ IsTup h T #[x, y]) _ _ :=
  { sub := K.sub, frame := K.frame, item := K.item, done := K.done, go := fun i v s Q E hm hQ => K.go i v s Q E hm fun h' hP st hk => hQ h' (by obtain ⟨T, vals, rfl, ⟨x, y, hx, hy, rfl⟩, hT⟩ := hP; exact ⟨T, x, y, rfl, hx, hy, hT⟩) st hk }
 refine for_core (s := { s with heap := h' }) K' hL ?_ ?_ ?_ ?_ ?_ mo hmu ?_ (F.keeps hk) (N.grown hk) ha h0 (step _ ⟨h', rfl⟩) (fin _ ⟨h', rfl⟩)
 · have hL : L < s.heap.objs.size := F.ns.lt
   have ne : ∀ k, s.heap.objs.size + k ≠ L := fun k => Nat.ne_of_gt (Nat.lt_of_lt_of_le hL (Nat.le_add_right _ _))
   exact fun h => fa7 (p := (· ≠ L)) (ne 4) (ne 2) (ne 3) (ne 0) (ne 1) Nx1.2.1 Nx2.2.1 _ h rfl
 · exact fa7 (p := fun b => h₀.get? b = none) (new_none F (Nat.le_add_right _ _)) (new_none F (Nat.le_add_right _ _)) (new_none F (Nat.le_add_right _ _)) (new_none F (Nat.le_refl _)) (new_none F (Nat.le_add_right _ _)) Nx1.2.2 Nx2.2.2
 · rintro i h ⟨hz, hTI, ⟨a, b', hTO⟩, ⟨o1, ho1, q_⟩, ⟨o2, ho2, q_⟩, ⟨o3, ho3, q_⟩, ⟨o4, ho4, q_⟩⟩
   exact fa7 (p := fun b => ∃ o, h.get? b = some o) ⟨_, hz⟩ ⟨_, hTI⟩ ⟨_, hTO⟩ ⟨_, ho1⟩ ⟨_, ho2⟩ ⟨_, ho3⟩ ⟨_, ho4⟩
 · have big : ∀ a, s.heap.objs.size ≤ a → a ∉ mus := fun a ha hx => by
    obtain ⟨p, hp, e⟩ := mu_of _ hx
    exact absurd (nlt p (jL _ hp)) (Nat.not_lt.mpr (e ▸ ha))
   exact fa7 (p := (· ∉ mus)) (big _ (Nat.le_add_right _ _)) (big _ (Nat.le_add_right _ _)) (big _ (Nat.le_add_right _ _)) (big _ (Nat.le_refl _)) (big _ (Nat.le_add_right _ _)) (mo _ hm1) (mo _ hm2)
 · intro p hp hx
   have ne : ∀ k, s.heap.objs.size + k ≠ p.1 := fun k => Nat.ne_of_gt (Nat.lt_of_lt_of_le (nlt p hp) (Nat.le_add_right _ _))
   exact fa4 (p := (· ≠ p.1)) (ne 4) (ne 3) (ne 0) (ne 1) _ hx rfl
 · exact ⟨hz, hTI, ⟨_, _, hTO⟩, hi1, hi2, hl1.at fun o e => hk _ o e, hl2.at fun o e => hk _ o e⟩
end
noncomputable def tk8 (a0 a1 a2 a3 a4 a5 a6 a7 : Tok) : Nat → Tok := fun n => if n = 0 then a0 else if n = 1 then a1 else if n = 2 then a2 else if n = 3 then a3 else if n = 4 then a4 else if n = 5 then a5 else if n = 6 then a6 else a7
theorem cell_0 : ∀ {i j : Nat}, cellF (fun q_ q_ => 0) i j = 0
 | _ + 1, _ + 1 => rfl
 | 0, _ => rfl
 | _ + 1, 0 => rfl
theorem zeros_is {dec : Bool} {b r c : Nat} {news : Led} {x : Value} {Z : Nat} (hZ : Z = (r + 1 - b) * (c + 1 - b)) (hx : NumO (some dec) news x 0) : ArrIs dec b news (List.replicate (Z : Int).toNat [x]).flatten.toArray r c (fun q_ q_ => 0) := by
 have e : (List.replicate (Z : Int).toNat [x]).flatten = List.replicate Z x := by rw [Int.toNat_natCast, lm_rep_flat_one]
 rw [e]
 refine ⟨by simp [hZ], fun p q hp hq => ⟨x, ?_, ?_⟩⟩
 · have : p * (c + 1 - b) + q < Z := by
    rw [hZ]
    exact Nat.lt_of_lt_of_le (Nat.add_lt_add_left hq _) (Nat.succ_mul p (c + 1 - b) ▸ Nat.mul_le_mul_right (c + 1 - b) hp)
   simp [List.getElem?_replicate, this]
 · exact (cell_0 (i := p + b) (j := q + b)).symm ▸ hx
end Mine
namespace Mine
open LCg
theorem cell_congr {r c : Nat} {f g : NNI} (e : ∀ p q, p < r → q < c → f p q = g p q) : ∀ {i j : Nat}, i ≤ r → j ≤ c → cellF f i j = cellF g i j
 | _ + 1, _ + 1, hi, hj => e _ _ hi hj
 | 0, _, _, _ => rfl
 | _ + 1, 0, _, _ => rfl
theorem cell_ne {f : NNI} {i j : Nat} {n : Int} : ∀ {p q : Nat}, ¬(p = i + 1 ∧ q = j + 1) → cellF (fun p q => if p = i ∧ q = j then n else f p q) p q = cellF f p q
 | _ + 1, _ + 1, h => if_neg fun e => h ⟨congrArg (· + 1) e.1, congrArg (· + 1) e.2⟩
 | 0, _, _ => rfl
 | _ + 1, 0, _ => rfl
theorem ArrIs.congr {dec : Bool} {b : Nat} {news : Led} {its : Array Value} {r c : Nat} {f g : NNI} (h : ArrIs dec b news its r c f) (e : ∀ p q, p < r → q < c → f p q = g p q) : ArrIs dec b news its r c g :=
 ⟨h.size, fun p q hp hq =>
  have ⟨v, e1, x⟩ := h.item p q hp hq
  ⟨v, e1, cell_congr e (Nat.le_of_lt_succ (Nat.add_lt_of_lt_sub hp)) (Nat.le_of_lt_succ (Nat.add_lt_of_lt_sub hq)) ▸ x⟩⟩
theorem cell_inj {a b c i j : Nat} (hj : j < c) (hb : b < c) (e : i * c + j = a * c + b) : a = i ∧ b = j := by
 have h : j = b := by
  have := congrArg (· % c) e
  rw [Nat.mul_comm, Nat.mul_comm a] at this
  simpa only [Nat.mul_add_mod, Nat.mod_eq_of_lt hj, Nat.mod_eq_of_lt hb] using this
 subst h
 exact ⟨(Nat.eq_of_mul_eq_mul_right (Nat.zero_lt_of_lt hj) (Nat.add_right_cancel e)).symm, rfl⟩
theorem ArrIs.setAt {dec : Bool} {b : Nat} {news : Led} {its : Array Value} {r c i j k : Nat} {f : NNI} {v : Value} {n : Int} (h : ArrIs dec b news its r c f) (hb : b ≤ 1) (hi : i < r) (hj : j < c) (hv : NumO (some dec) news v n) (hk : k = (i + 1 - b) * (c + 1 - b) + (j + 1 - b)) :
 k < its.size ∧ ArrIs dec b news (its.setIfInBounds k v) r c (fun p q => if p = i ∧ q = j then n else f p q) := by
 have hlt : k < its.size := by
  rw [h.size, hk]
  exact Nat.lt_of_lt_of_le (Nat.add_lt_add_left (sbr hb hj) _) (Nat.succ_mul (i + 1 - b) _ ▸ Nat.mul_le_mul_right _ (sbr hb hi))
 refine ⟨hlt, Array.size_setIfInBounds.trans h.size, fun p q hp hq => ?_⟩
 obtain ⟨v', e', x'⟩ := h.item p q hp hq
 by_cases hpq : p = i + 1 - b ∧ q = j + 1 - b
 · refine ⟨v, ?_, ?_⟩
   · rw [hpq.1, hpq.2, ← hk, Array.getElem?_setIfInBounds_self_of_lt hlt]
   · rw [hpq.1, hpq.2, sba hb, sba hb]
     show NumO _ _ _ (if i = i ∧ j = j then n else f i j)
     rw [if_pos ⟨rfl, rfl⟩]
     exact hv
 · refine ⟨v', ?_, ?_⟩
   · rw [Array.getElem?_setIfInBounds_ne fun e9 => hpq (cell_inj (sbr hb hj) hq (hk.symm.trans e9)), e']
   · exact (cell_ne fun e => hpq ⟨Nat.eq_sub_of_add_eq e.1, Nat.eq_sub_of_add_eq e.2⟩).symm ▸ x'
noncomputable def mixF (f f0 : NNI) (i j : Nat) (p q : Nat) : Int := if p < i ∨ (p = i ∧ q < j) then f p q else f0 p q
theorem mix_start (f f0 : NNI) (p q : Nat) : f0 p q = mixF f f0 0 0 p q := (if_neg fun h => h.elim (Nat.not_lt_zero _) fun h => Nat.not_lt_zero _ h.2).symm
theorem mix_item (f f0 : NNI) (i j p q : Nat) : (if p = i ∧ q = j then f i j else mixF f f0 i j p q) = mixF f f0 i (j + 1) p q := by
 by_cases h : p = i ∧ q = j
 · rw [if_pos h, h.1, h.2]
   exact (if_pos (.inr ⟨rfl, Nat.lt_succ_self _⟩)).symm
 · rw [if_neg h]
   by_cases h2 : p < i ∨ (p = i ∧ q < j)
   · exact (if_pos h2).trans (if_pos (h2.imp id fun h => ⟨h.1, Nat.lt_succ_of_lt h.2⟩)).symm
   · exact (if_neg h2).trans (if_neg fun e => h2 (e.imp id fun e => ⟨e.1, Nat.lt_of_le_of_ne (Nat.le_of_lt_succ e.2) fun q => h ⟨e.1, q⟩⟩)).symm
theorem mix_row (f f0 : NNI) (i c p q : Nat) (hq : q < c) : mixF f f0 i c p q = mixF f f0 (i + 1) 0 p q := by
 by_cases h2 : p < i ∨ (p = i ∧ q < c)
 · exact (if_pos h2).trans (if_pos (.inl (h2.elim Nat.lt_succ_of_lt fun h => h.1 ▸ Nat.lt_succ_self _))).symm
 · exact (if_neg h2).trans (if_neg fun e => h2 (e.elim (fun e => (Nat.lt_or_eq_of_le (Nat.le_of_lt_succ e)).imp id fun e => ⟨e, hq⟩) fun e => absurd e.2 (Nat.not_lt_zero _))).symm
theorem mix_end (f f0 : NNI) (r p q : Nat) (hp : p < r) : mixF f f0 r 0 p q = f p q := by
 unfold mixF
 rw [if_pos (.inl hp)]
section
variable {prog : Program} {w : World} {A : Around} {E : VSP} {s : Shared} {h₀ : Heap} {L D : Addr} {m : SoV} {rest : Led} {its : Array Value} {n : Nat} {k : Int} {t : Tok} {v : Value}
theorem set_mu {Q : Unit → Shared → Prop} (F : Fr h₀ L s.heap m) (N : News h₀ L s.heap ((D, listOf its n) :: rest)) (hne : ∀ p ∈ rest, p.1 ≠ D) (h0 : 0 ≤ k) (hfit : k < 2 ^ 63) (hz : k < its.size)
 (h : ∀ h', Fr h₀ L h' m → News h₀ L h' ((D, listOf (its.setIfInBounds k.toNat v) n) :: rest) → Q () { s with heap := h' }) : wpAny (model prog w) A (setItem (.ref D) (.int k t) v) Q E s := by
 have z := N (D, listOf its n) List.mem_cons_self
 refine ki_setAt z.1 h0 hfit hz (h _ (F.change (Heap.SameBut.update ..) z.2.1 z.2.2) (ki_turn (pre := []) _ N (fun q_ h => nomatch h) hne rfl ?_))
 simp
end
theorem stored_new {K : Type} [DecidableEq K] {kvs : List (K × Value)} {k : K} {v : Value} (h : valueAt kvs k = none) : stored kvs k v = kvs ++ [(k, v)] := by
 have hn : ∀ kv ∈ kvs, ¬ kv.1 = k := fun kv hkv e => by
  unfold valueAt at h
  rw [Option.map_eq_none_iff, List.find?_eq_none] at h
  exact h kv hkv (decide_eq_true e)
 unfold stored
 rw [if_neg]
 intro ha
 obtain ⟨kv, h1, h2⟩ := List.any_eq_true.mp ha
 exact hn kv h1 (of_decide_eq_true h2)
end Mine
namespace Mine
theorem kda_itemA {prog : Program} {w : World} {K : Type} [DecidableEq K] {knd : KeyKind prog w K} {A : Around} {E : VSP} {s : Shared} {h₀ : Heap} {L d : Addr} {news : Led} {o : Obj} {kvs : List (K × Value)} {k : K} {key v : Value} {value slice : PySem.Expr} {Q : VSP}
 (N : News h₀ L s.heap news) (hp : (d, o) ∈ news) (hd : o.IsDictOf knd kvs) (hkey : knd.is k key = true) (hl : valueAt kvs k = some v) (h : Q v { s with toks := s.toks + 1 })
 (hs : subscripted slice false (.ref d) key = operate [.ref d, key] (getItem (.ref d) key)) :
 wpAny (model prog w) A (subscriptTail value slice (.ref d) key) Q E s :=
 have hD := kda_dict N hp hd
 tail_any hD.typeIs slot_dict_getitem.lookup (wpAny_getItem_of hkey hD.mapOf hl h) hs
end Mine
namespace Mine
section
variable {prog : Program} {w : World} {P : Params} {wa ad nd : Addr} {dec : Bool} {b : Nat} {oa on : Obj} {nks kvs : List (Str × Value)} {arrs pre post : List Arr} {fz tl : Led} {A : Arr}
theorem dict_ne_tup {o : Obj} (h : o.IsDictOf (strKind prog w) kvs) {vs : List Value} {k : Nat} : o ≠ tup vs k := by
 obtain ⟨es, ep, q_, hd, q_⟩ := h
 intro e
 rw [e] at hd
 cases hd
end
end Mine
namespace Mine
open PySem PySem.Calls PyProof.Rows PySem.W
noncomputable def ExcP (C dx : Addr) (o : Obj) : Prop := o.cls = .ref C ∧ o.dict = some dx
theorem ExcP.map {C dx : Addr} (o : Obj) (f : Array Value → Array Value) (x : ExcP C dx o) : ExcP C dx (o.mapFields f) := by
 obtain ⟨c, d, dt, sl⟩ := o
 cases dt <;> exact x
noncomputable def TrcAt (h base : Heap) (e : Addr) (P : Obj → Prop) (fl : Value) : Prop :=
 ∃ oe vs T oT ts, h.get? e = some oe ∧ P oe ∧ oe.data = .fields vs ∧ vs[1]? = some (.ref T) ∧ base.get? T = none ∧ T ≠ e ∧ h.get? T = some oT ∧ oT.data = .fields ts ∧ ts[3]? = some fl
noncomputable def LeftP (base : Heap) (l : List Env) (e : Addr) (P : Obj → Prop) (fl : Value) (h h' : Heap) : Prop :=
 base.StaysIn h' ∧ h'.FunFrames base l ∧ TrcAt h' base e P fl ∧ ∀ b o, h.get? b = some o → (∀ vs, o.data ≠ .fields vs) → ∃ sl, h'.get? b = some { o with slots := sl }
section
variable {M : Model} {A : Around} {E : VSP} {s : Shared} {P : Obj → Prop}
theorem noteP {base : Heap} {env : Env} {outer : List Env} {L e : Addr} {oe : Obj} {vs : Array Value} {head : Value} {hadNext : Bool} {Q : Unit → Shared → Prop} (hP : ∀ o f, P o → P (Obj.mapFields f o))
 (hfr : A.frames = some (env :: outer)) (hl : s.heap.FunFrames base (env :: outer)) (hf : env.frame = some L)
 (he : s.heap.get? e = some oe) (hp : P oe) (hkb : base.StaysIn s.heap) (hen : base.get? e = none) (hd : oe.data = .fields vs) (hsz : 1 < vs.size)
 (h : ∀ h', LeftP base (env :: outer) e P (rawInt L) s.heap h' → Q () { s with heap := h' }) :
 wpAny M A (do let a ← frameOf env; let pl ← entryPlaceOf L hadNext; let b ← EntryCells.newEntry head a .none (rawInt L) .none pl; setField (.ref e) 1 b) Q E s := by
 have hene : e ∉ (env :: outer).filterMap (·.frame) := fun hm => by
  obtain ⟨q_, o, ho, hnf⟩ := hl.mem hm
  rw [he] at ho; injection ho with ho; subst ho; exact hnf vs hd
 refine wpAny_bind (wpAny_frameOf_fun hfr hl hf fun h₁ hs₁ => ?_)
 refine wpAny_bind (wpAny_entryPlaceOf fun pl hpl => ?_)
 unfold EntryCells.newEntry newFields
 refine wpAny_bind (wpAny_newObj_type ?_ (hpl.sizeOk5 _ _ _ _ _))
 have he₁ : h₁.get? e = some oe := (hs₁.2.1 e hene).trans he
 have kb₁ : base.StaysIn h₁ := fun b o hbo => (hs₁.2.1 b fun hm => by rw [(hl.mem hm).1] at hbo; cases hbo).trans (hkb b o hbo)
 generalize hTO : ({ cls := .type "traceback", dict := none, data := .fields ([head, .ref L, .none, rawInt L, .none] ++ (if pl.isEmpty then List.replicate 6 Value.none else pl)).toArray } : Obj) = TO
 have hTOd : TO.data = .fields ([head, .ref L, .none, rawInt L, .none] ++ (if pl.isEmpty then List.replicate 6 Value.none else pl)).toArray := by rw [← hTO]
 have hTOf : TO.isFreed = false := Obj.isFreed_of_fields hTOd
 have he₂ := Heap.get?_push_of_some (h := h₁) TO he₁
 refine wpAny_setField he₂ hd hsz (h _ ?_)
 have hTe : h₁.objs.size ≠ e := Nat.ne_of_gt (Heap.lt_size he₁)
 have hd₃ := Obj.data_mapFields hd (·.setIfInBounds 1 (Value.ref h₁.objs.size))
 have he₃ := Heap.get?_update_self (Obj.mapFields (·.setIfInBounds 1 (Value.ref h₁.objs.size))) he₂ (Obj.isFreed_of_fields hd₃)
 have hT₃ := (Heap.get?_update_other (h₁.push TO) (Obj.mapFields (·.setIfInBounds 1 (Value.ref h₁.objs.size))) (Ne.symm hTe)).trans (Heap.get?_push_size h₁ hTOf)
 have keep : ∀ b o, b ≠ e → h₁.get? b = some o → ((h₁.push TO).update e (Obj.mapFields (·.setIfInBounds 1 (Value.ref h₁.objs.size)))).get? b = some o :=
  fun b o hbe hb => by
   rw [Heap.get?_update_other _ _ (Ne.symm hbe)]
   exact Heap.get?_push_of_some _ hb
 have noRecord : ∀ b o, s.heap.get? b = some o → (∀ vs, o.data ≠ .fields vs) → b ≠ e := fun b o hb hnf q => by
  rw [q, he] at hb; injection hb with hb; subst hb; exact hnf vs hd
 refine ⟨fun b o hbo => keep b o (fun q => by rw [q, hen] at hbo; cases hbo) (kb₁ b o hbo), hl.of_keeps fun b o hb hnf => ?_, ?_, fun b o hb hnf => ?_⟩
 · obtain ⟨sl, hs⟩ := hs₁.2.2 b o hb
   exact ⟨_, keep b _ (noRecord b o hb hnf) hs, rfl⟩
 · exact ⟨_, _, h₁.objs.size, _, _, he₃, hP _ _ hp, hd₃, by simp [hsz], kb₁.fresh, hTe, hT₃, hTOd, by first | (simp; done) | (rcases hpl with rfl | ⟨_, _, _, _, _, _, _, rfl⟩ <;> simp)⟩
 · obtain ⟨sl, hs⟩ := hs₁.2.2 b o hb
   exact ⟨sl, keep b _ (noRecord b o hb hnf) hs⟩
theorem unflyP {base : Heap} {l : List Env} {e : Addr} {fl : Value} {Q : Unit → Shared → Prop}
 (hkb : base.StaysIn s.heap) (hl : s.heap.FunFrames base l) (ht : TrcAt s.heap base e P fl)
 (h : ∀ h', LeftP base l e P .none s.heap h' → Q () { s with heap := h' }) :
 wpAny M A (setFlight (.ref e) none) Q E s := by
 obtain ⟨oe, vs, T, oT, ts, he, hcls, hd, h1, hnT, hTe, hT, hdT, h3⟩ := ht
 have hsz3 : 3 < ts.size := (Array.getElem?_eq_some_iff.mp h3).1
 have other : ∀ b, b ≠ T → (s.heap.update T (Obj.mapFields (·.setIfInBounds 3 ((none : Option Addr).elim Value.none fun f => rawInt f)))).get? b = s.heap.get? b :=
  fun b hb => Heap.get?_update_other _ _ (Ne.symm hb)
 have noRecord : ∀ b o, s.heap.get? b = some o → (∀ vs, o.data ≠ .fields vs) → b ≠ T := fun b o hb hnf q => by
  rw [q, hT] at hb; injection hb with hb; subst hb; exact hnf ts hdT
 unfold setFlight
 refine wpAny_bind (wpAny_field he hd h1 ?_)
 rw [if_pos (show (Value.ref T != Value.none) = true from by simp)]
 refine wpAny_setField hT hdT hsz3 (h _ ⟨fun b o hbo => (other b fun q => by rw [q, hnT] at hbo; cases hbo).trans (hkb b o hbo),
  hl.of_keeps fun b o hb hnf => ⟨o, (other b (noRecord b o hb hnf)).trans hb, rfl⟩, ?_, fun b o hb hnf => ⟨o.slots, (other b (noRecord b o hb hnf)).trans hb⟩⟩)
 exact ⟨oe, vs, T, _, _, (other e (Ne.symm hTe)).trans he, hcls, hd, h1, hnT, hTe, Heap.get?_update_self _ hT (Obj.isFreed_of_fields (Obj.data_mapFields hdT _)), Obj.data_mapFields hdT _, by simp [hsz3]⟩
theorem noteOnP {base : Heap} {env : Env} {outer : List Env} {L e : Addr} {Q : Unit → Shared → Prop} (hP : ∀ o f, P o → P (Obj.mapFields f o))
 (hfr : A.frames = some (env :: outer)) (hl : s.heap.FunFrames base (env :: outer)) (hf : env.frame = some L) (ht : TrcAt s.heap base e P .none) (hkb : base.StaysIn s.heap) (hen : base.get? e = none)
 (h : ∀ h', LeftP base (env :: outer) e P (rawInt L) s.heap h' → Q () { s with heap := h' }) : wpAny M A (noteFrame (.ref e) env) Q E s := by
 obtain ⟨oe, vs, T, oT, ts, he, hcls, hd, h1, hnT, hTe, hT, hdT, h3⟩ := ht
 unfold noteFrame
 simp only [hf]
 refine wpAny_bind (wpAny_field he hd h1 ?_)
 rw [if_pos (show (Value.ref T != Value.none) = true from by simp)]
 refine wpAny_bind (wpAny_field hT hdT h3 ?_)
 rw [if_neg (show ¬ ((Value.none == rawInt L) = true) from by simp [rawInt])]
 refine wpAny_bind (wpAny_setField hT hdT (Array.getElem?_eq_some_iff.mp h3).1 ?_)
 have other : ∀ b, b ≠ T → (s.heap.update T (Obj.mapFields (·.setIfInBounds 3 Value.none))).get? b = s.heap.get? b := fun b hb => Heap.get?_update_other _ _ (Ne.symm hb)
 have noRecord : ∀ b o, s.heap.get? b = some o → (∀ vs, o.data ≠ .fields vs) → b ≠ T := fun b o hb hnf q => by
  rw [q, hT] at hb; injection hb with hb; subst hb; exact hnf ts hdT
 refine noteP hP hfr (hl.of_keeps fun b o hb hnf => ⟨o, (other b (noRecord b o hb hnf)).trans hb, rfl⟩) hf ((other e (Ne.symm hTe)).trans he) hcls
  (fun b o hbo => (other b fun q => by rw [q, hnT] at hbo; cases hbo).trans (hkb b o hbo)) hen hd (Array.getElem?_eq_some_iff.mp h1).1
  fun h' ⟨x1, x2, x3, x4⟩ => h h' ⟨x1, x2, x3, fun b o hb hnf => x4 b o ((other b (noRecord b o hb hnf)).trans hb) hnf⟩
noncomputable def FlyP (base : Heap) (l : List Env) (e : Addr) (P : Obj → Prop) (h : Heap) : Prop := base.StaysIn h ∧ base.get? e = none ∧ h.FunFrames base l ∧ TrcAt h base e P .none
noncomputable def HeldP (base : Heap) (l : List Env) (e : Addr) (P : Obj → Prop) (L : Addr) (h : Heap) : Prop := base.StaysIn h ∧ base.get? e = none ∧ h.FunFrames base l ∧ TrcAt h base e P (rawInt L)
theorem leavesFirstP {base : Heap} {env : Env} {outer : List Env} {L e : Addr} {oe : Obj} {vs : Array Value} {Q : Unit → Shared → Prop} (hP : ∀ o f, P o → P (Obj.mapFields f o))
 (hfr : A.frames = some (env :: outer)) (hl : s.heap.FunFrames base (env :: outer)) (hf : env.frame = some L)
 (he : s.heap.get? e = some oe) (hp : P oe) (hkb : base.StaysIn s.heap) (hen : base.get? e = none) (hd : oe.data = .fields vs) (h1 : vs[1]? = some .none)
 (h : ∀ h', FlyP base outer e P h' → s.heap.UpToSlots h' → Q () { s with heap := h' }) : wpAny M A (leaving env (.ref e)) Q E s := by
 unfold leaving noteFrame
 simp only [hf]
 refine wpAny_bind (wpAny_bind (wpAny_field he hd h1 ?_))
 rw [if_neg (by decide)]
 refine noteP hP hfr hl hf he hp hkb hen hd (Array.getElem?_eq_some_iff.mp h1).1 fun h' ⟨x1, x2, x3, x4⟩ => ?_
 refine unflyP x1 x2 x3 fun h'' ⟨y1, y2, y3, y4⟩ => h h'' ⟨y1, hen, y2.2.2, y3⟩ (Heap.UpToSlots.trans x4 y4)
theorem leavesOnP {base : Heap} {env : Env} {outer : List Env} {L e : Addr} {Q : Unit → Shared → Prop} (hP : ∀ o f, P o → P (Obj.mapFields f o))
 (hfr : A.frames = some (env :: outer)) (hf : env.frame = some L) (hfl : FlyP base (env :: outer) e P s.heap)
 (hQ : ∀ h', FlyP base outer e P h' → s.heap.UpToSlots h' → Q () { s with heap := h' }) : wpAny M A (leaving env (.ref e)) Q E s := by
 obtain ⟨f1, f2, f3, f4⟩ := hfl
 unfold leaving
 refine wpAny_bind (noteOnP hP hfr f3 hf f4 f1 f2 fun h' ⟨x1, x2, x3, x4⟩ => ?_)
 exact unflyP x1 x2 x3 fun h'' ⟨y1, y2, y3, y4⟩ => hQ h'' ⟨y1, f2, y2.2.2, y3⟩ (Heap.UpToSlots.trans x4 y4)
theorem looksOnP {base : Heap} {env : Env} {outer : List Env} {L e : Addr} {Q : Unit → Shared → Prop} (hP : ∀ o f, P o → P (Obj.mapFields f o))
 (hfr : A.frames = some (env :: outer)) (hf : env.frame = some L) (hfl : FlyP base (env :: outer) e P s.heap)
 (hQ : ∀ h', HeldP base (env :: outer) e P L h' → s.heap.UpToSlots h' → Q () { s with heap := h' }) : wpAny M A (noteFrame (.ref e) env) Q E s := by
 obtain ⟨f1, f2, f3, f4⟩ := hfl
 exact noteOnP hP hfr f3 hf f4 f1 f2 fun h' ⟨k1, k2, k3, k4⟩ => hQ h' ⟨k1, f2, k2, k3⟩ k4
theorem landsP {base : Heap} {l : List Env} {e : Addr} {fl : Value} {Q : Unit → Shared → Prop} (hh : base.StaysIn s.heap ∧ base.get? e = none ∧ s.heap.FunFrames base l ∧ TrcAt s.heap base e P fl)
 (hQ : ∀ h', FlyP base l e P h' → s.heap.UpToSlots h' → Q () { s with heap := h' }) : wpAny M A (setFlight (.ref e) none) Q E s := by
 obtain ⟨f1, f2, f3, f4⟩ := hh
 exact unflyP f1 f3 f4 fun h' ⟨k1, k2, k3, k4⟩ => hQ h' ⟨k1, f2, k2, k3⟩ k4
end
theorem flyP_base {base B h : Heap} {l : List Env} {e : Addr} {P : Obj → Prop} (k : base.StaysIn B) (x : FlyP B l e P h) : FlyP base l e P h := by
 obtain ⟨f1, f2, f3, oe, vs, T, oT, ts, a1, a2, a3, a4, a5, a6⟩ := x
 exact ⟨fun b o q => f1 b o (k b o q), fresh_of_stays k f2, funFrames_base k f3, oe, vs, T, oT, ts, a1, a2, a3, a4, fresh_of_stays k a5, a6⟩
noncomputable def RaisedP (base : Heap) (l : List Env) (e : Addr) (P : Obj → Prop) (news : Led) (h : Heap) : Prop :=
 ∃ B, base.StaysIn B ∧ (∀ q ∈ news, B.get? q.1 = some q.2 ∧ base.get? q.1 = none) ∧ FlyP B l e P h
section
variable {M : Model} {A : Around} {E : VSP} {s' : Shared} {base g g₂ h : Heap} {env : Env} {outer : List Env} {L e : Addr} {m : SoV} {Q : Unit → Shared → Prop} {news : Led} {P : Obj → Prop}
theorem pushE (K : Below A base outer g) (F : Fr g L h m) (hf : env.frame = some L) (hk : env.scope.kind = .function) : Below (A.deeper env) base (env :: outer) h := by
 have hnew : base.get? L = none := by
  cases hq : base.get? L with
  | none => rfl
  | some o => exact absurd (Nat.lt_of_lt_of_le (Heap.lt_size (K.stays L o hq)) F.above) (Nat.lt_irrefl _)
 refine ⟨Around.frames_deeper K.stack, fun b o e => F.keep b o (K.stays b o e), ?_⟩
 exact .cons (by rw [hk]; decide) hf F.ns hnew (K.frames.of_keeps fun b o e q_ => ⟨o, F.keep b o e, rfl⟩)
theorem leave_firstR {oe : Obj} {vs : Array Value} (hP : ∀ o f, P o → P (Obj.mapFields f o)) (K : Below A base outer g) (F : Fr g L s'.heap m) (hf : env.frame = some L) (hk : env.scope.kind = .function)
 (N : News g L s'.heap ((e, oe) :: news)) (hne : ∀ p ∈ news, p.1 ≠ e) (hp : P oe) (hd : oe.data = .fields vs) (h1 : vs[1]? = some .none)
 (hQ : ∀ h', RaisedP base outer e P news h' → g.UpToSlots h' → Q () { s' with heap := h' }) : wpAny M (A.deeper env) (leaving env (.ref e)) Q E s' := by
 have K' := pushE (env := env) K F hf hk
 let fs := (env :: outer).filterMap (·.frame)
 have he := (N _ List.mem_cons_self).1
 have hin : ∀ env' ∈ (env :: outer), ∀ b, env'.frame = some b → b ∈ e :: fs := fun env' he b hb => jC _ (List.mem_filterMap.mpr ⟨env', he, hb⟩)
 have hbe : base.get? e = none := fresh_of_stays K.stays (N _ List.mem_cons_self).2.2
 have st : base.StaysIn (hideAll s'.heap (e :: fs)) := fun b o q => hideAll_get _ (K'.stays b o q) fun hm => by
  rcases jX hm with rfl | hm
  · rw [hbe] at q; cases q
  · rw [(K'.frames.mem hm).1] at q; cases q
 have hl : ∀ q ∈ news, (hideAll s'.heap (e :: fs)).get? q.1 = some q.2 ∧ base.get? q.1 = none := fun q hq => by
  have Nq := N q (jC _ hq)
  refine ⟨hideAll_get _ Nq.1 fun hm => ?_, fresh_of_stays K.stays Nq.2.2⟩
  rcases jX hm with hm | hm
  · exact hne q hq hm
  · obtain ⟨env', he', hf'⟩ := List.mem_filterMap.mp hm
    rcases jX he' with rfl | he'
    · rw [hf] at hf'; exact Nq.2.1 (Option.some.inj hf').symm
    · obtain ⟨o, ho, q_⟩ := (K.frames.mem (List.mem_filterMap.mpr ⟨env', he', hf'⟩)).2
      rw [Nq.2.2] at ho; cases ho
 refine leavesFirstP hP K'.stack (funFrames_hide K'.frames hin) hf he hp (fun b o q => of_hideAll _ q) (hideAll_none _ List.mem_cons_self) hd h1 fun h' x u => ?_
 exact hQ h' ⟨_, st, hl, x⟩ ((Heap.UpToSlots.of_keeps F.keep).trans u)
theorem leave_onR (hP : ∀ o f, P o → P (Obj.mapFields f o)) (K : Below A base outer g) (F : Fr g L g₂ m) (hf : env.frame = some L) (R : RaisedP base (env :: outer) e P news s'.heap) (hsm : g₂.UpToSlots s'.heap)
 (hQ : ∀ h', RaisedP base outer e P news h' → g.UpToSlots h' → Q () { s' with heap := h' }) : wpAny M (A.deeper env) (leaving env (.ref e)) Q E s' := by
 obtain ⟨B, hB, hl, hfl⟩ := R
 exact leavesOnP hP (Around.frames_deeper K.stack) hf hfl fun h' x1 x2 => hQ h' ⟨B, hB, hl, x1⟩ ((Heap.UpToSlots.of_keeps F.keep).trans (hsm.trans x2))
end
end Mine
namespace Mine
open PySem PySem.Calls PyProof.Rows PySem.W
noncomputable abbrev mwObj (e : Addr) : Obj := { cls := .type "method-wrapper", dict := none, data := .fields #[.builtin "Exception.__init__", .ref e], slots := #[] }
theorem slot_wd_get : Slot "wrapper_descriptor" "__get__" "wrapper_descriptor.__get__" := .of (owner := "wrapper_descriptor") (n := "__get__") (by rw [typeLookup_type, builtinLookup_eq_fast]; kernel_rfl) (by decide +kernel) (by decide +kernel) (by decide +kernel)
 (by decide +kernel) (by rw [isSubtype_type]; kernel_rfl)
theorem entry_wd_get : entryFor table "wrapper_descriptor.__get__" = some Builtin.«wrapper_descriptor.__get__» := entryFor_of_tree (by kernel_rfl)
theorem args_wd_get (a b c : Value) : argsOk "wrapper_descriptor.__get__" ⟨[a, b, c], []⟩ := by unfold argsOk; kernel_rfl
theorem type_exc_init : typeOf (.builtin "Exception.__init__") = pure (.type "wrapper_descriptor") := by kernel_rfl
section
variable {prog : Program} {w : World} {A : Around} {E : VSP} {h : Heap} {g : Array GenState} {d : Drawn} {t : Nat} {os : OsState}
theorem wd_get {e : Addr} {C : Addr} {Q : Fin → Shared → Prop} (hi : Looks (model prog w) h (isInstance (.ref e) (.type "Exception")) true)
 (hq : Q (.done (.ret (.ref h.objs.size))) ⟨h.push (mwObj e), g, d, t, os⟩) :
 wpAny (model prog w) A (Builtin.«wrapper_descriptor.__get__» ⟨[.builtin "Exception.__init__", .ref e, .ref C], []⟩) Q E ⟨h, g, d, t, os⟩ := by
 unfold Builtin.«wrapper_descriptor.__get__»
 have hstr : (".".intercalate ("Exception.__init__".cutAt '.').dropLast) = "Exception" := by decide +kernel
 repeat (first | rw [hstr] | lk)
 exact hq
theorem sup_ga {so D x C : Addr} {l₀ l : List Value} {K : Frag} {name : Str} {tk : Tok} {Q : Fin → Shared → Prop}
 (hso : h.get? so = some { cls := .type "super", dict := none, data := .fields #[.ref D, .ref x, .ref C], slots := #[] }) (hno : Looks (model prog w) h (opaqueClassAbove (.ref C)) none)
 (hC : Looks (model prog w) h (mroOf (.ref C)) l₀) (hl : (l₀.dropWhile (· != .ref D)).drop 1 = l) (X : K.In h)
 (hf : alongIn K name l = some (some (.builtin "Exception.__init__"))) (hi : Looks (model prog w) h (isInstance (.ref x) (.type "Exception")) true) (hxC : x ≠ C) (hn : (name == ("__class__" : Str)) = false)
 (hq : Q (.done (.ret (.ref h.objs.size))) ⟨h.push (mwObj x), g, d, t, os⟩) :
 wpAny (model prog w) A (Builtin.«super.__getattribute__» ⟨[.ref so, .str name tk], []⟩) Q E ⟨h, g, d, t, os⟩ := by
 have hlk := slot_wd_get.lookup
 have hne : (Value.ref x == Value.ref C) = false := by simp [hxC]
 have hTf : (⟨h, g, d, t, os⟩ : Shared).TypeIs (.builtin "Exception.__init__") "wrapper_descriptor" := type_exc_init
 have hdt : ({ cls := .type "super", dict := none, data := .fields #[.ref D, .ref x, .ref C], slots := #[] } : Obj).data = .fields #[.ref D, .ref x, .ref C] := rfl
 have f0 : (#[.ref D, .ref x, .ref C] : Array Value)[0]? = some (.ref D) := rfl
 have f1 : (#[.ref D, .ref x, .ref C] : Array Value)[1]? = some (.ref x) := rfl
 have f2 : (#[.ref D, .ref x, .ref C] : Array Value)[2]? = some (.ref C) := rfl
 unfold Builtin.«super.__getattribute__»
 repeat (first
  | (with_reducible refine wpAny_field hso hdt f0 ?_) | (with_reducible refine wpAny_field hso hdt f1 ?_) | (with_reducible refine wpAny_field hso hdt f2 ?_)
  | (with_reducible refine ks_wpAny_notOpaque hno ?_)
  | (with_reducible refine Looks.at hC ?_; rw [hl])
  | (refine ks_forIn_along X (fun q_ q_ => rfl) rfl ?_ hf)
  | (with_reducible refine wpAny_typeOf hTf ?_)
  | (with_reducible refine wpAny_call_entry slot_wd_get hTf entry_wd_get ?_ (args_wd_get _ _ _))
  | (with_reducible refine wd_get hi ?_)
  | (with_reducible refine ⟨_, rfl, ?_⟩)
  | (simp only [hn, hne, Bool.or_false, Bool.false_eq_true, if_false])
  | wp_step
  | dsimp only)
 all_goals exact hq
theorem sup_getMethod {so D x C : Addr} {l₀ l : List Value} {K : Frag} {name : Str} {pl : Sem Bool} {Q : Value × List Value → Shared → Prop}
 (hso : h.get? so = some { cls := .type "super", dict := none, data := .fields #[.ref D, .ref x, .ref C], slots := #[] }) (hno : Looks (model prog w) h (opaqueClassAbove (.ref C)) none)
 (hC : Looks (model prog w) h (mroOf (.ref C)) l₀) (hl : (l₀.dropWhile (· != .ref D)).drop 1 = l) (X : K.In h)
 (hf : alongIn K name l = some (some (.builtin "Exception.__init__"))) (hi : Looks (model prog w) h (isInstance (.ref x) (.type "Exception")) true) (hxC : x ≠ C) (hn : (name == ("__class__" : Str)) = false)
 (hq : Q (.ref h.objs.size, []) ⟨h.push (mwObj x), g, d, t + 1, os⟩) :
 wpAny (model prog w) A (getMethod (.ref so) name pl) Q E ⟨h, g, d, t, os⟩ := by
 have hlk := F.ks_slot_super_ga.lookup
 have hcan := F.ks_canon_super_ga
 have hT : ∀ t', (⟨h, g, d, t', os⟩ : Shared).TypeIs (.ref so) "super" := fun q_ => ⟨_, hso, rfl⟩
 unfold getMethod
 refine wpAny_bind (wpAny_specialOf (hT _) hlk ?_)
 show wpAny _ _ (if (Manifest.canonical "super.__getattribute__" != "object.__getattribute__") = true then _ else _) _ _ _
 rw [if_pos hcan]
 unfold getAttr getAttrBy
 refine wpAny_bind (wpAny_bind (wpAny_mkText (wpAny_holding (wpAny_bind (wpAny_typeOf (hT _) (wpAny_bind (wpAny_of_eq hlk ?_)))))))
 show wpAny _ _ (getAttrByItsOwn (.ref so) (.str name t) (.type "super") (.builtin "super.__getattribute__") true false) _ _ _
 unfold getAttrByItsOwn hookBefore callGetattribute boundAndCalled
 refine wpAny_bind (wpAny_of_eq (show (if onTheHeap (.type "super") then typeLookup (.type "super") "__getattr__" else pure none) = pure none from rfl) ?_)
 refine wpAny_bind (wpAny_attempt (wpAny_holding ?_))
 show wpAny _ _ (bindSpecial (.builtin "super.__getattribute__") (.ref so) >>= _) _ _ _
 refine wpAny_bind (wpAny_of_eq (F.ks_slot_super_ga.bind _) ?_)
 refine wpAny_mono (Q := fun v s' => v = .ref h.objs.size ∧ s' = ⟨h.push (mwObj x), g, d, t + 1, os⟩) (E := fun q_ q_ => False)
  (wpAny_call_entry F.ks_slot_super_ga (hT _) F.ks_entry_super_ga (sup_ga hso hno hC hl X hf hi hxC hn ⟨_, rfl, rfl, rfl⟩) (F.ks_gaArgs_super _ _)) (fun v s' hv => ?_) fun q_ q_ z => z.elim
 obtain ⟨rfl, rfl⟩ := hv
 exact wpAny_pure (wpAny_pure hq)
variable {nm q : Str} {C N : Addr} {bs bm : List Value} {hdct : Bool} {sn : List Str} {sub : List Value} {ab : Bool} {col : Option Bool} {dd : Option Addr} {k0 k1 k2 k3 k5 : Option Value} {newId : String}
theorem cb_exc {M : Model} {e : Addr} {oe : Obj} {v : Value} {Q : Unit → Shared → Prop} (FX : ExcBaseFacts "Exception" newId "Exception.__init__" bm)
 (hC : h.get? C = some (excClassObj nm q C N bs bm hdct sn sub ab col dd k0 k1 k2 k3 k5 newId)) (he : h.get? e = some oe) (hcls : oe.cls = .ref C) (hq : Q () ⟨h, g, d, t, os⟩) :
 wpAny M A (checkBoundCall "Exception.__init__" ⟨[.ref e, v], []⟩) Q E ⟨h, g, d, t, os⟩ := by
 have hshort := FX.noStar
 simp only [checkBoundCall, FX.initKind, FX.initRow]
 repeat (first | (with_reducible refine wpAny_loadPart_at he ?_; rw [hcls]) | with_reducible refine wpAny_loadPart_at hC ?_ | wp_step)
 exact hq
theorem mw_call {e qa t0 : Addr} {v : Value} {Q : VSP} (FX : ExcBaseFacts "Exception" newId "Exception.__init__" bm)
 (hC : h.get? C = some (excClassObj nm q C N bs bm hdct sn sub ab col dd k0 k1 k2 k3 k5 newId)) (hqo : h.get? qa = some (mwObj e)) (he : h.get? e = some { cls := .ref C, data := .fields #[.ref t0, .none, .none, .none, .bool false, .none] })
 (hQ : ∀ h', h'.get? e = some { cls := .ref C, data := .fields #[.ref h.objs.size, .none, .none, .none, .bool false, .none] } → h'.get? h.objs.size = some { cls := .type "tuple", data := .seq [v].toArray } →
  (∀ b o, b ≠ e → h.get? b = some o → h'.get? b = some o) → Q .none ⟨h', g, d, t, os⟩) :
 wpAny (model prog w) A (call (.ref qa) [v]) Q E ⟨h, g, d, t, os⟩ := by
 refine wpAny_call (codeAny_of_tree ?_)
 show wpAny _ _ (callAny (.ref qa) _) _ _ _
 have hqo' := hqo
 repeat (any_goals (first | assumption | with_reducible refine wpAny_loadPart_at hqo ?_ | refine cb_exc FX hC he rfl ?_ | wp_step))
 refine ⟨Code.quiet_builtin _ (by decide +kernel), codeAny_builtin FX.initEntry ?_⟩
 have hk : (h.push { cls := .type "tuple", data := .seq [v].toArray }).get? e = some _ := Heap.get?_push_of_some _ he
 wp_walk
 refine hQ _ ?_ ?_ fun b o hb e => ?_
 · exact Heap.get?_update_self _ hk rfl
 · rw [Heap.get?_update_other _ _ (Nat.ne_of_lt (Heap.lt_size he))]
   exact Heap.get?_push_size _ rfl
 · rw [Heap.get?_update_other _ _ (Ne.symm hb)]
   exact Heap.get?_push_of_some _ e
theorem code_attr {a dx : Addr} {o : Obj} {name : Str} {expr : Bool} {m : SoV} {v : Value} {Q : VSP} {bmB : List Value} {mN : SoV} (FB : ExcAttrBase "Exception" bmB) (T : OwnTailQ h bmB bm)
 (hC : h.get? C = some (excClassObj nm q C N bs bm true sn sub ab col dd k0 k1 k2 k3 k5 newId))
 (hga : Looks (model prog w) h (typeLookup (.ref C) "__getattribute__") (some (.builtin "BaseException.__getattribute__"))) (hgt : Looks (model prog w) h (typeLookup (.ref C) "__getattr__") none)
 (hnm : Looks (model prog w) h (typeLookup (.ref C) name) none) (hx : h.get? a = some o) (hc : o.cls = .ref C) (hdx : o.dict = some dx) {vs : Array Value} (hd : o.data = .fields vs) (hns : h.Ns dx m) (hv : m name = some v) (hh : handedOut v = pure v)
 (hq : Q v ⟨h, g, d, t + 1, os⟩) : wpAny (model prog w) A (getAttr (.ref a) name expr) Q E ⟨h, g, d, t, os⟩ := by
 have f3 := FB.ga.bind (.ref a)
 have hx0 : (expr && onTheHeap (Value.builtin "BaseException.__getattribute__")) = false := by cases expr <;> rfl
 have hx2 : (Value.builtin "BaseException.__getattribute__" == Value.builtin "object.__getattribute__") = false := by decide +kernel
 have hx1 : (onTheHeap (Value.ref C) && Value.builtin "BaseException.__getattribute__" == Value.builtin "object.__getattribute__") = false := by rw [hx2]; rfl
 unfold getAttr
 repeat (any_goals (first | assumption | (with_reducible refine wpAny_loadPart_at hx ?_; rw [hc]) | with_reducible refine hga.at ?_ | with_reducible refine hgt.at ?_ | wp_step))
 refine codeAny_call_builtin FB.ga.plain F.entry_bexc_ga (wpAny_check_ga_own FB hC T hx hc ?_)
 repeat (any_goals (first | assumption | (with_reducible refine wpAny_loadPart_at hx ?_; rw [hc]) | with_reducible refine hnm.at ?_ | wp_step))
 rw [hd]
 show wpAny _ _ (instanceDict a false) _ _ _
 unfold instanceDict
 repeat (first | (with_reducible refine wpAny_loadPart_at hx ?_; rw [hc]) | with_reducible refine wpAny_loadPart_at hC ?_ | wp_step)
 rw [hdx]
 refine wpAny_pure ?_
 unfold Builtin.ObjectAttr.inDict
 repeat (first | (with_reducible refine wpAny_nsGet hns ?_; rw [hv]) | rw [hh] | wp_step)
 all_goals trace_state
 all_goals exact hq
end
end Mine
namespace Mine
open PySem PySem.Calls PyProof.Rows PySem.W
section
variable {prog : Program} {w : World} {A : Around} {E : VSP} {s : Shared} {env : Env}
variable {nm q : Str} {C N : Addr} {bs bm : List Value} {hdct : Bool} {sn : List Str} {sub : List Value} {ab : Bool} {col : Option Bool} {dd : Option Addr} {k0 k1 k2 k3 k5 : Option Value} {newId : String}
theorem raiseStmt_any {M : Model} {x : Sem Value} {Q : Flow → Shared → Prop} (hbase : bm.contains (.type "BaseException") = true) (hh : A.handled = none)
 (h : wpAny M A x (fun v s₁ => ∃ e oe vs, v = .ref e ∧ s₁.heap.get? C = some (excClassObj nm q C N bs bm hdct sn sub ab col dd k0 k1 k2 k3 k5 newId) ∧
  s₁.heap.get? e = some oe ∧ oe.cls = .ref C ∧ oe.data = .fields vs ∧ vs[1]? = some .none ∧ E (.ref e) s₁) E s) :
 wpAny M A (raiseStmt env (some x) none) Q E s := by
 have hcB : (Value.ref C :: bm).contains (.type "BaseException") = true := by rw [List.contains_cons, hbase, Bool.or_true]
 unfold raiseStmt
 refine wpAny_bind (wpAny_mono h (fun v s₁ h₁ => ?_) fun q_ q_ x => x)
 obtain ⟨e, oe, vs, rfl, hC, he, hc, hd, h1, hE⟩ := h₁
 obtain ⟨oc, od, odt, osl⟩ := oe
 dsimp only at hc hd
 subst hc hd
 obtain ⟨hp, g, d, tk, os⟩ := s₁
 repeat (first | (with_reducible refine wpAny_field he rfl h1 ?_) | with_reducible refine wpAny_loadPart_at he ?_ | with_reducible refine wpAny_loadPart_at hC ?_ | (with_reducible refine wpAny_isSubtype_exc hC ?_; rw [hcB]) | wp_step)
 exact wpAny_raiseNew_none hh hE
theorem raise_any {ex : Expr} {pos : Pos} {Q : Flow → Shared → Prop} (hbase : bm.contains (.type "BaseException") = true) (hh : A.handled = none)
 (h : wpAny (model prog w) A (eval ex env) (fun v s₁ => ∃ e oe vs, v = .ref e ∧ s₁.heap.get? C = some (excClassObj nm q C N bs bm hdct sn sub ab col dd k0 k1 k2 k3 k5 newId) ∧
  s₁.heap.get? e = some oe ∧ oe.cls = .ref C ∧ oe.data = .fields vs ∧ vs[1]? = some .none ∧ E (.ref e) s₁) E s) :
 wpAny (model prog w) A (exec (.Raise (some ex) none pos) env) Q E s := by
 rw [arm_exec_Raise]
 trace_state
 refine wpAny_bind (wpAny_standAt (raiseStmt_any hbase hh (wpAny_bind (wpAny_mono h (fun v s₃ h₃ => wpAny_bind (wpAny_standAt (wpAny_pure h₃))) fun q_ q_ x => x))))
end
section
open Builtin.ObjectAttr Builtin
variable {prog : Program} {w : World} {A : Around} {s : Shared} {K : Frag} {x C L : Addr} {h₀ : Heap} {m : SoV} {news : Led} {R : Result → Shared → Prop} {cd : ClassData}
theorem osaE {ox : Obj} {od : Option Obj} {name : Str} {tk : Tok} {v : Value} (X : K.In s.heap) (I : InstAt s.heap x ox C od) (hc : clsIn K C = some cd) (hm : cd.mro = [.ref C, .type "Exception", .type "BaseException", .type "object"])
 (ha : findIn K (.ref C) name = some none)
 (h : wpAny (model prog w) A.in1 (storeInOwnDict (.ref x) (.ref C) (.str name tk) name v false)
  (fun fin s' => match fin with | .done f => R (.ok f) s' | .again c' => c'.quiet = true ∧ codeAny (model prog w) A c' R s') (fun e s' => R (.error e) s') s) :
 codeAny (model prog w) A (.call (.builtin "object.__setattr__") ⟨[.ref x, .str name tk, v], []⟩) R s := by
 have SF := PySem.F.store_object
 have sub : Looks (model prog w) s.heap (isInstance (.ref x) (.type "object")) true := I.type.andThen (looks_mroIn X (by unfold mroIn; rw [hc, Option.bind_some, if_neg (by rw [hm]; simp), hm]; simp))
 refine codeAny_call_builtin SF.slot.plain SF.entry (@check_slot (model prog w) _ _ s "object.__setattr__" "object" "__setattr__" (.ref x) [.str name tk, v] [] _ SF.kind SF.split sub (SF.args (.ref x) (.str name tk) v) ?_)
 have hmro : Looks (model prog w) s.heap (mroOf (.ref C)) cd.mro := (looks_clsIn X hc).andThen .now
 rw [osa_eq, refuse_eq]
 refine wpAny_bind (wpAny_bind (I.type.here (wpAny_bind (hmro.here ?_))))
 rw [hm, refuseLoop_ref, PySem.F.store_Exception.passes]
 exact wpAny_pure (wpAny_bind (I.type.here (wpAny_bind ((looks_findIn X ha).here (wpAny_bind (wpAny_pure h))))))
variable {E : VSP} {Q : Unit → Shared → Prop}
theorem setE0 {vs : Array Value} {name : Str} {v : Value} (F : Fr h₀ L s.heap m) (X : K.In h₀) (N : News h₀ L s.heap ((x, { cls := .ref C, data := .fields vs }) :: news)) (hne : ∀ p ∈ news, p.1 ≠ x)
 (hc : clsIn K C = some cd) (hm : cd.mro = [.ref C, .type "Exception", .type "BaseException", .type "object"]) (hd : cd.hasDict = true) (ha : findIn K (.ref C) name = some none)
 (hs : findIn K (.ref C) "__setattr__" = some (some (.builtin "object.__setattr__")))
 (h : ∀ dx h' tk tk', Fr h₀ L h' m → News h₀ L h' ((x, { cls := .ref C, dict := some dx, data := .fields vs }) :: (dx, dictOf [⟨PyData.keyHash w.params name, .str name tk, v⟩] 1) :: news) → x ≠ dx → (∀ p ∈ news, p.1 ≠ dx) → Q () { s with heap := h', toks := tk' }) :
 wpAny (model prog w) A (setAttr (.ref x) name v) Q E s := by
 have hx := (N _ List.mem_cons_self).1
 have I : InstAt s.heap x _ C none := ⟨hx, rfl, rfl, trivial⟩
 have X' := X.keeps F.keep
 refine set_plain X' I hs (osaE (s := { s with toks := s.toks + 1 }) X' I hc hm ha ?_)
 have hxs : x ≠ s.heap.objs.size := Nat.ne_of_lt (Heap.lt_size hx)
 let em : Obj := { cls := .type "dict", data := .dict #[] }
 have N₁ : News h₀ L (s.heap.push em) ((x, { cls := .ref C, data := .fields vs }) :: (s.heap.objs.size, em) :: news) := fun p hp => by
  have Np := News.push (o := em) F N rfl p
  rcases jX hp with rfl | hp
  · exact Np (jC _ List.mem_cons_self)
  · rcases jX hp with rfl | hp
    · exact Np List.mem_cons_self
    · exact Np (jC _ (jC _ hp))
 have F₁ := F.push em
 have off : ∀ p ∈ news, p.1 ≠ s.heap.objs.size := fun p hp => Nat.ne_of_lt (Heap.lt_size (N p (jC _ hp)).1)
 obtain ⟨F₂, N₂⟩ := news_upd (pre := []) (f := fun o => { o with dict := some s.heap.objs.size }) (o' := { cls := .ref C, dict := some s.heap.objs.size, data := .fields vs }) F₁ N₁ (fun q_ h => nomatch h)
  (fun p hp => by rcases jX hp with rfl | hp; exact Ne.symm hxs; exact hne p hp) rfl rfl
 obtain ⟨F₃, N₃⟩ := news_upd (pre := [(x, _)]) (f := Obj.putName name (PyData.keyHash w.params name) (.str name (s.toks + 1)) v) (o' := dictOf [⟨PyData.keyHash w.params name, .str name (s.toks + 1), v⟩] 1) F₂ N₂
  (fun p hp => by rw [jO hp]; exact hxs) off (putName_dict name _ _ v [] 0) rfl
 have hx₁ := (N₁ _ List.mem_cons_self).1
 have D₂ := (N₂ (s.heap.objs.size, em) (by simp)).1
 have D₃ := (N₃ (s.heap.objs.size, _) (jR _ List.mem_cons_self)).1
 unfold storeInOwnDict ownDictForStores
 refine wpAny_bind (wpAny_pure (wpAny_bind ?_))
 unfold instanceDict
 refine wpAny_bind (wpAny_loadPart hx (wpAny_bind ((looks_clsIn X' hc).at ?_)))
 rw [hd]
 refine wpAny_bind (wpAny_alloc (wpAny_bind (wpAny_update hx₁ (wpAny_pure ?_))))
 dsimp only
 unfold storeInDict newKeyGuard
 refine wpAny_bind (wpAny_pure (wpAny_bind ?_))
 unfold nsSet
 refine wpAny_bind (wpAny_bind (wpAny_askSetting (wpAny_pure (wpAny_bind (wpAny_mkText (wpAny_bind (wpAny_loadPart D₂ ?_)))))))
 show wpAny _ _ (if aRefKeyMayBeTheName name #[] then _ else _) _ _ _
 rw [aRefKeyMayBeTheName_at, if_neg (by simp)]
 refine wpAny_updatePart D₂ ?_
 refine wpAny_bind (wpAny_lookBehind D₃ (pastItsLine_dict (by rw [sizeLine_eq]; simp)) ?_)
 exact wpAny_pure (h _ _ _ _ F₃ N₃ hxs off)
theorem setE1 {vs : Array Value} {dx : Addr} {es : List DictEntry} {n : Nat} {name : Str} {v : Value} (F : Fr h₀ L s.heap m) (X : K.In h₀) (N : News h₀ L s.heap ((x, { cls := .ref C, dict := some dx, data := .fields vs }) :: (dx, dictOf es n) :: news)) (hxd : x ≠ dx) (hnd : ∀ p ∈ news, p.1 ≠ dx)
 (hc : clsIn K C = some cd) (hm : cd.mro = [.ref C, .type "Exception", .type "BaseException", .type "object"]) (hd : cd.hasDict = true) (ha : findIn K (.ref C) name = some none)
 (hs : findIn K (.ref C) "__setattr__" = some (some (.builtin "object.__setattr__"))) (hk : (es.any (·.refKey)) = false) (hz : (putL name (PyData.keyHash w.params name) (.str name (s.toks + 1)) v es).length ≤ 1000)
 (h : ∀ h' tk', Fr h₀ L h' m → News h₀ L h' ((x, { cls := .ref C, dict := some dx, data := .fields vs }) :: (dx, dictOf (putL name (PyData.keyHash w.params name) (.str name (s.toks + 1)) v es) (putN name es n)) :: news) → Q () { s with heap := h', toks := tk' }) :
 wpAny (model prog w) A (setAttr (.ref x) name v) Q E s := by
 have hx := (N _ List.mem_cons_self).1
 have D := (N (dx, _) (jC _ List.mem_cons_self)).1
 have I : InstAt s.heap x _ C (some (dictOf es n)) := ⟨hx, rfl, rfl, D⟩
 have X' := X.keeps F.keep
 refine set_plain X' I hs (osaE (s := { s with toks := s.toks + 1 }) X' I hc hm ha ?_)
 obtain ⟨F₃, N₃⟩ := news_upd (pre := [(x, _)]) (f := Obj.putName name (PyData.keyHash w.params name) (.str name (s.toks + 1)) v) (o' := dictOf (putL name (PyData.keyHash w.params name) (.str name (s.toks + 1)) v es) (putN name es n)) F N
  (fun p hp => by rw [jO hp]; exact hxd) hnd (putName_dict name _ _ v es n) rfl
 have D₃ := (N₃ (dx, _) (jR _ List.mem_cons_self)).1
 unfold storeInOwnDict ownDictForStores
 refine wpAny_bind (wpAny_pure (wpAny_bind ?_))
 unfold instanceDict
 refine wpAny_bind (wpAny_loadPart hx (wpAny_bind ((looks_clsIn X' hc).at ?_)))
 rw [hd]
 refine wpAny_pure (a := some dx) ?_
 dsimp only
 unfold storeInDict newKeyGuard
 refine wpAny_bind (wpAny_pure (wpAny_bind ?_))
 unfold nsSet
 refine wpAny_bind (wpAny_bind (wpAny_askSetting (wpAny_pure (wpAny_bind (wpAny_mkText (wpAny_bind (wpAny_loadPart D ?_)))))))
 show wpAny _ _ (if aRefKeyMayBeTheName name es.toArray then _ else _) _ _ _
 have c : (!es.toArray.any (·.key.isStr name) && es.toArray.any (·.refKey)) = false := by
  rw [← Array.any_toList, ← Array.any_toList]
  show (_ && es.any (·.refKey)) = false
  rw [hk, Bool.and_false]
 rw [aRefKeyMayBeTheName_at, c]
 refine wpAny_updatePart D ?_
 refine wpAny_bind (wpAny_lookBehind D₃ (pastItsLine_dict (by rw [sizeLine_eq, List.size_toArray]; omega)) ?_)
 exact wpAny_pure (h _ _ F₃ N₃)
end
theorem fr_but {h₀ h h' : Heap} {L e : Addr} {m : SoV} (F : Fr h₀ L h m) (k : ∀ b o, b ≠ e → h.get? b = some o → h'.get? b = some o) (he : e ≠ L) (h0 : h₀.get? e = none) : Fr h₀ L h' m :=
 ⟨F.ns.at' fun o q => k _ o (Ne.symm he) q, fun b o q => k b o (fun z => by rw [z, h0] at q; cases q) (F.keep b o q), F.above⟩
section
variable {prog : Program} {w : World} {A : Around} {E : VSP} {s : Shared} {env : Env}
theorem callWith_mw {pos : Pos} {qa e : Addr} {ex : Expr} {Q : VSP}
 (h : wpAny (model prog w) A (eval ex env) (fun v s₁ => s₁.heap.get? qa = some (mwObj e) ∧ wpAny (model prog w) A (call (.ref qa) [v]) Q E s₁) E s)
 (he : starEach [ex] env = [(false, eval ex env)]) :
 wpAny (model prog w) A (callWith pos (.ref qa) [] (backTo pos (starEach [ex] env)) []) Q E s := by
 rw [he]
 unfold callWith
 refine wpAny_bind (wpAny_holding (evalArgs_plain (spliced_cons ?_)))
 show wpAny _ _ (eval ex env) _ _ _
 refine wpAny_mono h (fun v s₁ h₁ => spliced_nil ?_) fun q_ q_ x => x
 obtain ⟨ho, hcall⟩ := h₁
 refine wpAny_bind (wpAny_standAt ?_)
 refine wpAny_bind (m := keeperOf (.ref qa)) ?_
 unfold keeperOf
 refine wpAny_bind (wpAny_load ho (wpAny_pure ?_))
 exact wpAny_bind (wpAny_mono hcall (fun r s₂ hr => wpAny_bind (wpAny_holding (wpAny_point (wpAny_pure hr)))) fun q_ q_ x => x)
end
end Mine
namespace Mine
open PySem.Spec LCg
local macro_rules | `(tactic| walk_at "call ref") => `(tactic| (refine Hold.mk ?_))
local macro_rules | `(tactic| walk_at "setAttr ref") => `(tactic| (refine Hold.mk ?_))
noncomputable abbrev excObj0 (C t : Addr) : Obj := { cls := .ref C, data := .fields #[.ref t, .none, .none, .none, .bool false, .none] }
noncomputable def CodeD (od : Obj) (cd : Str) : Prop := ∃ mm t, NsObj od mm ∧ mm (Str.ofString "code") = some (.str cd t)
theorem k34 {P : Params} : (K39 P).lookup 34 = some (excClassObj (Str.ofString "BasicError") (Str.ofString "BasicError") 34 33 [.type "Exception"] [.type "Exception", .type "BaseException", .type "object"] true [] [] false none none
 (some (.ref 15)) none (some (.str (Str.ofString "BasicError") 193)) (some (.str (Str.ofString "BasicError") 201)) (some (.bool true)) "Exception.__new__") := by k_is
theorem k33 {P : Params} : nsOkIn (K39 P) 33 = true := by kernel_rfl
theorem k33i {P : Params} : nsIn (K39 P) 33 "__init__" = some (some (.ref 31)) := by k_is
set_option tactic.hygienic true in
theorem nsMap_of_in {K : Frag} {h : Heap} {N : Addr} {x : Str} {v : Value} (X : K.In h) (e : nsOkIn K N = true) (q : nsIn K N x = some (some v)) : h.nsMap N x = some v := by
 obtain ⟨o, es, ep, ho, hd, q_, hf⟩ := Heap.Ns.of_isNs (isNs_of_in X e)
 unfold nsIn at q
 split at q
 · rename_i c d es' n' sl q'
   have := X _ _ q'
   rw [ho] at this
   cases this
   cases hd
   split at q
   · rename_i en he
     rw [← hf]
     unfold nsFind findBy
     rw [← Array.find?_toList, he]
     simpa using q
   · split at q <;> cases q
 · cases q
section
variable {w : World} {loose : List Str} {mean : ExcName → Option Value} {mg mb : SoV} {dp un : Nat} {gd : Option (List Code)} {cn : Str} {cs : Scope} {a : Addr} {ccd : Value} {cl : SAs} {outer : List Env} {A₀ : Around} {base h₀ : Heap} {L : Addr} {m : SoV} {s : Shared} {Q E : VSP} {news : Led}
set_option tactic.hygienic true in
theorem c_init31 {e tt : Addr} {cd td : Str} {t1 t2 : Tok} {A : Around} {env : Env} (hA : A.frames = some (env :: outer)) (hf : env.frame = some L) (hke : env.scope.kind = .function) (hroom : A.depth < recursionLimit)
 (B : Below A₀ base outer h₀) (F : Fr h₀ L s.heap m) (X : (K39 w.params).In h₀) (N : News h₀ L s.heap ((e, excObj0 34 tt) :: news)) (T : Top topProg loose mean mg mb h₀) (hne : ∀ p ∈ news, p.1 ≠ e) 
 (ret : ∀ dx oe vs od h' tk', ExcP 34 dx oe → oe.data = .fields vs → vs[1]? = some .none → CodeD od cd → Fr h₀ L h' m → News h₀ L h' ((e, oe) :: (dx, od) :: news) → (∀ p ∈ news, p.1 ≠ e) → e ≠ dx → Q .none { s with heap := h', toks := tk' }) :
 wpAny (model Challenge.rw_pq0184_01.row.prog w) A (call (.ref 31) [.ref e, .str cd t1, .str td t2]) Q E s := by
 refine wpAny_call ?_
 refine' ks_code_super (binds := [(Str.ofString "self", (.ref e : Value)), (Str.ofString "code", (.str cd t1 : Value)), (Str.ofString "told", (.str td t2 : Value))]) ?k1 ?k2 ?k3 ?k4 ?k5 ?kA ?kF ?kK ?k6 ?k7 ?k8 ?k9 ?kB ?_ ?c1 ?c2 ?c3 ?c4; (case kA => exact hA); (case kF => exact hf); (case kK => exact hke); (case k1 => k_asm); (case k2 => k_asm); (case k3 => k_asm); (case k4 => k_asm); (case k5 => k_asm); (case k6 => k_is); (case k7 => k_is); (case k8 => exact hroom); (case k9 => exact BindsTo.of_defaults rfl (Frag.In.keeps X F.keep _ _ (by k_is)) rfl rfl rfl); (case kB => exact locs rfl); (case c1 => decide); (case c2 => exact rfl); (case c3 => exact rfl); (case c4 => exact rfl); intro g' L' h' FG' F' N' B' X' T' l1; (try k_lt l1); (try dsimp only)
 refine ks_wpAt_execs_cons (ks_wpAt_Expr_any (ks_wpAt_MethodCall ?_))
 have I1 : InstAt h' e (excObj0 34 tt) 34 none := ⟨(N' _ List.mem_cons_self).1, rfl, rfl, trivial⟩
 refine ks_node (s := { s with heap := h', toks := _ }) (x := e) F' X' N' T' (by k_is) rfl rfl I1 (by k_is) rfl (by first | rfl | decide +kernel) (by k_is) (by k_is) (by k_is) (by k_is) (by decide) rfl rfl rfl rfl (by decide +kernel) (by first | boot_by_name | rfl | kernel_rfl) ?_
 intro so' h2' F2' N2' l2
 have X2 : (K39 w.params).In h2' := X'.keeps F2'.keep
 have he2 := (N2' _ (jC _ List.mem_cons_self)).1
 have I2 : InstAt h2' e (excObj0 34 tt) 34 none := ⟨he2, rfl, rfl, trivial⟩
 have hC2 := X2 _ _ k34
 have hcl : clsIn (K39 w.params) 34 = some { name := Str.ofString "BasicError", bases := [.type "Exception"], mro := [.ref 34, .type "Exception", .type "BaseException", .type "object"], ns := 33, qualname := Str.ofString "BasicError" } := by unfold clsIn; rw [k34]
 refine sup_getMethod (l₀ := [.ref 34, .type "Exception", .type "BaseException", .type "object"]) (N2' _ List.mem_cons_self).1 (looks_opaque X2 (by k_is)) (fun A Q E s k q => wpAny_bind ((looks_clsIn X2 hcl) A _ E s k (wpAny_pure q))) rfl X2 (by kernel_rfl) (I2.type.andThen (looks_mroIn X2 (by k_is))) (ks_ne X2 I2 hcl) (by decide) ?_
 obtain ⟨F3', N3', l3⟩ := ks_newsPush (s := { s with heap := h2', toks := 0 }) (o := mwObj e) (h' := h2'.push (mwObj e)) F2' N2' rfl (Heap.get?_push_at rfl rfl) (fun b o e => Heap.get?_push_of_some _ e)
 have hqa : (h2'.push (mwObj e)).get? h2'.objs.size = some (mwObj e) := (N3' _ List.mem_cons_self).1
 dsimp only at F3' N3' ⊢
 generalize h2'.push (mwObj e) = h3' at F3' N3' hqa ⊢
 generalize h2'.objs.size = qa' at N3' hqa ⊢
 refine callWith_mw (e := e) ?_ rfl
 k_steps
 refine Hold.out ?_
 refine mw_call PySem.F.excBase_Exception ((X'.keeps F3'.keep) _ _ k34) hqa ((N3' (e, excObj0 34 tt) (by simp)).1) ?_
 intro h4' he4 ht4 hk4
 have hh := N3' (e, excObj0 34 tt) (by simp)
 have F4' := fr_but F3' hk4 hh.2.1 hh.2.2
 have N4' : News g' L' h4' ((e, { cls := .ref 34, data := .fields #[.ref h3'.objs.size, .none, .none, .none, .bool false, .none] }) :: news) := fun p hp => by
  rcases jX hp with rfl | hp
  · exact ⟨he4, hh.2⟩
  · have hp' := N3' p (by simp [hp])
    exact ⟨hk4 _ _ (hne p hp) hp'.1, hp'.2⟩
 clear N3' F3' N2' F2' N' F'
 k_steps
 refine Hold.out ?_
 refine setE0 F4' X' N4' hne hcl rfl rfl (by k_is) (by k_is) ?_
 intro dx' h5' tk5 tk5' F5' N5' hxd hnd
 clear F4' N4'
 k_steps
 refine Hold.out ?_
 refine setE1 F5' X' N5' hxd hnd hcl rfl rfl (by k_is) (by k_is) rfl (Nat.le_of_ble_eq_true rfl) ?_
 intro h6' tk6' F6' N6'
 clear F5' N5'
 k_steps
 exact ret dx' _ _ _ h6' tk6' ⟨rfl, rfl⟩ rfl rfl ⟨fun y => nsFind _ y, t1, ⟨_, _, rfl, (show StrKeys #[⟨_, .str _ _, _⟩, ⟨_, .str _ _, _⟩] from by intro en hen; simp at hen; rcases hen with rfl | rfl <;> exact ⟨_, _, rfl⟩), fun q_ => rfl⟩, rfl⟩ (by assumption) (by assumption) hne hxd
set_option maxHeartbeats 4000000 in
theorem c_err {cd td : Str} {t1 t2 : Tok} (B : Below A₀ base outer h₀) (F : Fr h₀ L s.heap m) (X : (K39 w.params).In h₀) (N : News h₀ L s.heap news) (T : Top topProg loose mean mg mb h₀) (hk : cs.kind = .function) (hd : dp + 3 < recursionLimit) (hu : un + 60 < cLine)
 (ret : ∀ e dx oe vs od h' tk', ExcP 34 dx oe → oe.data = .fields vs → vs[1]? = some .none → CodeD od cd → Fr h₀ L h' m → News h₀ L h' ((e, oe) :: (dx, od) :: news) → (∀ p ∈ news, p.1 ≠ e) → e ≠ dx → Q (.ref e) { s with heap := h', toks := tk' }) :
 wpAny (model Challenge.rw_pq0184_01.row.prog w) (ktrTop dp un gd cn cs L a ccd cl outer) (call (.ref 34) [.str cd t1, .str td t2]) Q E s := by
 have X1 := X.keeps F.keep
 refine wpAny_call_exc_init (h := s.heap) (g := s.gens) (d := s.drawn) (t := s.toks) (os := s.os) PySem.F.excBase_Exception (X1 _ _ k34) (.of_isNs (isNs_of_in X1 k33)) (nsMap_of_in X1 k33 k33i) (X1 _ _ (by k_is : (K39 w.params).lookup 31 = some _)) rfl ?_
 intro h1 e hm
 obtain ⟨tt, ht, htn, htt⟩ := hm.there
 have hen : h₀.get? e = none := fresh_of_stays F.keep hm.new
 have htn0 : h₀.get? tt = none := fresh_of_stays F.keep htn
 have F1 := F.keeps hm.keeps
 have hnL : ∀ b, s.heap.get? b = none → b ≠ L := fun b hb z => by
  obtain ⟨o, q_, q_, ho, q_⟩ := F.ns
  rw [z, ho] at hb; cases hb
 have hne : ∀ p ∈ news, p.1 ≠ e := fun p hp z => by have := (N p hp).1; rw [z, hm.new] at this; cases this
 have N1 : News h₀ L h1 ((e, excObj0 34 tt) :: news) := fun p hp => by
  rcases jX hp with rfl | hp
  · exact ⟨ht, hnL _ hm.new, hen⟩
  · exact ⟨hm.keeps _ _ (N p hp).1, (N p hp).2⟩
 refine c_init31 (s := { s with heap := h1 }) rfl rfl hk (by ktr_room) B F1 X N1 T hne ?_
 intro dx oe vs od h' tk' a1 a2 a3 a4 a5 a6 a7 a8
 exact ⟨rfl, ret e dx oe vs od h' tk' a1 a2 a3 a4 a5 a6 a7 a8⟩
theorem raise34 {env : Env} {A : Around} {ex : Expr} {pos : Pos} {Q : Flow → Shared → Prop} (X : (K39 w.params).In h₀) (hh : A.handled = none)
 (h : wpAny (model Challenge.rw_pq0184_01.row.prog w) A (eval ex env) (fun v s₁ => ∃ e oe vs L m', v = .ref e ∧ Fr h₀ L s₁.heap m' ∧ s₁.heap.get? e = some oe ∧ oe.cls = .ref 34 ∧ oe.data = .fields vs ∧ vs[1]? = some .none ∧ E (.ref e) s₁) E s) :
 wpAny (model Challenge.rw_pq0184_01.row.prog w) A (exec (.Raise (some ex) none pos) env) Q E s := by
 refine raise_any (C := 34) (nm := Str.ofString "BasicError") (q := Str.ofString "BasicError") (N := 33) (bs := [.type "Exception"]) (hdct := true) (sn := []) (sub := []) (ab := false) (col := none) (dd := none) (k0 := some (.ref 15)) (k1 := none) (k2 := some (.str (Str.ofString "BasicError") 193)) (k3 := some (.str (Str.ofString "BasicError") 201)) (k5 := some (.bool true)) (newId := "Exception.__new__") (bm := [.type "Exception", .type "BaseException", .type "object"]) rfl hh (wpAny_mono h (fun v s₁ h₁ => ?_) fun q_ q_ e => e)
 obtain ⟨e, oe, vs, L, m', rfl, F, a1, a2, a3, a4, a5⟩ := h₁
 exact ⟨e, oe, vs, rfl, (X.keeps F.keep) _ _ k34, a1, a2, a3, a4, a5⟩
end
end Mine
namespace Mine
section
variable {prog : Program} {w : World} {P : Params} {wa ad nd : Addr} {dec : Bool} {b : Nat} {oa on : Obj} {nks : List (Str × Value)} {arrs : List Arr} {fz fz' fz'' tl : Led} {h₀ h : Heap} {L : Addr}
theorem RowF.okm {ok ok' : Addr → Prop} {o : Option Bool} {news : Led} {r : Addr} {c : Nat} {f : Nat → Int} (h : RowF ok o news r c f) (hk : ∀ a, ok a → ok' a) : RowF ok' o news r c f := let ⟨a, vs, k, h1, h2, h3⟩ := h; ⟨hk _ a, vs, k, h1, h2, h3⟩
theorem GridF.okm {ok ok' : Addr → Prop} {o : Option Bool} {news : Led} {g : Addr} {r c : Nat} {f : NNI} (h : GridF ok o news g r c f) (hk : ∀ a, ok a → ok' a) : GridF ok' o news g r c f := by
 obtain ⟨h0, vs, k, hm, hz, hv⟩ := h
 exact ⟨hk _ h0, vs, k, hm, hz, fun j v e => let ⟨a, e1, R⟩ := hv j v e; ⟨a, e1, R.okm hk⟩⟩
end
noncomputable def RkE (P : Params) (news : Led) (y : Addr) : Prop :=
 ∃ (d : Addr) (n : Nat) (t0 tb t1 td : Tok), (y, instObj 502 d) ∈ news ∧ (d, dictOf [⟨PyData.keyHash P (Str.ofString "bits"), .str (Str.ofString "bits") t0, .int 16 tb⟩, ⟨PyData.keyHash P (Str.ofString "digits"), .str (Str.ofString "digits") t1, .int 9 td⟩] n) ∈ news
theorem RkE.mono {P : Params} {news news' : Led} {y : Addr} (h : RkE P news y) (hs : ∀ p ∈ news, p ∈ news') : RkE P news' y := h.imp fun q_ => Exists.imp fun q_ => Exists.imp fun q_ => Exists.imp fun q_ => Exists.imp fun q_ => Exists.imp fun q_ => And.imp (hs _) (hs _)
theorem RkE.rk {P : Params} {news : Led} {y : Addr} (h : RkE P news y) : RkIn news y := by
 obtain ⟨d, n, t0, tb, t1, td, h1, h2⟩ := h
 exact ⟨d, _, n, tb, td, h1, h2, rfl, rfl⟩
end Mine
namespace Mine
section
variable {prog : Program} {w : World} {A : Around} {env : Env} {h : Heap} {k k' k1 k2 k3 : Nat} {v a b : Value} {e e1 e2 l r : PySem.Expr} {pos : Pos}
structure Pu (prog : Program) (w : World) (A : Around) (env : Env) (h : Heap) (e : PySem.Expr) (k : Nat) (v : Value) (k' : Nat) : Prop where
 o : ∀ (g : Array GenState) (d : Drawn) (os : OsState) (Q : VSP) (E : VSP), Q v ⟨h, g, d, k', os⟩ → wpAny (model prog w) A (eval e env) Q E ⟨h, g, d, k, os⟩
theorem Pu.ev {g : Array GenState} {d : Drawn} {os : OsState} {Q E : VSP} (p : Pu prog w A env h e k v k') (hq : Q v ⟨h, g, d, k', os⟩) : wpAny (model prog w) A (eval e env) Q E ⟨h, g, d, k, os⟩ := p.o _ _ _ _ _ hq
section
variable {K : Frag} {h₀ : Heap} {L f : Addr} {m mg mb : SoV} {p : Program} {loose : List Str} {mean : ExcName → Option Value} {names : NKs} {al : List (Str × Option Value)} {x qual : Str} {cd : Value} {mo : List (Str × Const)} {news : Led} {cl : SAs} {c : Addr} {o : Obj}
theorem Pu.xL (F : Fr h₀ L h (frm al)) (hs : ScopeN names) (ha : al.map (·.1) = names.map (·.1)) (hx : (x, NameKind.local) ∈ names) (hm : (x, some v) ∈ al) : Pu prog w A (envX qual (sc names mo) L f cd cl) h (.Name x pos) k v k :=
 ⟨fun q_ q_ q_ q_ q_ hq => nxL F hs ha hx hm hq⟩
theorem Pu.xC (N : News h₀ L h news) (hs : ScopeN names) (hx : (x, NameKind.cell) ∈ names) (hc : cl.lookup x = some c) (hm : (c, o) ∈ news) (hd : o.data = .cell (some v)) : Pu prog w A (envX qual (sc names mo) L f cd cl) h (.Name x pos) k v k :=
 ⟨fun q_ q_ q_ q_ q_ hq => nxC N hs hx hc hm hd hq⟩
theorem Pu.xG (F : Fr h₀ L h m) (X : K.In h₀) (T : Top p loose mean mg mb h₀) (hs : ScopeN names) (hx : (x, NameKind.globalImplicit) ∈ names) (e : nsIn K mainGlobals x = some (some v)) : Pu prog w A (envX qual (sc names mo) L f cd cl) h (.Name x pos) k v k :=
 ⟨fun q_ q_ q_ q_ q_ hq => nxG F X T hs hx e hq⟩
theorem Pu.xB (F : Fr h₀ L h m) (X : K.In h₀) (T : Top p loose mean mg mb h₀) (hs : ScopeN names) (hx : (x, NameKind.globalImplicit) ∈ names) (e : nsIn K mainGlobals x = some none) (hv : bootBuiltins x = some v) (hn : x ≠ "__name__") : Pu prog w A (envX qual (sc names mo) L f cd cl) h (.Name x pos) k v k :=
 ⟨fun q_ q_ q_ q_ q_ hq => nxB F X T hs hx e hv hn hq⟩
end
-- constants
variable {x y : Int} {t u : Tok} {p q : Str} {c : Bool}
section
variable {K : Frag} {h₀ : Heap} {L d z C : Addr} {m : SoV} {news : Led} {es : List DictEntry} {n : Nat} {name : Str}
noncomputable def GetOk (K : Frag) (C : Addr) (name : Str) : Prop := plainGet K C name = true ∧ hasDictIn K C = true ∧ ∃ attr, findIn K (.ref C) name = some attr ∧ noGet K attr = true
variable {its : Array Value} {qn : Nat} {i : Int}
end
-- arguments
end
end Mine
namespace Mine
theorem fmc {α : Type} {P : α → Prop} {a : α} {l : List α} (h1 : P a) (h2 : ∀ x ∈ l, P x) : ∀ x ∈ a :: l, P x := List.forall_mem_cons.mpr ⟨h1, h2⟩
theorem fma {α : Type} {P : α → Prop} {l r : List α} (h1 : ∀ x ∈ l, P x) (h2 : ∀ x ∈ r, P x) : ∀ x ∈ l ++ r, P x := fun x h => (jA h).elim (h1 x) (h2 x)
structure Cx where
 w : World
 A : Around
 env : Env
 G : Heap
 L : Addr
 fm : Al → SoV
 ns : NKs
 cl : SAs
 fr : List (Str × Value)
 keep : Led
 gs : Array GenState
 d : Drawn
 os : OsState
noncomputable def Cx.st (c : Cx) (al : Al) (nw : Led) (h : Heap) : Prop := Fr c.G c.L h (c.fm al) ∧ News c.G c.L h nw ∧ al.map (·.1) = c.ns.map (·.1) ∧ ∀ p ∈ c.keep, p ∈ nw
noncomputable def alAt : Al → Nat → Option Value
 | [], _ => none
 | (_, v) :: _, 0 => v
 | _ :: r, i + 1 => alAt r i
noncomputable def alSet : Al → Nat → Value → Al
 | [], _, _ => []
 | (x, _) :: r, 0, v => (x, some v) :: r
 | p :: r, i + 1, v => p :: alSet r i v
noncomputable def alSets : Al → List Nat → List Value → Al
 | al, i :: is, v :: vs => alSets (alSet al i v) is vs
 | al, _, _ => al
noncomputable def ITE (q : Bool) (a b : Prop) : Prop := (q = true → a) ∧ (q = false → b)
noncomputable abbrev VCo := Al → Led → (VLP) → Prop
noncomputable abbrev VC := List (Str × Value) → Cx → VCo
noncomputable def isSl (e : PySem.Expr) : Bool := e.ctorIdx == 26
noncomputable def isStar : PySem.Expr → Bool
 | .Starred .. => true
 | _ => false
noncomputable def isCallE (e : PySem.Expr) : Bool := e.ctorIdx == 16
noncomputable def findN : List (Str × NameKind) → Str → Nat → Option (Nat × NameKind)
 | [], _, _ => none
 | (y, k) :: r, x, i => if x == y then some (i, k) else findN r x (i + 1)
noncomputable def canCall : Value → Bool
 | .ref _ => true
 | .builtin _ => true
 | .type _ => true
 | _ => false
section
variable (E : VSP) (c : Cx)
noncomputable def Cx.at (h : Heap) (tk : Nat) : Shared := ⟨h, c.gs, c.d, tk, c.os⟩
inductive EndV (al : Al) (K : VLP) (v : Value) (s' : Shared) : Prop
 | pk (h' tk' nw' : _) : s' = c.at h' tk' → c.st al nw' h' → K v nw' → EndV al K v s'
noncomputable def RawS (m : Sem Value) (al : Al) (nw : Led) (K : VLP) : Prop := ∀ h tk, c.st al nw h → wpAny (model PG c.w) c.A m (EndV c al K) E (c.at h tk)
noncomputable def RawT (m : Sem Bool) (al : Al) (nw : Led) (K : Bool → Led → Prop) : Prop := ∀ h tk, c.st al nw h → wpAny (model PG c.w) c.A m (fun q s' => E3_3 (fun h' tk' nw' => s' = c.at h' tk') (fun h' tk' nw' => c.st al nw' h') (fun h' tk' nw' => K q nw')) E (c.at h tk)
noncomputable def opI (op : Operator) (x y : Int) (raw : Prop) (K : Value → Prop) : Prop :=
 match op with
 | .Add => ∀ t, K (.int (x + y) t)
 | .Sub => ∀ t, K (.int (x - y) t)
 | .Mult => x.natAbs < 2 ^ 64 ∧ ∀ t, K (.int (x * y) t)
 | .Mod => 0 < y ∧ ∀ t, K (.int (x % y) t)
 | .FloorDiv => 0 < y ∧ y.natAbs < 1073741824 ∧ ∀ t, K (.int (x / y) t)
 | .Pow => x = 10 ∧ 0 ≤ y ∧ y ≤ 1000 ∧ ∀ t, K (.int (10 ^ y.toNat) t)
 | _ => raw
noncomputable def onI (a b : Value) (raw : Prop) (f : Int → Int → Prop) : Prop :=
 match a with
 | .int x _ => match b with
  | .int y _ => f x y
  | _ => raw
 | _ => raw
noncomputable def onS (a b : Value) (raw : Prop) (f : Str → Str → Prop) : Prop :=
 match a with
 | .str x _ => match b with
  | .str y _ => f x y
  | _ => raw
 | _ => raw
noncomputable def opV (op : Operator) (c : Cx) (a b : Value) (al : Al) (nw : Led) (K : VLP) : Prop :=
 onI a b (RawS E c (binaryOp op a b) al nw K) fun x y => opI op x y (RawS E c (binaryOp op a b) al nw K) fun v => K v nw
noncomputable def cmI (op : CmpOp) (x y : Int) (raw : Prop) (K : Bool → Prop) : Prop :=
 match op with
 | .Eq => K (decide (x = y))
 | .NotEq => K (decide (x ≠ y))
 | .Lt => K (decide (x < y))
 | .LtE => K (decide (x ≤ y))
 | .Gt => K (decide (x > y))
 | .GtE => K (decide (x ≥ y))
 | _ => raw
noncomputable def cmS (op : CmpOp) (x y : Str) (raw : Prop) (K : Bool → Prop) : Prop :=
 match op with
 | .Eq => K (x == y)
 | .NotEq => K (x != y)
 | _ => raw
noncomputable def cmV (op : CmpOp) (c : Cx) (a b : Value) (al : Al) (nw : Led) (K : VLP) : Prop :=
 onI a b (onS a b (RawS E c (compareOp op a b) al nw K) fun x y => cmS op x y (RawS E c (compareOp op a b) al nw K) fun q => K (.bool q) nw) fun x y => cmI op x y (RawS E c (compareOp op a b) al nw K) fun q => K (.bool q) nw
noncomputable def boo (K : Bool → Led → Prop) (v : Value) (n : Led) : Prop := match v with
 | .bool q => K q n
 | _ => False
noncomputable def KeepV (f : Value) (nw : Led) : Prop := ∀ al h, c.st al nw h → ∃ k, (k = Keeper.frame ∨ k = Keeper.machine ∨ k = Keeper.boundFrame) ∧ Looks (model PG c.w) h (keeperOf f) k
noncomputable def vRaw (e : PySem.Expr) : VC := fun q_ c al nw K => RawS E c (eval e c.env) al nw K
noncomputable def vRawT (e : PySem.Expr) : VC := fun q_ c al nw K => RawT E c (isTrue e c.env (eval e c.env)) al nw fun q n => K (.bool q) n
noncomputable def vRw (t : Bool) (e : PySem.Expr) : VC := if t then vRawT E e else vRaw E e
noncomputable def vGlb (v : Value) : VC := fun q_ q_ q_ nw K => K v nw
noncomputable def vLoc (i : Nat) : VC := fun q_ q_ al nw K => match alAt al i with | some v => K v nw | none => False
inductive VCel (x : Str) (cl : SAs) (nw : Led) (K : VLP) : Prop
 | pk (a : Addr) (o : Obj) (v : Value) : cl.lookup x = some a → (a, o) ∈ nw → o.data = .cell (some v) → K v nw → VCel x cl nw K
noncomputable def vCel (x : Str) : VC := fun q_ c q_ nw K => VCel x c.cl nw K
noncomputable def vFre (x : Str) : VC := fun fr q_ q_ nw K => match fr.lookup x with | some v => K v nw | none => False
noncomputable def vInt (n : Int) : VC := fun q_ q_ q_ nw K => ∀ t, K (.int n t) nw
noncomputable def vStr (x : Str) : VC := fun q_ q_ q_ nw K => ∀ t, K (.str x t) nw
noncomputable def vBin (op : Operator) (a b : VC) : VC := fun fr c al nw K => a fr c al nw fun x n1 => b fr c al n1 fun y n2 => opV E op c x y al n2 K
noncomputable def vNeg (a : VC) : VC := fun fr c al nw K => a fr c al nw fun x n1 => match x with | .int x _ => ∀ t, K (.int (-x) t) n1 | _ => False
noncomputable def vNot (a : VC) : VC := fun fr c al nw K => a fr c al nw (boo fun q n1 => K (.bool (!q)) n1)
noncomputable def vAnd (a b : VC) : VC := fun fr c al nw K => a fr c al nw (boo fun q n1 => ITE q (b fr c al n1 (boo fun q n2 => K (.bool q) n2)) (K (.bool false) n1))
noncomputable def vOr (a b : VC) : VC := fun fr c al nw K => a fr c al nw (boo fun q n1 => ITE q (K (.bool true) n1) (b fr c al n1 (boo fun q n2 => K (.bool q) n2)))
noncomputable def vCmp (op : CmpOp) (a b : VC) : VC := fun fr c al nw K => a fr c al nw fun x n1 => b fr c al n1 fun y n2 => cmV E op c x y al n2 K
noncomputable def vChn (o1 o2 : CmpOp) (a b d : VC) : VC := fun fr c al nw K => a fr c al nw fun x n1 => b fr c al n1 fun y n2 => cmV E o1 c x y al n2 (boo fun q n3 => ITE q (d fr c al n3 fun z n4 => cmV E o2 c y z al n4 K) (K (.bool false) n3))
noncomputable def vAtt (a : VC) (x : Str) : VC := fun fr c al nw K => a fr c al nw fun z n1 => RawS E c (getAttr z x true) al n1 K
noncomputable def vSub (a b : VC) : VC := fun fr c al nw K => a fr c al nw fun x n1 => b fr c al n1 fun y n2 => ∀ ea eb, isSl eb = false → RawS E c (subscriptTail ea eb x y) al n2 K
noncomputable def vIf (t a b : VC) : VC := fun fr c al nw K => t fr c al nw (boo fun q n1 => ITE q (a fr c al n1 K) (b fr c al n1 K))
noncomputable def vArgs (f : PySem.Expr → VC) : List PySem.Expr → List (Str × Value) → Cx → Al → Led → (List Value → Led → Prop) → Prop
 | [], _, _, _, nw, K => K [] nw
 | e :: r, fr, c, al, nw, K => f e fr c al nw fun v n1 => vArgs f r fr c al n1 fun vs n2 => K (v :: vs) n2
noncomputable def vTup (f : PySem.Expr → VC) (es : List PySem.Expr) : VC := fun fr c al nw K => vArgs f es fr c al nw fun vs n1 => ∀ D, (∀ p ∈ n1, p.1 < D) → K (.ref D) ((D, tup vs 0) :: n1)
noncomputable def vLst (f : PySem.Expr → VC) (es : List PySem.Expr) : VC := fun fr c al nw K => vArgs f es fr c al nw fun vs n1 => ∀ D, (∀ p ∈ n1, p.1 < D) → K (.ref D) ((D, listOf vs.toArray 0) :: n1)
noncomputable def vCall (u : Value) (f : PySem.Expr → VC) (es : List PySem.Expr) : VC := fun fr c al nw K => vArgs f es fr c al nw fun vs n2 => RawS E c (call u vs) al n2 K
noncomputable def vCallV (g : VC) (f : PySem.Expr → VC) (es : List PySem.Expr) : VC := fun fr c al nw K => g fr c al nw fun u n1 => vArgs f es fr c al n1 fun vs n2 => KeepV c u n2 ∧ RawS E c (call u vs) al n2 K
variable (gt : List (Str × Value)) (ns : NKs)
noncomputable def vName (t : Bool) (x : Str) (p : Pos) : VC := match findN ns x 0 with
 | some (i, k) => match k with
  | .local => vLoc i
  | .cell => vCel x
  | .free => vFre x
  | .globalImplicit => match gt.lookup x with
   | some v => vGlb v
   | none => vRw E t (.Name x p)
  | _ => vRw E t (.Name x p)
 | none => vRw E t (.Name x p)
noncomputable def vConst (t : Bool) (k : Const) (e : PySem.Expr) : VC := match k with
 | .int i => vInt i
 | .str x => vStr x
 | .none => vGlb .none
 | _ => vRw E t e
noncomputable def vBool (o : BoolOp) (f : PySem.Expr → VC) : List PySem.Expr → VC
 | [] => fun q_ q_ q_ q_ q_ => False
 | a :: r => match r with
  | [] => f a
  | _ :: _ => match o with
   | .And => vAnd (f a) (vBool o f r)
   | .Or => vOr (f a) (vBool o f r)
noncomputable def vCmps (t : Bool) (f : PySem.Expr → VC) (e l : PySem.Expr) : List CmpOp → List PySem.Expr → VC
 | o1 :: os, r1 :: rs => match os, rs with
  | [], [] => if behindInMarks o1 r1 then vRw E t e else vCmp E o1 (f l) (f r1)
  | [o2], [r2] => if behindInMarks o2 r2 then vRw E t e else vChn E o1 o2 (f l) (f r1) (f r2)
  | _, _ => vRw E t e
 | _, _ => vRw E t e
noncomputable def fnV (x : Str) : Option Value := match findN ns x 0 with
 | some (_, k) => match k with
  | .globalImplicit => gt.lookup x
  | _ => none
 | none => none
noncomputable def vCallN (f : PySem.Expr → VC) (x : Str) (p : Pos) (es : List PySem.Expr) : VC := match fnV gt ns x with
 | some v => if canCall v then vCall E v f es else vCallV E (vName E gt ns false x p) f es
 | none => vCallV E (vName E gt ns false x p) f es
noncomputable def vCalls (t : Bool) (f : PySem.Expr → VC) (e g : PySem.Expr) (es : List PySem.Expr) (kw : List Keyword) : VC := match es, kw with
 | a :: r, [] => match g with
  | .Name x p => if (a :: r).any isStar then vRw E t e else vCallN E gt ns f x p (a :: r)
  | _ => vRw E t e
 | _, _ => vRw E t e
noncomputable def vcE : Nat → Bool → PySem.Expr → VC
 | 0, t, e => vRw E t e
 | n + 1, t, e => match e with
  | .Name x p => vName E gt ns t x p
  | .Constant k q p => vConst E t k (.Constant k q p)
  | .BinOp l op r _ => vBin E op (vcE n false l) (vcE n false r)
  | .UnaryOp o x p => match o with
   | .USub => vNeg (vcE n false x)
   | .Not => vNot (vcE n t x)
   | _ => vRw E t (.UnaryOp o x p)
  | .BoolOp o vs _ => vBool o (vcE n t) vs
  | .Compare l os rs p => vCmps E t (vcE n false) (.Compare l os rs p) l os rs
  | .IfExp q a b p => if t then vRawT E (.IfExp q a b p) else vIf (vcE n true q) (vcE n false a) (vcE n false b)
  | .Attribute v x p => if isCallE v then vRw E t (.Attribute v x p) else vAtt E (vcE n false v) x
  | .Subscript v s p => if isSl s then vRw E t (.Subscript v s p) else vSub E (vcE n false v) (vcE n false s)
  | .Tuple es k p => if es.any isStar || t || decide (1000 < es.length) then vRw E t (.Tuple es k p) else vTup (vcE n false) es
  | .List es p => if es.any isStar || t || decide (1000 < es.length) then vRw E t (.List es p) else vLst (vcE n false) es
  | .Call f es kw p => vCalls E gt ns t (vcE n false) (.Call f es kw p) f es kw
  | e => vRw E t e
end
section
variable {c : Cx} {E : VSP} {al : Al} {nw : Led} {h : Heap} {tk : Nat}
noncomputable def SndE (c : Cx) (E : VSP) (e : PySem.Expr) (x : VCo) : Prop := ∀ al nw K, x al nw K → RawS E c (eval e c.env) al nw K
noncomputable def SndT (c : Cx) (E : VSP) (e : PySem.Expr) (x : VCo) : Prop := ∀ al nw K, x al nw (boo K) → RawT E c (isTrue e c.env (eval e c.env)) al nw K
structure CxOk (gt : List (Str × Value)) (c : Cx) : Prop where
 X : (K39 c.w.params).In c.G
 kp : ∀ {x a}, gt.lookup x = some (.ref a) → keepIn (K39 c.w.params) (.ref a) = true
 loc : ∀ {al nw h i x v pos k}, c.st al nw h → findN c.ns x 0 = some (i, .local) → alAt al i = some v → Pu PG c.w c.A c.env h (.Name x pos) k v k
 cel : ∀ {al nw h i x a o v pos k}, c.st al nw h → findN c.ns x 0 = some (i, .cell) → c.cl.lookup x = some a → (a, o) ∈ nw → o.data = .cell (some v) → Pu PG c.w c.A c.env h (.Name x pos) k v k
 fre : ∀ {al nw h i x v pos k}, c.st al nw h → findN c.ns x 0 = some (i, .free) → c.fr.lookup x = some v → Pu PG c.w c.A c.env h (.Name x pos) k v k
 glo : ∀ {al nw h i x v pos k}, c.st al nw h → findN c.ns x 0 = some (i, .globalImplicit) → gt.lookup x = some v → Pu PG c.w c.A c.env h (.Name x pos) k v k
 hn : c.A.handled = none
theorem EndV.mk {K : VLP} {v : Value} (st : c.st al nw h) (k : K v nw) : EndV c al K v (c.at h tk) := ⟨h, tk, nw, rfl, st, k⟩
theorem RawS.mono {m : Sem Value} {K K' : VLP} (x : RawS E c m al nw K) (hk : ∀ v n, K v n → K' v n) : RawS E c m al nw K' := fun h tk st =>
 wpAny_mono (x h tk st) (fun q_ q_2 ⟨h', tk', nw', e, st', k⟩ => ⟨h', tk', nw', e, st', hk _ _ k⟩) fun q_ q_ e => e
theorem RawS.seq {m : Sem Value} {f : VSP} {K : VLP} (x : RawS E c m al nw K) (hf : ∀ v n h tk, K v n → c.st al n h → f v (c.at h tk)) : ∀ h tk, c.st al nw h → wpAny (model PG c.w) c.A m f E (c.at h tk) := fun h tk st =>
 wpAny_mono (x h tk st) (fun v s' y1 => by obtain ⟨h', tk', nw', rfl, st', k⟩ := y1; exact hf v nw' h' tk' k st') fun q_ q_ e => e
theorem args_snd {f : PySem.Expr → VC} {fr : List (Str × Value)} {pos : Pos} : ∀ {es : List PySem.Expr}, es.any isStar = false → (∀ e, SndE c E e (f e fr c)) → ∀ al nw (K : List Value → Led → Prop), vArgs f es fr c al nw K → ∀ h tk, c.st al nw h →
 wpAny (model PG c.w) c.A (spliced (backTo pos (starEach es c.env))) (fun vs s' => E3_4 (fun h' tk' nw' => s' = c.at h' tk') (fun h' tk' nw' => c.st al nw' h') (fun h' tk' nw' => vs.length = es.length) (fun h' tk' nw' => K vs nw')) E (c.at h tk)
 | [], _, _, al, nw, K, v, h, tk, st => args_nil ⟨h, tk, nw, rfl, st, rfl, v⟩
 | e :: es, hs, hf, al, nw, K, v, h, tk, st => by
  rw [List.any_cons, Bool.or_eq_false_iff] at hs
  have he : starEach (e :: es) c.env = (false, eval e c.env) :: starEach es c.env := by
   cases e with
   | Starred => cases (show true = false from hs.1)
   | _ => rfl
  refine args_cons (RawS.seq (hf e al nw _ v) (fun x n h tk k st => ?_) h tk st) he
  refine wpAny_mono (args_snd (es := es) hs.2 hf al n _ k h tk st) (fun vs s' ⟨h', tk', nw', e', st', hl, k'⟩ => ⟨h', tk', nw', e', st', congrArg (· + 1) hl, k'⟩) fun q_ q_ e => e
theorem onI_or {a b : Value} {raw : Prop} {f : Int → Int → Prop} (v : onI a b raw f) : raw ∨ E4_3 (fun x t y u => a = .int x t) (fun x t y u => b = .int y u) (fun x t y u => f x y) := by
 cases a with
 | int x t =>
  cases b with
  | int y u => exact .inr ⟨x, t, y, u, rfl, rfl, v⟩
  | _ => exact .inl v
 | _ => exact .inl v
theorem onS_or {a b : Value} {raw : Prop} {f : Str → Str → Prop} (v : onS a b raw f) : raw ∨ E4_3 (fun x t y u => a = .str x t) (fun x t y u => b = .str y u) (fun x t y u => f x y) := by
 cases a with
 | str x t =>
  cases b with
  | str y u => exact .inr ⟨x, t, y, u, rfl, rfl, v⟩
  | _ => exact .inl v
 | _ => exact .inl v
theorem opV_snd {op : Operator} {x y : Value} {K : VLP} (v : opV E op c x y al nw K) : RawS E c (binaryOp op x y) al nw K := by
 rcases onI_or v with v | ⟨x, t, y, u, rfl, rfl, v⟩
 · exact v
 · cases op with
   | Add => exact fun h tk st => add_int (EndV.mk st (v _))
   | Sub => exact fun h tk st => sub_int (EndV.mk st (v _))
   | Mult => exact fun h tk st => r_mul v.1 (EndV.mk st (v.2 _))
   | Mod => exact fun h tk st => r_mod v.1 (EndV.mk st (v.2 _))
   | FloorDiv => exact fun h tk st => r_div v.1 v.2.1 (EndV.mk st (v.2.2 _))
   | Pow =>
    obtain ⟨rfl, h0, h1, k⟩ := v
    exact fun h tk st => pow_int_small h0 (by lia) (by decide) (EndV.mk st (k _))
   | _ => exact v
theorem cmV_snd {op : CmpOp} {x y : Value} {K : VLP} (v : cmV E op c x y al nw K) : RawS E c (compareOp op x y) al nw K := by
 rcases onI_or v with v | ⟨x, t, y, u, rfl, rfl, v⟩
 · rcases onS_or v with v | ⟨x, t, y, u, rfl, rfl, v⟩
   · exact v
   · cases op with
     | Eq => exact fun h tk st => PyProof.Rows.eq_str (EndV.mk st v)
     | NotEq => exact fun h tk st => PyProof.Rows.ne_str (EndV.mk st v)
     | _ => exact v
 · cases op with
   | Eq => exact fun h tk st => r_eq (EndV.mk st v)
   | NotEq => exact fun h tk st => r_ne (EndV.mk st v)
   | Lt => exact fun h tk st => PyProof.Rows.lt_int (EndV.mk st v)
   | LtE => exact fun h tk st => PyProof.Rows.le_int (EndV.mk st v)
   | Gt => exact fun h tk st => PyProof.Rows.gt_int (EndV.mk st v)
   | GtE => exact fun h tk st => PyProof.Rows.ge_int (EndV.mk st v)
   | _ => exact v
end
end Mine
namespace Mine
section
variable {c : Cx} {E : VSP} {al : Al} {nw : Led} {h : Heap} {tk : Nat} {gt : List (Str × Value)} {e e1 e2 e3 l r f : PySem.Expr} {x y z : VCo} {X Y Z : VC} {fr : List (Str × Value)} {p pos : Pos} {op o1 o2 : CmpOp}
theorem RawS.at {m : Sem Value} {K : VLP} (s : RawS E c m al nw K) {g : VSP} (hg : ∀ u n h tk, K u n → c.st al n h → g u (c.at h tk)) (st : c.st al nw h) : wpAny (model PG c.w) c.A m g E (c.at h tk) := RawS.seq s hg h tk st
theorem SndE.at (s : SndE c E e x) {K : VLP} (v : x al nw K) {g : VSP} (hg : ∀ u n h tk, K u n → c.st al n h → g u (c.at h tk)) (st : c.st al nw h) : wpAny (model PG c.w) c.A (eval e c.env) g E (c.at h tk) :=
 RawS.seq (s al nw K v) hg h tk st
theorem SndE.atB (s : SndE c E e x) {K : Bool → Led → Prop} (v : x al nw (boo K)) {g : VSP} (hg : ∀ q n h tk, K q n → c.st al n h → g (.bool q) (c.at h tk)) (st : c.st al nw h) : wpAny (model PG c.w) c.A (eval e c.env) g E (c.at h tk) :=
 s.at v (fun u n h tk k st => by
  cases u with
  | bool q => exact hg q n h tk k st
  | _ => exact False.elim k) st
theorem SndT.at (s : SndT c E e x) {K : Bool → Led → Prop} (v : x al nw (boo K)) {g : Bool → Shared → Prop} (hg : ∀ q n h tk, K q n → c.st al n h → g q (c.at h tk)) (st : c.st al nw h) : wpAny (model PG c.w) c.A (isTrue e c.env (eval e c.env)) g E (c.at h tk) :=
 wpAny_mono (s al nw K v h tk st) (fun q s' y1 => by obtain ⟨h', tk', nw', rfl, st', k⟩ := y1; exact hg q nw' h' tk' k st') fun q_ q_ e => e
theorem sndT_of (hs : SndE c E e x) (hp : isTrue e c.env (eval e c.env) = (do let v ← eval e c.env; standAt e.pos; holding [v] (truthy v))) : SndT c E e x := by
 intro al nw K v h tk st
 exact isTrue_plain (hs.atB v (fun q n h tk k st => wpAny_truthy_bool ⟨h, tk, n, rfl, st, k⟩) st) hp
theorem sE_int {i : Int} {q : Nat} : SndE c E (.Constant (.int i) q pos) (vInt i fr c) := fun al nw K v h tk st => wpAny_Constant_int ⟨h, tk + 1, nw, rfl, st, v tk⟩
theorem sE_str {i : Str} {q : Nat} : SndE c E (.Constant (.str i) q pos) (vStr i fr c) := fun al nw K v h tk st => PySem.Calls.Constant_str ⟨h, tk + 1, nw, rfl, st, v tk⟩
theorem sE_non {q : Nat} : SndE c E (.Constant .none q pos) (vGlb .none fr c) := fun al nw K v h tk st => wpAny_Constant_none ⟨h, tk, nw, rfl, st, v⟩
theorem sE_loc {a : Str} {i : Nat} (hc : CxOk gt c) (hf : findN c.ns a 0 = some (i, .local)) : SndE c E (.Name a pos) (vLoc i fr c) := by
 intro al nw K v h tk st
 have v : (match alAt al i with | some v => K v nw | none => False) := v
 cases ha : alAt al i with
 | some u => rw [ha] at v; exact Pu.ev (hc.loc st hf ha) ⟨h, tk, nw, rfl, st, v⟩
 | none => rw [ha] at v; exact v.elim
theorem sE_fre {a : Str} {i : Nat} (hc : CxOk gt c) (hf : findN c.ns a 0 = some (i, .free)) : SndE c E (.Name a pos) (vFre a c.fr c) := by
 intro al nw K v h tk st
 have v : (match c.fr.lookup a with | some v => K v nw | none => False) := v
 cases ha : c.fr.lookup a with
 | some u => rw [ha] at v; exact Pu.ev (hc.fre st hf ha) ⟨h, tk, nw, rfl, st, v⟩
 | none => rw [ha] at v; exact v.elim
theorem sE_cel {a : Str} {i : Nat} (hc : CxOk gt c) (hf : findN c.ns a 0 = some (i, .cell)) : SndE c E (.Name a pos) (vCel a fr c) := by
 intro al nw K v h tk st
 obtain ⟨b, o, u, h1, h2, h3, k⟩ := v
 exact Pu.ev (hc.cel st hf h1 h2 h3) ⟨h, tk, nw, rfl, st, k⟩
theorem sE_glb {a : Str} {i : Nat} {u : Value} (hc : CxOk gt c) (hf : findN c.ns a 0 = some (i, .globalImplicit)) (hg : gt.lookup a = some u) : SndE c E (.Name a pos) (vGlb u fr c) := fun al nw K v h tk st =>
 Pu.ev (hc.glo st hf hg) ⟨h, tk, nw, rfl, st, v⟩
theorem sE_bin {o : Operator} (s1 : SndE c E l (X fr c)) (s2 : SndE c E r (Y fr c)) : SndE c E (.BinOp l o r pos) (vBin E o X Y fr c) := fun al nw K v h tk st =>
 wpAny_BinOp (s1.at v (fun a n h tk k st => s2.at k (fun b n h tk k st => opV_snd k h tk st) st) st)
theorem sE_neg (s1 : SndE c E e (X fr c)) : SndE c E (.UnaryOp .USub e pos) (vNeg X fr c) := fun al nw K v h tk st =>
 UnaryOp_ (s1.at v (fun a n h tk k st => by
  cases a with
  | int i t => exact neg_int ⟨h, tk + 1, n, rfl, st, k tk⟩
  | _ => exact False.elim k) st)
theorem sE_nt (s1 : SndE c E e (X fr c)) : SndE c E (.UnaryOp .Not e pos) (vNot X fr c) := fun al nw K v h tk st =>
 UnaryOp_ (s1.atB v (fun q n h tk k st => not_of (wpAny_truthy_bool ⟨h, tk, n, rfl, st, k⟩)) st)
theorem sT_nt (s1 : SndT c E e (X fr c)) : SndT c E (.UnaryOp .Not e pos) (vNot X fr c) := fun al nw K v h tk st =>
 isTrue_not (s1.at (K := fun q n => K (!q) n) v (fun q n h tk k st => ⟨h, tk, n, rfl, st, k⟩) st)
theorem sE_and {r : List PySem.Expr} (s1 : SndE c E e1 (X fr c)) (s2 : SndE c E (.BoolOp .And (e2 :: r) pos) (Y fr c)) : SndE c E (.BoolOp .And (e1 :: e2 :: r) pos) (vAnd X Y fr c) := fun al nw K v h tk st =>
 BoolOp_and (s1.atB v (fun q n h tk k st => by
  refine wpAny_truthy_bool ?_
  cases q with
  | true => exact s2.atB (k.1 rfl) (fun q n h tk k st => ⟨h, tk, n, rfl, st, k⟩) st
  | false => exact ⟨h, tk, n, rfl, st, k.2 rfl⟩) st)
theorem sE_or {r : List PySem.Expr} (s1 : SndE c E e1 (X fr c)) (s2 : SndE c E (.BoolOp .Or (e2 :: r) pos) (Y fr c)) : SndE c E (.BoolOp .Or (e1 :: e2 :: r) pos) (vOr X Y fr c) := fun al nw K v h tk st =>
 BoolOp_or (s1.atB v (fun q n h tk k st => by
  refine wpAny_truthy_bool ?_
  cases q with
  | false => exact s2.atB (k.2 rfl) (fun q n h tk k st => ⟨h, tk, n, rfl, st, k⟩) st
  | true => exact ⟨h, tk, n, rfl, st, k.1 rfl⟩) st)
theorem sT_and {r : List PySem.Expr} (s1 : SndT c E e1 (X fr c)) (s2 : SndT c E (.BoolOp .And (e2 :: r) pos) (Y fr c)) : SndT c E (.BoolOp .And (e1 :: e2 :: r) pos) (vAnd X Y fr c) := fun al nw K v h tk st =>
 isTrue_and (s1.at v (fun q n h tk k st => by
  cases q with
  | true => exact s2.at (K := K) (k.1 rfl) (fun q n h tk k st => ⟨h, tk, n, rfl, st, k⟩) st
  | false => exact ⟨h, tk, n, rfl, st, k.2 rfl⟩) st)
theorem sT_or {r : List PySem.Expr} (s1 : SndT c E e1 (X fr c)) (s2 : SndT c E (.BoolOp .Or (e2 :: r) pos) (Y fr c)) : SndT c E (.BoolOp .Or (e1 :: e2 :: r) pos) (vOr X Y fr c) := fun al nw K v h tk st =>
 isTrue_or (s1.at v (fun q n h tk k st => by
  cases q with
  | false => exact s2.at (K := K) (k.2 rfl) (fun q n h tk k st => ⟨h, tk, n, rfl, st, k⟩) st
  | true => exact ⟨h, tk, n, rfl, st, k.1 rfl⟩) st)
theorem sE_one {bo : BoolOp} (s1 : SndE c E e x) : SndE c E (.BoolOp bo [e] pos) x := fun al nw K v h tk st => BoolOp_one (s1 al nw K v h tk st)
theorem sT_one {bo : BoolOp} (s1 : SndT c E e x) : SndT c E (.BoolOp bo [e] pos) x := fun al nw K v h tk st => by
 cases bo with
 | And => exact isTrue_and (s1.at v (fun q n h tk k st => by
  cases q with
  | true => exact isTrue_and_nil ⟨h, tk, n, rfl, st, k⟩
  | false => exact ⟨h, tk, n, rfl, st, k⟩) st)
 | Or => exact isTrue_or (s1.at v (fun q n h tk k st => by
  cases q with
  | true => exact ⟨h, tk, n, rfl, st, k⟩
  | false => exact isTrue_or_nil ⟨h, tk, n, rfl, st, k⟩) st)
theorem sE_bool {o : BoolOp} {g : PySem.Expr → VC} (hg : ∀ e, SndE c E e (g e fr c)) : ∀ vs, SndE c E (.BoolOp o vs pos) (vBool o g vs fr c)
 | [] => fun q_ q_ q_ v => False.elim v
 | [a] => sE_one (hg a)
 | a :: b :: r => by
  cases o with
  | And => exact sE_and (hg a) (sE_bool hg (b :: r))
  | Or => exact sE_or (hg a) (sE_bool hg (b :: r))
theorem sT_bool {o : BoolOp} {g : PySem.Expr → VC} (hg : ∀ e, SndT c E e (g e fr c)) : ∀ vs, SndT c E (.BoolOp o vs pos) (vBool o g vs fr c)
 | [] => fun q_ q_ q_ v => False.elim v
 | [a] => sT_one (hg a)
 | a :: b :: r => by
  cases o with
  | And => exact sT_and (hg a) (sT_bool hg (b :: r))
  | Or => exact sT_or (hg a) (sT_bool hg (b :: r))
theorem sE_cmp (hm : behindInMarks op r = false) (s1 : SndE c E l (X fr c)) (s2 : SndE c E r (Y fr c)) : SndE c E (.Compare l [op] [r] pos) (vCmp E op X Y fr c) := fun al nw K v h tk st =>
 wpAny_Compare1 (s1.at v (fun a n h tk k st => s2.at k (fun b n h tk k st => cmV_snd k h tk st) st) st) hm
theorem cm_at {op : CmpOp} {a b : Value} {K : Bool → Led → Prop} (k : cmV E op c a b al nw (boo K)) {g : Bool → Shared → Prop} (hg : ∀ q n h tk, K q n → c.st al n h → g q (c.at h tk)) (st : c.st al nw h) : wpAny (model PG c.w) c.A (compareOp op a b) (fun u s => wpAny (model PG c.w) c.A (truthy u) g E s) E (c.at h tk) :=
 (cmV_snd k).at (fun u n h tk k st => by
  cases u with
  | bool q => exact wpAny_truthy_bool (hg q n h tk k st)
  | _ => exact False.elim k) st
theorem sT_cmp (hm : behindInMarks op r = false) (s1 : SndE c E l (X fr c)) (s2 : SndE c E r (Y fr c)) : SndT c E (.Compare l [op] [r] pos) (vCmp E op X Y fr c) := fun al nw K v h tk st =>
 wpAny_isTrue_Compare1 (s1.at v (fun a n h tk k st => s2.at k (fun b n h tk k st => cm_at k (fun q n h tk k st => ⟨h, tk, n, rfl, st, k⟩) st) st) st) hm
theorem sE_chn (hm : behindInMarks o2 e3 = false) (s1 : SndE c E e1 (X fr c)) (s2 : SndE c E e2 (Y fr c)) (s3 : SndE c E e3 (Z fr c)) : SndE c E (.Compare e1 [o1, o2] [e2, e3] pos) (vChn E o1 o2 X Y Z fr c) := fun al nw K v h tk st =>
 Compare_chain (s1.at v (fun a n h tk k st => chain_link (s2.at k (fun b n h tk k st => (cmV_snd k).at (fun u n h tk k st => by
  cases u with
  | bool q =>
   refine wpAny_truthy_bool ?_
   cases q with
   | true => exact chain_last (s3.at (k.1 rfl) (fun b n h tk k st => cmV_snd k h tk st) st)
   | false => exact ⟨h, tk, n, rfl, st, k.2 rfl⟩
  | _ => exact False.elim k) st) st)) st) (by unfold lastMarks; unfold lastMarks; exact hm)
theorem sT_chn (hm : behindInMarks o2 e3 = false) (s1 : SndE c E e1 (X fr c)) (s2 : SndE c E e2 (Y fr c)) (s3 : SndE c E e3 (Z fr c)) : SndT c E (.Compare e1 [o1, o2] [e2, e3] pos) (vChn E o1 o2 X Y Z fr c) := fun al nw K v h tk st =>
 isTrue_chain (s1.at v (fun a n h tk k st => test_link (s2.at k (fun b n h tk k st => cm_at k (fun q n h tk k st => by
  cases q with
  | true => exact test_last (s3.at (k.1 rfl) (fun b n h tk k st => cm_at k (fun q n h tk k st => ⟨h, tk, n, rfl, st, k⟩) st) st)
  | false => exact ⟨h, tk, n, rfl, st, k.2 rfl⟩) st) st)) st) (by unfold lastMarks; unfold lastMarks; exact hm)
theorem sE_ifx (s1 : SndT c E e1 (X fr c)) (s2 : SndE c E e2 (Y fr c)) (s3 : SndE c E e3 (Z fr c)) : SndE c E (.IfExp e1 e2 e3 pos) (vIf X Y Z fr c) := fun al nw K v h tk st =>
 IfExp_ (s1.at v (fun q n h tk k st => by
  cases q with
  | true => exact s2 al n K (k.1 rfl) h tk st
  | false => exact s3 al n K (k.2 rfl) h tk st) st)
theorem sE_att {a : Str} (hn : isCallE e = false) (s1 : SndE c E e (X fr c)) : SndE c E (.Attribute e a pos) (vAtt E X a fr c) := fun al nw K v h tk st =>
 Attribute_any_ (s1.at v (fun u n h tk k st => k h tk st) st) (by cases e <;> first | rfl | exact nomatch (show true = false from hn))
theorem sE_sub (hn : isSl r = false) (s1 : SndE c E l (X fr c)) (s2 : SndE c E r (Y fr c)) : SndE c E (.Subscript l r pos) (vSub E X Y fr c) := fun al nw K v h tk st =>
 Subscript_ (s1.at v (fun a n h tk k st => s2.at k (fun b n h tk k st => k l r hn h tk st) st) st)
theorem st_cons {al : Al} {nw : Led} {h' : Heap} {D : Addr} {o : Obj} (st : c.st al nw h) (F : Fr c.G c.L h' (c.fm al)) (N : News c.G c.L h' ((D, o) :: nw)) : c.st al ((D, o) :: nw) h' := ⟨F, N, st.2.2.1, fun p hp => jC _ (st.2.2.2 p hp)⟩
theorem sz_le {es : List PySem.Expr} {vs : List Value} (hl : vs.length = es.length) (hz : es.length ≤ 1000) : vs.length ≤ sizeLine := hl ▸ szl hz
theorem sE_tup {f : PySem.Expr → VC} {es : List PySem.Expr} {q : Nat} (hs : es.any isStar = false) (hf : ∀ e, SndE c E e (f e fr c)) (hz : es.length ≤ 1000) : SndE c E (.Tuple es q pos) (vTup f es fr c) := fun al nw K v h tk st =>
 Tuple_ (wpAny_mono (args_snd hs hf al nw _ v h tk st) (fun vs s' y2 => by
  obtain ⟨h', tk', nw', e', st', hl, k⟩ := y2
  refine e' ▸ ?_
  exact kup_newTuple st'.1 st'.2.1 (fun D h2 F N lt => ⟨h2, tk', _, rfl, st_cons st' F N, k D lt⟩) (sz_le hl hz)) fun q_ q_ e => e)
theorem sE_lst {f : PySem.Expr → VC} {es : List PySem.Expr} (hs : es.any isStar = false) (hf : ∀ e, SndE c E e (f e fr c)) (hz : es.length ≤ 1000) : SndE c E (.List es pos) (vLst f es fr c) := fun al nw K v h tk st =>
 List_ (wpAny_mono (args_snd hs hf al nw _ v h tk st) (fun vs s' y3 => by
  obtain ⟨h', tk', nw', e', st', hl, k⟩ := y3
  refine e' ▸ ?_
  exact newList_K st'.1 st'.2.1 (fun D h2 F N lt => ⟨h2, tk', _, rfl, st_cons st' F N, k D lt⟩) (sz_le hl hz)) fun q_ q_ e => e)
theorem star_one {e : PySem.Expr} {es : List PySem.Expr} {env : Env} (hs : isStar e = false) : starEach (e :: es) env = (false, eval e env) :: starEach es env := by
 cases e with
 | Starred => cases (show true = false from hs)
 | _ => rfl
theorem star_no {env : Env} {pos : Pos} : ∀ {es : List PySem.Expr}, es.any isStar = false → ((backTo pos (starEach es env)).any (·.1)) = false
 | [], _ => rfl
 | e :: es, hs => by
  rw [List.any_cons, Bool.or_eq_false_iff] at hs
  refine (star_one hs.1) ▸ ?_
  exact star_no (env := env) (pos := pos) (es := es) hs.2
theorem sE_callV {a : Str} {g : PySem.Expr → VC} {e : PySem.Expr} {es : List PySem.Expr} (hf : SndE c E (.Name a p) (X fr c))
 (hs : (e :: es).any isStar = false) (ha : ∀ x, SndE c E x (g x fr c)) : SndE c E (.Call (.Name a p) (e :: es) [] pos) (vCallV E X g (e :: es) fr c) := fun al nw K v h tk st => by
 refine Call_ (hf.at v (fun u n h tk k st => ?_) st)
 rw [List.any_cons, Bool.or_eq_false_iff] at hs
 have h1 := star_one (es := es) (env := c.env) hs.1
 have h2 := star_no (env := c.env) (pos := pos) (es := es) hs.2
 have hA := args_snd (pos := pos) (E := E) (es := e :: es) (by rw [List.any_cons, hs.1, hs.2]; rfl) ha al n _ k h tk st
 refine callWith_of (P := fun h => ∃ k, (k = Keeper.frame ∨ k = Keeper.machine ∨ k = Keeper.boundFrame) ∧ Looks (model PG c.w) h (keeperOf u) k) (by rw [h1]; show ((false || (backTo pos (starEach es c.env)).any (·.1)) || false) = false; rw [h2]; rfl) (fun q_ h => h) ?_
 rw [h1] at hA ⊢
 exact evalArgs_plain (wpAny_mono hA (fun vs s' y4 => by obtain ⟨h', tk', nw', rfl, st', _, k⟩ := y4; exact ⟨k.1 al h' st', k.2 h' tk' st'⟩) fun q_ q_ e => e)
theorem sE_call {a : Str} {i : Nat} {u : Value} {g : PySem.Expr → VC} {e : PySem.Expr} {es : List PySem.Expr} (hc : CxOk gt c) (hf : findN c.ns a 0 = some (i, .globalImplicit)) (hg : gt.lookup a = some u) (hcan : canCall u = true)
 (hs : (e :: es).any isStar = false) (ha : ∀ x, SndE c E x (g x fr c)) : SndE c E (.Call (.Name a p) (e :: es) [] pos) (vCall E u g (e :: es) fr c) := fun al nw K v h tk st => by
 refine Call_ (Pu.ev (hc.glo st hf hg) ?_)
 rw [List.any_cons, Bool.or_eq_false_iff] at hs
 have h1 := star_one (es := es) (env := c.env) hs.1
 have h2 := star_no (env := c.env) (pos := pos) (es := es) hs.2
 have hA := args_snd (pos := pos) (E := E) (es := e :: es) (by rw [List.any_cons, hs.1, hs.2]; rfl) ha al nw _ v h tk st
 cases u with
 | ref b => exact callWith_K hc.X (hc.kp hg) (wpAny_mono hA (fun vs s' y5 => by obtain ⟨h', tk', nw', rfl, st', _, k⟩ := y5; exact ⟨hc.X.keeps st'.1.keep, k h' tk' st'⟩) fun q_ q_ e => e) h1 h2
 | builtin id => exact PyProof.Rows.callWith_builtin1 (wpAny_mono hA (fun vs s' y6 => by obtain ⟨h', tk', nw', rfl, st', _, k⟩ := y6; exact k h' tk' st') fun q_ q_ e => e) h1 h2
 | type T => exact PyProof.Rows.callWith_type1 (wpAny_mono hA (fun vs s' y7 => by obtain ⟨h', tk', nw', rfl, st', _, k⟩ := y7; exact k h' tk' st') fun q_ q_ e => e) h1 h2
 | _ => cases (show false = true from hcan)
theorem sE_raw : SndE c E e (vRw E false e fr c) := fun q_ q_ q_ v => v
theorem sT_raw : SndT c E e (vRw E true e fr c) := fun q_ q_ q_ v => v
theorem nm_inv {a : Str} : (E1_2 (fun i => findN c.ns a 0 = some (i, .local)) (fun i => ∀ t, vName E gt c.ns t a p = vLoc i)) ∨ (E1_2 (fun i => findN c.ns a 0 = some (i, .cell)) (fun i => ∀ t, vName E gt c.ns t a p = vCel a)) ∨ (E1_2 (fun i => findN c.ns a 0 = some (i, .free)) (fun i => ∀ t, vName E gt c.ns t a p = vFre a)) ∨
 (E2_3 (fun i u => findN c.ns a 0 = some (i, .globalImplicit)) (fun i u => gt.lookup a = some u) (fun i u => ∀ t, vName E gt c.ns t a p = vGlb u)) ∨ ∀ t, vName E gt c.ns t a p = vRw E t (.Name a p) := by
 unfold vName
 cases hf : findN c.ns a 0 with
 | none => exact .inr (.inr (.inr (.inr fun q_ => rfl)))
 | some q =>
  obtain ⟨i, k⟩ := q
  cases k with
  | «local» => exact .inl ⟨i, rfl, fun q_ => rfl⟩
  | cell => exact .inr (.inl ⟨i, rfl, fun q_ => rfl⟩)
  | free => exact .inr (.inr (.inl ⟨i, rfl, fun q_ => rfl⟩))
  | globalImplicit =>
   cases hg : gt.lookup a with
   | some u => exact .inr (.inr (.inr (.inl ⟨i, u, rfl, rfl, fun q_ => rfl⟩)))
   | none => exact .inr (.inr (.inr (.inr fun q_ => rfl)))
  | _ => exact .inr (.inr (.inr (.inr fun q_ => rfl)))
theorem sE_name {a : Str} (hc : CxOk gt c) : SndE c E (.Name a p) (vName E gt c.ns false a p c.fr c) := by
 rcases nm_inv (c := c) (E := E) (gt := gt) (p := p) (a := a) with ⟨i, hf, e⟩ | ⟨i, hf, e⟩ | ⟨i, hf, e⟩ | ⟨i, u, hf, hg, e⟩ | e <;> rw [e]
 · exact sE_loc hc hf
 · exact sE_cel hc hf
 · exact sE_fre hc hf
 · exact sE_glb hc hf hg
 · exact sE_raw
theorem sT_name {a : Str} (hc : CxOk gt c) : SndT c E (.Name a p) (vName E gt c.ns true a p c.fr c) := by
 rcases nm_inv (c := c) (E := E) (gt := gt) (p := p) (a := a) with ⟨i, hf, e⟩ | ⟨i, hf, e⟩ | ⟨i, hf, e⟩ | ⟨i, u, hf, hg, e⟩ | e <;> rw [e]
 · exact sndT_of (sE_loc hc hf) rfl
 · exact sndT_of (sE_cel hc hf) rfl
 · exact sndT_of (sE_fre hc hf) rfl
 · exact sndT_of (sE_glb hc hf hg) rfl
 · exact sT_raw
theorem sE_calls {g : PySem.Expr → VC} {q : PySem.Expr} {es : List PySem.Expr} {kw : List Keyword} (hc : CxOk gt c) (hg : ∀ x, SndE c E x (g x c.fr c)) : ∀ t, SndE c E (.Call q es kw pos) (vCalls E gt c.ns t g (.Call q es kw pos) q es kw c.fr c) ∨ vCalls E gt c.ns t g (.Call q es kw pos) q es kw = vRw E t (.Call q es kw pos) := by
 intro t
 cases es with
 | nil => exact .inr rfl
 | cons a r =>
  cases kw with
  | cons => exact .inr rfl
  | nil =>
   cases q with
   | Name x p =>
    cases hs : (a :: r).any isStar with
    | true => right; show (if (a :: r).any isStar = true then _ else _) = _; rw [if_pos hs]
    | false =>
     left
     have e : vCalls E gt c.ns t g (.Call (.Name x p) (a :: r) [] pos) (.Name x p) (a :: r) [] = vCallN E gt c.ns g x p (a :: r) := by
      show (if (a :: r).any isStar = true then _ else _) = _
      rw [hs]; rfl
     refine e ▸ ?_
     have hv : SndE c E (.Call (.Name x p) (a :: r) [] pos) (vCallV E (vName E gt c.ns false x p) g (a :: r) c.fr c) := sE_callV (sE_name hc) hs hg
     unfold vCallN
     cases hf : fnV gt c.ns x with
     | none => exact hv
     | some u =>
      cases hcan : canCall u with
      | false => show SndE c E _ ((if canCall u = true then _ else _ : VC) _ _); rw [hcan]; exact hv
      | true =>
       show SndE c E _ ((if canCall u = true then _ else _ : VC) _ _)
       rw [hcan]
       unfold fnV at hf
       cases hn : findN c.ns x 0 with
       | none => rw [hn] at hf; cases hf
       | some z =>
        rw [hn] at hf
        obtain ⟨i, k⟩ := z
        cases k with
        | globalImplicit => exact sE_call hc hn hf hcan hs hg
        | _ => cases hf
   | _ => exact .inr rfl
theorem sE_cmps {g : PySem.Expr → VC} {os : List CmpOp} {rs : List PySem.Expr} (hg : ∀ x, SndE c E x (g x fr c)) : SndE c E (.Compare l os rs pos) (vCmps E false g (.Compare l os rs pos) l os rs fr c) ∧ SndT c E (.Compare l os rs pos) (vCmps E true g (.Compare l os rs pos) l os rs fr c) := by
 cases os with
 | nil => exact ⟨sE_raw, sT_raw⟩
 | cons o1 os =>
  cases rs with
  | nil => exact ⟨sE_raw, sT_raw⟩
  | cons r1 rs =>
   cases os with
   | nil =>
    cases rs with
    | nil =>
     cases hb : behindInMarks o1 r1 with
     | true => constructor <;> (unfold vCmps; dsimp only; rw [hb]; first | exact sE_raw (fr := fr) | exact sT_raw (fr := fr))
     | false =>
      constructor <;> (unfold vCmps; dsimp only; rw [hb])
      · exact sE_cmp hb (hg _) (hg _)
      · exact sT_cmp hb (hg _) (hg _)
    | cons => exact ⟨sE_raw, sT_raw⟩
   | cons o2 os =>
    cases os with
    | cons => exact ⟨by cases rs <;> exact sE_raw, by cases rs <;> exact sT_raw⟩
    | nil =>
     cases rs with
     | nil => exact ⟨sE_raw, sT_raw⟩
     | cons r2 rs =>
      cases rs with
      | cons => exact ⟨sE_raw, sT_raw⟩
      | nil =>
       cases hb : behindInMarks o2 r2 with
       | true => constructor <;> (unfold vCmps; dsimp only; rw [hb]; first | exact sE_raw (fr := fr) | exact sT_raw (fr := fr))
       | false =>
        constructor <;> (unfold vCmps; dsimp only; rw [hb])
        · exact sE_chn hb (hg _) (hg _) (hg _)
        · exact sT_chn hb (hg _) (hg _) (hg _)
theorem sI {q : Bool} {V W : VC} {P : VCo → Prop} (h1 : q = true → P (V fr c)) (h2 : q = false → P (W fr c)) : P ((if q then V else W) fr c) := by
 cases q with
 | true => exact h1 rfl
 | false => exact h2 rfl
theorem or3 {a b : Bool} {n : Nat} (h : (a || b || decide (1000 < n)) = false) : a = false ∧ b = false ∧ n ≤ 1000 := by
 rw [Bool.or_eq_false_iff, Bool.or_eq_false_iff] at h
 exact ⟨h.1.1, h.1.2, Nat.not_lt.mp (of_decide_eq_false h.2)⟩
theorem vcE_snd (hc : CxOk gt c) : ∀ n, (∀ e, SndE c E e (vcE E gt c.ns n false e c.fr c)) ∧ (∀ e, SndT c E e (vcE E gt c.ns n true e c.fr c))
 | 0 => ⟨fun q_ => sE_raw, fun q_ => sT_raw⟩
 | n + 1 => by
  obtain ⟨iE, iT⟩ := vcE_snd hc n
  refine ⟨fun e => ?_, fun e => ?_⟩
  · cases e with
    | Name => exact sE_name hc
    | Constant k =>
     cases k with
     | int => exact sE_int (fr := [])
     | str => exact sE_str (fr := [])
     | none => exact sE_non (fr := [])
     | _ => exact sE_raw (fr := c.fr)
    | BinOp => exact sE_bin (iE _) (iE _)
    | UnaryOp o =>
     cases o with
     | USub => exact sE_neg (iE _)
     | Not => exact sE_nt (iE _)
     | _ => exact sE_raw (fr := c.fr)
    | BoolOp => exact sE_bool iE _
    | Compare => exact (sE_cmps iE).1
    | IfExp => exact sE_ifx (iT _) (iE _) (iE _)
    | Attribute => exact sI (fun q_ => sE_raw) fun h => sE_att h (iE _)
    | Subscript => exact sI (fun q_ => sE_raw) fun h => sE_sub h (iE _) (iE _)
    | Tuple => exact sI (fun q_ => sE_raw) fun h => sE_tup (or3 h).1 iE (or3 h).2.2
    | List => exact sI (fun q_ => sE_raw) fun h => sE_lst (or3 h).1 iE (or3 h).2.2
    | Call =>
     rcases sE_calls hc iE false with h | h
     · exact h
     · show SndE c E _ (vCalls _ _ _ _ _ _ _ _ _ _ _); rw [h]; exact sE_raw
    | _ => exact sE_raw (fr := c.fr)
  · cases e with
    | Name => exact sT_name hc
    | Constant k =>
     cases k with
     | int => exact sndT_of (sE_int (fr := [])) rfl
     | str => exact sndT_of (sE_str (fr := [])) rfl
     | none => exact sndT_of (sE_non (fr := [])) rfl
     | _ => exact sT_raw (fr := c.fr)
    | BinOp => exact sndT_of (sE_bin (iE _) (iE _)) rfl
    | UnaryOp o =>
     cases o with
     | USub => exact sndT_of (sE_neg (iE _)) rfl
     | Not => exact sT_nt (iT _)
     | _ => exact sT_raw (fr := c.fr)
    | BoolOp => exact sT_bool iT _
    | Compare => exact (sE_cmps iE).2
    | IfExp => exact sT_raw (fr := c.fr)
    | Attribute => exact sI (fun q_ => sT_raw) fun h => sndT_of (sE_att h (iE _)) rfl
    | Subscript => exact sI (fun q_ => sT_raw) fun h => sndT_of (sE_sub h (iE _) (iE _)) rfl
    | Tuple => exact sI (fun q_ => sT_raw) fun h => nomatch (or3 h).2.1
    | List => exact sI (fun q_ => sT_raw) fun h => nomatch (or3 h).2.1
    | Call =>
     rcases sE_calls hc iE true with h | h
     · exact sndT_of h rfl
     · show SndT c E _ (vCalls _ _ _ _ _ _ _ _ _ _ _); rw [h]; exact sT_raw
    | _ => exact sT_raw (fr := c.fr)
end
end Mine
namespace Mine
noncomputable def setAt (nw : Led) (a : Addr) (o : Obj) : Led := nw.map fun p => if p.1 = a then (a, o) else p
theorem setAt_id {nw : Led} {a : Addr} {o : Obj} (h : ∀ p ∈ nw, p.1 ≠ a) : setAt nw a o = nw := by
 unfold setAt
 conv => rhs; rw [← List.map_id nw]
 exact List.map_congr_left fun p hp => if_neg (h p hp)
theorem setAt_app {x y : Led} {a : Addr} {o : Obj} : setAt (x ++ y) a o = setAt x a o ++ setAt y a o := List.map_append
theorem setAt_cons {r : Led} {a : Addr} {o o' : Obj} : setAt ((a, o) :: r) a o' = (a, o') :: setAt r a o' := by
 show (if a = a then _ else _) :: _ = _
 rw [if_pos rfl]; rfl
theorem setAt_ne {r : Led} {a : Addr} {o' : Obj} {p : Addr × Obj} (h : p.1 ≠ a) : setAt (p :: r) a o' = p :: setAt r a o' := by
 show (if p.1 = a then _ else _) :: _ = _
 rw [if_neg h]; rfl
structure CfOk (gt : List (Str × Value)) (c : Cx) : Prop extends CxOk gt c where
 nm : c.env.scope.names = c.ns
 kd : c.env.scope.kind = .function
 sto : ∀ {al nw h tk i x v} {Q : Unit → Shared → Prop} {E : VSP}, c.st al nw h → findN c.ns x 0 = some (i, .local) → (∀ h' tk', c.st (alSet al i v) nw h' → Q () (c.at h' tk')) → wpAny (model PG c.w) c.A (storeName c.env x v) Q E (c.at h tk)
 stc : ∀ {al nw h tk i x v a o u} {Q : Unit → Shared → Prop} {E : VSP}, c.st al nw h → findN c.ns x 0 = some (i, .cell) → c.cl.lookup x = some a → (a, o) ∈ nw → o.data = .cell u → (∀ h' tk' o', o'.data = .cell (some v) → c.st al (setAt nw a o') h' → Q () (c.at h' tk')) → wpAny (model PG c.w) c.A (storeName c.env x v) Q E (c.at h tk)
 ldn : ∀ {al nw h tk i x v} {Q E : VSP}, c.st al nw h → findN c.ns x 0 = some (i, .local) → alAt al i = some v → Q v (c.at h tk) → wpAny (model PG c.w) c.A (loadName c.env x) Q E (c.at h tk)
noncomputable def iopI (op : Operator) (x y : Int) (K : Value → Prop) : Prop := match op with
 | .Add => ∀ t, K (.int (x + y) t)
 | .Mult => x.natAbs < 2 ^ 64 ∧ ∀ t, K (.int (x * y) t)
 | _ => False
noncomputable def iopV (op : Operator) (a b : Value) (K : Value → Prop) : Prop := onI a b False fun x y => iopI op x y K
section
variable (c : Cx) (KR : VAP)
noncomputable def EndS (Kn : ALP) (f : Flow) (s' : Shared) : Prop := ∃ h' tk' al' nw', s' = c.at h' tk' ∧ c.st al' nw' h' ∧ match f with
 | .next => Kn al' nw'
 | .ret v => KR v al' nw'
 | _ => False
noncomputable def RawC (E : VSP) (c : Cx) (KR : VAP) (m : Sem Flow) (al : Al) (nw : Led) (Kn : ALP) : Prop := ∀ h tk, c.st al nw h → wpAny (model PG c.w) c.A m (EndS c KR Kn) E (c.at h tk)
end
noncomputable def isLC (e : PySem.Expr) : Bool := Nat.ble 8 e.ctorIdx && Nat.ble e.ctorIdx 10
noncomputable def isTup : PySem.Expr → Bool
 | .Tuple .. => true
 | _ => false
noncomputable def tupO : PySem.Expr → Option (List PySem.Expr × Nat × Pos)
 | .Tuple es k p => some (es, k, p)
 | _ => none
noncomputable def namO : PySem.Expr → Option (Str × Pos)
 | .Name x p => some (x, p)
 | _ => none
theorem tupO_inv {e : PySem.Expr} {z : List PySem.Expr × Nat × Pos} (h : tupO e = some z) : e = .Tuple z.1 z.2.1 z.2.2 := by
 cases e with
 | Tuple => cases h; rfl
 | _ => exact nomatch h
theorem namO_inv {e : PySem.Expr} {z : Str × Pos} (h : namO e = some z) : e = .Name z.1 z.2 := by
 cases e with
 | Name => cases h; rfl
 | _ => exact nomatch h
noncomputable def two {α : Type} (l : List α) (f : α → α → Bool) : Bool := match l with
 | [a, b] => f a b
 | _ => false
noncomputable def sw2 (ts : List PySem.Expr) (e : PySem.Expr) : Bool := match tupO e with
 | none => true
 | some z => two z.1 fun a b => two ts fun x y => (namO x).isSome && ((namO y).isSome && (!isStar a && !isStar b && ((foldedForSure 8 a && foldedForSure 8 b) || !(constantsAlone 8 a && constantsAlone 8 b))))
noncomputable abbrev Slot1 := Nat ⊕ Str
noncomputable def s1eq : Slot1 → Slot1 → Bool
 | .inl i, .inl j => i == j
 | .inr x, .inr y => x == y
 | _, _ => false
noncomputable def slotOf (ns : NKs) (x : Str) : Option Slot1 := match findN ns x 0 with
 | some (i, k) => match k with
  | .local => some (.inl i)
  | .cell => some (.inr x)
  | _ => none
 | none => none
noncomputable def tgtS (ns : NKs) : List PySem.Expr → Option (List Slot1)
 | [] => some []
 | e :: r => (namO e).bind fun z => (slotOf ns z.1).bind fun s => (tgtS ns r).bind fun ss => if ss.any (s1eq s) then none else some (s :: ss)
noncomputable def asgT (ns : NKs) (e : PySem.Expr) : List PySem.Expr → Option (Bool × List Slot1)
 | [t] => match namO t with
  | some z => if isLC e then none else (slotOf ns z.1).map fun s => (false, [s])
  | none => (tupO t).bind fun z => if isLC e || !sw2 z.1 e then none else (tgtS ns z.1).map fun ss => (true, ss)
 | _ => none
noncomputable def locT (ns : NKs) (t : PySem.Expr) : Option Nat := (namO t).bind fun z => match findN ns z.1 0 with
 | some (i, .local) => some i
 | _ => none
inductive VStC (x : Str) (cl : SAs) (v : Value) (al : Al) (nw : Led) (Kn : ALP) : Prop
 | pk (a : Addr) (o : Obj) (u : Option Value) : cl.lookup x = some a → (a, o) ∈ nw → o.data = .cell u → (∀ o' : Obj, o'.data = .cell (some v) → Kn al (setAt nw a o')) → VStC x cl v al nw Kn
noncomputable def vSt (s : Slot1) (c : Cx) (v : Value) (al : Al) (nw : Led) (Kn : ALP) : Prop := match s with
 | .inl i => Kn (alSet al i v) nw
 | .inr x => VStC x c.cl v al nw Kn
noncomputable def vSts : List Slot1 → Cx → List Value → Al → Led → (ALP) → Prop
 | s :: ss, c, v :: vs, al, nw, Kn => vSt s c v al nw fun al n => vSts ss c vs al n Kn
 | _, _, _, al, nw, Kn => Kn al nw
noncomputable def SeqO (T : Addr) (xs : List Value) (q : Nat) (n : Led) : Prop := (T, tup xs q) ∈ n ∨ (T, listOf xs.toArray q) ∈ n
inductive UnpO (ss : List Slot1) (T : Addr) (n : Led) (P : List Value → Prop) : Prop
 | pk (xs : List Value) (q : Nat) : SeqO T xs q n → xs.length = ss.length → P xs → UnpO ss T n P
section
variable (E : VSP) (gt : List (Str × Value)) (ns : NKs)
noncomputable def vcS : Nat → List Stmt → List (Str × Value) → Cx → (VAP) → Al → Led → (ALP) → Prop
 | 0, ss, _, c, KR, al, nw, Kn => RawC E c KR (execs ss c.env) al nw Kn
 | n + 1, ss, fr, c, KR, al, nw, Kn => match ss with
  | [] => Kn al nw
  | s :: r => match s with
   | .Assign ts e q => match asgT ns e ts with
    | some (b, ss) => vcE E gt ns n false e fr c al nw fun v n1 => match b with
     | true => (match v with
      | .ref T => UnpO ss T n1 fun xs => vSts ss c xs al n1 fun a2 n2 => vcS n r fr c KR a2 n2 Kn
      | _ => False)
     | false => vSts ss c [v] al n1 fun a2 n2 => vcS n r fr c KR a2 n2 Kn
    | none => RawC E c KR (exec (.Assign ts e q) c.env) al nw fun a2 n2 => vcS n r fr c KR a2 n2 Kn
   | .AugAssign t op e q => match locT ns t with
    | some i => match alAt al i with
     | some x => vcE E gt ns n false e fr c al nw fun y n1 => iopV op x y fun v => vcS n r fr c KR (alSet al i v) n1 Kn
     | none => False
    | none => RawC E c KR (exec (.AugAssign t op e q) c.env) al nw fun a2 n2 => vcS n r fr c KR a2 n2 Kn
   | .Return v q => match v with
    | some e => vcE E gt ns n false e fr c al nw fun v n1 => KR v al n1
    | none => RawC E c KR (exec (.Return none q) c.env) al nw fun a2 n2 => vcS n r fr c KR a2 n2 Kn
   | .Expr e q => if isLC e then RawC E c KR (exec (.Expr e q) c.env) al nw fun a2 n2 => vcS n r fr c KR a2 n2 Kn else vcE E gt ns n false e fr c al nw fun q_ n1 => vcS n r fr c KR al n1 Kn
   | .If t a b _ => vcE E gt ns n true t fr c al nw (boo fun q n1 => ITE q (vcS n a fr c KR al n1 fun a2 n2 => vcS n r fr c KR a2 n2 Kn) (vcS n b fr c KR al n1 fun a2 n2 => vcS n r fr c KR a2 n2 Kn))
   | s => RawC E c KR (exec s c.env) al nw fun a2 n2 => vcS n r fr c KR a2 n2 Kn
end
noncomputable def swT (bk st qx qy f cn : Bool) (x y : Str) : Sem (Option (List Str)) := do
 if bk then return none
 if st then return none
 let names := [(x, qx), (y, qy)].filterMap fun p => if p.2 then some p.1 else none
 if names.length != 2 || names.eraseDups.length != names.length then return none
 if f then return none
 if cn then unsupported "assign.tuple-of-constant-expressions:order-of-the-stores"
 return some names
theorem swT_of {qx qy f cn : Bool} {x y : Str} (hyx : (y == x) = false) (h : (f = true) ∨ cn = false) : swT false false qx qy f cn x y = pure none ∨ (qx = true ∧ qy = true ∧ swT false false qx qy f cn x y = pure (some [x, y])) := by
 unfold swT
 cases qx
 · left; cases qy <;> rfl
 cases qy
 · left; rfl
 · have e : ([x, y].eraseDups) = [x, y] := by simp [List.eraseDups, List.eraseDupsBy, List.eraseDupsBy.loop, hyx]
   have e2 : ([(x, true), (y, true)].filterMap fun p : Str × Bool => if p.2 then some p.1 else none) = [x, y] := rfl
   rw [e2]; dsimp only; rw [e]
   cases f
   · right
     rcases h with h | h
     · cases h
     · subst h; exact ⟨rfl, rfl, rfl⟩
   · left; rfl
theorem sw_pair2 {env : Env} {x y : Str} {px py p p2 : Pos} {k k2 : Nat} {a b : PySem.Expr} {bx b2 : Bool} (hk : env.scope.kind = .function) (hx : (env.kindOf x == some .local) = bx) (hy : (env.kindOf y == some .local) = b2) (hxy : (y == x) = false) (hs : sw2 [.Name x px, .Name y py] (.Tuple [a, b] k2 p2) = true) :
 swappedStores [.Tuple [.Name x px, .Name y py] k p] (.Tuple [a, b] k2 p2) env = pure none ∨ (bx = true ∧ b2 = true ∧ swappedStores [.Tuple [.Name x px, .Name y py] k p] (.Tuple [a, b] k2 p2) env = pure (some [x, y])) := by
 replace hs : (!isStar a && !isStar b && ((foldedForSure 8 a && foldedForSure 8 b) || !(constantsAlone 8 a && constantsAlone 8 b))) = true := hs
 simp only [Bool.and_eq_true, Bool.not_eq_true', Bool.or_eq_true] at hs
 obtain ⟨⟨ha, hb⟩, hc⟩ := hs
 have hbk : env.blockKind = .function := by unfold Env.blockKind; rw [hk]; rfl
 have e : swappedStores [.Tuple [.Name x px, .Name y py] k p] (.Tuple [a, b] k2 p2) env = swT (env.blockKind != .function) (isStar a || (isStar b || false)) (env.kindOf x == some .local && px.line == px.line) (env.kindOf y == some .local && py.line == px.line) (foldedForSure 8 a && (foldedForSure 8 b && true)) (constantsAlone 8 a && (constantsAlone 8 b && true)) x y := rfl
 rw [e, hbk, ha, hb, hx, hy, beq_self_eq_true px.line]
 rcases swT_of (qx := bx && true) (qy := b2 && (py.line == px.line)) (f := foldedForSure 8 a && (foldedForSure 8 b && true)) (cn := constantsAlone 8 a && (constantsAlone 8 b && true)) hxy (by
  rcases hc with h | h
  · left; rw [h.1, h.2]; rfl
  · right; rw [Bool.and_true]; exact h) with h | ⟨h1, h2, h⟩
 · exact .inl h
 · exact .inr ⟨(Bool.and_eq_true_iff.mp h1).1, (Bool.and_eq_true_iff.mp h2).1, h⟩
theorem findN_lookup {x : Str} {k : NameKind} {ns : NKs} {i0 i : Nat} (h : findN ns x i0 = some (i, k)) : ns.lookup x = some k := by
 induction ns generalizing i0 with
 | nil => cases h
 | cons p r ih =>
  obtain ⟨y, q⟩ := p
  unfold findN at h
  rw [List.lookup_cons]
  cases e : x == y with
  | true => rw [if_pos e] at h; cases h; rfl
  | false => rw [if_neg (Bool.eq_false_iff.mp e)] at h; exact ih h
section
variable {c : Cx} {E : VSP} {gt : List (Str × Value)} {KR : VAP}
noncomputable abbrev SC := Al → Led → (ALP) → Prop
noncomputable def SndS (c : Cx) (KR : VAP) (E : VSP) (ss : List Stmt) (V : SC) : Prop := ∀ al nw Kn, V al nw Kn → RawC E c KR (execs ss c.env) al nw Kn
theorem EndS.next {Kn : ALP} {al : Al} {nw : Led} {h : Heap} {tk : Nat} (st : c.st al nw h) (k : Kn al nw) : EndS c KR Kn .next (c.at h tk) := ⟨h, tk, al, nw, rfl, st, k⟩
theorem RawC.seq {m : Sem Flow} {al : Al} {nw : Led} {Kn Kn' : ALP} {rest : List Stmt} (x : RawC E c KR m al nw Kn) (hr : ∀ al nw, Kn al nw → RawC E c KR (execs rest c.env) al nw Kn') : ∀ h tk, c.st al nw h →
 wpAny (model PG c.w) c.A m (fun f s' => match f with
  | .next => wpAny (model PG c.w) c.A (execs rest c.env) (EndS c KR Kn') E s'
  | f => EndS c KR Kn' f s') E (c.at h tk) := fun h tk st =>
 wpAny_mono (x h tk st) (fun f s' y1 => by
  obtain ⟨h', tk', al', nw', e', st', k⟩ := y1
  subst e'
  cases f with
  | next => exact hr al' nw' k h' tk' st'
  | ret v => exact ⟨h', tk', al', nw', rfl, st', k⟩
  | brk => exact k.elim
  | cont => exact k.elim) fun q_ q_ e => e
theorem swaps_no {e : PySem.Expr} {t : Option PySem.Expr} {n : Nat} {env : Env} (h : isLC e = false) : swapsWith e t n env = pure false := by
 cases e <;> first | rfl | exact nomatch (show true = false from h)
theorem swaps_sole {t e : PySem.Expr} {n : Nat} {env : Env} (h : isLC e = false) : swapsWithSole [t] e n env = pure false := by
 show swapsWith e (some t) n env = _
 exact swaps_no h
theorem inter_no (hk : c.env.scope.kind = .function) : interactive c.env = false := by unfold interactive; rw [hk]; rfl
theorem alSet_comm {v w : Value} : ∀ {al : Al} {i j : Nat}, i ≠ j → alSet (alSet al i v) j w = alSet (alSet al j w) i v
 | [], _, _, _ => rfl
 | (x, a) :: r, 0, 0, h => absurd rfl h
 | (x, a) :: r, 0, j + 1, _ => rfl
 | (x, a) :: r, i + 1, 0, _ => rfl
 | p :: r, i + 1, j + 1, h => by
  show p :: alSet (alSet r i v) j w = p :: alSet (alSet r j w) i v
  rw [alSet_comm fun e => h (congrArg (· + 1) e)]
theorem sw_none {ts : List PySem.Expr} {e : PySem.Expr} {env : Env} {k : Nat} {p : Pos} (h : tupO e = none) : swappedStores [.Tuple ts k p] e env = pure none := by
 cases e with
 | Tuple => exact nomatch h
 | _ => rfl
theorem sndS_nil : SndS c KR E [] (fun al nw Kn => Kn al nw) := fun q_ q_ q_ v q_ q_ st => wpAny_execs_nil (EndS.next st v)
theorem slot_inv {ns : NKs} {x : Str} {s : Slot1} (h : slotOf ns x = some s) : (E1_2 (fun i => s = .inl i) (fun i => findN ns x 0 = some (i, .local))) ∨ E1_2 (fun i => s = .inr x) (fun i => findN ns x 0 = some (i, .cell)) := by
 unfold slotOf at h
 cases hf : findN ns x 0 with
 | none => rw [hf] at h; cases h
 | some q =>
  obtain ⟨j, k⟩ := q
  rw [hf] at h
  cases k with
  | «local» => cases h; exact .inl ⟨j, rfl, rfl⟩
  | cell => cases h; exact .inr ⟨j, rfl, rfl⟩
  | _ => cases h
theorem st_snd (hc : CfOk gt c) {x : Str} {s : Slot1} (hx : slotOf c.ns x = some s) {v : Value} {al : Al} {nw : Led} {h : Heap} {tk : Nat} {Kn : ALP} {Q : Unit → Shared → Prop} (st : c.st al nw h) (k : vSt s c v al nw Kn) (hq : ∀ al' nw' h' tk', c.st al' nw' h' → Kn al' nw' → Q () (c.at h' tk')) :
 wpAny (model PG c.w) c.A (storeName c.env x v) Q E (c.at h tk) := by
 rcases slot_inv hx with ⟨i, rfl, hf⟩ | ⟨i, rfl, hf⟩
 · exact hc.sto st hf fun h' tk' st' => hq _ _ _ _ st' k
 · obtain ⟨a, o, u, h1, h2, h3, k⟩ := k
   exact hc.stc st hf h1 h2 h3 fun h' tk' o' d st' => hq _ _ _ _ st' (k o' d)
theorem s_asg {x : Str} {p q : Pos} {e : PySem.Expr} {s : Slot1} {xe : VCo} {r : List Stmt} {mr : SC} (hc : CfOk gt c) (hx : slotOf c.ns x = some s) (hl : isLC e = false) (he : SndE c E e xe) (hr : SndS c KR E r mr) : SndS c KR E (.Assign [.Name x p] e q :: r) (fun al nw Kn => xe al nw fun v n1 => vSts [s] c [v] al n1 fun a2 n2 => mr a2 n2 Kn) := by
 intro al nw Kn v h tk st
 refine wpAny_execs_cons (wpAny_Assign_Name (RawS.seq (he al nw _ v) (fun v n h tk k st => ?_) h tk st) (swaps_no hl))
 exact st_snd hc hx st k fun al' nw' h' tk' st' k => hr _ _ _ k h' tk' st'
theorem s_exp {q : Pos} {e : PySem.Expr} {xe : VCo} {r : List Stmt} {mr : SC} (hc : CfOk gt c) (hl : isLC e = false) (he : SndE c E e xe) (hr : SndS c KR E r mr) : SndS c KR E (.Expr e q :: r) (fun al nw Kn => xe al nw fun q_ n1 => mr al n1 Kn) := by
 intro al nw Kn v h tk st
 refine wpAny_execs_cons (wpAny_Expr_any (RawS.seq (he al nw _ v) (fun v n h tk k st => ?_) h tk st) (inter_no hc.kd) (swaps_no hl))
 exact hr _ _ _ k h tk st
theorem s_ret {q : Pos} {e : PySem.Expr} {xe : VCo} {r : List Stmt} (he : SndE c E e xe) : SndS c KR E (.Return (some e) q :: r) (fun al nw q_ => xe al nw fun v n1 => KR v al n1) := by
 intro al nw Kn v h tk st
 exact wpAny_execs_cons (wpAny_Return_some (RawS.seq (he al nw _ v) (fun v n h tk k st => ⟨h, tk, al, n, rfl, st, k⟩) h tk st))
theorem s_raw {s : Stmt} {r : List Stmt} {mr : SC} (hr : SndS c KR E r mr) : SndS c KR E (s :: r) (fun al nw Kn => RawC E c KR (exec s c.env) al nw fun a2 n2 => mr a2 n2 Kn) := by
 intro al nw Kn v h tk st
 exact wpAny_execs_cons (RawC.seq v (fun a n k => hr a n _ k) h tk st)
theorem s_ite {t : PySem.Expr} {a b r : List Stmt} {q : Pos} {xt : VCo} {ma mb mr : SC} (ht : SndT c E t xt) (ha : SndS c KR E a ma) (hb : SndS c KR E b mb) (hr : SndS c KR E r mr) : SndS c KR E (.If t a b q :: r)
 (fun al nw Kn => xt al nw (boo fun q n1 => ITE q (ma al n1 fun a2 n2 => mr a2 n2 Kn) (mb al n1 fun a2 n2 => mr a2 n2 Kn))) := by
 intro al nw Kn v h tk st
 refine wpAny_execs_cons (wpAny_If (ht.at v (fun q n h tk k st => ?_) st))
 cases q with
 | true => exact RawC.seq (ha _ _ _ (k.1 rfl)) (fun a n k => hr a n _ k) h tk st
 | false => exact RawC.seq (hb _ _ _ (k.2 rfl)) (fun a n k => hr a n _ k) h tk st
theorem iop_snd {op : Operator} {o v : Value} {K : Value → Prop} (k : iopV op o v K) {Q : VSP} {h : Heap} {tk : Nat} (go : ∀ v' h' tk', h' = h → K v' → Q v' (c.at h' tk')) : wpAny (model PG c.w) c.A (inplaceOp op o v) Q E (c.at h tk) := by
 rcases onI_or k with k | ⟨x, t, y, u, rfl, rfl, k⟩
 · exact k.elim
 · cases op with
   | Add => exact wpAny_iadd_int (go _ _ _ rfl (k _))
   | Mult => exact PyProof.Rows.imul_int (go _ _ _ rfl (k.2 _)) (i64 k.1)
   | _ => exact False.elim k
theorem s_aug {x : Str} {p q : Pos} {op : Operator} {e : PySem.Expr} {i : Nat} {xe : VCo} {r : List Stmt} {mr : SC} (hc : CfOk gt c) (hx : findN c.ns x 0 = some (i, .local)) (he : SndE c E e xe) (hr : SndS c KR E r mr) : SndS c KR E (.AugAssign (.Name x p) op e q :: r)
 (fun al nw Kn => match alAt al i with
  | some x => xe al nw fun y n1 => iopV op x y fun v => mr (alSet al i v) n1 Kn
  | none => False) := by
 intro al nw Kn v h tk st
 refine wpAny_execs_cons (wpAny_AugAssign_Name ?_)
 have v : (match alAt al i with
  | some x => xe al nw fun y n1 => iopV op x y fun v => mr (alSet al i v) n1 Kn
  | none => False) := v
 cases ha : alAt al i with
 | none => rw [ha] at v; exact v.elim
 | some o =>
  rw [ha] at v
  refine hc.ldn st hx ha ?_
  refine RawS.seq (he al nw _ v) (fun v n h tk k st => ?_) h tk st
  exact iop_snd k fun v' h' tk' e k' => by subst e; exact hc.sto st hx fun h' tk' st' => hr _ _ _ k' h' tk' st'
theorem each_name {x : Str} {p : Pos} {ts : List PySem.Expr} {env : Env} : assignEach (.Name x p :: ts) env = (false, assign (.Name x p) env) :: assignEach ts env := rfl
theorem two_inv {α : Type} {l : List α} {f : α → α → Bool} (h : two l f = true) : E2_2 (fun a b => l = [a, b]) (fun a b => f a b = true) := by
 cases l with
 | nil => exact nomatch h
 | cons a l => cases l with
  | nil => exact nomatch h
  | cons b l => cases l with
   | nil => exact ⟨a, b, rfl, h⟩
   | cons => exact nomatch h
theorem sw_shape {ts : List PySem.Expr} {e : PySem.Expr} (h : sw2 ts e = true) : tupO e = none ∨ E8_2 (fun x px y py a b k p => ts = [.Name x px, .Name y py]) (fun x px y py a b k p => e = .Tuple [a, b] k p) := by
 unfold sw2 at h
 cases ht : tupO e with
 | none => exact .inl rfl
 | some z =>
  rw [ht] at h
  obtain ⟨es, k, p⟩ := z
  obtain ⟨a, b, e1, h⟩ := two_inv h
  obtain ⟨x, y, e2, h⟩ := two_inv h
  have h1 := Bool.and_eq_true_iff.mp h
  have h2 := Bool.and_eq_true_iff.mp h1.2
  obtain ⟨zx, hx⟩ := Option.isSome_iff_exists.mp h1.1
  obtain ⟨zy, hy⟩ := Option.isSome_iff_exists.mp h2.1
  exact .inr ⟨_, _, _, _, a, b, k, p, by rw [e2, namO_inv hx, namO_inv hy], (tupO_inv ht).trans (e1 ▸ rfl)⟩
theorem s1_self {s : Slot1} {p : Prop} (h : [s].any (s1eq s) = false) : p := by
 cases s with
 | inl i => exact absurd ((show ((i == i) || false) = false from h)) (by rw [beq_self_eq_true]; decide)
 | inr i => exact absurd ((show ((i == i) || false) = false from h)) (by rw [beq_self_eq_true]; decide)
theorem tgtS_cons {e : PySem.Expr} {ts : List PySem.Expr} {ns : NKs} {ss : List Slot1} (h : tgtS ns (e :: ts) = some ss) : E4_5 (fun x p s r => e = .Name x p) (fun x p s r => slotOf ns x = some s) (fun x p s r => tgtS ns ts = some r) (fun x p s r => r.any (s1eq s) = false) (fun x p s r => ss = s :: r) := by
 obtain ⟨z, h1, h⟩ := Option.bind_eq_some_iff.mp h
 obtain ⟨s, h2, h⟩ := Option.bind_eq_some_iff.mp h
 obtain ⟨r, h3, h⟩ := Option.bind_eq_some_iff.mp h
 cases hq : r.any (s1eq s) with
 | true => rw [hq] at h; exact nomatch h
 | false => rw [hq] at h; exact ⟨_, _, s, r, namO_inv h1, h2, h3, hq, (Option.some.inj h).symm⟩
theorem tgtS_len {ns : NKs} {env : Env} : ∀ {ts : List PySem.Expr} {ss : List Slot1}, tgtS ns ts = some ss → (assignEach ts env).length = ss.length ∧ (assignEach ts env).findIdx? (·.1) = none
 | [], ss, h => by cases h; exact ⟨rfl, rfl⟩
 | e :: ts, ss, h => by
  obtain ⟨x, p, s, r, rfl, q_, h2, q_, rfl⟩ := tgtS_cons h
  obtain ⟨a, b⟩ := tgtS_len (env := env) h2
  refine each_name ▸ ?_
  refine ⟨congrArg (· + 1) a, ?_⟩
  rw [List.findIdx?_cons, b]; rfl
theorem sts_snd (hc : CfOk gt c) {Q : Unit → Shared → Prop} {Kn : ALP} : ∀ {ts : List PySem.Expr} {ss : List Slot1} {xs : List Value} {al : Al} {nw : Led} {h : Heap} {tk : Nat}, tgtS c.ns ts = some ss → xs.length = ss.length → c.st al nw h → vSts ss c xs al nw Kn → (∀ al' nw' h' tk', c.st al' nw' h' → Kn al' nw' → Q () (c.at h' tk')) →
 wpAny (model PG c.w) c.A (assignInOrder ((assignEach ts c.env).map (·.2)) xs) Q E (c.at h tk)
 | [], ss, xs, al, nw, h, tk, ht, hl, st, k, hq => by
  cases ht
  cases xs with
  | nil => exact assignInOrder_nil (hq _ _ _ _ st k)
  | cons => cases hl
 | e :: ts, ss, xs, al, nw, h, tk, ht, hl, st, k, hq => by
  obtain ⟨x, p, s, r, rfl, h1, h2, q_, rfl⟩ := tgtS_cons ht
  cases xs with
  | nil => cases hl
  | cons v vs => exact assignInOrder_cons (PyProof.Rows.assign_Name (st_snd hc h1 st k fun al' nw' h' tk' st' k' => sts_snd hc h2 (Nat.succ.inj hl) st' k' hq))
theorem sw_cases {ts : List PySem.Expr} {ss : List Slot1} {k : Nat} {tp : Pos} {e : PySem.Expr} (hc : CfOk gt c) (ht : tgtS c.ns ts = some ss) (hw : sw2 ts e = true) : swappedStores [.Tuple ts k tp] e c.env = pure none ∨ E6_6 (fun x px y py i j => ts = [.Name x px, .Name y py]) (fun x px y py i j => ss = [.inl i, .inl j]) (fun x px y py i j => i ≠ j) (fun x px y py i j => findN c.ns x 0 = some (i, .local)) (fun x px y py i j => findN c.ns y 0 = some (j, .local)) (fun x px y py i j => swappedStores [.Tuple ts k tp] e c.env = pure (some [x, y])) := by
 rcases sw_shape hw with h1 | ⟨x, px, y, py, a, b, k2, p2, rfl, rfl⟩
 · exact .inl (sw_none h1)
 · obtain ⟨x', p', s, r', e1, f1, h2, hni, rfl⟩ := tgtS_cons ht
   cases e1
   obtain ⟨y', p'', s2, r'', e2, f2, h3, q_, rfl⟩ := tgtS_cons h2
   cases e2
   cases h3
   have hxy : (y == x) = false := by
    cases hb : y == x with
    | false => rfl
    | true =>
     have := eq_of_beq hb
     subst this
     rw [f1] at f2; cases f2
     exact s1_self hni
   have key : ∀ (bx b2 : Bool), (c.env.kindOf x == some .local) = bx → (c.env.kindOf y == some .local) = b2 → swappedStores [.Tuple [.Name x px, .Name y py] k tp] (.Tuple [a, b] k2 p2) c.env = pure none ∨ (bx = true ∧ b2 = true ∧ swappedStores [.Tuple [.Name x px, .Name y py] k tp] (.Tuple [a, b] k2 p2) c.env = pure (some [x, y])) := fun bx b2 e1 e2 => sw_pair2 hc.kd e1 e2 hxy hw
   rcases key _ _ rfl rfl with h | ⟨h1, h2, h⟩
   · exact .inl h
   · right
     have kx : c.ns.lookup x = some .local := by have := eq_of_beq h1; unfold Env.kindOf at this; rw [hc.nm] at this; exact this
     have ky : c.ns.lookup y = some .local := by have := eq_of_beq h2; unfold Env.kindOf at this; rw [hc.nm] at this; exact this
     rcases slot_inv f1 with ⟨i, rfl, g1⟩ | ⟨i, rfl, g1⟩
     · rcases slot_inv f2 with ⟨j, rfl, g2⟩ | ⟨j, rfl, g2⟩
       · exact ⟨x, px, y, py, i, j, rfl, rfl, fun e => by subst e; exact s1_self hni, g1, g2, h⟩
       · rw [findN_lookup g2] at ky; cases ky
     · rw [findN_lookup g1] at kx; cases kx
theorem len2 {α : Type} {xs : List α} (h : xs.length = 2) : E2_1 (fun u v => xs = [u, v]) := by
 cases xs with
 | nil => exact nomatch h
 | cons u t => cases t with
  | nil => exact nomatch h
  | cons v t => cases t with
   | nil => exact ⟨u, v, rfl⟩
   | cons => exact nomatch h
theorem s_unp {ts : List PySem.Expr} {ss : List Slot1} {k : Nat} {tp q : Pos} {e : PySem.Expr} {xe : VCo} {r : List Stmt} {mr : SC} (hc : CfOk gt c) (ht : tgtS c.ns ts = some ss) (hl : isLC e = false) (hw : sw2 ts e = true) (he : SndE c E e xe) (hr : SndS c KR E r mr) : SndS c KR E (.Assign [.Tuple ts k tp] e q :: r) (fun al nw Kn => xe al nw fun v n1 => match v with
 | .ref T => UnpO ss T n1 fun xs => vSts ss c xs al n1 fun a2 n2 => mr a2 n2 Kn
 | _ => False) := by
 intro al nw Kn v h tk st
 refine wpAny_execs_cons ?_
 have go : wpAny (model PG c.w) c.A (eval e c.env) (fun v s₁ => E6_6 (fun T xs n h' tk' nw' => v = .ref T) (fun T xs n h' tk' nw' => s₁ = c.at h' tk') (fun T xs n h' tk' nw' => c.st al nw' h') (fun T xs n h' tk' nw' => SeqO T xs n nw') (fun T xs n h' tk' nw' => xs.length = ss.length) (fun T xs n h' tk' nw' => vSts ss c xs al nw' fun a2 n2 => mr a2 n2 Kn)) E (c.at h tk) := by
  refine RawS.seq (he al nw _ v) (fun v n h tk k st => ?_) h tk st
  cases v with
  | ref T => obtain ⟨xs, qn, m, hl, k⟩ := k; exact ⟨T, xs, qn, h, tk, n, rfl, rfl, st, m, hl, k⟩
  | _ => exact False.elim k
 rcases sw_cases (k := k) (tp := tp) hc ht hw with hn | ⟨x, px, y, py, i, j, rfl, rfl, hij, f1, f2, hn⟩
 · refine Assign_Tuple (wpAny_mono go (fun v s y2 => ?_) fun q_ q_ e => e) (swaps_sole hl) hn
   obtain ⟨T, xs, n, h', tk', nw', hv, hs, st', hm, hl, k⟩ := y2
   subst hv hs
   have L := tgtS_len (env := c.env) ht
   have hz : (assignEach ts c.env).length = xs.toArray.size := by rw [L.1, ← hl]; simp
   rcases hm with hm | hm
   · exact assign_Tuple_tuple (items := xs.toArray) hc.hn (st'.2.1.isTup hm) hz L.2 fun h₂ he => sts_snd hc ht hl ⟨st'.1.extBut he (Nat.le_refl _), st'.2.1.extBut he (Nat.le_refl _), st'.2.2⟩ k fun al' nw' h' tk' st' k' => hr _ _ _ k' h' tk' st'
   · exact kun_list st'.1 st'.2.1 (st'.2.1.isList hm) hc.hn hz L.2 fun h₂ F N => sts_snd hc ht hl ⟨F, N, st'.2.2⟩ k fun al' nw' h' tk' st' k' => hr _ _ _ k' h' tk' st'
 · refine Assign_Tuple_swapped (wpAny_mono go (fun v s y3 => ?_) fun q_ q_ e => e) (swaps_sole hl) hn
   obtain ⟨T, xs, n, h', tk', nw', hv, hs, st', hm, hl, k⟩ := y3
   subst hv hs
   obtain ⟨u, v, rfl⟩ := len2 hl
   have un : ∀ {Q : List Value → Shared → Prop}, (∀ h₂, Fr c.G c.L h₂ (c.fm al) → News c.G c.L h₂ nw' → Q [u, v] { c.at h' tk' with heap := h₂ }) → wpAny (model PG c.w) c.A (unpackItems (.ref T) 2 none) Q E (c.at h' tk') := fun hq => by
    rcases hm with hm | hm
    · exact unpackItemsN_ (s := c.at h' tk') st'.1 st'.2.1 (st'.2.1.isTup hm) hc.hn rfl hq
    · exact kun_items (s := c.at h' tk') st'.1 st'.2.1 (st'.2.1.isList hm) hc.hn rfl hq
   refine un fun h₂ F N => ?_
   refine assignInOrder_cons (wpAny_bindName (hc.sto ⟨F, N, st'.2.2⟩ f2 fun h3 tk3 st3 => ?_))
   refine assignInOrder_cons (wpAny_bindName (hc.sto st3 f1 fun h4 tk4 st4 => ?_))
   refine assignInOrder_nil ?_
   have k' : mr (alSet (alSet al i u) j v) nw' Kn := k
   rw [alSet_comm hij] at k'
   exact hr _ _ _ k' h4 tk4 st4
theorem locT_inv {ns : NKs} {t : PySem.Expr} {i : Nat} (h : locT ns t = some i) : E2_2 (fun x p => t = .Name x p) (fun x p => findN ns x 0 = some (i, .local)) := by
 obtain ⟨z, h1, h⟩ := Option.bind_eq_some_iff.mp h
 cases hf : findN ns z.1 0 with
 | none => rw [hf] at h; exact nomatch h
 | some q =>
  obtain ⟨j, k⟩ := q
  rw [hf] at h
  cases k with
  | «local» => exact ⟨_, _, namO_inv h1, hf.trans (congrArg (fun j => some (j, NameKind.local)) (Option.some.inj h))⟩
  | _ => exact nomatch h
theorem asgT_inv {ns : NKs} {e : PySem.Expr} {ts : List PySem.Expr} {z : Bool × List Slot1} (h : asgT ns e ts = some z) : isLC e = false ∧ ((E3_3 (fun x p s => ts = [.Name x p]) (fun x p s => z = (false, [s])) (fun x p s => slotOf ns x = some s)) ∨ E4_4 (fun es k p ss => ts = [.Tuple es k p]) (fun es k p ss => z = (true, ss)) (fun es k p ss => tgtS ns es = some ss) (fun es k p ss => sw2 es e = true)) := by
 cases ts with
 | nil => exact nomatch h
 | cons t ts =>
  cases ts with
  | cons => exact nomatch h
  | nil =>
   cases hn : namO t with
   | some y =>
    replace h : (match namO t with
     | some z => if isLC e then none else (slotOf ns z.1).map fun s => ((false, [s]) : Bool × List Slot1)
     | none => (tupO t).bind fun z => if isLC e || !sw2 z.1 e then none else (tgtS ns z.1).map fun ss => (true, ss)) = some _ := h
    rw [hn] at h
    cases hl : isLC e with
    | true => rw [hl] at h; exact nomatch h
    | false =>
     rw [hl] at h
     obtain ⟨s, hs, h⟩ := Option.map_eq_some_iff.mp h
     exact ⟨rfl, .inl ⟨_, _, s, by rw [namO_inv hn], h.symm, hs⟩⟩
   | none =>
    replace h : (match namO t with
     | some z => if isLC e then none else (slotOf ns z.1).map fun s => ((false, [s]) : Bool × List Slot1)
     | none => (tupO t).bind fun z => if isLC e || !sw2 z.1 e then none else (tgtS ns z.1).map fun ss => (true, ss)) = some _ := h
    rw [hn] at h
    obtain ⟨y, hy, h⟩ := Option.bind_eq_some_iff.mp h
    cases hq : (isLC e || !sw2 y.1 e) with
    | true => rw [hq] at h; exact nomatch h
    | false =>
     rw [hq] at h
     rw [Bool.or_eq_false_iff, Bool.not_eq_false'] at hq
     obtain ⟨ss, ht, h⟩ := Option.map_eq_some_iff.mp h
     exact ⟨hq.1, .inr ⟨_, _, _, ss, by rw [tupO_inv hy], h.symm, ht, hq.2⟩⟩
theorem sS {ss : List Stmt} {q : Bool} {V W : SC} (h1 : q = true → SndS c KR E ss V) (h2 : q = false → SndS c KR E ss W) : SndS c KR E ss fun al nw Kn => if q then V al nw Kn else W al nw Kn := by
 cases q with
 | true => exact h1 rfl
 | false => exact h2 rfl
theorem vcS_snd (hc : CfOk gt c) : ∀ n ss, SndS c KR E ss (vcS E gt c.ns n ss c.fr c KR)
 | 0, ss => fun q_ q_ q_ v => v
 | n + 1, [] => sndS_nil
 | n + 1, s :: r => by
  have hr := vcS_snd hc n r
  have hE : ∀ e, SndE c E e (vcE E gt c.ns n false e c.fr c) := fun e => (vcE_snd hc.toCxOk n).1 e
  have hT : ∀ e, SndT c E e (vcE E gt c.ns n true e c.fr c) := fun e => (vcE_snd hc.toCxOk n).2 e
  cases s with
  | Assign ts e q =>
   intro al nw Kn v
   have v : (match asgT c.ns e ts with
    | some (b, ss) => vcE E gt c.ns n false e c.fr c al nw fun v n1 => match b with
     | true => (match v with
      | .ref T => UnpO ss T n1 fun xs => vSts ss c xs al n1 fun a2 n2 => vcS E gt c.ns n r c.fr c KR a2 n2 Kn
      | _ => False)
     | false => vSts ss c [v] al n1 fun a2 n2 => vcS E gt c.ns n r c.fr c KR a2 n2 Kn
    | none => RawC E c KR (exec (.Assign ts e q) c.env) al nw fun a2 n2 => vcS E gt c.ns n r c.fr c KR a2 n2 Kn) := v
   cases ha : asgT c.ns e ts with
   | none => rw [ha] at v; exact s_raw hr al nw Kn v
   | some z =>
    rw [ha] at v
    obtain ⟨hl, ⟨x, p, s, rfl, rfl, hf⟩ | ⟨es, k, p, ss, rfl, rfl, ht, hw⟩⟩ := asgT_inv ha
    · exact s_asg hc hf hl (hE _) hr al nw Kn v
    · exact s_unp hc ht hl hw (hE _) hr al nw Kn v
  | AugAssign t op e q =>
   intro al nw Kn v
   have v : (match locT c.ns t with
    | some i => match alAt al i with
     | some x => vcE E gt c.ns n false e c.fr c al nw fun y n1 => iopV op x y fun v => vcS E gt c.ns n r c.fr c KR (alSet al i v) n1 Kn
     | none => False
    | none => RawC E c KR (exec (.AugAssign t op e q) c.env) al nw fun a2 n2 => vcS E gt c.ns n r c.fr c KR a2 n2 Kn) := v
   cases ha : locT c.ns t with
   | none => rw [ha] at v; exact s_raw hr al nw Kn v
   | some i =>
    rw [ha] at v
    obtain ⟨x, p, rfl, hf⟩ := locT_inv ha
    exact s_aug hc hf (hE _) hr al nw Kn v
  | Return v q =>
   cases v with
   | some e => exact s_ret (hE _)
   | none => exact s_raw hr
  | Expr e q => exact sS (fun q_ => s_raw hr) fun h => s_exp hc h (hE _) hr
  | If t a b q => exact s_ite (hT _) (vcS_snd hc n a) (vcS_snd hc n b) hr
  | _ => exact s_raw hr
end
end Mine
namespace Mine
noncomputable def glG : List (Str × Value) := [(Str.ofString "BasicError", .ref 34), (Str.ofString "DETERMINANT", .str "DET" 823), (Str.ofString "Grid", .ref 265), (Str.ofString "MOST_EXPONENT", .int 99 191), (Str.ofString "Reckoner", .ref 502), (Str.ofString "SINGULAR", .str "DZ" 664), (Str.ofString "UNLIKE", .str "BS" 666), (Str.ofString "USUAL_HIGH", .int 10 522), (Str.ofString "World", .ref 583), (Str.ofString "_law_code", .ref 606), (Str.ofString "_law_grid", .ref 616), (Str.ofString "_law_is", .ref 626), (Str.ofString "_law_kept", .ref 611), (Str.ofString "_law_next", .ref 599), (Str.ofString "_law_product", .ref 621), (Str.ofString "_law_set", .ref 633), (Str.ofString "_law_tape", .ref 592), (Str.ofString "alike", .ref 136), (Str.ofString "cell_by_cell", .ref 366), (Str.ofString "check_highs", .ref 290), (Str.ofString "cleared_row", .ref 449), (Str.ofString "common_divisor", .ref 395), (Str.ofString "constant_grid", .ref 356), (Str.ofString "count_of", .ref 276), (Str.ofString "d_add", .ref 143), (Str.ofString "d_mul", .ref 157), (Str.ofString "d_negated", .ref 129), (Str.ofString "d_sub", .ref 150), (Str.ofString "decimal_of", .ref 100), (Str.ofString "decimal_of_fraction", .ref 437), (Str.ofString "dim", .ref 297), (Str.ofString "do_mat", .ref 565), (Str.ofString "figures_of", .ref 58), (Str.ofString "filled_rows", .ref 546), (Str.ofString "first_value", .ref 51), (Str.ofString "fits", .ref 86), (Str.ofString "fraction", .ref 402), (Str.ofString "fraction_by", .ref 430), (Str.ofString "fraction_less", .ref 423), (Str.ofString "fraction_of", .ref 409), (Str.ofString "fraction_times", .ref 416), (Str.ofString "get_item", .ref 325), (Str.ofString "grid_of", .ref 304), (Str.ofString "grid_product", .ref 381), (Str.ofString "grid_shape", .ref 351), (Str.ofString "inverse_of", .ref 464), (Str.ofString "is_whole", .ref 192), (Str.ofString "kind_in", .ref 283), (Str.ofString "kind_of_name", .ref 44), (Str.ofString "led_to", .ref 525), (Str.ofString "made", .ref 72), (Str.ofString "option_base", .ref 311), (Str.ofString "pivot_row", .ref 444), (Str.ofString "place_of", .ref 318), (Str.ofString "put_result", .ref 539), (Str.ofString "put_rows", .ref 344), (Str.ofString "reckoned", .ref 248), (Str.ofString "reckoned_rows", .ref 553), (Str.ofString "redim", .ref 332), (Str.ofString "rounded_by", .ref 65), (Str.ofString "row_by_column", .ref 388), (Str.ofString "rows_named", .ref 513), (Str.ofString "rows_of", .ref 337), (Str.ofString "settled", .ref 199), (Str.ofString "shaped", .ref 532), (Str.ofString "sizes_of", .ref 518), (Str.ofString "solved_rows", .ref 454), (Str.ofString "square_rows", .ref 459), (Str.ofString "suited", .ref 121), (Str.ofString "turned_grid", .ref 376), (Str.ofString "unit_grid", .ref 361), (Str.ofString "whole_near", .ref 79), (Str.ofString "whole_of", .ref 93), (Str.ofString "whole_reckoned", .ref 206)]
noncomputable def glB : List (Str × Value) := [(Str.ofString "abs", .builtin "abs"), (Str.ofString "enumerate", .type "enumerate"), (Str.ofString "isinstance", .builtin "isinstance"), (Str.ofString "len", .builtin "len"), (Str.ofString "list", .type "list"), (Str.ofString "min", .builtin "min"), (Str.ofString "range", .type "range"), (Str.ofString "str", .type "str"), (Str.ofString "sum", .builtin "sum"), (Str.ofString "tuple", .type "tuple"), (Str.ofString "zip", .type "zip")]
noncomputable def glT : List (Str × Value) := glG ++ glB
theorem lookup_all {P : Str → Value → Prop} {l : List (Str × Value)} (h : ∀ p ∈ l, P p.1 p.2) {x : Str} {v : Value} (e : l.lookup x = some v) : P x v := by
 induction l with
 | nil => cases e
 | cons p r ih =>
  rw [List.lookup_cons] at e
  cases q : x == p.1 with
  | true => rw [q] at e; cases e; rw [eq_of_beq q]; exact h _ (.head _)
  | false => rw [q] at e; exact ih (fun p hp => h p (.tail _ hp)) e
theorem map_all {α β : Type} {f g : α → β} : ∀ {l : List α}, l.map f = l.map g → ∀ p ∈ l, f p = g p
 | _ :: _, h, p, hp => by
  have h' := List.cons.inj h
  revert p; refine fmc ?_ fun p hp => ?_
  · exact h'.1
  · exact map_all h'.2 p hp
theorem glG_1 (P : Params) : glG.map (fun p => nsIn (K39 P) mainGlobals p.1) = glG.map (fun p => some (some p.2)) := by kernel_rfl
theorem glG_2 (P : Params) : glG.map (fun p => match p.2 with | .ref a => keepIn (K39 P) (.ref a) | _ => true) = glG.map (fun q_ => true) := by kernel_rfl
theorem glB_1 (P : Params) : glB.map (fun p => nsIn (K39 P) mainGlobals p.1) = glB.map (fun q_ => some none) := by kernel_rfl
theorem glB_2 : glB.map (fun p => bootBuiltins p.1) = glB.map (fun p => some p.2) := by kernel_rfl
theorem glB_3 : glB.map (fun p => p.1 == ("__name__" : Str)) = glB.map (fun q_ => false) := by kernel_rfl
theorem glB_4 : glB.map (fun p => match p.2 with | .ref _ => true | _ => false) = glB.map (fun q_ => false) := by kernel_rfl
theorem glT_ok {P : Params} {x : Str} {v : Value} (h : glT.lookup x = some v) : nsIn (K39 P) mainGlobals x = some (some v) ∨ (nsIn (K39 P) mainGlobals x = some none ∧ bootBuiltins x = some v ∧ x ≠ "__name__") := by
 refine lookup_all (P := fun x v => nsIn (K39 P) mainGlobals x = some (some v) ∨ (nsIn (K39 P) mainGlobals x = some none ∧ bootBuiltins x = some v ∧ x ≠ "__name__")) (fun p hp => ?_) h
 revert p; refine fma (fun p hp => ?_) fun p hp => ?_
 · exact .inl (map_all (glG_1 P) p hp)
 · exact .inr ⟨map_all (glB_1 P) p hp, map_all glB_2 p hp, fun e => by
    have := map_all glB_3 p hp
    rw [e] at this
    exact absurd this (by decide +kernel)⟩
theorem glT_kp {P : Params} {x : Str} {a : Addr} (h : glT.lookup x = some (.ref a)) : keepIn (K39 P) (.ref a) = true := by
 have := lookup_all (P := fun q_ v => ∀ a, v = .ref a → keepIn (K39 P) (.ref a) = true) (l := glT) (fun p hp b e => ?_) h
 · exact this a rfl
 · rcases jA hp with hp | hp
   · have := map_all (glG_2 P) p hp
     rw [e] at this; exact this
   · have := map_all glB_4 p hp
     rw [e] at this; cases this
set_option tactic.hygienic true in
theorem findN_at {k : NameKind} {x : Str} : ∀ {ns : NKs} {i0 i : Nat}, findN ns x i0 = some (i, k) → i0 ≤ i ∧ (x, k) ∈ ns ∧ ∀ {al : Al}, al.map (·.1) = ns.map (·.1) → (∀ {v}, alAt al (i - i0) = some v → (x, some v) ∈ al) ∧ ∀ {v}, Put x v al (alSet al (i - i0) v)
 | (y, q) :: r, i0, i, h => by
  unfold findN at h
  split at h
  · rename_i e
    cases h
    have e := eq_of_beq e
    subst e
    refine ⟨Nat.le_refl _, List.mem_cons_self, fun {al} ha => ?_⟩
    rw [Nat.sub_self]
    cases al with
    | nil => cases ha
    | cons p r' =>
     obtain ⟨z, u⟩ := p
     obtain rfl : z = x := (List.cons.inj ha).1
     refine ⟨fun {v} e => ?_, fun {v} => Put.head⟩
     have e : u = some v := e
     rw [e]; exact List.mem_cons_self
  · obtain ⟨h1, h2, h3⟩ := findN_at h
    refine ⟨Nat.le_of_succ_le h1, jC _ h2, fun {al} ha => ?_⟩
    have e : i - i0 = (i - (i0 + 1)) + 1 := (Nat.sub_add_cancel (Nat.sub_pos_of_lt h1) : i - i0 - 1 + 1 = _).symm
    refine e ▸ ?_
    cases al with
    | nil => cases ha
    | cons p r' =>
     obtain ⟨h4, h5⟩ := h3 (List.cons.inj ha).2
     refine ⟨fun {v} e => jC _ (h4 (by cases p; exact e)), fun {v} => ?_⟩
     cases p; exact Put.tail h5
theorem news_setAt {h₀ h h' : Heap} {L a : Addr} {nw : Led} {o o' : Obj} (N : News h₀ L h nw) (hm : (a, o) ∈ nw) (hs : Heap.SameBut a h h') (ho : h'.get? a = some o') : News h₀ L h' (setAt nw a o') := by
 intro p hp
 obtain ⟨q, hq, e⟩ := List.mem_map.mp hp
 by_cases hqa : q.1 = a
 · rw [if_pos hqa] at e
   refine e ▸ ?_
   exact ⟨ho, (N _ hm).2⟩
 · rw [if_neg hqa] at e
   refine e ▸ ?_
   exact ⟨(hs.2 _ hqa).trans (N _ hq).1, (N _ hq).2⟩
section
variable {w : World} {A : Around} {G : Heap} {L f : Addr} {qual : Str} {cd : Value} {names : NKs} {mo : List (Str × Const)} {cl : SAs} {gs : Array GenState} {d : Drawn} {os : OsState} {loose : List Str} {mean : ExcName → Option Value} {mg mb : SoV} {kp : Led}
noncomputable abbrev cxF (w : World) (A : Around) (G : Heap) (L f : Addr) (qual : Str) (cd : Value) (names : NKs) (mo : List (Str × Const)) (cl : SAs) (gs : Array GenState) (d : Drawn) (os : OsState) : Cx :=
 { w := w, A := A, env := envX qual (sc names mo) L f cd cl, G := G, L := L, fm := frm, ns := names, cl := cl, fr := [], keep := [], gs := gs, d := d, os := os }
theorem cfOk (X : (K39 w.params).In G) (T : Top topProg loose mean mg mb G) (hs : ScopeN names) (hh : A.handled = none) : CfOk glT (cxF w A G L f qual cd names mo cl gs d os) where
 X := X
 kp := glT_kp
 loc := fun st hf hv => by
  have h := findN_at hf
  exact Pu.xL st.1 hs st.2.2.1 h.2.1 ((h.2.2 st.2.2.1).1 hv)
 cel := fun st hf hc hm hd => Pu.xC st.2.1 hs (findN_at hf).2.1 hc hm hd
 fre := fun q_ q_ h => nomatch h
 glo := fun st hf hg => by
  rcases glT_ok (P := w.params) hg with h | ⟨h1, h2, h3⟩
  · exact Pu.xG st.1 X T hs (findN_at hf).2.1 h
  · exact Pu.xB st.1 X T hs (findN_at hf).2.1 h1 h2 h3
 hn := hh
 nm := rfl
 kd := rfl
 sto := fun {al nw h tk i x v Q E} st hf k => by
  have h := findN_at hf
  exact sxL st.1 st.2.1 hs st.2.2.1 h.2.1 (h.2.2 st.2.2.1).2 fun h' F' N' ha' => k h' (tk + 1) ⟨F', N', ha', fun p hp => nomatch hp⟩
 stc := fun {al nw h tk i x v a o u Q E} st hf hc hm hd k => by
  have h := findN_at hf
  have hmem := st.2.1 _ hm
  refine wpAny_storeName_cell rfl (lookup_of hs.1 h.2.1) hc ⟨o, hmem.1, hd⟩ fun h' hv hs' => ?_
  obtain ⟨o', ho', hd'⟩ := hv
  refine k h' tk o' hd' ⟨⟨st.1.ns.sameBut hs' (Ne.symm hmem.2.1), fun b ob e => (hs'.2 b (fun q => ?_)).trans (st.1.keep b ob e), st.1.above⟩, news_setAt st.2.1 hm hs' ho', st.2.2.1, fun p hp => nomatch hp⟩
  rw [q, hmem.2.2] at e; cases e
 ldn := fun st hf hv hq => by
  have h := findN_at hf
  exact wpAny_loadName_local rfl (lookup_of hs.1 h.2.1) st.1.ns (frm_at hs st.2.2.1 ((h.2.2 st.2.2.1).1 hv)) hq
end
inductive CTopO (lev : Nat) (A : Around) (G : Heap) (L : Addr) : Prop
 | pk (loose : List Str) (mean : ExcName → Option Value) (mg mb : SoV) (dp un : Nat) (gd : Option (List Code)) (cn : Str) (cs : Scope) (a : Addr) (ccd : Value) (cl : SAs) (outer : List Env) (A₀ : Around) (base : Heap) : A = ktrTop dp un gd cn cs L a ccd cl outer → Below A₀ base outer G → Top topProg loose mean mg mb G → cs.kind = .function → dp + lev < recursionLimit → un + 20 * lev < cLine → CTopO lev A G L
structure CTop (lev : Nat) (c : Cx) : Prop where
 o : CTopO lev c.A c.G c.L
 X : (K39 c.w.params).In c.G
theorem CTop.le {c : Cx} {l l' : Nat} (h : CTop l c) (hl : l' ≤ l) : CTop l' c := by
 obtain ⟨⟨loose, mean, mg, mb, dp, un, gd, cn, cs, a, ccd, cl, outer, A₀, base, h1, h2, h3, h4, h5, h6⟩, X⟩ := h
 exact ⟨⟨loose, mean, mg, mb, dp, un, gd, cn, cs, a, ccd, cl, outer, A₀, base, h1, h2, h3, h4, lvA hl h5, lvB hl h6⟩, X⟩
structure CAny (lev : Nat) (c : Cx) : Prop where
 top : CTop lev c
 gl : c.env.globals = mainGlobals
 bu : c.env.builtins = builtinsNs
 hn : c.A.handled = none
 okx : CxOk glT c
structure CtG (W : World → Prop) (lev : Nat) (f : Value) (vs : List Value) (nw : Led) (K : VLP) : Prop where
 o' : ∀ (c : Cx) (al : Al) (E : VSP), W c.w → CTop lev c → ((∀ p ∈ c.keep, p ∈ nw) → ∀ v n, K v n → ∀ p ∈ c.keep, p ∈ n) → ∀ h tk, c.st al nw h → codeAny (model PG c.w) c.A (.call f ⟨vs, []⟩) (fun r s' => match r with | .ok (.ret v) => EndV c al K v s' | .ok _ => False | .error e => E e s') (c.at h tk)
noncomputable abbrev AnyW : World → Prop := fun q_ => True
noncomputable abbrev Ct := CtG AnyW
noncomputable abbrev CtW (w : World) := CtG (· = w)
section
variable {W W' : World → Prop} {lev : Nat} {f : Value} {vs : List Value} {nw : Led} {K K' : VLP}
theorem CtG.o (h : CtG W lev f vs nw K) (c : Cx) (al : Al) (E : VSP) (hw : W c.w) (hC : CTop lev c) (hk : (∀ p ∈ c.keep, p ∈ nw) → ∀ v n, K v n → ∀ p ∈ c.keep, p ∈ n) : RawS E c (call f vs) al nw K :=
 fun g tk st => wpAny_call (h.o' c al E hw hC hk g tk st)
theorem CtG.meth {f q : Addr} {self : Value} (hq : (q, methodObj (.ref f) self) ∈ nw) (h : CtG W lev (.ref f) (self :: vs) nw K) : CtG W lev (.ref q) vs nw K :=
 ⟨fun c al E hw hC hk g tk st => method_call (s := c.at g tk) (st.2.1 _ hq).1 (h.o' c al E hw hC hk g tk st)⟩
theorem CtG.wkK (h : CtG W lev f vs nw K) (hs : ∀ v n, K v n → K' v n) (hk : ∀ c : Cx, ((∀ p ∈ c.keep, p ∈ nw) → ∀ v n, K' v n → ∀ p ∈ c.keep, p ∈ n) → (∀ p ∈ c.keep, p ∈ nw) → ∀ v n, K v n → ∀ p ∈ c.keep, p ∈ n) : CtG W lev f vs nw K' :=
 ⟨fun c al E hw hC hk' g tk st => codeAny_mono (h.o' c al E hw hC (hk c hk') g tk st) fun r s' h' => by
  match r with
  | .ok (.ret v) => obtain ⟨h1, tk1, n1, e, st1, k⟩ := h'; exact ⟨h1, tk1, n1, e, st1, hs _ _ k⟩
  | .ok .next => exact h'
  | .ok .brk => exact h'
  | .ok .cont => exact h'
  | .error e => exact h'⟩
end
inductive Le (nw n : Led) : Prop
 | pk (tl : _) : n = tl ++ nw → Abv nw tl → Le nw n
theorem Le.refl {nw : Led} : Le nw nw := ⟨[], rfl, Abv.nil⟩
theorem Le.sub {nw n : Led} (h : Le nw n) : ∀ p ∈ nw, p ∈ n := by
 obtain ⟨tl, rfl, q_⟩ := h
 exact fun p hp => jR _ hp
theorem Le.trans {a b d : Led} (h : Le a b) (k : Le b d) : Le a d := by
 obtain ⟨t1, rfl, h1⟩ := h
 obtain ⟨t2, rfl, h2⟩ := k
 exact ⟨t2 ++ t1, (List.append_assoc ..).symm, h2.mid h1⟩
theorem Le.cons {a b : Led} {D : Addr} {o : Obj} (h : Le a b) (hD : ∀ p ∈ b, p.1 < D) : Le a ((D, o) :: b) := h.trans ⟨[(D, o)], rfl, Abv.cons hD Abv.nil⟩
theorem Le.one {a : Led} {D : Addr} {o : Obj} (hD : ∀ p ∈ a, p.1 < D) : Le a ((D, o) :: a) := Le.refl.cons hD
noncomputable def Pst (nw : Led) (P : VLP) (v : Value) (n : Led) : Prop := Le nw n ∧ P v n
noncomputable abbrev CtN (lev : Nat) (f : Value) (vs : List Value) (nw : Led) (P : VLP) : Prop := Ct lev f vs nw (Pst nw P)
noncomputable abbrev CtNW (w : World) (lev : Nat) (f : Value) (vs : List Value) (nw : Led) (P : VLP) : Prop := CtW w lev f vs nw (Pst nw P)
section
variable {W : World → Prop} {c : Cx} {E : VSP} {al : Al} {lev l : Nat} {f : Value} {vs : List Value} {nw : Led} {P K' Q : VLP}
theorem CtG.goG (h : CtG W l f vs nw (Pst nw P)) (hw : W c.w) (hC : CAny lev c) (k : ∀ v n, Le nw n → P v n → K' v n) (hl : l ≤ lev) : RawS E c (call f vs) al nw K' :=
 RawS.mono (h.o c al E hw (hC.top.le hl) (fun hk v n hn p hp => hn.1.sub p (hk p hp))) fun v n hn => k v n hn.1 hn.2
theorem CtG.go (h : CtN l f vs nw P) (hC : CAny lev c) (k : ∀ v n, Le nw n → P v n → K' v n) (hl : l ≤ lev := by decide) : RawS E c (call f vs) al nw K' := h.goG trivial hC k hl
theorem CtG.goW {w : World} (h : CtNW w l f vs nw P) (hw : c.w = w) (hC : CAny lev c) (k : ∀ v n, Le nw n → P v n → K' v n) (hl : l ≤ lev := by decide) : RawS E c (call f vs) al nw K' := h.goG hw hC k hl
theorem CtG.wk (h : CtG W l f vs nw (Pst nw P)) (k : ∀ v n, P v n → Q v n) : CtG W l f vs nw (Pst nw Q) :=
 h.wkK (fun v n hn => ⟨hn.1, k v n hn.2⟩) fun c q_ hp v n hn p hpp => hn.1.sub p (hp p hpp)
end
noncomputable def alN : List (Str × NameKind) → List Value → Al
 | [], _ => []
 | (x, _) :: r, [] => (x, none) :: alN r []
 | (x, .cell) :: r, _ :: vs => (x, none) :: alN r vs
 | (x, _) :: r, v :: vs => (x, some v) :: alN r vs
noncomputable def zipN : List (Str × NameKind) → List Value → List (Str × Value)
 | (x, _) :: r, v :: vs => (x, v) :: zipN r vs
 | _, _ => []
noncomputable abbrev NoE : VSP := fun q_ q_ => False
structure CIn (lev : Nat) (names : NKs) (c : Cx) (cl : SAs) : Prop extends CAny lev c where
 ok : CfOk glT c
 ns : c.ns = names
 fr : c.fr = []
 kp : c.keep = []
 clq : c.cl = cl
 fm : c.fm = frm
 lo : c.env.locals = c.L
 en : E4_1 (fun (qual : Str) (f : Addr) (cd : Value) (mo : List (Str × Const)) => c.env = envX qual (sc names mo) c.L f cd cl)
noncomputable abbrev CIn.al {lev : Nat} {c : Cx} {names : NKs} {cl : SAs} (_ : CIn lev names c cl) (vs : List Value) : Al := alN names vs
theorem CtG.goF {W : World → Prop} {c : Cx} {E : VSP} {al : Al} {lev l : Nat} {names : NKs} {cl : SAs} {f : Value} {vs : List Value} {nw : Led} {K K' : VLP} (h : CtG W l f vs nw K) (hw : W c.w) (hC : CIn lev names c cl) (k : ∀ v n, K v n → K' v n) (hl : l ≤ lev := by decide) : RawS E c (call f vs) al nw K' :=
 RawS.mono (h.o c al E hw (hC.top.le hl) (fun q_ q_ q_ q_ p hp => by rw [hC.kp] at hp; cases hp)) k
section
variable {lev : Nat} {f : Addr} {vs : List Value} {nw : Led} {K : VLP} {name qual : Str} {ps : Arguments} {body : List Stmt} {names : NKs} {mo : List (Str × Const)} {dV kV doc pm cdv ct oc : Value} {an od : Option Addr} {osl : Array (Option Value)}
theorem code_in {c : Cx} {al0 : Al} {E : VSP} (own : Addr → SAs) (ho : ∀ P, (K39 P).lookup f = some ⟨oc, od, .func (fnOf name qual ps body (sc names mo) dV kV doc pm an cdv ct), osl⟩) (hcd : ∀ P, codeIn (K39 P) cdv qual = true)
 (hb : ∀ P s, (K39 P).In s.heap → BindsTo s (fnOf name qual ps body (sc names mo) dV kV doc pm an cdv ct) ⟨vs, []⟩ (zipN names vs)) (hkind : ((zipN names vs).all fun y => (sc names mo).names.lookup y.1 == some .local || (sc names mo).names.lookup y.1 == some .cell) = true)
 (hnd : ((cellsFrom 0 names []).map (·.1)).Nodup) (hs : ScopeN names) (hal : alC (zipN names vs) names = alN names vs) (hown : ∀ L', cellsFrom (L' + 1) names [] = own L')
 (hC : CTop (lev + 1) c) (hkeep : (∀ p ∈ c.keep, p ∈ nw) → ∀ v n, K v n → ∀ p ∈ c.keep, p ∈ n) (h : ∀ c' cells, CIn lev names c' (own c'.L) → c'.w = c.w → c.G.StaysIn c'.G → CellsAre (bindC (fun y => names.lookup y) (zipN names vs) fun q_ => none) (own c'.L) cells → (∀ p ∈ nw, p.1 < c'.L) →
  vcS NoE glT names 60 body [] c' (fun v q_ n => K v n) (alN names vs) (cells ++ nw) (fun q_ n => K .none n)) (h0 : Heap) (tk : Nat) (st : c.st al0 nw h0) : codeAny (model PG c.w) c.A (.call (.ref f) ⟨vs, []⟩) (fun r s' => match r with | .ok (.ret v) => EndV c al0 K v s' | .ok _ => False | .error e => E e s') (c.at h0 tk) := by
 obtain ⟨⟨loose, mean, mg, mb, dp, un, gd, cn, cs, a, ccd, cl, outer, A₀, base, h1, h2, h3, h4, h5, h6⟩, X⟩ := hC
 refine h1 ▸ ?_
 refine code_defCF h2 st.1 X st.2.1 h3 rfl rfl h4 (ho _) (hcd _) (lv0 h5) (hb _ _ (X.keeps st.1.keep)) hkind hnd hs hal own hown ?_
 intro g L' h₁ tk1 cells FG F' ha' hs' N' Y B' X' T' hlt
 have hC : CIn lev names (cxF c.w (Around.deeper (ktrTop dp un gd cn cs c.L a ccd cl outer) (envX qual (sc names mo) L' f cdv (own L'))) g L' f qual cdv names mo (own L') c.gs c.d c.os) (own L') :=
  { top := ⟨⟨loose, mean, mg, mb, dp + 1, un + 3, gd, qual, sc names mo, f, cdv, own L', _, _, base, rfl, B', T', rfl, lv1 h5, lv3 h6⟩, X'⟩, gl := rfl, bu := rfl, hn := rfl, okx := (cfOk X' T' hs' rfl).toCxOk, ok := cfOk X' T' hs' rfl, ns := rfl, fr := rfl, kp := rfl, clq := rfl, fm := rfl, lo := rfl, en := ⟨_, _, _, _, rfl⟩ }
 have v := h _ cells hC rfl FG.keep Y hlt
 refine wpAny_mono (vcS_snd hC.ok 60 body (alN names vs) (cells ++ nw) _ v h₁ tk1 ⟨F', N', ha', fun p hp => nomatch hp⟩) (fun fl s' hfl => ?_) fun q_ q_ x => x.elim
 obtain ⟨h', tk', al', nw', rfl, st', k⟩ := hfl
 cases fl with
 | next => exact leaveK_ st'.1 st'.2.1 fun F N => ⟨h', tk', nw', rfl, ⟨F, N, st.2.2.1, hkeep st.2.2.2 _ _ k⟩, k⟩
 | ret v => exact leaveK_ st'.1 st'.2.1 fun F N => ⟨h', tk', nw', rfl, ⟨F, N, st.2.2.1, hkeep st.2.2.2 _ _ k⟩, k⟩
 | brk => exact k.elim
 | cont => exact k.elim
theorem code_vcCG {W : World → Prop} (own : Addr → SAs) (ho : ∀ P, (K39 P).lookup f = some ⟨oc, od, .func (fnOf name qual ps body (sc names mo) dV kV doc pm an cdv ct), osl⟩) (hcd : ∀ P, codeIn (K39 P) cdv qual = true)
 (hb : ∀ P s, (K39 P).In s.heap → BindsTo s (fnOf name qual ps body (sc names mo) dV kV doc pm an cdv ct) ⟨vs, []⟩ (zipN names vs)) (hkind : ((zipN names vs).all fun y => (sc names mo).names.lookup y.1 == some .local || (sc names mo).names.lookup y.1 == some .cell) = true)
 (hnd : ((cellsFrom 0 names []).map (·.1)).Nodup) (hs : ScopeN names) (hal : alC (zipN names vs) names = alN names vs) (hown : ∀ L', cellsFrom (L' + 1) names [] = own L')
 (h : ∀ c cells, W c.w → CIn lev names c (own c.L) → CellsAre (bindC (fun y => names.lookup y) (zipN names vs) fun q_ => none) (own c.L) cells → (∀ p ∈ nw, p.1 < c.L) →
  vcS NoE glT names 60 body [] c (fun v q_ n => K v n) (alN names vs) (cells ++ nw) (fun q_ n => K .none n)) : CtG W (lev + 1) (.ref f) vs nw K :=
 ⟨fun c al0 E hW hC hkeep h0 tk st => code_in own ho hcd hb hkind hnd hs hal hown hC hkeep (fun c' cells hC e q_ Y hlt => h c' cells (e ▸ hW) hC Y hlt) h0 tk st⟩
noncomputable def kindB (names : NKs) (vs : List Value) : Bool := scopeB names && (zipN names vs).all fun y => names.lookup y.1 == some .local || names.lookup y.1 == some .cell
noncomputable def noC (names : NKs) : Bool := names.all fun y => y.2 != .cell
theorem ks {b : Bool} (h : (kindB names vs && b) = true) : ScopeN names := scopeN_of (Bool.and_eq_true_iff.mp (Bool.and_eq_true_iff.mp h).1).1
theorem kk {b : Bool} (h : (kindB names vs && b) = true) : ((zipN names vs).all fun y => names.lookup y.1 == some .local || names.lookup y.1 == some .cell) = true := (Bool.and_eq_true_iff.mp (Bool.and_eq_true_iff.mp h).1).2
theorem kn {a b : Bool} (h : (a && b) = true) : b = true := (Bool.and_eq_true_iff.mp h).2
theorem code_vcGD {W : World → Prop} (ho : ∀ P, (K39 P).lookup f = some ⟨oc, od, .func (fnOf name qual ps body (sc names mo) dV kV doc pm an cdv ct), osl⟩) (hcd : ∀ P, codeIn (K39 P) cdv qual = true)
 (hb : ∀ P s, (K39 P).In s.heap → BindsTo s (fnOf name qual ps body (sc names mo) dV kV doc pm an cdv ct) ⟨vs, []⟩ (zipN names vs)) (hk : (kindB names vs && noC names) = true) (hal : alC (zipN names vs) names = alN names vs)
 (h : ∀ c, W c.w → CIn lev names c [] → vcS NoE glT names 60 body [] c (fun v q_ n => K v n) (alN names vs) nw (fun q_ n => K .none n)) : CtG W (lev + 1) (.ref f) vs nw K := by
 have e : ∀ (l : NKs) L, (l.all fun y => y.2 != .cell) = true → cellsFrom L l [] = [] := by
  intro l
  induction l with
  | nil => intro L _; rfl
  | cons p r ih =>
   intro L hl
   obtain ⟨y, k⟩ := p
   rw [List.all_cons, Bool.and_eq_true] at hl
   cases k with
   | cell => cases (show false = true from hl.1)
   | _ => exact ih _ hl.2
 have hc := kn hk
 refine code_vcCG (fun q_ => []) ho hcd hb (kk hk) (by rw [e _ _ hc]; exact List.nodup_nil) (ks hk) hal (fun L' => e _ _ hc) fun c cells hW hC hY q_ => ?_
 have : cells = [] := by
  cases hY; rfl
 refine this ▸ ?_
 exact h c hW hC
theorem code_vcG {W : World → Prop} (ho : ∀ P, (K39 P).lookup f = some ⟨oc, od, .func (fnOf name qual ps body (sc names mo) dV kV doc pm an cdv ct), osl⟩) (hcd : ∀ P, codeIn (K39 P) cdv qual = true)
 (hb : bindArgs (fnOf name qual ps body (sc names mo) dV kV doc pm an cdv ct) ⟨vs, []⟩ = pure (zipN names vs)) (hk : (kindB names vs && noC names) = true) (hal : alC (zipN names vs) names = alN names vs)
 (h : ∀ c, W c.w → CIn lev names c [] → vcS NoE glT names 60 body [] c (fun v q_ n => K v n) (alN names vs) nw (fun q_ n => K .none n)) : CtG W (lev + 1) (.ref f) vs nw K :=
 code_vcGD ho hcd (fun q_ q_ q_ => BindsTo.of_eq hb) hk hal h
theorem code_vc (ho : ∀ P, (K39 P).lookup f = some ⟨oc, od, .func (fnOf name qual ps body (sc names mo) dV kV doc pm an cdv ct), osl⟩) (hcd : ∀ P, codeIn (K39 P) cdv qual = true)
 (hb : bindArgs (fnOf name qual ps body (sc names mo) dV kV doc pm an cdv ct) ⟨vs, []⟩ = pure (zipN names vs)) (hk : (kindB names vs && noC names) = true) (hal : alC (zipN names vs) names = alN names vs)
 (h : ∀ c, CIn lev names c [] → vcS NoE glT names 60 body [] c (fun v q_ n => K v n) (alN names vs) nw (fun q_ n => K .none n)) : Ct (lev + 1) (.ref f) vs nw K :=
 code_vcG ho hcd hb hk hal fun c q_ hC => h c hC
end
theorem vcN {c : Cx} {E : VSP} {ns : NKs} {fr : List (Str × Value)} {k : Nat} {b : Bool} {e : PySem.Expr} {al : Al} {nw : Led} {K : VLP} (h1 : c.ns = ns) (h2 : c.fr = fr) (h : vcE E glT ns k b e fr c al nw K) : vcE E glT c.ns k b e c.fr c al nw K := by rw [h1, h2]; exact h
theorem vcE_post {c : Cx} {E : VSP} {gt : List (Str × Value)} {ns : NKs} {fr : List (Str × Value)} {k : Nat} {b : Bool} {e : PySem.Expr} {al : Al} {nw : Led} {P K : VLP} (H : ∀ v n, P v n → K v n) (h : (∀ v n, P v n → K v n) → vcE E gt ns k b e fr c al nw K) : vcE E gt ns k b e fr c al nw K := h H
end Mine
namespace Mine
open LCg
section
variable {c : Cx} {E : VSP} {gt : List (Str × Value)} {al : Al} {nw : Led} {h : Heap} {tk : Nat} {p pos : Pos}
theorem call_at {a : Str} {T : String} {e : PySem.Expr} {es : List PySem.Expr} {Q : VSP} (hc : CxOk gt c) (hf : fnV gt c.ns a = some (.type T)) (hs : (e :: es).any isStar = false)
 (v : vArgs (vRaw E) (e :: es) [] c al nw fun vs n2 => ∀ h tk, c.st al n2 h → wpAny (model PG c.w) c.A (call (.type T) vs) Q E (c.at h tk)) (st : c.st al nw h) :
 wpAny (model PG c.w) c.A (eval (.Call (.Name a p) (e :: es) [] pos) c.env) Q E (c.at h tk) := by
 unfold fnV at hf
 cases hn : findN c.ns a 0 with
 | none => rw [hn] at hf; cases hf
 | some z =>
  rw [hn] at hf
  obtain ⟨i, k⟩ := z
  cases k with
  | globalImplicit =>
   refine Call_ (Pu.ev (hc.glo st hn hf) ?_)
   rw [List.any_cons, Bool.or_eq_false_iff] at hs
   have hA := args_snd (pos := pos) (E := E) (es := e :: es) (by rw [List.any_cons, hs.1, hs.2]; rfl) (fun q_ q_ q_ q_ v => v) al nw _ v h tk st
   exact PyProof.Rows.callWith_type1 (wpAny_mono hA (fun vs s' y1 => by obtain ⟨h', tk', nw', rfl, st', _, k⟩ := y1; exact k h' tk' st') fun q_ q_ e => e) (star_one hs.1) (star_no hs.2)
  | _ => cases hf
end
section
variable {prog : Program} {w : World} {A : Around} {E : VSP} {s : Shared} {h₀ : Heap} {L : Addr} {env : Env} {body : List Stmt} {Q : Flow → Shared → Prop} {names : NKs} {al : List (Str × Option Value)} {mus : List Addr} {mu news : Led}
theorem fsrc_range {x : Str} {px : Pos} {r : Addr} {a b d : Int} {t u v : Tok} {n : Nat} (J : Nat → List (Str × Option Value) → Led → Led → Prop)
 (hr : IsRange s.heap r a b d t u v) (hsm : Builtin.Range.small a b d = true) (hn : Builtin.Range.rangeSize a b d = ((n : Nat) : Int))
 (hh : A.handled = none) (hL : env.locals = L) (F : Fr h₀ L s.heap (frm al)) (N : News h₀ L s.heap (mu ++ news)) (mo : ∀ p ∈ news, p.1 ∉ mus) (hmu : mu.map (·.1) = mus) (ha : al.map (·.1) = names.map (·.1)) (h0 : J 0 al mu [])
 (step : ∀ s₂, (∃ g, s₂ = { s with heap := g }) → FTurn prog w A h₀ L env (.Name x px) body names mus news (fun i v q_ => ∃ t, v = .int (a + i * d) t) J n s₂ Q E)
 (fin : ∀ s₂, (∃ g, s₂ = { s with heap := g }) → ∀ h' tk' al' mu' tl, Fr h₀ L h' (frm al') → al'.map (·.1) = names.map (·.1) → News h₀ L h' (mu' ++ (tl ++ news)) → Abv news tl → mu'.map (·.1) = mus → J n al' mu' tl → Q .next { s₂ with heap := h', toks := tk' }) :
 wpAny (model prog w) A (pyIter (.ref r)) (fun it s₂ => TurnsAt prog w A h₀ env (.Name x px) body Q E it s₂) E s := by
 refine wpAny_pyIter_range hr hsm ?_
 have up : ∀ z o, s.heap.get? z = some o → (s.heap.push { cls := .type "range_iterator", data := .fields #[rawInt a, rawInt (Builtin.Range.rangeSize a b d), rawInt d] }).get? z = some o := fun z o e => Heap.get?_push_of_some _ e
 have W := Walks.range (prog := prog) (w := w) hh s.heap.objs.size a d n
 have nlt : ∀ p ∈ mu ++ news, p.1 < s.heap.objs.size := fun p hp => Heap.lt_size (N p hp).1
 have mu_of : ∀ z ∈ mus, ∃ p ∈ mu, p.1 = z := fun z hz => by rw [← hmu] at hz; exact List.mem_map.mp hz
 refine for_core (KTurns.ofWalks W (target := .Name x px) (fun i v s Q' E' st hQ => wpAny_pure hQ)) hL ?_ ?_ ?_ ?_ ?_ mo hmu ?_ (F.keeps up) (N.grown up) ha h0 (step _ ⟨_, rfl⟩) (fin _ ⟨_, rfl⟩)
 · intro hm'; exact Nat.ne_of_lt F.ns.lt (jO hm')
 · intro b hb; rw [jO hb]; exact next_is_new F
 · intro i h st b hb; rw [jO hb]; exact ⟨_, st⟩
 · intro b hb hx
   rw [jO hb] at hx
   obtain ⟨p, hp, e⟩ := mu_of _ hx
   exact Nat.ne_of_lt (nlt p (jL _ hp)) e
 · intro p hp hx; exact Nat.ne_of_lt (nlt p hp) (jO hx)
 · show IsRangeIter _ _ _ _ _
   refine hn ▸ ?_
   simpa using Heap.get?_push_size _ rfl
end
theorem vst0 {c : Cx} {al : Al} {nw : Led} {Kn : ALP} (h : vSts [] c [] al nw Kn) : Kn al nw := h
noncomputable abbrev rngO (a b d : Int) (t u v : Tok) : Obj := { cls := .type "range", data := .fields #[.int a t, .int b u, .int d v] }
noncomputable abbrev LJ := Nat → Al → Led → Led → Prop
inductive TEnd (mus : List Addr) (mu led : Led) (J : LJ) (i : Nat) (tl : Led) (al' : Al) (n' : Led) : Prop
 | pk (mu' tl' : _) : (∀ p ∈ mu' ++ (tl' ++ led), p ∈ n') → Abv (mu ++ led) tl' → mu'.map (·.1) = mus → J (i + 1) al' mu' (tl' ++ tl) → TEnd mus mu led J i tl al' n'
noncomputable def Turn (E : VSP) (names : NKs) (body : List Stmt) (is : List Slot1) (c : Cx) (KR : VAP) (n : Nat) (vals : Nat → List Value → Prop) (mus : List Addr) (news : Led) (J : LJ) : Prop :=
 ∀ i vs al mu tl led, i < n → vals i vs → J i al mu tl → Abv news tl → mu.map (·.1) = mus → (∀ p ∈ tl ++ news, p ∈ led) → (∀ p ∈ led, p.1 ∉ mus) →
  vSts is c vs al (mu ++ led) fun al1 n1 => vcS E glT names 60 body [] c KR al1 n1 (TEnd mus mu led J i tl)
structure Loop (E : VSP) (names : NKs) (body : List Stmt) (is : List Slot1) (c : Cx) (KR : VAP) (n : Nat) (vals : Nat → List Value → Prop) (mu news : Led) (al : Al) (Kn : ALP) (J : LJ) : Prop where
 mo : ∀ p ∈ news, p.1 ∉ mu.map (·.1)
 h0 : J 0 al mu []
 turn : Turn E names body is c KR n vals (mu.map (·.1)) news J
 fin : ∀ al' mu' tl, Abv news tl → mu'.map (·.1) = mu.map (·.1) → J n al' mu' tl → Kn al' (mu' ++ (tl ++ news))
section
variable {lev : Nat} {c : Cx} {names : NKs} {cl : SAs} {KR : VAP} {E : VSP} {al : Al} {nw mu news : Led} {Kn : ALP} {body : List Stmt} {n : Nat} {ix : Slot1} {J : LJ} {mus : List Addr} {x y : Str} {px py tp p p2 pos : Pos} {iter : PySem.Expr} {s : Shared}
theorem fend {led tl : Led} {i : Nat} {f : Flow} {h : Heap} {tk : Nat} (hC : CIn lev names c cl) (hs : ∃ g, s = { c.at h tk with heap := g }) (s₂ : Shared)
 (h' : EndS c KR (TEnd mus mu led J i tl) f s₂) : FEnd c.G c.L names mus J s (EndS c KR Kn) mu led tl i f s₂ := by
 obtain ⟨g, rfl⟩ := hs
 obtain ⟨h2, tk2, al2, n2, rfl, st2, k⟩ := h'
 cases f with
 | ret v => exact ⟨h2, tk2, al2, n2, rfl, st2, k⟩
 | brk => exact k.elim
 | cont => exact k.elim
 | next =>
  obtain ⟨mu', tl', s, a, b, d⟩ := k
  exact ⟨h2, tk2, al2, mu', tl', rfl, hC.fm ▸ st2.1, hC.ns ▸ st2.2.2.1, fun p hp => st2.2.1 p (s p hp), a, b, d⟩
theorem CIn.stL {h : Heap} (hC : CIn lev names c cl) (F : Fr c.G c.L h (frm al)) (ha : al.map (·.1) = names.map (·.1)) (N : News c.G c.L h nw) : c.st al nw h := ⟨hC.fm ▸ F, N, hC.ns ▸ ha, fun p hp => by rw [hC.kp] at hp; cases hp⟩
theorem CIn.run (hC : CIn lev names c cl) (v : vcS E glT names 60 body [] c KR al nw Kn) : RawC E c KR (execs body c.env) al nw Kn :=
 vcS_snd hC.ok 60 body al nw Kn (by rw [hC.ns, hC.fr]; exact v)
theorem fturn1 {P : Nat → Value → Heap → Prop} {vals : Nat → List Value → Prop} {h : Heap} {tk : Nat} (hC : CIn lev names c cl) (hO : PassesOwn (model PG c.w) c.A c.env E) (hx : slotOf names x = some ix) (hP : ∀ i v h, P i v h → vals i [v])
 (step : Turn E names body [ix] c KR n vals mus news J) (hs : ∃ g, s = { c.at h tk with heap := g }) : FTurn PG c.w c.A c.G c.L c.env (.Name x px) body names mus news P J n s (EndS c KR Kn) E := by
 intro i v al mu tl led h₁ tk₁ hi hv hJ ab hm sub off F ha N
 have hs' := hs
 obtain ⟨g, rfl⟩ := hs
 refine PyProof.Rows.assign_Name (st_snd (tk := tk₁) hC.ok (hC.ns.symm ▸ hx) (hC.stL F ha N) (step i [v] al mu tl led hi (hP _ _ _ hv) hJ ab hm sub off) fun al' n' h' tk' st' k' => ?_)
 have k2 := vst0 k'
 exact wpAny_mono (hC.run k2 h' tk' st') (fun f s₂ k => fend hC hs' s₂ k) fun q_ q_ e => e
theorem fturn2 {P : Nat → Value → Heap → Prop} {vals : Nat → List Value → Prop} {h : Heap} {tk k9 : Nat} {ts : List PySem.Expr} {is : List Slot1} (hC : CIn lev names c cl) (hO : PassesOwn (model PG c.w) c.A c.env E) (hx : tgtS names ts = some is)
 (hP : ∀ i v h, P i v h → E2_4 (fun T vs => v = .ref T) (fun T vs => IsTup h T vs.toArray) (fun T vs => vs.length = is.length) (fun T vs => vals i vs))
 (step : Turn E names body is c KR n vals mus news J) (hs : ∃ g, s = { c.at h tk with heap := g }) : FTurn PG c.w c.A c.G c.L c.env (.Tuple ts k9 tp) body names mus news P J n s (EndS c KR Kn) E := by
 intro i v al mu tl led h₁ tk₁ hi hv hJ ab hm sub off F ha N
 have hs' := hs
 obtain ⟨g, rfl⟩ := hs
 obtain ⟨T, vs, rfl, hT, hl, hV⟩ := hP _ _ _ hv
 have L := tgtS_len (env := c.env) hx
 refine assign_Tuple_tuple hC.ok.hn hT ?_ L.2 fun h₂ he => ?_
 · rw [L.1, ← hl]; simp
 · have st := hC.stL F ha N
   refine sts_snd (tk := tk₁) hC.ok (hC.ns.symm ▸ hx) hl ⟨st.1.extBut he (Nat.le_refl _), st.2.1.extBut he (Nat.le_refl _), st.2.2⟩ (step i vs al mu tl led hi hV hJ ab hm sub off) fun al' n' h' tk' st' k' => ?_
   exact wpAny_mono (hC.run k' h' tk' st') (fun f s₂ k => fend hC hs' s₂ k) fun q_ q_ e => e
theorem CIn.ev (hC : CIn lev names c cl) {e : PySem.Expr} {K : VLP} (v : vcE E glT names 60 false e [] c al nw K) : RawS E c (eval e c.env) al nw K :=
 (vcE_snd hC.ok.toCxOk 60).1 e al nw K (by rw [hC.ns, hC.fr]; exact v)
inductive ListL (E : VSP) (names : NKs) (body : List Stmt) (is : List Slot1) (c : Cx) (KR : VAP) (al : Al) (Kn : ALP) (v : Value) (n1 : Led) : Prop
 | pk (ax : Addr) (its : Array Value) (k : Nat) (mu news : Led) (J : LJ) : v = .ref ax → n1 = mu ++ news → (ax, listOf its k) ∈ news → Loop E names body is c KR its.size (fun i vs => E1_2 (fun v => its[i]? = some v) (fun v => vs = [v])) mu news al Kn J → ListL E names body is c KR al Kn v n1
theorem for_list (hC : CIn lev names c cl) (hO : PassesOwn (model PG c.w) c.A c.env E) (hx : slotOf names x = some ix) (hs : ∀ x, foldedSetIterable iter c.env x = pure x)
 (h : vcE E glT names 60 false iter [] c al nw fun v n1 => ListL E names body [ix] c KR al Kn v n1) :
 RawC E c KR (exec (.For (.Name x px) iter body [] pos) c.env) al nw Kn := by
 intro h1 tk1 st1
 refine For_turns (s := c.at h1 tk1) (hC.lo ▸ st1.1) (RawS.seq (hC.ev h) (fun v n1 h tk k st => ?_) h1 tk1 st1) hs hO
 obtain ⟨ax, its, k, mu, news, J, rfl, rfl, hm, Z⟩ := k
 exact fsrc_list (s := c.at h tk) J hC.hn hC.lo (hC.fm ▸ st.1) st.2.1 hm Z.mo rfl (hC.ns ▸ st.2.2.1) Z.h0 (fun s₂ hs => fturn1 hC hO hx (fun i v q_ e => ⟨v, e, rfl⟩) Z.turn hs)
  fun s₂ hs h' tk' al' mu' tl F ha N ab hmu hJ => by
   obtain ⟨g, rfl⟩ := hs
   exact EndS.next (hC.stL F ha N) (Z.fin al' mu' tl ab hmu hJ)
inductive RangeL (E : VSP) (names : NKs) (body : List Stmt) (is : List Slot1) (c : Cx) (KR : VAP) (al : Al) (Kn : ALP) (v : Value) (n1 : Led) : Prop
 | pk (r : Addr) (a b : Int) (t u w : Tok) (n : Nat) (mu news : Led) (J : LJ) : v = .ref r → n1 = mu ++ news → (r, rngO a b 1 t u w) ∈ news → a + n = b → (-1000 ≤ a ∧ b ≤ 1000) → Loop E names body is c KR n (fun i vs => ∃ t, vs = [.int (a + i) t]) mu news al Kn J → RangeL E names body is c KR al Kn v n1
theorem for_range (hC : CIn lev names c cl) (hO : PassesOwn (model PG c.w) c.A c.env E) (hx : slotOf names x = some ix) (hs : ∀ x, foldedSetIterable iter c.env x = pure x)
 (h : vcE E glT names 60 false iter [] c al nw fun v n1 => RangeL E names body [ix] c KR al Kn v n1) :
 RawC E c KR (exec (.For (.Name x px) iter body [] pos) c.env) al nw Kn := by
 intro h1 tk1 st1
 refine For_turns (s := c.at h1 tk1) (hC.lo ▸ st1.1) (RawS.seq (hC.ev h) (fun v n1 h tk k st => ?_) h1 tk1 st1) hs hO
 obtain ⟨r, a, b, t, u, w, n, mu, news, J, rfl, rfl, hm, hab, hsz, Z⟩ := k
 refine fsrc_range (s := c.at h tk) (n := n) J (st.2.1 _ (jR _ hm)).1 (rngS hab hsz).1 (rngS hab hsz).2 hC.hn hC.lo (hC.fm ▸ st.1) st.2.1 Z.mo rfl (hC.ns ▸ st.2.2.1) Z.h0 (fun s₂ hs => fturn1 hC hO hx (fun i v q_ e => by obtain ⟨t, rfl⟩ := e; exact ⟨t, by rw [Int.mul_one]⟩) Z.turn hs)
  fun s₂ hs h' tk' al' mu' tl F ha N ab hmu hJ => by
   obtain ⟨g, rfl⟩ := hs
   exact EndS.next (hC.stL F ha N) (Z.fin al' mu' tl ab hmu hJ)
inductive EnumL (E : VSP) (names : NKs) (body : List Stmt) (is : List Slot1) (c : Cx) (KR : VAP) (al : Al) (Kn : ALP) (v : Value) (n1 : Led) : Prop
 | pk (ax : Addr) (its : Array Value) (k : Nat) (mu news : Led) (J : LJ) : v = .ref ax → n1 = mu ++ news → (ax, listOf its k) ∈ news → Loop E names body is c KR its.size (fun i vs => E2_2 (fun t v => its[i]? = some v) (fun t v => vs = [.int i t, v])) mu news al Kn J → EnumL E names body is c KR al Kn v n1
theorem for_enum {fn : Str} {a : PySem.Expr} {ts : List PySem.Expr} {k9 : Nat} {is : List Slot1} (hC : CIn lev names c cl) (hO : PassesOwn (model PG c.w) c.A c.env E) (hx : tgtS names ts = some is) (h2 : is.length = 2) (hf : fnV glT names fn = some (.type "enumerate")) (hst : isStar a = false)
 (h : vcE E glT names 60 false a [] c al nw fun v n1 => EnumL E names body is c KR al Kn v n1) :
 RawC E c KR (exec (.For (.Tuple ts k9 tp) (.Call (.Name fn p) [a] [] p2) body [] pos) c.env) al nw Kn := by
 intro h1 tk1 st1
 refine For_turns (s := c.at h1 tk1) (hC.lo ▸ st1.1) (call_at hC.ok.toCxOk (hC.ns.symm ▸ hf) (by rw [List.any_cons, hst]; rfl) (RawS.mono (hC.ev h) fun v n1 hv => ?_) st1) (fun q_ => rfl) hO
 obtain ⟨ax, its, k, mu, news, J, rfl, rfl, hm, Z⟩ := hv
 exact fun h tk st => fsrc_enum (s := c.at h tk) J hC.hn hC.lo (hC.fm ▸ st.1) st.2.1 hm Z.mo rfl (hC.ns ▸ st.2.2.1) Z.h0
  (fun s₂ hs => fturn2 hC hO hx (fun i v q_ ⟨T, t, x, e1, e2, e3⟩ => ⟨T, [.int i t, x], e1, e3, h2.symm, t, x, e2, rfl⟩) Z.turn hs)
  fun s₂ hs h' tk' al' mu' tl F ha N ab hmu hJ => by
   obtain ⟨g, rfl⟩ := hs
   exact EndS.next (hC.stL F ha N) (Z.fin al' mu' tl ab hmu hJ)
end
end Mine
namespace Mine
open LCg
noncomputable def nsC (l : NKs) : NKs := l.map fun y => (y.1, if y.2 == .globalImplicit then .globalImplicit else .free)
noncomputable def alE (l : NKs) : Al := l.map fun y => (y.1, none)
noncomputable abbrev cxC (scope : Scope) (c : Cx) (m : SoV) (own cl : SAs) (C : Addr) (fr : List (Str × Value)) (keep : Led) : Cx :=
 { w := c.w, A := c.A, env := compEnvC scope (own ++ cl) C c.env, G := c.G, L := c.L, fm := fun q_ => m, ns := nsC scope.names, cl := [], fr := fr, keep := keep, gs := c.gs, d := c.d, os := c.os }
theorem lookup_nsC {x : Str} {k : NameKind} {l : NKs} (h : (nsC l).lookup x = some k) : E1_3 (fun q => l.lookup x = some q) (fun q => (x, q) ∈ l) (fun q => k = if q == .globalImplicit then .globalImplicit else .free) := by
 induction l with
 | nil => cases h
 | cons p r ih =>
  replace h : (((p.1, if p.2 == .globalImplicit then NameKind.globalImplicit else .free) :: nsC r).lookup x) = some k := h
  rw [List.lookup_cons] at h ⊢
  cases e : x == p.1 with
  | true => rw [e] at h; cases h; rw [eq_of_beq e]; exact ⟨p.2, rfl, .head _, rfl⟩
  | false =>
   rw [e] at h
   obtain ⟨q', h1, h2, h3⟩ := ih h
   exact ⟨q', h1, .tail _ h2, h3⟩
theorem relabel_free {env : Env} {x : Str} {names : NKs} (h : names.lookup x = some .free) :
 (names.map fun (n, k) => if (k == NameKind.free && env.scope.kind == .function && env.kindOf n == some .cell) then (n, NameKind.cell) else (n, k)).lookup x = some .cell ∨ (names.map fun (n, k) => if (k == NameKind.free && env.scope.kind == .function && env.kindOf n == some .cell) then (n, NameKind.cell) else (n, k)).lookup x = some .free := by
 rw [look_map (fun p => ite_fst) h]
 show some (if (NameKind.free == NameKind.free && env.scope.kind == .function && env.kindOf x == some .cell) = true then (x, NameKind.cell) else (x, NameKind.free)).2 = _ ∨ some (if (NameKind.free == NameKind.free && env.scope.kind == .function && env.kindOf x == some .cell) = true then (x, NameKind.cell) else (x, NameKind.free)).2 = _
 cases (NameKind.free == NameKind.free && env.scope.kind == .function && env.kindOf x == some .cell) with
 | true => exact .inl rfl
 | false => exact .inr rfl
noncomputable def FrOk (names : NKs) (cells : SAs) (C : Addr) (keep : Led) (x : Str) (v : Value) : Prop :=
 (names.lookup x = some .local ∧ E2_3 (fun oC m₂ => (C, oC) ∈ keep) (fun oC m₂ => NsObj oC m₂) (fun oC m₂ => m₂ x = some v)) ∨ ((names.lookup x = some .cell ∨ names.lookup x = some .free) ∧ E2_3 (fun a o => cells.lookup x = some a) (fun a o => (a, o) ∈ keep) (fun a o => o.data = .cell (some v)))
noncomputable def noDb (l : NKs) : Bool := l.all fun y => (y.1 == ("__debug__" : Str)) == false && (y.1 == ("__classdict__" : Str)) == false
theorem noDb_at {l : NKs} (h : noDb l = true) {y : Str × NameKind} (hy : y ∈ l) : (y.1 == ("__debug__" : Str)) = false ∧ (y.1 == ("__classdict__" : Str)) = false := by
 have := List.all_eq_true.mp h y hy
 rw [Bool.and_eq_true] at this
 exact ⟨eq_of_beq this.1, eq_of_beq this.2⟩
section
variable {lev : Nat} {c : Cx} {m : SoV} {scope : Scope} {own cl : SAs} {C : Addr} {fr : List (Str × Value)} {keep : Led}
theorem cxC_ok (hC : CAny lev c) (hk : scope.kind = .function) (hd : noDb scope.names = true) (hfr : ∀ x v, fr.lookup x = some v → FrOk scope.names (own ++ cl) C keep x v) : CxOk glT (cxC scope c m own cl C fr keep) where
 X := hC.top.X
 kp := glT_kp
 loc := fun st hf hv => by
  obtain ⟨q, h1, h2, h3⟩ := lookup_nsC (findN_lookup hf)
  cases q <;> cases h3
 cel := fun st hf hc hm hd => nomatch hc
 fre := fun {al nw h i x v pos k} st hf hv => by
  obtain ⟨q, h1, h2, h3⟩ := lookup_nsC (findN_lookup hf)
  have hdb := noDb_at hd h2
  rcases hfr _ _ hv with ⟨hl, oC, m₂, h4, h5, h6⟩ | ⟨hl, a, o, h4, h5, h6⟩
  · exact ⟨fun g d os Q E hq => LCgL.ld_own st.2.1 (st.2.2.2 _ h4) h5 h6 hq hk (lookup_relabel_local hl) hdb.1⟩
  · rcases hl with hl | hl
    · exact ⟨fun g d os Q E hq => lcf_cell st.2.1 h4 (st.2.2.2 _ h5) h6 hq hk (lookup_relabel (by decide) hl) hdb.1⟩
    · rcases relabel_free (env := c.env) hl with e | e
      · exact ⟨fun g d os Q E hq => lcf_cell st.2.1 h4 (st.2.2.2 _ h5) h6 hq hk e hdb.1⟩
      · exact ⟨fun g d os Q E hq => lcf_free st.2.1 h4 (st.2.2.2 _ h5) h6 hq hk e hdb.1 hdb.2⟩
 glo := fun {al nw h i x v pos k} st hf hg => by
  obtain ⟨q, h1, h2, h3⟩ := lookup_nsC (findN_lookup hf)
  have hdb := noDb_at hd h2
  have hl : scope.names.lookup x = some .globalImplicit := by
   refine h1 ▸ ?_
   cases q <;> first | rfl | cases h3
  obtain ⟨loose, mean, mg, mb, q_, q_, q_, q_, q_, q_, q_, q_, q_, q_, q_, q_, q_, T, q_⟩ := hC.top.o
  rcases glT_ok (P := c.w.params) hg with h | ⟨ha, hb, hn⟩
  · exact ⟨fun g d os Q E hq => LCgL.ld_global st.1 hC.top.X T h hq hC.gl hk (lookup_relabel (by decide) hl) hdb.1⟩
  · exact ⟨fun g d os Q E hq => LCgL.ld_built st.1 hC.top.X T ha hb hn hq hC.gl hC.bu hk (lookup_relabel (by decide) hl) hdb.1⟩
 hn := hC.hn
theorem cxC_any (hC : CAny lev c) (h : CxOk glT (cxC scope c m own cl C fr keep)) : CAny lev (cxC scope c m own cl C fr keep) := ⟨⟨hC.top.o, hC.top.X⟩, hC.gl, hC.bu, hC.hn, h⟩
end
noncomputable def TgIs : List (Str × Bool) → List Value → (SoV) → (SoV) → Prop
 | [], [], _, _ => True
 | (x, b) :: r, v :: vs, m, cm => (if b then cm x else m x) = some v ∧ TgIs r vs m cm
 | _, _, _, _ => False
noncomputable def tgFr : List (Str × Bool) → List Value → List (Str × Value)
 | (x, _) :: r, v :: vs => (x, v) :: tgFr r vs
 | _, _ => []
noncomputable def CellsIn : List (Str × Addr × Value) → Led → Prop
 | [], _ => True
 | (_, a, v) :: r, n => (E1_2 (fun o => (a, o) ∈ n) (fun o => o.data = .cell (some v))) ∧ CellsIn r n
noncomputable def clz (fz : List (Str × Addr × Value)) : SAs := fz.map fun t => (t.1, t.2.1)
noncomputable def frz (fz : List (Str × Addr × Value)) : List (Str × Value) := fz.map fun t => (t.1, t.2.2)
theorem CellsIn.mono {n n' : Led} (hs : ∀ p ∈ n, p ∈ n') {fz : List (Str × Addr × Value)} (h : CellsIn fz n) : CellsIn fz n' := by
 induction fz with
 | nil => trivial
 | cons t r ih =>
  obtain ⟨⟨o, h1, h2⟩, hr⟩ := h
  exact ⟨⟨o, hs _ h1, h2⟩, ih hr⟩
theorem CellsIn.at {x : Str} {v : Value} {n : Led} {fz : List (Str × Addr × Value)} (h : CellsIn fz n) (k : (frz fz).lookup x = some v) : E2_3 (fun a o => (clz fz).lookup x = some a) (fun a o => (a, o) ∈ n) (fun a o => o.data = .cell (some v)) := by
 induction fz with
 | nil => cases k
 | cons t r ih =>
  obtain ⟨⟨o, h1, h2⟩, hr⟩ := h
  replace k : (((t.1, t.2.2) :: frz r).lookup x) = some v := k
  show E2_3 (fun a' o => (((t.1, t.2.1) :: clz r).lookup x) = some a') _ _
  rw [List.lookup_cons] at k ⊢
  cases e : x == t.1 with
  | true => rw [e] at k; cases k; exact ⟨_, o, rfl, h1, h2⟩
  | false => rw [e] at k; exact ih hr k
theorem cellsAre_at {cm : SoV} {x : Str} {a : Addr} {own : SAs} {os : Led} (h : CellsAre cm own os) (e : own.lookup x = some a) : E1_2 (fun o => (a, o) ∈ os) (fun o => o.data = .cell (cm x)) := by
 induction h with
 | nil => cases e
 | @cons n c o _ _ h _ ih =>
  rw [List.lookup_cons] at e
  cases q : x == n with
  | true => rw [q] at e; cases e; exact ⟨o, .head _, by rw [eq_of_beq q]; exact h⟩
  | false =>
   rw [q] at e
   obtain ⟨o', h1, h2⟩ := ih e
   exact ⟨o', .tail _ h1, h2⟩
noncomputable def tgB (names : NKs) (own : SAs) (tg : List (Str × Bool)) (fs : List Str) : Bool :=
 noDb names && (tg.all fun t => if t.2 then names.lookup t.1 == some .cell && (own.lookup t.1).isSome else names.lookup t.1 == some .local) && (fs.all fun x => names.lookup x == some .free && (own.lookup x).isNone)
theorem tgFr_ok {names : NKs} {own cl : SAs} {C : Addr} {keep os : Led} {oC : Obj} {m₂ cm₂ : SoV} {x : Str} {v : Value} (hC : (C, oC) ∈ keep) (hO : NsObj oC m₂) (hcs : CellsAre cm₂ own os) (hos : ∀ p ∈ os, p ∈ keep) :
 ∀ {tg vs}, (tg.all fun t : Str × Bool => if t.2 then names.lookup t.1 == some .cell && (own.lookup t.1).isSome else names.lookup t.1 == some .local) = true → TgIs tg vs m₂ cm₂ → (tgFr tg vs).lookup x = some v → FrOk names (own ++ cl) C keep x v
 | [], [], _, _, h => nomatch h
 | (y, b) :: r, u :: vs, hb, ht, h => by
  rw [List.all_cons, Bool.and_eq_true] at hb
  have h : (((y, u) :: tgFr r vs).lookup x) = some v := h
  rw [List.lookup_cons] at h
  cases q : x == y with
  | false => rw [q] at h; exact tgFr_ok hC hO hcs hos hb.2 ht.2 h
  | true =>
   rw [q] at h; cases h
   refine (eq_of_beq q) ▸ ?_
   cases b with
   | false => exact .inl ⟨eq_of_beq hb.1, oC, m₂, hC, hO, ht.1⟩
   | true =>
    have h1 := hb.1
    rw [if_pos rfl, Bool.and_eq_true] at h1
    refine .inr ⟨.inl (eq_of_beq h1.1), ?_⟩
    cases ha : own.lookup y with
    | none => rw [ha] at h1; cases h1.2
    | some a =>
     obtain ⟨o, h2, h3⟩ := cellsAre_at hcs ha
     have h4 : cm₂ y = some v := ht.1
     exact ⟨a, o, by rw [List.lookup_append, ha]; rfl, hos _ h2, by rw [h3, h4]⟩
 | [], _ :: _, _, ht, _ => False.elim ht
 | _ :: _, [], _, ht, _ => False.elim ht
theorem lookup_app {β : Type} {x : Str} {v : β} {a b : List (Str × β)} (h : (a ++ b).lookup x = some v) : a.lookup x = some v ∨ b.lookup x = some v := by
 rw [List.lookup_append] at h
 cases q : a.lookup x with
 | some u => rw [q] at h; exact .inl h
 | none => rw [q] at h; exact .inr h
theorem frz_mem {x : Str} {v : Value} {fz : List (Str × Addr × Value)} (h : (frz fz).lookup x = some v) : x ∈ fz.map (·.1) := by
 induction fz with
 | nil => cases h
 | cons t r ih =>
  replace h : (((t.1, t.2.2) :: frz r).lookup x) = some v := h
  rw [List.lookup_cons] at h
  cases q : x == t.1 with
  | true => rw [eq_of_beq q]; exact .head _
  | false => rw [q] at h; exact .tail _ (ih h)
noncomputable abbrev CJ := Nat → List Value → Led → Led → Prop
inductive CEnd (mus : List Addr) (mu led : Led) (J : CJ) (i : Nat) (ys : List Value) (tl : Led) (y : Value) (n' : Led) : Prop
 | pk (mu' tl' : _) : n' = mu' ++ (tl' ++ led) → Abv (mu ++ led) tl' → mu'.map (·.1) = mus → J (i + 1) (ys ++ [y]) mu' (tl' ++ tl) → CEnd mus mu led J i ys tl y n'
noncomputable def CTurn (lev : Nat) (scope : Scope) (own : Addr → SAs) (tg : List (Str × Bool)) (elt : PySem.Expr) (c : Cx) (m : SoV) (fz : List (Str × Addr × Value)) (n : Nat) (vals : Nat → List Value → Prop) (mus : List Addr) (news : Led) (J : CJ) : Prop :=
 ∀ i vs ys mu tl led C keep, i < n → vals i vs → J i ys mu tl → Abv news tl → mu.map (·.1) = mus → (∀ p ∈ tl ++ news, p ∈ led) → (∀ p ∈ led, p.1 ∉ mus) → (∀ p ∈ keep, p ∈ led) → (∀ x a v, (own C ++ clz fz).lookup x = some a → (tgFr tg vs ++ frz fz).lookup x = some v → scope.names.lookup x ≠ some .local → E1_2 (fun o => (a, o) ∈ led) (fun o => o.data = .cell (some v))) →
  CAny lev (cxC scope c m (own C) (clz fz) C (tgFr tg vs ++ frz fz) keep) →
  vcE NoE glT (nsC scope.names) 60 false elt (tgFr tg vs ++ frz fz) (cxC scope c m (own C) (clz fz) C (tgFr tg vs ++ frz fz) keep) (alE scope.names) (mu ++ led)
   (CEnd mus mu led J i ys tl)
section
variable {lev : Nat} {c : Cx} {m : SoV} {scope : Scope} {own : Addr → SAs} {fz : List (Str × Addr × Value)} {tg : List (Str × Bool)} {elt iter : PySem.Expr} {n : Nat} {vals : Nat → List Value → Prop} {mus : List Addr} {news mu : Led} {J : CJ} {s : Shared}
theorem lc_turn {P : Nat → Value → Heap → Prop} {asg : Value → Heap → (SoV) → (SoV) → Prop} {h : Heap} {tk : Nat} (hC : CAny lev c) (hk : scope.kind = .function) (hB : ∀ C, tgB scope.names (own C) tg (fz.map (·.1)) = true) (hz : CellsIn fz news)
 (hv : ∀ i v g m₂ cm₂, P i v g → asg v g m₂ cm₂ → E1_2 (fun vs => vals i vs) (fun vs => TgIs tg vs m₂ cm₂)) (step : CTurn lev scope own tg elt c m fz n vals mus news J) (hs : ∃ g, s = { c.at h tk with heap := g }) :
 LcTurn PG c.w c.A c.G c.L m c.env elt scope (clz fz) own mus news P asg J n s := by
 intro i v ys mu tl led C oC os m₂ cm₂ g h₁ tk₁ E' hi hP ha hg hJ ab hm sub off hCm hO hcs hos F N
 obtain ⟨vs, hV, hT⟩ := hv _ _ _ _ _ hP ha
 have hb := hB C
 rw [tgB, Bool.and_eq_true, Bool.and_eq_true] at hb
 have hzl : CellsIn fz led := hz.mono fun p hp => sub p (jR _ hp)
 have hfr : ∀ x v, (tgFr tg vs ++ frz fz).lookup x = some v → FrOk scope.names (own C ++ clz fz) C led x v := fun x v hx => by
  rcases lookup_app hx with hx | hx
  · exact tgFr_ok hCm hO hcs hos hb.1.2 hT hx
  · have h2 := List.all_eq_true.mp hb.2 x (frz_mem hx)
    rw [Bool.and_eq_true] at h2
    obtain ⟨a, o, h3, h4, h5⟩ := hzl.at hx
    refine .inr ⟨.inr (eq_of_beq h2.1), a, o, ?_, h4, h5⟩
    rw [List.lookup_append, Option.isNone_iff_eq_none.mp h2.2]; exact h3
 have ok := cxC_ok (m := m) (keep := led) hC hk hb.1.1 hfr
 have v := step i vs ys mu tl led C led hi hV hJ ab hm sub off (fun q_ hp => hp) (fun x a v hx hy hl => by
  rcases hfr x v hy with ⟨h1, q_⟩ | ⟨q_, a', o, h1, h2, h3⟩
  · exact absurd h1 hl
  · rw [hx] at h1; cases h1; exact ⟨o, h2, h3⟩) (cxC_any hC ok)
 have al0 : (alE scope.names).map (·.1) = (nsC scope.names).map (·.1) := by unfold alE nsC; rw [List.map_map, List.map_map]; rfl
 obtain ⟨g', rfl⟩ := hs
 refine wpAny_mono ((vcE_snd ok 60).1 elt _ _ _ v h₁ tk₁ ⟨F, N, al0, fun p hp => jR _ hp⟩) (fun y s₂ k => ?_) fun q_ q_ x => x.elim
 obtain ⟨h', tk', nw', rfl, st', mu', tl', rfl, ab', hm', hJ'⟩ := k
 exact ⟨h', tk', mu', tl', rfl, st'.1, st'.2.1, ab', hm', hJ'⟩
end
structure CompV (lev : Nat) (scope : Scope) (own : Addr → SAs) (tg : List (Str × Bool)) (elt : PySem.Expr) (c : Cx) (al : Al) (fz : List (Str × Addr × Value)) (n : Nat) (vals : Nat → List Value → Prop) (mu news : Led) (K : VLP) (J : CJ) : Prop where
 sz : n ≤ 1000
 mo : ∀ p ∈ news, p.1 ∉ mu.map (·.1)
 kp : ∀ p ∈ c.keep, p ∈ news
 cells : CellsIn fz news
 h0 : J 0 [] mu []
 turn : CTurn lev scope own tg elt c (c.fm al) fz n vals (mu.map (·.1)) news J
 fin : ∀ D ys mu' tl, Abv news ((D, lst ys) :: tl) → (∀ p ∈ (D, lst ys) :: (tl ++ news), p.1 ∉ mu.map (·.1)) → (∀ p ∈ tl ++ news, p.1 ≠ D) → mu'.map (·.1) = mu.map (·.1) → J n ys mu' tl → K (.ref D) (mu' ++ ((D, lst ys) :: (tl ++ news)))
structure CompS (scope : Scope) (own : Addr → SAs) (tg : List (Str × Bool)) (iter : PySem.Expr) (c : Cx) (fz : List (Str × Addr × Value)) : Prop where
 clos : closureFor scope c.env = pure (clz fz)
 kind : scope.kind = .function
 names : ∀ y ∈ scope.names, y.2 = .local → scope.names.lookup y.1 = some .local
 ow : ∀ C, cellsFrom (C + 1) scope.names [] = own C
 oo : ∀ C, OwnOk C (own C)
 chk : ∀ C, tgB scope.names (own C) tg (fz.map (·.1)) = true
 set : ∀ x, foldedSetIterable iter c.env x = pure x
section
variable {lev : Nat} {c : Cx} {scope : Scope} {own : Addr → SAs} {fz : List (Str × Addr × Value)} {elt iter : PySem.Expr} {E : VSP} {al : Al} {nw : Led} {x y : Str} {px py tp p p2 pos : Pos} {b b1 b2 : Bool}
theorem tgB_at {names : NKs} {own : SAs} {tg : List (Str × Bool)} {fs : List Str} (h : tgB names own tg fs = true) {x : Str} {b : Bool} (hx : (x, b) ∈ tg) : (b = false → names.lookup x = some .local) ∧ (b = true → names.lookup x = some .cell ∧ ∃ a, own.lookup x = some a) := by
 rw [tgB, Bool.and_eq_true, Bool.and_eq_true] at h
 have h1 := List.all_eq_true.mp h.1.2 _ hx
 cases b with
 | false => exact ⟨fun q_ => eq_of_beq h1, fun e => nomatch e⟩
 | true =>
  rw [if_pos rfl, Bool.and_eq_true] at h1
  exact ⟨fun e => (nomatch e), fun q_ => ⟨eq_of_beq h1.1, Option.isSome_iff_exists.mp h1.2⟩⟩
theorem asg_1 {w : World} {A : Around} {C : Addr} {cl : SAs} {env : Env} (S : CompS scope own [(x, b)] iter c fz) : AsgOk PG w A (.Name x px) (compEnvC scope (own C ++ cl) C env) C (own C) (fun q_ q_ => True) (fun v q_ m cm => (if b then cm x else m x) = some v) := by
 have h := tgB_at (S.chk C) (x := x) (b := b) List.mem_cons_self
 cases b with
 | false => exact asg_L S.kind (h.1 rfl) (S.oo C)
 | true => obtain ⟨h1, a, h2⟩ := h.2 rfl; exact asg_C S.kind h1 h2 (S.oo C)
inductive Src1 (lev : Nat) (scope : Scope) (own : Addr → SAs) (tg : List (Str × Bool)) (elt : PySem.Expr) (c : Cx) (al : Al) (fz : List (Str × Addr × Value)) (K : VLP) (v : Value) (n1 : Led) : Prop
 | pk (ax : Addr) (mu news : Led) (J : CJ) : v = .ref ax → n1 = mu ++ news → ((E2_2 (fun its k => (ax, listOf its k) ∈ news) (fun its k => CompV lev scope own tg elt c al fz its.size (fun i vs => E1_2 (fun v => its[i]? = some v) (fun v => vs = [v])) mu news K J)) ∨ E6_4 (fun a b t u w n => (ax, rngO a b 1 t u w) ∈ news) (fun a b t u w n => a + (n : Nat) = b) (fun a b t u w n => (-1000 ≤ a ∧ b ≤ 1000)) (fun a b t u w n => CompV lev scope own tg elt c al fz n (fun i vs => ∃ t, vs = [.int (a + i) t]) mu news K J)) → Src1 lev scope own tg elt c al fz K v n1
theorem src1 {K : VLP} {Fin : Shared → Nat → CJ → List Addr → Led → Prop} {v : Value} {n1 : Led} {h : Heap} {tk : Nat} (hC : CAny lev c) (S : CompS scope own [(x, b)] iter c fz) (k : Src1 lev scope own [(x, b)] elt c al fz K v n1) (st : c.st al n1 h)
 (hF : ∀ s n J mu news vals, (∃ g, s = { c.at h tk with heap := g }) → CompV lev scope own [(x, b)] elt c al fz n vals mu news K J → Fin s n J (mu.map (·.1)) news) :
 wpAny (model PG c.w) c.A (pyIter v) (CompAt PG c.w c.A c.G c.L (c.fm al) c.env elt (.Name x px) scope (clz fz) own (fun q_ q_ => True) (fun v q_ m cm => (if b then cm x else m x) = some v) Fin) E (c.at h tk) := by
 obtain ⟨ax, mu, news, J, rfl, rfl, ⟨its, k, hm, V⟩ | ⟨a, b', t, u, w, n, hm, hab, hsz, V⟩⟩ := k
 · exact src_list (s := c.at h tk) J hC.hn st.1 st.2.1 hm (szl V.sz) V.mo rfl V.h0 (fun s₂ hs => lc_turn hC S.kind S.chk V.cells (fun i v g m₂ cm₂ e ha => ⟨[v], ⟨v, e, rfl⟩, And.intro ha trivial⟩) V.turn hs) fun s₂ hs => hF s₂ _ J mu news _ hs V
 · refine src_range (s := c.at h tk) (n := n) J (st.2.1 _ (jR _ hm)).1 (rngS hab hsz).1 (rngS hab hsz).2 hC.hn st.1 st.2.1 (szl V.sz) V.mo rfl V.h0 (fun s₂ hs => lc_turn hC S.kind S.chk V.cells (fun i v g m₂ cm₂ e ha => ?_) V.turn hs) fun s₂ hs => hF s₂ _ J mu news _ hs V
   · obtain ⟨t, rfl⟩ := e
     exact ⟨[.int (a + i * 1) t], ⟨t, by rw [Int.mul_one]⟩, And.intro ha trivial⟩
theorem finE {K : VLP} {s : Shared} {n : Nat} {J : CJ} {mu news : Led} {vals : Nat → List Value → Prop} {tg : List (Str × Bool)} {h : Heap} {tk : Nat} (ha : al.map (·.1) = c.ns.map (·.1)) (hs : ∃ g, s = { c.at h tk with heap := g }) (V : CompV lev scope own tg elt c al fz n vals mu news K J) :
 FinLE c.G c.L (c.fm al) (EndV c al K) s n J (mu.map (·.1)) news := by
 intro D h' tk' ys mu' tl F N ab hmo hD hm hJ
 obtain ⟨g, rfl⟩ := hs
 exact ⟨h', tk', _, rfl, ⟨F, N, ha, fun p hp => jR _ (jC _ (jR _ (V.kp p hp)))⟩, V.fin D ys mu' tl ab hmo hD hm hJ⟩
theorem lc1 {K : VLP} (hC : CAny lev c) (S : CompS scope own [(x, b)] iter c fz) (h : vcE E glT c.ns 60 false iter c.fr c al nw (Src1 lev scope own [(x, b)] elt c al fz K)) :
 RawS E c (eval (.ListComp elt [⟨.Name x px, iter, [], 0⟩] scope pos) c.env) al nw K := by
 intro h1 tk1 st1
 exact lc_eval (s := c.at h1 tk1) st1.1 S.clos S.kind S.names S.ow (fun C => asg_1 S) (RawS.seq ((vcE_snd hC.okx 60).1 iter al nw _ h) (fun v n1 h tk k st => src1 hC S k st fun s n J mu news vals hs V => finE st.2.2.1 hs V) h1 tk1 st1) S.set
theorem asg_2 {w : World} {A : Around} {C : Addr} {cl : SAs} {env : Env} {k9 : Nat} (hh : A.handled = none) (S : CompS scope own [(x, b), (y, b)] iter c fz) (hxy : x ≠ y) : AsgOk PG w A (.Tuple [.Name x px, .Name y py] k9 tp) (compEnvC scope (own C ++ cl) C env) C (own C) (fun v h => ∃ T a b, v = .ref T ∧ IsTup h T #[a, b])
 (fun v h m cm => ∀ T a d, v = .ref T → IsTup h T #[a, d] → (if b then cm x else m x) = some a ∧ (if b then cm y else m y) = some d) := by
 have h := tgB_at (S.chk C) (x := x) (b := b) List.mem_cons_self
 have k := tgB_at (S.chk C) (x := y) (b := b) (jC _ List.mem_cons_self)
 cases b with
 | false => exact asg_LL hh S.kind (h.1 rfl) (k.1 rfl) hxy (S.oo C)
 | true =>
  obtain ⟨h1, a, h2⟩ := h.2 rfl
  obtain ⟨k1, d, k2⟩ := k.2 rfl
  exact asg_CC hh S.kind h1 k1 h2 k2 hxy (S.oo C)
inductive Src2 (lev : Nat) (scope : Scope) (own : Addr → SAs) (tg : List (Str × Bool)) (elt : PySem.Expr) (c : Cx) (al : Al) (fz : List (Str × Addr × Value)) (K : VLP) (vs : List Value) (n1 : Led) : Prop
 | pk (l1 l2 : Addr) (xs ys : Array Value) (k1 k2 : Nat) (mu news : Led) (J : CJ) : vs = [.ref l1, .ref l2] → n1 = mu ++ news → (l1, listOf xs k1) ∈ news → (l2, listOf ys k2) ∈ news → CompV lev scope own tg elt c al fz (min xs.size ys.size) (fun i vs => E2_3 (fun u v => xs[i]? = some u) (fun u v => ys[i]? = some v) (fun u v => vs = [u, v])) mu news K J → Src2 lev scope own tg elt c al fz K vs n1
theorem src2 {k9 : Nat} {K : VLP} {Fin : Shared → Nat → CJ → List Addr → Led → Prop} {vs : List Value} {n1 : Led} {h : Heap} {tk : Nat} (hC : CAny lev c) (S : CompS scope own [(x, b), (y, b)] iter c fz) (k : Src2 lev scope own [(x, b), (y, b)] elt c al fz K vs n1) (st : c.st al n1 h)
 (hF : ∀ s n J mu news vals, (∃ g, s = { c.at h tk with heap := g }) → CompV lev scope own [(x, b), (y, b)] elt c al fz n vals mu news K J → Fin s n J (mu.map (·.1)) news) :
 wpAny (model PG c.w) c.A (call (.type "zip") vs) (fun xv s₁ => wpAny (model PG c.w) c.A (pyIter xv) (CompAt PG c.w c.A c.G c.L (c.fm al) c.env elt (.Tuple [.Name x px, .Name y py] k9 tp) scope (clz fz) own (fun v h => ∃ T a b, v = .ref T ∧ IsTup h T #[a, b])
  (fun v h m cm => ∀ T a d, v = .ref T → IsTup h T #[a, d] → (if b then cm x else m x) = some a ∧ (if b then cm y else m y) = some d) Fin) E s₁) E (c.at h tk) := by
 obtain ⟨l1, l2, xs, ys, k1, k2, mu, news, J, rfl, rfl, m1, m2, V⟩ := k
 exact src_zip (s := c.at h tk) J hC.hn st.1 st.2.1 m1 m2 (szl V.sz) V.mo rfl V.h0 (fun s₂ hs => lc_turn hC S.kind S.chk V.cells (fun i v g m₂ cm₂ e ha => by
  obtain ⟨T, u, v, rfl, h1, h2, h3⟩ := e
  obtain ⟨h4, h5⟩ := ha T u v rfl h3
  exact ⟨[u, v], ⟨u, v, h1, h2, rfl⟩, And.intro h4 (And.intro h5 trivial)⟩) V.turn hs) fun s₂ hs => hF s₂ _ J mu news _ hs V
theorem lc2 {k9 : Nat} {fn : Str} {a1 a2 : PySem.Expr} {K : VLP} (hC : CAny lev c) (S : CompS scope own [(x, b), (y, b)] (.Call (.Name fn p) [a1, a2] [] p2) c fz) (hxy : x ≠ y) (hf : fnV glT c.ns fn = some (.type "zip")) (hst : [a1, a2].any isStar = false)
 (h : vArgs (vcE E glT c.ns 60 false) [a1, a2] c.fr c al nw (Src2 lev scope own [(x, b), (y, b)] elt c al fz K)) :
 RawS E c (eval (.ListComp elt [⟨.Tuple [.Name x px, .Name y py] k9 tp, .Call (.Name fn p) [a1, a2] [] p2, [], 0⟩] scope pos) c.env) al nw K := by
 intro h1 tk1 st1
 refine lc_eval (s := c.at h1 tk1) st1.1 S.clos S.kind S.names S.ow (fun C => asg_2 hC.hn S hxy) ?_ S.set
 refine call_at hC.okx hf hst ?_ st1
 exact RawS.mono ((vcE_snd hC.okx 60).1 a1 al nw _ h) fun v1 n1 h => RawS.mono ((vcE_snd hC.okx 60).1 a2 al n1 _ h) fun v2 n2 k h tk st => src2 hC S k st fun s n J mu news vals hs V => finE st.2.2.1 hs V
theorem finA {lev' : Nat} {names : NKs} {cl : SAs} {KR : VAP} {Kn : ALP} {iy : Nat} {z : Str} {s : Shared} {n : Nat} {J : CJ} {mu news : Led} {vals : Nat → List Value → Prop} {tg : List (Str × Bool)} {h : Heap} {tk : Nat} (hC : CIn lev' names c cl) (hy : findN names z 0 = some (iy, .local)) (hn : (names.map (·.1)).Nodup) (ha : al.map (·.1) = c.ns.map (·.1)) (hs : ∃ g, s = { c.at h tk with heap := g })
 (V : CompV lev scope own tg elt c al fz n vals mu news (fun v n' => Kn (alSet al iy v) n') J) : FinLA c.G c.L (c.fm al) z (EndS c KR Kn) s n J (mu.map (·.1)) news := by
 intro D h' tk' ys mu' tl F N ab hmo hD hm hJ
 obtain ⟨g, rfl⟩ := hs
 rw [hC.ns] at ha
 have hp : Put z (Value.ref D) al (alSet al iy (.ref D)) := ((findN_at hy).2.2 ha).2
 have F' : Fr c.G c.L h' (frm (alSet al iy (.ref D))) := by rw [hC.fm, hp.frm (ha ▸ hn)] at F; exact F
 exact EndS.next (hC.stL F' (hp.keys.trans ha) N) (V.fin D ys mu' tl ab hmo hD hm hJ)
theorem lc1A {lev' iy : Nat} {names : NKs} {cl : SAs} {KR : VAP} {Kn : ALP} {z : Str} {pz spos : Pos} (hC : CAny lev c) (hI : CIn lev' names c cl) (S : CompS scope own [(x, b)] iter c fz) (hy : findN names z 0 = some (iy, .local)) (hn : (names.map (·.1)).Nodup)
 (hsw : swapsWith (.ListComp elt [⟨.Name x px, iter, [], 0⟩] scope pos) (some (.Name z pz)) spos.line c.env = pure true)
 (h : vcE E glT c.ns 60 false iter c.fr c al nw (Src1 lev scope own [(x, b)] elt c al fz fun v n' => Kn (alSet al iy v) n')) :
 RawC E c KR (exec (.Assign [.Name z pz] (.ListComp elt [⟨.Name x px, iter, [], 0⟩] scope pos) spos) c.env) al nw Kn := by
 intro h1 tk1 st1
 exact lc_assign (s := c.at h1 tk1) st1.1 hI.lo hsw S.clos S.kind S.names S.ow (fun C => asg_1 S) (by unfold Env.kindOf; rw [hI.ok.nm, hI.ns]; exact findN_lookup hy) (by rw [hI.ok.kd]; rfl)
  (RawS.seq ((vcE_snd hC.okx 60).1 iter al nw _ h) (fun v n1 h tk k st => src1 hC S k st fun s n J mu news vals hs V => finA hI hy hn st.2.2.1 hs V) h1 tk1 st1) S.set
theorem lc2A {lev' iy k9 : Nat} {names : NKs} {cl : SAs} {KR : VAP} {Kn : ALP} {z fn : Str} {pz spos : Pos} {a1 a2 : PySem.Expr} (hC : CAny lev c) (hI : CIn lev' names c cl) (S : CompS scope own [(x, b), (y, b)] (.Call (.Name fn p) [a1, a2] [] p2) c fz) (hxy : x ≠ y) (hf : fnV glT c.ns fn = some (.type "zip")) (hst : [a1, a2].any isStar = false) (hy : findN names z 0 = some (iy, .local)) (hn : (names.map (·.1)).Nodup)
 (hsw : swapsWith (.ListComp elt [⟨.Tuple [.Name x px, .Name y py] k9 tp, .Call (.Name fn p) [a1, a2] [] p2, [], 0⟩] scope pos) (some (.Name z pz)) spos.line c.env = pure true)
 (h : vArgs (vcE E glT c.ns 60 false) [a1, a2] c.fr c al nw (Src2 lev scope own [(x, b), (y, b)] elt c al fz fun v n' => Kn (alSet al iy v) n')) :
 RawC E c KR (exec (.Assign [.Name z pz] (.ListComp elt [⟨.Tuple [.Name x px, .Name y py] k9 tp, .Call (.Name fn p) [a1, a2] [] p2, [], 0⟩] scope pos) spos) c.env) al nw Kn := by
 intro h1 tk1 st1
 refine lc_assign (s := c.at h1 tk1) st1.1 hI.lo hsw S.clos S.kind S.names S.ow (fun C => asg_2 hC.hn S hxy) (by unfold Env.kindOf; rw [hI.ok.nm, hI.ns]; exact findN_lookup hy) (by rw [hI.ok.kd]; rfl) ?_ S.set
 refine call_at hC.okx hf hst ?_ st1
 exact RawS.mono ((vcE_snd hC.okx 60).1 a1 al nw _ h) fun v1 n1 h => RawS.mono ((vcE_snd hC.okx 60).1 a2 al n1 _ h) fun v2 n2 k h tk st => src2 hC S k st fun s n J mu news vals hs V => finA hI hy hn st.2.2.1 hs V
end
end Mine
namespace Mine
section
variable {lev : Nat} {c : Cx} {E : VSP} {al : Al} {nw : Led} {K : VLP} {x y : Int} {t u : Tok}
theorem sub_plain {eb : PySem.Expr} {o i : Value} (h : isSl eb = false) : subscripted eb false o i = operate [o, i] (getItem o i) := by
 cases eb <;> first | rfl | cases (show true = false from h)
theorem r_abs1 (h : ∀ b v, 0 ≤ b → (b = x ∨ b = -x) → K (.int b v) nw) : RawS E c (call (.builtin "abs") [.int x t]) al nw K := fun g tk st =>
 r_abs fun b v tk' h0 h1 => ⟨g, tk', nw, rfl, st, h b v h0 h1⟩
theorem r_min2 (hC : CAny lev c) (h : ∀ l v, (l = x ∨ l = y) → l ≤ x → l ≤ y → K (.int l v) nw) : RawS E c (call (.builtin "min") [.int x t, .int y u]) al nw K := fun g tk st =>
 r_min (s := c.at g tk) hC.hn st.1 st.2.1 fun l v h' tk' a b d F N => ⟨h', tk', nw, rfl, ⟨F, N, st.2.2⟩, h l v a b d⟩
theorem r_isIS (h : K (.bool false) nw) : RawS E c (call (.builtin "isinstance") [.int x t, .type "str"]) al nw K := fun g tk st => IsiPair.int_str ⟨g, tk + 1, nw, rfl, st, h⟩
theorem r_isIT (h : K (.bool false) nw) : RawS E c (call (.builtin "isinstance") [.int x t, .type "tuple"]) al nw K := fun g tk st => IsiPair.int_tuple ⟨g, tk + 1, nw, rfl, st, h⟩
theorem r_isTS {a : Addr} {vs : List Value} {q : Nat} (hm : (a, tup vs q) ∈ nw) (h : K (.bool false) nw) : RawS E c (call (.builtin "isinstance") [.ref a, .type "str"]) al nw K := fun g tk st =>
 IsiPair.isTuple_str (s := c.at g tk) (st.2.1.isTup hm) (fun q_ q_ e => e) ⟨g, tk + 1, nw, rfl, st, h⟩
theorem r_isTT {a : Addr} {vs : List Value} {q : Nat} (hm : (a, tup vs q) ∈ nw) (h : K (.bool true) nw) : RawS E c (call (.builtin "isinstance") [.ref a, .type "tuple"]) al nw K := fun g tk st =>
 IsiPair.isTuple_tuple (s := c.at g tk) (st.2.1.isTup hm) (fun q_ q_ e => e) ⟨g, tk, nw, rfl, st, h⟩
theorem r_len {l : Addr} {its : Array Value} {q : Nat} (hm : (l, listOf its q) ∈ nw) (hr : its.size ≤ 1000) (h : ∀ t, K (.int its.size t) nw) : RawS E c (call (.builtin "len") [.ref l]) al nw K := fun g tk st =>
 len_list (s := c.at g tk) st.2.1 hm hr ⟨g, tk + 1 + 1, nw, rfl, st, h _⟩
theorem r_idxL {ea eb : PySem.Expr} {l : Addr} {its : Array Value} {q : Nat} {v : Value} (hs : isSl eb = false) (hm : (l, listOf its q) ∈ nw) (h0 : 0 ≤ x) (h1 : x < 1000) (e : its[x.toNat]? = some v) (h : K v nw) : RawS E c (subscriptTail ea eb (.ref l) (.int x t)) al nw K := fun g tk st =>
 sub_list (s := c.at g tk) st.2.1 hm h0 h1 e ⟨g, tk, nw, rfl, st, h⟩ (sub_plain hs)
theorem r_idxT {ea eb : PySem.Expr} {l : Addr} {vs : List Value} {q : Nat} {v : Value} (hs : isSl eb = false) (hm : (l, tup vs q) ∈ nw) (h0 : 0 ≤ x) (h1 : x < 1000) (e : vs[x.toNat]? = some v) (h : K v nw) : RawS E c (subscriptTail ea eb (.ref l) (.int x t)) al nw K := fun g tk st =>
 item_tupleT (s := c.at g tk) (l := vs) (j := x.toNat) (st.2.1.isTup hm) (Int.le_trans (by decide) h0) (Int.lt_trans h1 (by decide)) (seqI h0 (List.getElem?_eq_some_iff.mp e).1) e ⟨g, tk, nw, rfl, st, h⟩ (sub_plain hs)
theorem r_rng1 (h : ∀ D t u w, (∀ p ∈ nw, p.1 < D) → K (.ref D) ((D, rngO 0 x 1 t u w) :: nw)) : RawS E c (call (.type "range") [.int x t]) al nw K := fun g tk st =>
 call_range_1 (s := c.at g tk) ⟨_, _, _, rfl, st_cons st (st.1.push _) (News.push st.1 st.2.1 _), h _ _ _ _ fun p hp => Heap.lt_size (st.2.1 p hp).1⟩
theorem r_rng2 (h : ∀ D t u w, (∀ p ∈ nw, p.1 < D) → K (.ref D) ((D, rngO x y 1 t u w) :: nw)) : RawS E c (call (.type "range") [.int x t, .int y u]) al nw K := fun g tk st =>
 call_range_2 (s := c.at g tk) ⟨_, _, _, rfl, st_cons st (st.1.push _) (News.push st.1 st.2.1 _), h _ _ _ _ fun p hp => Heap.lt_size (st.2.1 p hp).1⟩
theorem r_attr {z C d : Addr} {es : List DictEntry} {n : Nat} {name : Str} {v : Value} (hC : CAny lev c) (m1 : (z, instObj C d) ∈ nw) (m2 : (d, dictOf es n) ∈ nw) (G : GetOk (K39 c.w.params) C name) (hg : getL name es = some (some v)) (hh : handedIn v = true) (h : K v nw) :
 RawS E c (getAttr (.ref z) name true) al nw K := fun g tk st => by
 obtain ⟨g1, g2, attr, g3, g4⟩ := G
 exact get_own (s := c.at g tk) st.1 hC.top.X (InstAt.of_news st.2.1 m1 m2) g1 g2 g3 g4 hg hh ⟨g, tk + 1, nw, rfl, st, h⟩
theorem r_mulL {l : Addr} {vs : List Value} {q : Nat} (hm : (l, listOf vs.toArray q) ∈ nw) (h0 : 0 ≤ x) (h1 : vs.length * x.toNat ≤ 256) (hx : x ≤ 1000) (h : ∀ D, (∀ p ∈ nw, p.1 < D) → K (.ref D) ((D, listOf (List.replicate x.toNat vs).flatten.toArray 0) :: nw)) : RawS E c (binaryOp .Mult (.ref l) (.int x t)) al nw K := fun g tk st =>
 KMa.mul (s := c.at g tk) st.1 st.2.1 (st.2.1.isList hm) (Int.le_trans (by decide) h0) (Int.lt_of_le_of_lt hx (by decide)) h1 rfl fun D h' F N lt => ⟨h', tk, _, rfl, st_cons st F N, h D lt⟩
theorem KeepV.meth {q f : Addr} {self : Value} (hC : CAny lev c) (hm : (q, methodObj (.ref f) self) ∈ nw) (hf : fnIn (K39 c.w.params) f = true) : KeepV c (.ref q) nw := fun al h st =>
 keeps_M hf h ⟨(st.2.1 _ hm).1, hC.top.X.keeps st.1.keep⟩
inductive AppN (kp : Led) (D : Addr) (its : Array Value) (q : Nat) (y : Value) (n2 : Led) (K : Led → Prop) : Prop
 | pk (hm : (D, listOf its q) ∈ n2) (n4 : Led) : (∀ z ∈ n4, z ∈ setAt n2 D (listOf (its.push y) (q + 1))) → (∀ z ∈ kp, z ∈ n4) → K n4 → AppN kp D its q y n2 K
inductive AppO (v : Value) (n1 : Led) (F : Addr → Array Value → Nat → Prop) : Prop
 | pk (D : Addr) (its : Array Value) (q : Nat) : v = .ref D → (D, listOf its q) ∈ n1 → its.size ≤ 1000 → F D its q → AppO v n1 F
theorem r_append {e a : PySem.Expr} {p pos : Pos} {al : Al} {pl : Sem Bool} (hC : CAny lev c) (ha : isStar a = false)
 (he : eval (.Call (.Attribute e (Str.ofString "append") p) [a] [] pos) c.env = (do
  let ov ← eval e c.env
  standAt p.atName
  let (f, first) ← holding [ov] (getMethod ov (Str.ofString "append") pl)
  callWith pos f first (backTo pos (starEach [a] c.env)) []))
 (h : vcE E glT c.ns 60 false e c.fr c al nw fun v n1 => AppO v n1 fun D its q => vcE E glT c.ns 60 false a c.fr c al n1 fun y n2 => AppN c.keep D its q y n2 (K .none)) :
 RawS E c (eval (.Call (.Attribute e (Str.ofString "append") p) [a] [] pos) c.env) al nw K := by
 intro g tk st
 refine MethodCall_ ?_ he
 refine RawS.seq ((vcE_snd hC.okx 60).1 e al nw _ h) (fun v n1 g tk k st => ?_) g tk st
 obtain ⟨D, its, q, rfl, hm, hz, k⟩ := k
 refine getMethod_append_N (s := c.at g tk) st.2.1 hm ?_
 have hA := args_snd (pos := pos) (E := E) (es := [a]) (f := vRaw E) (fr := []) (K := fun vs n2 => E1_2 (fun y => vs = [y]) (fun y => AppN c.keep D its q y n2 (K .none))) (by rw [List.any_cons, ha]; rfl) (fun q_ q_ q_ q_ v => v) al n1
  (RawS.mono ((vcE_snd hC.okx 60).1 a al n1 _ k) fun y n2 k => ⟨y, rfl, k⟩) g tk st
 rw [star_one ha] at hA ⊢
 refine Calls.callWith_builtin rfl (evalArgs_plain (wpAny_mono hA (fun vs s' y1 => ?_) fun q_ q_ e => e))
 obtain ⟨h', tk', nw', e', st', q_, y, e2, hm2, n4, hs, hk, k⟩ := y1
 subst e' e2
 have z := st'.2.1 _ hm2
 exact append_at (s := c.at h' tk') (hsz := szl hz) z.1 fun h2 hs2 ho' => ⟨h2, tk', n4, rfl, ⟨st'.1.change hs2 z.2.1 z.2.2, fun p hp => news_setAt st'.2.1 hm2 hs2 ho' p (hs p hp), st'.2.2.1, hk⟩, k⟩
theorem RawC.sub {KR : VAP} {m : Sem Flow} {al : Al} {nw nw' : Led} {Kn : ALP} (h : RawC E c KR m al nw' Kn) (hs : ∀ p ∈ nw', p ∈ nw) (hk : ∀ p ∈ c.keep, p ∈ nw') : RawC E c KR m al nw Kn :=
 fun g tk st => h g tk ⟨st.1, fun p hp => st.2.1 p (hs p hp), st.2.2.1, hk⟩
theorem RawS.sub {m : Sem Value} {al : Al} {nw nw' : Led} {K : VLP} (h : RawS E c m al nw' K) (hs : ∀ p ∈ nw', p ∈ nw) (hk : ∀ p ∈ c.keep, p ∈ nw') : RawS E c m al nw K :=
 fun g tk st => h g tk ⟨st.1, fun p hp => st.2.1 p (hs p hp), st.2.2.1, hk⟩
end
inductive WEnd (I : Nat → ALP) (m : Nat) (a : Al) (n : Led) : Prop
 | pk (m' : _) : m' < m → I m' a n → WEnd I m a n
theorem vwhl {lev : Nat} {c : Cx} {names : NKs} {cl : SAs} {KR : VAP} {E : VSP} {t : PySem.Expr} {b : List Stmt} {q : Pos} {al : Al} {nw : Led} {Kn : ALP} (hC : CIn lev names c cl) (hE : PassesOwn (model PG c.w) c.A c.env E) (I : Nat → ALP) (n0 : Nat) (h0 : I n0 al nw)
 (hs : ∀ m al' nw', I m al' nw' → vcE E glT names 60 true t [] c al' nw' (boo fun q n1 => ITE q (vcS E glT names 60 b [] c KR al' n1 (WEnd I m)) (Kn al' n1))) : RawC E c KR (exec (.While t b [] q) c.env) al nw Kn := by
 intro h tk st
 refine wpAny_While (codeAny_whileLoop (fun n s' => E4_3 (fun h' tk' al' nw' => s' = c.at h' tk') (fun h' tk' al' nw' => c.st al' nw' h') (fun h' tk' al' nw' => I n al' nw')) ?_ n0 ⟨h, tk, al, nw, rfl, st, h0⟩)
 rintro n s ⟨h', tk', al', nw', rfl, st', hI'⟩
 have ht := (vcE_snd (E := E) hC.ok.toCxOk 60).2 t al' nw' _ (by rw [hC.ns, hC.fr]; exact hs n al' nw' hI')
 refine wpAny_passesOwn hE (wpAny_mono (ht h' tk' st') (fun q s2 hq => ?_) fun q_ q_ e => e)
 obtain ⟨h2, tk2, n2, rfl, st2, k⟩ := hq
 cases q with
 | true =>
  refine wpAny_passesOwn hE (wpAny_mono (hC.run (k.1 rfl) h2 tk2 st2) (fun f s3 y2 => ?_) fun q_ q_ e => e)
  obtain ⟨h3, tk3, a3, n3, e, st3, k3⟩ := y2
  subst e
  cases f with
  | next => obtain ⟨m, hm, hI3⟩ := k3; exact ⟨m, hm, h3, tk3, a3, n3, rfl, st3, hI3⟩
  | ret v => exact ⟨h3, tk3, a3, n3, rfl, st3, k3⟩
  | brk => exact False.elim k3
  | cont => exact False.elim k3
 | false => exact wpAny_execs_nil (EndS.next st2 (k.2 rfl))
theorem iteT {p : Prop} [Decidable p] {a b : Prop} (h : p) (ha : a) : ITE (decide p) a b := ⟨fun q_ => ha, fun e => absurd h (of_decide_eq_false e)⟩
theorem iteF {p : Prop} [Decidable p] {a b : Prop} (h : ¬ p) (hb : b) : ITE (decide p) a b := ⟨fun e => absurd (of_decide_eq_true e) h, fun q_ => hb⟩
theorem iteC {p : Prop} [Decidable p] {a b : Prop} (ha : p → a) (hb : ¬ p → b) : ITE (decide p) a b := ⟨fun e => ha (of_decide_eq_true e), fun e => hb (of_decide_eq_false e)⟩
theorem iteT' {a b : Prop} (ha : a) : ITE true a b := ⟨fun q_ => ha, fun e => nomatch e⟩
theorem iteF' {a b : Prop} (hb : b) : ITE false a b := ⟨fun e => (nomatch e), fun q_ => hb⟩
theorem unpI {nw : Led} {T : Addr} {xs : List Value} {q : Nat} {is : List Slot1} {P : List Value → Prop} (hm : (T, tup xs q) ∈ nw) (hl : xs.length = is.length) (h : P xs) : UnpO is T nw P := ⟨xs, q, .inl hm, hl, h⟩
theorem unpL {nw : Led} {T : Addr} {xs : List Value} {q : Nat} {is : List Slot1} {P : List Value → Prop} (hm : (T, listOf xs.toArray q) ∈ nw) (hl : xs.length = is.length) (h : P xs) : UnpO is T nw P := ⟨xs, q, .inr hm, hl, h⟩
theorem vnil {c : Cx} {KR : VAP} {E : VSP} {gt : List (Str × Value)} {ns : NKs} {fr : List (Str × Value)} {n : Nat} {al : Al} {nw : Led} {Kn : ALP} (h : Kn al nw) : vcS E gt ns (n + 1) [] fr c KR al nw Kn := h
theorem iteFb {q : Bool} {a b : Prop} (h : q = false) (hb : b) : ITE q a b := ⟨fun e => (nomatch (h.symm.trans e)), fun q_ => hb⟩
theorem iteTb {q : Bool} {a b : Prop} (h : q = true) (ha : a) : ITE q a b := ⟨fun q_ => ha, fun e => (nomatch (h.symm.trans e))⟩
theorem r_lsh1 {c : Cx} {E : VSP} {al : Al} {nw : Led} {K : VLP} {x y : Int} {t u : Tok} (hx : x = 1) (hy : y = 15) (h : ∀ t, K (.int 32768 t) nw) : RawS E c (binaryOp .LShift (.int x t) (.int y u)) al nw K := fun g tk st => r_lsh hx hy ⟨g, _, nw, rfl, st, h _⟩
theorem vst2 {c : Cx} {al : Al} {nw : Led} {Kn : ALP} {i j : Nat} {u v : Value} (h : Kn (alSet (alSet al i u) j v) nw) : vSts [.inl i, .inl j] c [u, v] al nw Kn := h
theorem vst1 {c : Cx} {al : Al} {nw : Led} {Kn : ALP} {i : Nat} {u : Value} (h : Kn (alSet al i u) nw) : vSts [.inl i] c [u] al nw Kn := h
end Mine
namespace Mine
noncomputable def NumF (nw n : Led) (b : Bool) (v : Value) (x : Int) : Prop := Num n b v x ∧ ∀ r, v = .ref r → ∀ q ∈ nw, q.1 < r
theorem NumF.le {nw n1 n : Led} {b : Bool} {v : Value} {x : Int} (h : NumF n1 n b v x) (hs : ∀ p ∈ nw, p ∈ n1) : NumF nw n b v x := ⟨h.1, fun r e q hq => h.2 r e q (hs q hq)⟩
theorem NumF.i {nw n : Led} {x : Int} {t : Tok} : NumF nw n false (.int x t) x := ⟨.i _ _, fun q_ e => nomatch e⟩
theorem NumF.d {nw n : Led} {r : Addr} {x : Int} {t1 t2 : Tok} {k : Nat} (hm : (r, tup [.int (nc x) t1, .int (ne x) t2] k) ∈ n) (hr : ∀ q ∈ nw, q.1 < r) : NumF nw n true (.ref r) x := ⟨.d hm, fun r e q hq => by cases e; exact hr q hq⟩
theorem new_in {t led : Led} {p : Addr × Obj} (hp : p ∈ t ++ led) (h : ∀ q ∈ led, q.1 < p.1) : p ∈ t := by
 rcases jA hp with hp | hp
 · exact hp
 · exact absurd (h p hp) (Nat.lt_irrefl _)
theorem NumF.new {led t : Led} {b : Bool} {v : Value} {x : Int} (h : NumF led (t ++ led) b v x) : Num t b v x := by
 obtain ⟨h, f⟩ := h
 cases h with
 | i => exact .i _ _
 | d hm => exact .d (new_in hm fun q hq => f _ rfl q hq)
theorem cells1 {nw : Led} {L : Addr} {o1 : Obj} (h : ∀ p ∈ nw, p.1 < L) : Le nw ([(L + 1, o1)] ++ nw) := ⟨_, rfl, Abv.cons (ltc1 h) Abv.nil⟩
theorem cells2 {nw : Led} {L : Addr} {o1 o2 : Obj} (h : ∀ p ∈ nw, p.1 < L) : Le nw ([(L + 1 + 1, o2), (L + 1, o1)] ++ nw) := ⟨_, rfl, Abv.cons (fun p hp => Nat.lt_succ_of_lt (ltc1 h p hp)) (Abv.cons (ltc1 h) Abv.nil)⟩
theorem cells3 {nw : Led} {L : Addr} {o1 o2 o3 : Obj} (h : ∀ p ∈ nw, p.1 < L) : Le nw ([(L + 1 + 1 + 1, o3), (L + 1 + 1, o2), (L + 1, o1)] ++ nw) := ⟨_, rfl, Abv.cons (fun p hp => Nat.lt_succ_of_lt (Nat.lt_succ_of_lt (ltc1 h p hp))) (Abv.cons (fun p hp => Nat.lt_succ_of_lt (ltc1 h p hp)) (Abv.cons (ltc1 h) Abv.nil))⟩
theorem mem_setAt {n : Led} {a : Addr} {o : Obj} {p : Addr × Obj} (h : p ∈ n) (hp : p.1 ≠ a) : p ∈ setAt n a o := List.mem_map.mpr ⟨p, h, if_neg hp⟩
theorem self_setAt {n : Led} {a : Addr} {o o' : Obj} (h : (a, o) ∈ n) : (a, o') ∈ setAt n a o' := List.mem_map.mpr ⟨_, h, if_pos rfl⟩
theorem Le.set {cs nw n : Led} {a : Addr} {o' : Obj} (h : Le (cs ++ nw) n) (ha : ∃ p ∈ cs, p.1 = a) (hn : ∀ p ∈ nw, p.1 ≠ a) : Le (setAt cs a o' ++ nw) (setAt n a o') := by
 obtain ⟨tl, rfl, ab⟩ := h
 obtain ⟨p, hp, rfl⟩ := ha
 refine ⟨tl, ?_, fun q hq r hr => ?_⟩
 · rw [setAt_app, setAt_app, setAt_id hn, setAt_id fun q hq e => absurd (ab q hq p (jL _ hp)) (by rw [e]; exact Nat.lt_irrefl _)]
 · revert r; refine fma (fun r hr => ?_) fun r hr => ?_
   · obtain ⟨s, hs, e⟩ := List.mem_map.mp hr
     split at e
     · rw [← e]; exact ab q hq p (jL _ hp)
     · rw [← e]; exact ab q hq s (jL _ hs)
   · exact ab q hq r (jR _ hr)
theorem ne_of_ltL {nw : Led} {L a : Addr} (h : ∀ p ∈ nw, p.1 < L) (ha : L ≤ a) : ∀ p ∈ nw, p.1 ≠ a := fun p hp e => absurd (h p hp) (by rw [e]; exact Nat.not_lt.mpr ha)
theorem set22 {nw n : Led} {L : Addr} {o1 o2 o' : Obj} (hL : ∀ p ∈ nw, p.1 < L) (h : Le ([(L + 1 + 1, o2), (L + 1, o1)] ++ nw) n) : Le ([(L + 1 + 1, o'), (L + 1, o1)] ++ nw) (setAt n (L + 1 + 1) o') := by
 have := h.set (a := L + 1 + 1) (o' := o') ⟨_, .head _, rfl⟩ (ne_of_ltL hL (Nat.le_succ_of_le (Nat.le_succ _)))
 rw [setAt_cons, setAt_ne (Ne.symm (Nat.succ_ne_self _))] at this; exact this
theorem cells4 {nw : Led} {L : Addr} {o1 o2 o3 o4 : Obj} (h : ∀ p ∈ nw, p.1 < L) : Le nw ([(L + 1 + 1 + 1 + 1, o4), (L + 1 + 1 + 1, o3), (L + 1 + 1, o2), (L + 1, o1)] ++ nw) :=
 have h1 := ltc1 h
 have h2 : ∀ p ∈ nw, p.1 < L + 1 + 1 := fun p hp => Nat.lt_succ_of_lt (h1 p hp)
 have h3 : ∀ p ∈ nw, p.1 < L + 1 + 1 + 1 := fun p hp => Nat.lt_succ_of_lt (h2 p hp)
 have h4 : ∀ p ∈ nw, p.1 < L + 1 + 1 + 1 + 1 := fun p hp => Nat.lt_succ_of_lt (h3 p hp)
 ⟨_, rfl, Abv.cons h4 (Abv.cons h3 (Abv.cons h2 (Abv.cons h1 Abv.nil)))⟩
theorem CIn.noK {lev : Nat} {c : Cx} {names : NKs} {cl : SAs} (h : CIn lev names c cl) (n : Led) : ∀ p ∈ c.keep, p ∈ n := fun p hp => by rw [h.kp] at hp; cases hp
theorem cel3_2 {nw : Led} {L : Addr} {o1 o2 o3 o' : Obj} (h : ∀ p ∈ nw, p.1 < L) : setAt ([(L + 1 + 1 + 1, o3), (L + 1 + 1, o2), (L + 1, o1)] ++ nw) (L + 1 + 1) o' = [(L + 1 + 1 + 1, o3), (L + 1 + 1, o'), (L + 1, o1)] ++ nw := by
 show setAt ((L + 1 + 1 + 1, o3) :: (L + 1 + 1, o2) :: (L + 1, o1) :: nw) _ _ = _
 rw [setAt_ne (Nat.succ_ne_self _), setAt_cons, setAt_ne (Ne.symm (Nat.succ_ne_self _)), setAt_id (ne_of_ltL h (Nat.le_succ_of_le (Nat.le_succ _)))]; rfl
theorem cel3_3 {nw : Led} {L : Addr} {o1 o2 o3 o' : Obj} (h : ∀ p ∈ nw, p.1 < L) : setAt ([(L + 1 + 1 + 1, o3), (L + 1 + 1, o2), (L + 1, o1)] ++ nw) (L + 1 + 1 + 1) o' = [(L + 1 + 1 + 1, o'), (L + 1 + 1, o2), (L + 1, o1)] ++ nw := by
 show setAt ((L + 1 + 1 + 1, o3) :: (L + 1 + 1, o2) :: (L + 1, o1) :: nw) _ _ = _
 rw [setAt_cons, setAt_ne (Ne.symm (Nat.succ_ne_self _)), setAt_ne (Nat.ne_of_lt (Nat.lt_succ_of_lt (Nat.lt_succ_self _))), setAt_id (ne_of_ltL h (Nat.le_succ_of_le (Nat.le_succ_of_le (Nat.le_succ _))))]; rfl
noncomputable def cl1 (L : Addr) (o1 : Obj) (nw : Led) : Led := (L + 1, o1) :: nw
noncomputable def cl2 (L : Addr) (o1 o2 : Obj) (nw : Led) : Led := (L + 1 + 1, o2) :: cl1 L o1 nw
noncomputable def cl3 (L : Addr) (o1 o2 o3 : Obj) (nw : Led) : Led := (L + 1 + 1 + 1, o3) :: cl2 L o1 o2 nw
section
variable {L : Addr} {o1 o2 o3 o' : Obj} {nw : Led}
theorem m21 : (L + 1, o1) ∈ cl2 L o1 o2 nw := .tail _ (.head _)
theorem m22 : (L + 1 + 1, o2) ∈ cl2 L o1 o2 nw := .head _
theorem m31 : (L + 1, o1) ∈ cl3 L o1 o2 o3 nw := .tail _ (.tail _ (.head _))
theorem m32 : (L + 1 + 1, o2) ∈ cl3 L o1 o2 o3 nw := .tail _ (.head _)
theorem m33 : (L + 1 + 1 + 1, o3) ∈ cl3 L o1 o2 o3 nw := .head _
theorem le1 (h : ∀ p ∈ nw, p.1 < L) : Le nw (cl1 L o1 nw) := cells1 h
theorem le2 (h : ∀ p ∈ nw, p.1 < L) : Le nw (cl2 L o1 o2 nw) := cells2 h
theorem le3 (h : ∀ p ∈ nw, p.1 < L) : Le nw (cl3 L o1 o2 o3 nw) := cells3 h
theorem s32 (h : ∀ p ∈ nw, p.1 < L) : setAt (cl3 L o1 o2 o3 nw) (L + 1 + 1) o' = cl3 L o1 o' o3 nw := cel3_2 h
theorem s33 (h : ∀ p ∈ nw, p.1 < L) : setAt (cl3 L o1 o2 o3 nw) (L + 1 + 1 + 1) o' = cl3 L o1 o2 o' nw := cel3_3 h
end
noncomputable def cl4 (L : Addr) (o1 o2 o3 o4 : Obj) (nw : Led) : Led := (L + 1 + 1 + 1 + 1, o4) :: cl3 L o1 o2 o3 nw
section
variable {lev : Nat} {f : Addr} {vs : List Value} {nw : Led} {K : VLP} {name qual : Str} {ps : Arguments} {body : List Stmt} {names : NKs} {mo : List (Str × Const)} {dV kV doc pm cdv ct oc : Value} {an od : Option Addr} {osl : Array (Option Value)}
theorem code_vc1 {W : World → Prop} {x1 : Str} {v1 : Option Value} (ho : ∀ P, (K39 P).lookup f = some ⟨oc, od, .func (fnOf name qual ps body (sc names mo) dV kV doc pm an cdv ct), osl⟩) (hcd : ∀ P, codeIn (K39 P) cdv qual = true)
 (hb : bindArgs (fnOf name qual ps body (sc names mo) dV kV doc pm an cdv ct) ⟨vs, []⟩ = pure (zipN names vs)) (hk : (kindB names vs && decide ((cellsFrom 0 names []).map (·.1)).Nodup) = true) (hal : alC (zipN names vs) names = alN names vs) (hown : ∀ L', cellsFrom (L' + 1) names [] = [(x1, L' + 1)])

 (hv1 : bindC (fun y => names.lookup y) (zipN names vs) (fun q_ => none) x1 = v1)
 (h : ∀ c o1, W c.w → CIn lev names c [(x1, c.L + 1)] → o1.data = .cell v1 → (∀ p ∈ nw, p.1 < c.L) → vcS NoE glT names 60 body [] c (fun v q_ n => K v n) (alN names vs) (cl1 c.L o1 nw) (fun q_ n => K .none n)) : CtG W (lev + 1) (.ref f) vs nw K := by
 refine code_vcCG (fun L' => [(x1, L' + 1)]) ho hcd (fun q_ q_ q_ => BindsTo.of_eq hb) (kk hk) (of_decide_eq_true (kn hk)) (ks hk) hal hown fun c cells hw hC Y hL => ?_
 cases Y with | cons d1 Y => cases Y; exact h c _ hw hC (hv1 ▸ d1) hL
theorem code_vc2 {W : World → Prop} {x1 x2 : Str} {v1 v2 : Option Value} (ho : ∀ P, (K39 P).lookup f = some ⟨oc, od, .func (fnOf name qual ps body (sc names mo) dV kV doc pm an cdv ct), osl⟩) (hcd : ∀ P, codeIn (K39 P) cdv qual = true)
 (hb : bindArgs (fnOf name qual ps body (sc names mo) dV kV doc pm an cdv ct) ⟨vs, []⟩ = pure (zipN names vs)) (hk : (kindB names vs && decide ((cellsFrom 0 names []).map (·.1)).Nodup) = true) (hal : alC (zipN names vs) names = alN names vs) (hown : ∀ L', cellsFrom (L' + 1) names [] = [(x2, L' + 1 + 1), (x1, L' + 1)])

 (hv1 : bindC (fun y => names.lookup y) (zipN names vs) (fun q_ => none) x1 = v1) (hv2 : bindC (fun y => names.lookup y) (zipN names vs) (fun q_ => none) x2 = v2)
 (h : ∀ c o1 o2, W c.w → CIn lev names c [(x2, c.L + 1 + 1), (x1, c.L + 1)] → o1.data = .cell v1 → o2.data = .cell v2 → (∀ p ∈ nw, p.1 < c.L) → vcS NoE glT names 60 body [] c (fun v q_ n => K v n) (alN names vs) (cl2 c.L o1 o2 nw) (fun q_ n => K .none n)) : CtG W (lev + 1) (.ref f) vs nw K := by
 refine code_vcCG (fun L' => [(x2, L' + 1 + 1), (x1, L' + 1)]) ho hcd (fun q_ q_ q_ => BindsTo.of_eq hb) (kk hk) (of_decide_eq_true (kn hk)) (ks hk) hal hown fun c cells hw hC Y hL => ?_
 cases Y with | cons d2 Y => cases Y with | cons d1 Y => cases Y; exact h c _ _ hw hC (hv1 ▸ d1) (hv2 ▸ d2) hL
theorem code_vc3 {W : World → Prop} {x1 x2 x3 : Str} {v1 v2 v3 : Option Value} (ho : ∀ P, (K39 P).lookup f = some ⟨oc, od, .func (fnOf name qual ps body (sc names mo) dV kV doc pm an cdv ct), osl⟩) (hcd : ∀ P, codeIn (K39 P) cdv qual = true)
 (hb : bindArgs (fnOf name qual ps body (sc names mo) dV kV doc pm an cdv ct) ⟨vs, []⟩ = pure (zipN names vs)) (hk : (kindB names vs && decide ((cellsFrom 0 names []).map (·.1)).Nodup) = true) (hal : alC (zipN names vs) names = alN names vs) (hown : ∀ L', cellsFrom (L' + 1) names [] = [(x3, L' + 1 + 1 + 1), (x2, L' + 1 + 1), (x1, L' + 1)])

 (hv1 : bindC (fun y => names.lookup y) (zipN names vs) (fun q_ => none) x1 = v1) (hv2 : bindC (fun y => names.lookup y) (zipN names vs) (fun q_ => none) x2 = v2) (hv3 : bindC (fun y => names.lookup y) (zipN names vs) (fun q_ => none) x3 = v3)
 (h : ∀ c o1 o2 o3, W c.w → CIn lev names c [(x3, c.L + 1 + 1 + 1), (x2, c.L + 1 + 1), (x1, c.L + 1)] → o1.data = .cell v1 → o2.data = .cell v2 → o3.data = .cell v3 → (∀ p ∈ nw, p.1 < c.L) → vcS NoE glT names 60 body [] c (fun v q_ n => K v n) (alN names vs) (cl3 c.L o1 o2 o3 nw) (fun q_ n => K .none n)) : CtG W (lev + 1) (.ref f) vs nw K := by
 refine code_vcCG (fun L' => [(x3, L' + 1 + 1 + 1), (x2, L' + 1 + 1), (x1, L' + 1)]) ho hcd (fun q_ q_ q_ => BindsTo.of_eq hb) (kk hk) (of_decide_eq_true (kn hk)) (ks hk) hal hown fun c cells hw hC Y hL => ?_
 cases Y with | cons d3 Y => cases Y with | cons d2 Y => cases Y with | cons d1 Y => cases Y; exact h c _ _ _ hw hC (hv1 ▸ d1) (hv2 ▸ d2) (hv3 ▸ d3) hL
theorem code_vc4 {W : World → Prop} {x1 x2 x3 x4 : Str} {v1 v2 v3 v4 : Option Value} (ho : ∀ P, (K39 P).lookup f = some ⟨oc, od, .func (fnOf name qual ps body (sc names mo) dV kV doc pm an cdv ct), osl⟩) (hcd : ∀ P, codeIn (K39 P) cdv qual = true)
 (hb : bindArgs (fnOf name qual ps body (sc names mo) dV kV doc pm an cdv ct) ⟨vs, []⟩ = pure (zipN names vs)) (hk : (kindB names vs && decide ((cellsFrom 0 names []).map (·.1)).Nodup) = true) (hal : alC (zipN names vs) names = alN names vs) (hown : ∀ L', cellsFrom (L' + 1) names [] = [(x4, L' + 1 + 1 + 1 + 1), (x3, L' + 1 + 1 + 1), (x2, L' + 1 + 1), (x1, L' + 1)])

 (hv1 : bindC (fun y => names.lookup y) (zipN names vs) (fun q_ => none) x1 = v1) (hv2 : bindC (fun y => names.lookup y) (zipN names vs) (fun q_ => none) x2 = v2) (hv3 : bindC (fun y => names.lookup y) (zipN names vs) (fun q_ => none) x3 = v3) (hv4 : bindC (fun y => names.lookup y) (zipN names vs) (fun q_ => none) x4 = v4)
 (h : ∀ c o1 o2 o3 o4, W c.w → CIn lev names c [(x4, c.L + 1 + 1 + 1 + 1), (x3, c.L + 1 + 1 + 1), (x2, c.L + 1 + 1), (x1, c.L + 1)] → o1.data = .cell v1 → o2.data = .cell v2 → o3.data = .cell v3 → o4.data = .cell v4 → (∀ p ∈ nw, p.1 < c.L) → vcS NoE glT names 60 body [] c (fun v q_ n => K v n) (alN names vs) (cl4 c.L o1 o2 o3 o4 nw) (fun q_ n => K .none n)) : CtG W (lev + 1) (.ref f) vs nw K := by
 refine code_vcCG (fun L' => [(x4, L' + 1 + 1 + 1 + 1), (x3, L' + 1 + 1 + 1), (x2, L' + 1 + 1), (x1, L' + 1)]) ho hcd (fun q_ q_ q_ => BindsTo.of_eq hb) (kk hk) (of_decide_eq_true (kn hk)) (ks hk) hal hown fun c cells hw hC Y hL => ?_
 cases Y with | cons d4 Y => cases Y with | cons d3 Y => cases Y with | cons d2 Y => cases Y with | cons d1 Y => cases Y; exact h c _ _ _ _ hw hC (hv1 ▸ d1) (hv2 ▸ d2) (hv3 ▸ d3) (hv4 ▸ d4) hL
end
theorem t22 {nw n : Led} {L : Addr} {o1 o2 o' : Obj} (hL : ∀ p ∈ nw, p.1 < L) (h : Le (cl2 L o1 o2 nw) n) : Le (cl2 L o1 o' nw) (setAt n (L + 1 + 1) o') := set22 hL h
theorem le4 {nw : Led} {L : Addr} {o1 o2 o3 o4 : Obj} (h : ∀ p ∈ nw, p.1 < L) : Le nw (cl4 L o1 o2 o3 o4 nw) := cells4 h
end Mine
namespace Mine
noncomputable def FigIs (n : Int) (f : Nat) : Prop := 1 ≤ f ∧ (f = 1 ∨ (10 : Int) ^ (f - 1) ≤ n) ∧ n < 10 ^ f
theorem p10 (k : Nat) : (10 : Int) ^ (k + 1) = 10 ^ k * 10 := Int.pow_succ 10 k
theorem p10_pos (k : Nat) : (0 : Int) < 10 ^ k := Int.pow_pos (by decide)
theorem p10_lt (k : Nat) : (k : Int) < 10 ^ k := by
 induction k with
 | zero => decide
 | succ k ih => rw [p10]; lia
theorem p10_mono {a b : Nat} (h : a ≤ b) : (10 : Int) ^ a ≤ 10 ^ b := by
 induction h with
 | refl => exact Int.le_refl _
 | step _ ih => rw [p10]; have := p10_pos a; lia
theorem n_figs {n : Int} {t : Tok} {nw : Led} (h0 : 0 ≤ n) (h1 : n < 1000000000000000000) : CtN 1 (.ref 58) [.int n t] nw fun v q_ => E2_2 (fun f t => v = .int (f : Nat) t) (fun f t => FigIs n f) := by
 refine code_vc (fun P => by k_is) (fun P => by k_is) rfl (by kernel_rfl) (by kernel_rfl) ?_
 intro c hC
 have hA := hC.toCAny
 intro t1 t2 D hD
 refine unpI (.head _) rfl (vst2 ?_)
 refine vwhl hC PassesOwn.never (fun m al nw' => E4_6 (fun (k : Nat) (b : Int) (tm tb : Tok) => al = hC.al [.int n t, .int k tm, .int b tb]) (fun (k : Nat) (b : Int) (tm tb : Tok) => Le nw nw') (fun (k : Nat) (b : Int) (tm tb : Tok) => b = 10 ^ k) (fun (k : Nat) (b : Int) (tm tb : Tok) => 1 ≤ k) (fun (k : Nat) (b : Int) (tm tb : Tok) => (k = 1 ∨ (10 : Int) ^ (k - 1) ≤ n)) (fun (k : Nat) (b : Int) (tm tb : Tok) => m = n.toNat + 2 - k)) _ ⟨1, 10, t1, t2, rfl, .one hD, rfl, Nat.le_refl _, .inl rfl, rfl⟩ ?_
 rintro m al nw' ⟨k, b, tm, tb, rfl, hl, hb, hk, hI, rfl⟩
 refine iteC (fun h => ?_) fun h => ?_
 · have hp := p10_lt k
   intro t3
   refine ⟨na ⟨Int.le_of_lt (hb ▸ p10_pos k), Int.le_trans h (Int.le_of_lt h1)⟩, fun t4 t5 t6 => ⟨n.toNat + 2 - (k + 1), Nat.sub_lt_sub_left (Nat.lt_succ_of_le (Nat.le_succ_of_le ((Int.le_toNat h0).mpr (Int.le_of_lt (Int.lt_of_lt_of_le hp (hb ▸ h)))))) (Nat.lt_succ_self k), k + 1, b * 10, _, _, rfl, hl, by rw [p10, hb], Nat.le_add_left .., .inr (by rw [Nat.add_sub_cancel, ← hb]; exact h), rfl⟩⟩
 · exact ⟨hl, k, _, rfl, hk, hI, hb ▸ Int.not_le.mp h⟩
theorem figsK {lev : Nat} {c : Cx} {E : VSP} {al : Al} {nw : Led} {K : VLP} {n : Int} {t : Tok} (h : CtN 1 (.ref 58) [.int n t] nw fun v q_ => E2_2 (fun f t => v = .int (f : Nat) t) (fun f t => FigIs n f)) (hA : CAny lev c) (k : ∀ (f : Nat) t n', Le nw n' → FigIs n f → K (.int f t) n') (hl : 1 ≤ lev := by decide) : RawS E c (call (.ref 58) [.int n t]) al nw K :=
 h.go hA (fun v n' l ⟨f, t, e, h⟩ => e ▸ k f t n' l h) hl
theorem n_round {x q : Int} {p : Nat} {t u : Tok} {nw : Led} (hx : x = q * 10 ^ p) (hq : 0 ≤ q) (h1 : 1 ≤ p) (h9 : p ≤ 9) (hx1 : x < 1000000000000000000) (hf : ∀ f, FigIs x f → p ≤ f + 1) : CtN 2 (.ref 65) [.int x t, .int p u] nw fun v q_ => ∃ t, v = .int q t := by
 have hp := p10_pos p
 have h0 : 0 ≤ x := by rw [hx]; exact Int.mul_nonneg hq (Int.le_of_lt hp)
 have hb : (10 : Int) ^ p ≤ 1000000000 := p10_mono h9
 have hr : x % 10 ^ p = 0 := by rw [hx]; exact Int.mul_emod_left ..
 have hd : x / 10 ^ p = q := by rw [hx]; exact Int.mul_ediv_cancel _ (Int.ne_of_gt hp)
 refine code_vc (fun P => by k_is) (fun P => by k_is) rfl (by kernel_rfl) (by kernel_rfl) ?_
 intro c hC
 have hA := hC.toCAny
 intro t1
 refine iteF (fun e => absurd (Int.ofNat_le.mp e) (Nat.not_le.mpr h1)) ?_
 refine figsK (n_figs h0 hx1) hA fun f t2 n hl hF => ?_
 intro t3 t4
 refine iteF (fun e => absurd (Int.ofNat_lt.mp e : f + 1 < p) (Nat.not_lt.mpr (hf f hF))) ?_
 intro t5
 refine ⟨rfl, by exact Int.natCast_nonneg _, Int.ofNat_le.mpr (nt h9), fun t6 => ?_⟩
 have e : ((p : Int)).toNat = p := rfl
 refine ⟨hp, na ⟨Int.le_of_lt hp, hb⟩, fun t7 => ⟨hp, fun t8 D hD => unpI List.mem_cons_self rfl ?_⟩⟩
 refine e ▸ hr ▸ hd ▸ ?_
 intro t9
 refine ⟨by decide, fun t10 => iteF (Int.not_lt.mpr (Int.le_of_lt hp)) fun t11 => ⟨by decide, fun t12 => iteF (Int.ne_of_lt hp) (iteF' ⟨hl.cons hD, _, rfl⟩)⟩⟩
theorem abs10 {c m b : Int} {j : Nat} (hc : c = m * 10 ^ j) (hm : m % 10 ≠ 0) (h0 : 0 ≤ b) (h1 : b = c ∨ b = -c) : E1_3 (fun a => ((a = m ∧ 0 ≤ c) ∨ (a = -m ∧ c < 0))) (fun a => b = a * 10 ^ j) (fun a => 0 < a) := by
 have hp := p10_pos j
 rcases Int.lt_trichotomy m 0 with h | rfl | h
 · have hc' : c < 0 := hc ▸ Int.mul_neg_of_neg_of_pos h hp
   exact ⟨-m, .inr ⟨rfl, hc'⟩, (h1.resolve_left fun e => absurd h0 (e ▸ Int.not_le.mpr hc')).trans (by rw [hc, Int.neg_mul]), Int.neg_pos_of_neg h⟩
 · exact absurd rfl hm
 · have hc' : 0 < c := hc ▸ Int.mul_pos h hp
   exact ⟨m, .inl ⟨rfl, Int.le_of_lt hc'⟩, (h1.resolve_right fun e => absurd h0 (e ▸ Int.not_le.mpr (Int.neg_neg_of_pos hc'))).trans hc, h⟩
theorem p10_lt_iff {a b : Nat} (h : (10 : Int) ^ a < 10 ^ b) : a < b := Nat.lt_of_not_le fun k => absurd h (Int.not_lt.mpr (p10_mono k))
theorem fig_le {n : Int} {f k : Nat} (h : FigIs n f) (hn : n < 10 ^ k) (hk : 1 ≤ k) : f ≤ k := h.2.1.elim (fun e => e ▸ hk) fun e => Nat.le_of_pred_lt (p10_lt_iff (Int.lt_of_le_of_lt e hn))
theorem dig_lt {a : Int} {j : Nat} (h : a ≤ 999) : a * 10 ^ j < 10 ^ (j + 3) := by
 have := Int.mul_lt_mul_of_pos_right (Int.lt_of_le_of_lt h (by decide : (999 : Int) < 10 ^ 3)) (p10_pos j)
 rw [Int.mul_comm (10 ^ 3), ← Int.pow_add] at this
 exact this
theorem subS {x : Int} {q : Nat} : x - ((q + 1 : Nat) : Int) + 1 = x - q := by lia
theorem madeE {e e3 : Int} {j f : Nat} (h : e3 = e + j - (0 : Nat)) (hj : j ≤ 14) (he : -50 ≤ e ∧ e ≤ 50) (hf : f ≤ 3) : ¬ e3 + f - 1 > 99 ∧ ¬ e3 + f - 1 < -99 := by lia
inductive TupP (nw : Led) (a b : Int) (v : Value) (n : Led) : Prop
 | pk (r : Addr) (t1 t2 : Tok) (k : Nat) : v = .ref r → (r, tup [.int a t1, .int b t2] k) ∈ n → (∀ q ∈ nw, q.1 < r) → TupP nw a b v n
theorem n_made {cc e m : Int} {j : Nat} {t t' t'' : Tok} {nw : Led} (hc : cc = m * 10 ^ j) (hm : m % 10 ≠ 0) (hb : -999 ≤ m ∧ m ≤ 999) (hj : j ≤ 14) (he : -50 ≤ e ∧ e ≤ 50) : CtN 3 (.ref 72) [.int cc t, .int e t', .int 9 t''] nw (TupP nw m (e + j)) := by
 refine code_vc (fun P => by k_is) (fun P => by k_is) rfl (by kernel_rfl) (by kernel_rfl) ?_
 intro c hC
 have hA := hC.toCAny
 refine r_abs1 fun b vb hb0 hb1 => ?_
 obtain ⟨a, ha, hba, hap⟩ := abs10 hc hm hb0 hb1
 have ha9 : a ≤ 999 := ha.elim (fun e => e.1 ▸ hb.2) fun e => e.1 ▸ Int.neg_le_neg hb.1
 have ham : a % 10 ≠ 0 := ha.elim (fun e => e.1 ▸ hm) fun e => e.1 ▸ fun h => hm (Int.emod_eq_zero_of_dvd (Int.dvd_neg.mp (Int.dvd_of_emod_eq_zero h)))
 have hbig : b < 10 ^ (j + 3) := hba ▸ dig_lt ha9
 have h17 : (10 : Int) ^ (j + 3) ≤ 10 ^ 17 := p10_mono (Nat.add_le_add_right hj 3)
 have hb18 : b < 1000000000000000000 := Int.lt_of_lt_of_le hbig (Int.le_trans h17 (by decide))
 refine figsK (n_figs hb0 hb18) hA fun f t1 n1 hl1 hF => ?_
 intro t2 t3
 generalize hR : (fun (a2 : Al) (n2 : Led) => vcS _ _ _ _ _ _ _ _ a2 n2 _) = R
 have rest : ∀ (i : Nat) (x e2 : Int) (u1 u2 : Tok) (n2 : Led), i ≤ j → x = a * 10 ^ i → e2 = e + j - i → Le nw n2 → R (hC.al [.int cc t, .int e2 u1, .int 9 t'', .int x u2, .int (f - 9) t2]) n2 := by
  intro i x e2 u1 u2 n2 hi hx he2 hl2
  subst hR
  intro t4
  refine iteF (Int.ne_of_gt (hx ▸ Int.mul_pos hap (p10_pos i))) ?_
  refine vnil (vwhl hC PassesOwn.never (fun q al n3 => E5_5 (fun (k : Nat) (x e3 : Int) (u1 u2 : Tok) => al = hC.al [.int cc t, .int e3 u1, .int 9 t'', .int x u2, .int (f - 9) t2]) (fun (k : Nat) (x e3 : Int) (u1 u2 : Tok) => Le nw n3) (fun (k : Nat) (x e3 : Int) (u1 u2 : Tok) => x = a * 10 ^ k) (fun (k : Nat) (x e3 : Int) (u1 u2 : Tok) => e3 = e + j - k) (fun (k : Nat) (x e3 : Int) (u1 u2 : Tok) => q = k)) i ⟨i, x, e2, u1, u2, rfl, hl2, hx, he2, rfl⟩ ?_)
  rintro q al n3 ⟨k, x, e3, u1, u2, rfl, hl3, hx, he3, rfl⟩
  intro t5
  refine ⟨by decide, fun t6 t7 => ?_⟩
  cases q with
  | succ q =>
   have hx' : x = a * 10 ^ q * 10 := by rw [hx, p10, Int.mul_assoc]
   refine iteT (by rw [hx']; exact Int.mul_emod_left ..) ?_
   intro t8
   refine ⟨by decide, by decide, fun t9 t10 t11 D hD => unpI List.mem_cons_self rfl ⟨q, Nat.lt_succ_self _, q, x / 10, e3 + 1, t11, t9, rfl, hl3.cons hD, by rw [hx']; exact Int.mul_ediv_cancel _ (by decide), he3 ▸ subS, rfl⟩⟩
  | zero =>
   have hxa : x = a := by rw [hx]; exact Int.mul_one a
   subst hxa
   refine iteF ham ?_
   refine figsK (n_figs (Int.le_of_lt hap) (Int.lt_of_le_of_lt ha9 (by decide))) hA fun f2 t8 n4 hl4 hF2 => ?_
   have hf2 := fig_le (k := 3) hF2 (Int.lt_of_le_of_lt ha9 (by decide)) (by decide)
   intro t9 t10 t11
   have hee := madeE he3 hj he hf2
   refine iteF hee.1 ?_
   intro t12
   refine iteF hee.2 ?_
   intro t13
   obtain rfl : e3 = e + j := he3.trans (Int.sub_zero _)
   refine iteC (fun h => ?_) fun h => ?_
   · obtain rfl : m = -x := ha.elim (fun e => absurd h (Int.not_lt.mpr e.2)) fun e => by rw [e.1, Int.neg_neg]
     exact fun t14 D hD => ⟨(hl3.trans hl4).cons hD, D, _, _, _, rfl, List.mem_cons_self, fun q hq => hD q ((hl3.trans hl4).sub q hq)⟩
   · obtain rfl : m = x := ha.elim (fun e => e.1.symm) fun e => absurd e.2 h
     exact fun D hD => ⟨(hl3.trans hl4).cons hD, D, _, _, _, rfl, List.mem_cons_self, fun q hq => hD q ((hl3.trans hl4).sub q hq)⟩
 refine iteC (fun h => ?_) fun h => rest j b e _ _ _ (Nat.le_refl _) hba (Int.add_sub_cancel e j).symm hl1
 have hfj : f ≤ j + 3 := fig_le hF hbig (Nat.le_add_left ..)
 have h9 : 9 < f := Int.ofNat_lt.mp (Int.lt_of_sub_pos h)
 have hfq : f - 9 ≤ j := Nat.sub_le_of_le_add (Nat.le_trans hfj (Nat.add_le_add_left (by decide) j))
 have ep : (f : Int) - 9 = ((f - 9 : Nat) : Int) := (Int.ofNat_sub (Nat.le_of_lt h9)).symm
 have hR := n_round (t := vb) (u := t2) (nw := n1) (x := b) (q := a * 10 ^ (j - (f - 9))) (p := f - 9) (by rw [Int.mul_assoc, ← Int.pow_add, Nat.sub_add_cancel hfq]; exact hba) (Int.le_of_lt (Int.mul_pos hap (p10_pos _))) (Nat.sub_pos_of_lt h9) (Nat.sub_le_of_le_add (Nat.le_trans hfj (Nat.le_trans (Nat.add_le_add_right hj 3) (by decide)))) hb18 (fun f' hf' => by
  rcases hF.2.1 with h | h
  · rw [h]; exact Nat.zero_le _
  · exact Nat.le_trans (Nat.sub_le_sub_left (by decide : 1 ≤ 9) f) (Nat.le_succ_of_le (Nat.le_of_lt (p10_lt_iff (Int.lt_of_le_of_lt h hf'.2.2)))))
 rw [← ep] at hR
 refine hR.go hA fun v n2 hl2 z4 => ?_
 obtain ⟨t4, hv⟩ := z4
 subst hv
 exact fun t5 D hD => unpI List.mem_cons_self rfl (rest (j - (f - 9)) _ (e + (f - 9)) t5 t4 _ (Nat.sub_le ..) rfl (by rw [ep, Int.ofNat_sub hfq, Int.add_sub_assoc, Int.sub_sub_self]) ((hl1.trans hl2).cons hD))
theorem n_made0 {e : Int} {t t' t'' : Tok} {nw : Led} : CtN 3 (.ref 72) [.int 0 t, .int e t', .int 9 t''] nw (TupP nw 0 0) := by
 refine code_vc (fun P => by k_is) (fun P => by k_is) rfl (by kernel_rfl) (by kernel_rfl) ?_
 intro c hC
 have hA := hC.toCAny
 refine r_abs1 fun b vb hb0 hb1 => ?_
 obtain rfl : b = 0 := hb1.elim id id
 refine figsK (n_figs (Int.le_refl 0) (by decide)) hA fun f t1 n1 hl1 hF => ?_
 have hf := fig_le (k := 1) hF (by decide) (by decide)
 intro t2 t3
 refine iteF (fun e => absurd (Int.ofNat_lt.mp (Int.lt_of_sub_pos e) : 9 < f) (Nat.not_lt.mpr (nt hf))) ?_
 intro t4
 exact iteT rfl fun t5 t6 D hD => ⟨hl1.cons hD, D, _, _, _, rfl, List.mem_cons_self, fun q hq => hD q (hl1.sub q hq)⟩
end Mine
namespace Mine
noncomputable def Dec (c e n : Int) : Prop := (n = 0 ∧ c = 0) ∨ E1_6 (fun (j : Nat) => c = nc n * 10 ^ j) (fun (j : Nat) => nc n % 10 ≠ 0) (fun (j : Nat) => (-999 ≤ nc n ∧ nc n ≤ 999)) (fun (j : Nat) => j ≤ 14) (fun (j : Nat) => (-50 ≤ e ∧ e ≤ 50)) (fun (j : Nat) => ne n = e + j)
set_option synthInstance.maxHeartbeats 400000 in
set_option synthInstance.maxSize 1000 in
theorem dec_of {c e n : Int} (h : IsN c e n) (hn : -999 ≤ n ∧ n ≤ 999) : Dec c e n := by
 obtain ⟨k, rfl, hk, h⟩ := isN_all (P := fun k c n => n = 0 ∧ c = 0 ∨ c = nc n * 10 ^ ((ne n).toNat - k) ∧ nc n % 10 ≠ 0 ∧ (ne n).toNat - k ≤ 14 ∧ ne n = k + ((ne n).toNat - k : Nat)) (by decide +kernel) h hn
 exact h.imp id fun q => ⟨_, q.1, q.2.1, (nrmF hn).2.1, q.2.2.1, ⟨Int.le_trans (by decide) (Int.natCast_nonneg k), Int.le_trans (Int.ofNat_le.mpr (Nat.le_of_lt hk)) (by decide)⟩, q.2.2.2⟩
theorem isN_b {c e n : Int} (h : IsN c e n) (hn : -999 ≤ n ∧ n ≤ 999) : c.natAbs < 2 ^ 64 := let ⟨_, _, _, h⟩ := isN_all (P := fun q_ c q_ => c.natAbs < 2 ^ 64) (by decide +kernel) h hn; h
theorem n_dec {cc e n : Int} {t t' t'' : Tok} {nw : Led} (h : Dec cc e n) : CtN 3 (.ref 72) [.int cc t, .int e t', .int 9 t''] nw fun v n' => NumF nw n' true v n := by
 rcases h with ⟨rfl, rfl⟩ | ⟨j, h1, h2, h3, h4, h5, h6⟩
 · exact CtG.wk n_made0 fun v n y1 => by obtain ⟨r, t1, t2, k, e, m, f⟩ := y1; subst e; exact .d m f
 · exact CtG.wk (n_made h1 h2 h3 h4 h5) fun v n y2 => by obtain ⟨r, t1, t2, k, e, m, f⟩ := y2; subst e; exact .d (by rw [h6]; exact m) f
theorem n_decof {b : Bool} {v : Value} {n : Int} {t : Tok} {nw : Led} (h : Num nw b v n) (hn : -999 ≤ n ∧ n ≤ 999) : CtN 4 (.ref 100) [v, .int 9 t] nw fun v n' => NumF nw n' true v n := by
 cases h with
 | i n u =>
  refine code_vc (fun P => by k_is) (fun P => by k_is) rfl (by kernel_rfl) (by kernel_rfl) ?_
  intro c hC
  have hA := hC.toCAny
  refine r_isIS (iteF' ?_)
  refine r_isIT (iteF' ?_)
  exact fun t0 => (n_dec (dec_of ⟨0, by decide, rfl, Int.mul_one _⟩ hn)).go hA fun v n hl h => ⟨hl, h⟩
 | d hm =>
  refine code_vc (fun P => by k_is) (fun P => by k_is) rfl (by kernel_rfl) (by kernel_rfl) ?_
  intro c hC
  have hA := hC.toCAny
  refine r_isTS hm (iteF' ?_)
  refine r_isTT hm (iteT' ?_)
  intro t0 ea eb hs
  refine r_idxT hs hm (by decide) (by decide) rfl ?_
  intro t1 ea eb hs
  refine r_idxT hs hm (by decide) (by decide) rfl ?_
  exact (n_dec (dec_of (nrm_isN hn) hn)).go hA fun v n hl h => ⟨hl, h⟩
theorem n_fits {n : Int} {t t' : Tok} {nw : Led} (hn : -30000 ≤ n ∧ n ≤ 30000) : CtN 1 (.ref 86) [.int n t, .int 16 t'] nw fun v q_ => v = .bool true := by
 refine code_vc (fun P => by k_is) (fun P => by k_is) rfl (by kernel_rfl) (by kernel_rfl) ?_
 intro c hC
 have hA := hC.toCAny
 intro t1 t2 t3
 refine r_lsh1 rfl rfl fun t4 t5 => ?_
 refine iteT (Int.le_trans (by decide) hn.1) ?_
 intro t6 t7 t8
 refine r_lsh1 rfl rfl fun t9 => ⟨.refl, congrArg _ (decide_eq_true (Int.lt_of_le_of_lt hn.2 (by decide)))⟩
theorem n_near {n : Int} {r : Addr} {t u : Tok} {k : Nat} {nw : Led} (hm : (r, tup [.int (nc n) t, .int (ne n) u] k) ∈ nw) (hn : -999 ≤ n ∧ n ≤ 999) : CtN 2 (.ref 79) [.ref r] nw fun v q_ => ∃ t, v = .int n t := by
 refine code_vc (fun P => by k_is) (fun P => by k_is) rfl (by kernel_rfl) (by kernel_rfl) ?_
 intro c hC
 have hA := hC.toCAny
 refine unpI hm rfl ?_
 intro t1
 have h02 := ne_b hn
 refine iteT h02.1 ?_
 intro t2
 exact ⟨rfl, h02.1, ir h02, fun t3 => ⟨nc_b hn, fun t4 => ⟨.refl, t4, congrArg (Value.int · t4) (nrmF hn).1.2.2⟩⟩⟩
theorem n_whole {b : Bool} {v : Value} {n : Int} {t : Tok} {nw : Led} (h : Num nw b v n) (hn : -999 ≤ n ∧ n ≤ 999) : CtN 3 (.ref 93) [v, .int 16 t] nw fun v q_ => ∃ t, v = .int n t := by
 cases h with
 | i n u =>
  refine code_vc (fun P => by k_is) (fun P => by k_is) rfl (by kernel_rfl) (by kernel_rfl) ?_
  intro c hC
  have hA := hC.toCAny
  refine r_isIS (iteF' ?_)
  refine r_isIT (iteF' ?_)
  refine (n_fits (by exact ib ‹_›)).go hA fun v n hl e => ?_
  subst e
  exact iteF' ⟨hl, _, rfl⟩
 | d hm =>
  refine code_vc (fun P => by k_is) (fun P => by k_is) rfl (by kernel_rfl) (by kernel_rfl) ?_
  intro c hC
  have hA := hC.toCAny
  refine r_isTS hm (iteF' ?_)
  refine r_isTT hm (iteT' ?_)
  refine (n_near hm hn).go hA fun v n hl z1 => ?_
  obtain ⟨t1, e⟩ := z1
  subst e
  refine (n_fits (by exact ib ‹_›)).go hA fun v n hl2 e => ?_
  subst e
  exact iteF' ⟨hl.trans hl2, _, rfl⟩
theorem n_suited {b d : Bool} {v : Value} {n : Int} {t t' tk : Tok} {nw : Led} (h : Num nw b v n) (hn : -999 ≤ n ∧ n ≤ 999) : CtN 5 (.ref 121) [v, .str (kindS d) tk, .int 16 t, .int 9 t'] nw fun v n' => NumF nw n' d v n := by
 refine code_vc (fun P => by k_is) (fun P => by k_is) rfl (by kernel_rfl) (by kernel_rfl) ?_
 intro c hC
 have hA := hC.toCAny
 intro t1
 refine iteFb (by cases d <;> kernel_rfl) ?_
 intro t2
 cases d with
 | false =>
  refine iteTb (by kernel_rfl) ?_
  refine (n_whole h hn).go hA fun v n hl z2 => ?_
  obtain ⟨t, e⟩ := z2
  subst e
  exact ⟨hl, .i⟩
 | true =>
  refine iteFb (by kernel_rfl) ?_
  exact (n_decof h hn).go hA fun v n hl h => ⟨hl, h⟩
theorem n_isw {b : Bool} {v : Value} {n : Int} {nw : Led} (h : Num nw b v n) : CtN 1 (.ref 192) [v] nw fun v q_ => v = .bool (!b) := by
 cases h with
 | i n u =>
  refine code_vc (fun P => by k_is) (fun P => by k_is) rfl (by kernel_rfl) (by kernel_rfl) ?_
  intro c hC
  have hA := hC.toCAny
  exact r_isIS (iteF' (r_isIT ⟨.refl, rfl⟩))
 | d hm =>
  refine code_vc (fun P => by k_is) (fun P => by k_is) rfl (by kernel_rfl) (by kernel_rfl) ?_
  intro c hC
  have hA := hC.toCAny
  exact r_isTS hm (iteF' (r_isTT hm ⟨.refl, rfl⟩))
theorem n_settled {n : Int} {t t' t'' : Tok} {nw : Led} (hn : -999 ≤ n ∧ n ≤ 999) : CtN 2 (.ref 199) [.int n t, .int 16 t', .int 9 t''] nw fun v q_ => v = .int n t := by
 refine code_vc (fun P => by k_is) (fun P => by k_is) rfl (by kernel_rfl) (by kernel_rfl) ?_
 intro c hC
 have hA := hC.toCAny
 refine (n_fits (by exact ib ‹_›)).go hA fun v n hl e => ?_
 subst e
 exact iteT' ⟨hl, rfl⟩
end Mine
namespace Mine
def oS : Option Bool → Str
 | none => Str.ofString "+"
 | some false => Str.ofString "-"
 | some true => Str.ofString "*"
noncomputable def oI (o : Option Bool) (x y : Int) : Int := match o with
 | none => x + y
 | some false => x - y
 | some true => x * y
theorem n_wreck {o : Option Bool} {x y : Int} {t0 t u t' t'' : Tok} {nw : Led} (hx : -999 ≤ x ∧ x ≤ 999) (hn : -999 ≤ oI o x y ∧ oI o x y ≤ 999) : CtN 3 (.ref 206) [.str (oS o) t0, .int x t, .int y u, .int 16 t', .int 9 t''] nw fun v q_ => ∃ t, v = .int (oI o x y) t := by
 have fin : ∀ {c : Cx} {E : VSP} {al : Al} {t}, CAny 2 c → RawS E c (call (.ref 199) [.int (oI o x y) t, .int 16 t', .int 9 t'']) al nw fun v n => Pst nw (fun v q_ => ∃ t, v = .int (oI o x y) t) v n := fun hA =>
  (n_settled hn).go hA fun v n hl e => ⟨hl, _, e⟩
 refine code_vc (fun P => by k_is) (fun P => by k_is) rfl (by kernel_rfl) (by kernel_rfl) ?_
 intro c hC
 have hA := hC.toCAny
 intro t1
 cases o with
 | none => exact iteTb (by kernel_rfl) fun t2 => fin hA
 | some b =>
  refine iteFb (by cases b <;> kernel_rfl) fun t2 => ?_
  cases b with
  | false => exact iteTb (by kernel_rfl) fun t3 => fin hA
  | true => exact iteFb (by kernel_rfl) ⟨na hx, fun t3 => fin hA⟩
theorem n_neg {cc e : Int} {t u : Tok} {r : Addr} {k : Nat} {nw : Led} (hm : (r, tup [.int cc t, .int e u] k) ∈ nw) : CtN 1 (.ref 129) [.ref r] nw fun v n => E4_2 (fun r t u k => v = .ref r) (fun r t u k => (r, tup [.int (0 - cc) t, .int e u] k) ∈ n) := by
 refine code_vc (fun P => by k_is) (fun P => by k_is) rfl (by kernel_rfl) (by kernel_rfl) ?_
 intro c hC
 have hA := hC.toCAny
 intro t0 t1 ea eb hs
 refine r_idxT hs hm (by decide) (by decide) rfl fun t2 t3 ea eb hs => ?_
 exact r_idxT hs hm (by decide) (by decide) rfl fun D hD => ⟨.one hD, D, _, _, _, rfl, List.mem_cons_self⟩
theorem n_alike {x y c1 e1 c2 e2 : Int} {t1 t2 t3 t4 : Tok} {ra rb : Addr} {k1 k2 : Nat} {nw : Led} (hx : IsN c1 e1 x) (hy : IsN c2 e2 y) (ha : (ra, tup [.int c1 t1, .int e1 t2] k1) ∈ nw) (hb : (rb, tup [.int c2 t3, .int e2 t4] k2) ∈ nw) (b1 : -999 ≤ x ∧ x ≤ 999) (b2 : -999 ≤ y ∧ y ≤ 999) :
 CtN 1 (.ref 136) [.ref ra, .ref rb] nw fun v n => E8_4 (fun r i j l t1 t2 t3 k => v = .ref r) (fun r i j l t1 t2 t3 k => (r, tup [.int i t1, .int j t2, .int l t3] k) ∈ n) (fun r i j l t1 t2 t3 k => IsN i l x) (fun r i j l t1 t2 t3 k => IsN j l y) := by
 have z1 := isN_b hx b1
 have z2 := isN_b hy b2
 obtain ⟨k1, a1, rfl, e1⟩ := hx
 obtain ⟨k2, a2, rfl, e2⟩ := hy
 refine code_vc (fun P => by k_is) (fun P => by k_is) rfl (by kernel_rfl) (by kernel_rfl) ?_
 intro c hC
 have hA := hC.toCAny
 intro t5 ea eb hs
 refine r_idxT hs ha (by decide) (by decide) rfl fun t6 ea eb hs => ?_
 refine r_idxT hs hb (by decide) (by decide) rfl ?_
 refine r_min2 hA fun l v hl h3 h4 => ?_
 obtain ⟨q, rfl⟩ : ∃ q : Nat, l = q := hl.elim (fun e => ⟨_, e⟩) fun e => ⟨_, e⟩
 have up : ∀ {k : Nat}, k ≤ 2 → (k : Int) - q ≤ 1000 := fun h => Int.le_trans (Int.sub_le_self _ (Int.natCast_nonneg _)) (it (Int.ofNat_le.mpr h))
 intro t7 ea eb hs
 refine r_idxT hs ha (by decide) (by decide) rfl fun t8 t9 ea eb hs => ?_
 refine r_idxT hs ha (by decide) (by decide) rfl fun t10 => ⟨rfl, Int.sub_nonneg_of_le h3, up a1, fun t11 => ⟨z1, fun t12 => ?_⟩⟩
 intro t13 ea eb hs
 refine r_idxT hs hb (by decide) (by decide) rfl fun t14 t15 ea eb hs => ?_
 refine r_idxT hs hb (by decide) (by decide) rfl fun t16 => ⟨rfl, Int.sub_nonneg_of_le h4, up a2, fun t17 => ⟨z2, fun t18 D hD => ?_⟩⟩
 exact ⟨.one hD, D, _, _, _, _, _, _, _, rfl, List.mem_cons_self, isN_scale ⟨k1, a1, rfl, e1⟩ h3, isN_scale ⟨k2, a2, rfl, e2⟩ h4⟩
theorem n_dadd {x y c1 e1 c2 e2 : Int} {t1 t2 t3 t4 t' : Tok} {ra rb : Addr} {k1 k2 : Nat} {nw : Led} (hx : IsN c1 e1 x) (hy : IsN c2 e2 y) (ha : (ra, tup [.int c1 t1, .int e1 t2] k1) ∈ nw) (hb : (rb, tup [.int c2 t3, .int e2 t4] k2) ∈ nw) (b1 : -999 ≤ x ∧ x ≤ 999) (b2 : -999 ≤ y ∧ y ≤ 999) (hn : -999 ≤ x + y ∧ x + y ≤ 999) :
 CtN 4 (.ref 143) [.ref ra, .ref rb, .int 9 t'] nw fun v n' => NumF nw n' true v (x + y) := by
 refine code_vc (fun P => by k_is) (fun P => by k_is) rfl (by kernel_rfl) (by kernel_rfl) ?_
 intro c hC
 have hA := hC.toCAny
 refine (n_alike hx hy ha hb b1 b2).go hA fun v n hl z1 => ?_
 obtain ⟨r, i, j, l, u1, u2, u3, k, e, hm, h1, h2⟩ := z1
 subst e
 refine unpI hm rfl fun t5 => ?_
 exact (n_dec (dec_of (isN_plus h1 h2) hn)).go hA fun v n hl2 h => ⟨hl.trans hl2, h.le hl.sub⟩
theorem n_dsub {x y c1 e1 c2 e2 : Int} {t1 t2 t3 t4 t' : Tok} {ra rb : Addr} {k1 k2 : Nat} {nw : Led} (hx : IsN c1 e1 x) (hy : IsN c2 e2 y) (ha : (ra, tup [.int c1 t1, .int e1 t2] k1) ∈ nw) (hb : (rb, tup [.int c2 t3, .int e2 t4] k2) ∈ nw) (b1 : -999 ≤ x ∧ x ≤ 999) (b2 : -999 ≤ y ∧ y ≤ 999) (hn : -999 ≤ x - y ∧ x - y ≤ 999) :
 CtN 5 (.ref 150) [.ref ra, .ref rb, .int 9 t'] nw fun v n' => NumF nw n' true v (x - y) := by
 have hy' := isN_neg hy
 refine code_vc (fun P => by k_is) (fun P => by k_is) rfl (by kernel_rfl) (by kernel_rfl) ?_
 intro c hC
 have hA := hC.toCAny
 refine (n_neg hb).go hA fun v n hl z2 => ?_
 obtain ⟨r, u1, u2, k, e, hm⟩ := z2
 subst e
 have := n_dadd (t' := t') hx hy' (hl.sub _ ha) hm b1 ⟨Int.neg_le_neg b2.2, Int.neg_le_neg b2.1⟩ (by rw [← Int.sub_eq_add_neg]; exact hn)
 rw [← Int.sub_eq_add_neg] at this
 exact this.go hA fun v n hl2 h => ⟨hl.trans hl2, h.le hl.sub⟩
theorem n_dmul {x y : Int} {t1 t2 t3 t4 t' : Tok} {ra rb : Addr} {k1 k2 : Nat} {nw : Led} (ha : (ra, tup [.int (nc x) t1, .int (ne x) t2] k1) ∈ nw) (hb : (rb, tup [.int (nc y) t3, .int (ne y) t4] k2) ∈ nw) (b1 : -9 ≤ x ∧ x ≤ 9) (b2 : -9 ≤ y ∧ y ≤ 9) (hn : -999 ≤ x * y ∧ x * y ≤ 999) :
 CtN 4 (.ref 157) [.ref ra, .ref rb, .int 9 t'] nw fun v n' => NumF nw n' true v (x * y) := by
 rw [nc_small b1, ne_small b1] at ha
 rw [nc_small b2, ne_small b2] at hb
 refine code_vc (fun P => by k_is) (fun P => by k_is) rfl (by kernel_rfl) (by kernel_rfl) ?_
 intro c hC
 have hA := hC.toCAny
 intro t5 ea eb hs
 refine r_idxT hs ha (by decide) (by decide) rfl fun t6 ea eb hs => ?_
 refine r_idxT hs hb (by decide) (by decide) rfl ⟨na b1, fun t7 => ?_⟩
 intro t8 ea eb hs
 refine r_idxT hs ha (by decide) (by decide) rfl fun t6 ea eb hs => ?_
 refine r_idxT hs hb (by decide) (by decide) rfl fun t9 => ?_
 exact (n_dec (dec_of ⟨0, by decide, rfl, Int.mul_one _⟩ hn)).go hA fun v n hl h => ⟨hl, h⟩
noncomputable def oOk (o : Option Bool) (x y : Int) : Prop := (-999 ≤ x ∧ x ≤ 999) ∧ (-999 ≤ y ∧ y ≤ 999) ∧ (-999 ≤ oI o x y ∧ oI o x y ≤ 999) ∧ (o = some true → (-9 ≤ x ∧ x ≤ 9) ∧ (-9 ≤ y ∧ y ≤ 9))
theorem Num.tup {nw : Led} {v : Value} {n : Int} (h : Num nw true v n) : E4_2 (fun r t1 t2 k => v = .ref r) (fun r t1 t2 k => (r, Mine.tup [.int (nc n) t1, .int (ne n) t2] k) ∈ nw) := by
 cases h with
 | d hm => exact ⟨_, _, _, _, rfl, hm⟩
theorem n_reck {o : Option Bool} {x y : Int} {v1 v2 : Value} {t0 t' t'' : Tok} {p q : Bool} {nw : Led} (h1 : Num nw p v1 x) (h2 : Num nw q v2 y) (ok : oOk o x y) : CtN 6 (.ref 248) [.str (oS o) t0, v1, v2, .int 16 t', .int 9 t''] nw fun v n' => NumF nw n' (p || q) v (oI o x y) := by
 obtain ⟨b1, b2, b3, b4⟩ := ok
 refine code_vc (fun P => by k_is) (fun P => by k_is) rfl (by kernel_rfl) (by kernel_rfl) ?_
 intro c hC
 have hA := hC.toCAny
 refine (n_isw h1).go hA fun v n1 l1 e => ?_
 subst e
 refine (n_isw (h2.mono l1.sub)).go hA fun v n2 l2 e => ?_
 subst e
 intro D hD
 have l3 := (l1.trans l2).cons (o := Mine.tup [.bool (!p), .bool (!q)] 0) hD
 refine unpI List.mem_cons_self rfl ?_
 intro t1
 refine iteFb (by rcases o with _ | _ | _ <;> kernel_rfl) ?_
 intro t2
 refine iteFb (by rcases o with _ | _ | _ <;> kernel_rfl) ?_
 intro t3
 refine iteFb (by rcases o with _ | _ | _ <;> kernel_rfl) ?_
 intro t4
 generalize hR : (fun (a2 : Al) (n2 : Led) => vcS _ _ _ _ _ _ _ _ a2 n2 _) = R
 refine iteTb (by rcases o with _ | _ | _ <;> kernel_rfl) ?_
 have m1 := h1.mono l3.sub
 have m2 := h2.mono l3.sub
 have rest : (p || q) = true → R (hC.al [.str (oS o) t0, v1, v2, .int 16 t', .int 9 t'', .bool (!p), .bool (!q)]) ((D, Mine.tup [.bool (!p), .bool (!q)] 0) :: n2) := fun hpq => by
  subst hR
  refine (n_decof m1 b1).go hA fun u1 n3 l4 d1 => ?_
  refine (n_decof (m2.mono l4.sub) b2).go hA fun u2 n4 l5 d2 => ?_
  obtain ⟨r1, t5, t6, k1, rfl, g1⟩ := d1.1.tup
  obtain ⟨r2, t7, t8, k2, rfl, g2⟩ := d2.1.tup
  have g1 := l5.sub _ g1
  intro D2 hD2
  have l6 := (l3.trans (l4.trans l5)).cons (o := Mine.tup [.ref r1, .ref r2] 0) hD2
  have g1 := jC (D2, Mine.tup [.ref r1, .ref r2] 0) g1
  have g2 := jC (D2, Mine.tup [.ref r1, .ref r2] 0) g2
  refine unpI List.mem_cons_self rfl fun t9 => ?_
  cases o with
  | none => exact iteTb (by kernel_rfl) ((n_dadd (nrm_isN b1) (nrm_isN b2) g1 g2 b1 b2 b3).go hA fun v n hl h => ⟨l6.trans hl, by show NumF nw n (p || q) v _; rw [hpq]; exact h.le l6.sub⟩)
  | some b =>
   refine iteFb (by cases b <;> kernel_rfl) fun t10 => ?_
   cases b with
   | false => exact iteTb (by kernel_rfl) ((n_dsub (nrm_isN b1) (nrm_isN b2) g1 g2 b1 b2 b3).go hA fun v n hl h => ⟨l6.trans hl, by show NumF nw n (p || q) v _; rw [hpq]; exact h.le l6.sub⟩)
   | true => exact iteFb (by kernel_rfl) fun t11 => iteTb (by kernel_rfl) ((n_dmul g1 g2 (b4 rfl).1 (b4 rfl).2 b3).go hA fun v n hl h => ⟨l6.trans hl, by show NumF nw n (p || q) v _; rw [hpq]; exact h.le l6.sub⟩)
 cases p with
 | false =>
  cases q with
  | false =>
   refine iteT' (iteT' ?_)
   cases m1; cases m2
   exact (n_wreck b1 b3).go hA fun v n hl ⟨t, e⟩ => ⟨l3.trans hl, e ▸ .i⟩
  | true => exact iteT' (iteF' (rest rfl))
 | true => exact iteF' (iteF' (rest rfl))
end Mine
namespace Mine
theorem n_plus {x y : Int} {v1 v2 : Value} {p q : Bool} {m yb : Addr} {nw : Led} (hq : (m, methodObj (.ref 485) (.ref yb)) ∈ nw) (hy : RkIn nw yb) (h1 : Num nw p v1 x) (h2 : Num nw q v2 y) (ok : oOk none x y) : CtN 7 (.ref m) [v1, v2] nw fun v n' => NumF nw n' (p || q) v (oI none x y) := by
 obtain ⟨d, es, k, tb, td, m1, m2, g1, g2⟩ := hy
 refine CtG.meth hq ?_
 refine code_vc (fun P => by k_is) (fun P => by k_is) rfl (by kernel_rfl) (by kernel_rfl) ?_
 intro c hC
 have hA := hC.toCAny
 intro t0
 refine r_attr hA m1 m2 ⟨by k_is, by k_is, _, by k_is, by k_is⟩ g1 rfl ?_
 refine r_attr hA m1 m2 ⟨by k_is, by k_is, _, by k_is, by k_is⟩ g2 rfl ?_
 exact (n_reck h1 h2 ok).go hA fun v n hl h => ⟨hl, h⟩
theorem n_less {x y : Int} {v1 v2 : Value} {p q : Bool} {m yb : Addr} {nw : Led} (hq : (m, methodObj (.ref 492) (.ref yb)) ∈ nw) (hy : RkIn nw yb) (h1 : Num nw p v1 x) (h2 : Num nw q v2 y) (ok : oOk (some false) x y) : CtN 7 (.ref m) [v1, v2] nw fun v n' => NumF nw n' (p || q) v (oI (some false) x y) := by
 obtain ⟨d, es, k, tb, td, m1, m2, g1, g2⟩ := hy
 refine CtG.meth hq ?_
 refine code_vc (fun P => by k_is) (fun P => by k_is) rfl (by kernel_rfl) (by kernel_rfl) ?_
 intro c hC
 have hA := hC.toCAny
 intro t0
 refine r_attr hA m1 m2 ⟨by k_is, by k_is, _, by k_is, by k_is⟩ g1 rfl ?_
 refine r_attr hA m1 m2 ⟨by k_is, by k_is, _, by k_is, by k_is⟩ g2 rfl ?_
 exact (n_reck h1 h2 ok).go hA fun v n hl h => ⟨hl, h⟩
theorem n_times {x y : Int} {v1 v2 : Value} {p q : Bool} {m yb : Addr} {nw : Led} (hq : (m, methodObj (.ref 499) (.ref yb)) ∈ nw) (hy : RkIn nw yb) (h1 : Num nw p v1 x) (h2 : Num nw q v2 y) (ok : oOk (some true) x y) : CtN 7 (.ref m) [v1, v2] nw fun v n' => NumF nw n' (p || q) v (oI (some true) x y) := by
 obtain ⟨d, es, k, tb, td, m1, m2, g1, g2⟩ := hy
 refine CtG.meth hq ?_
 refine code_vc (fun P => by k_is) (fun P => by k_is) rfl (by kernel_rfl) (by kernel_rfl) ?_
 intro c hC
 have hA := hC.toCAny
 intro t0
 refine r_attr hA m1 m2 ⟨by k_is, by k_is, _, by k_is, by k_is⟩ g1 rfl ?_
 refine r_attr hA m1 m2 ⟨by k_is, by k_is, _, by k_is, by k_is⟩ g2 rfl ?_
 exact (n_reck h1 h2 ok).go hA fun v n hl h => ⟨hl, h⟩
noncomputable abbrev JZ {α : Type} (J : Nat → α → Led → Prop) : Nat → α → Led → Led → Prop := fun i al mu tl => mu = [] ∧ J i al tl
theorem te0 {led tl n' : Led} {J : Nat → ALP} {i : Nat} {al' : Al} (t : Led) (e : n' = t ++ led) (ab : Abv led t) (k : J (i + 1) al' (t ++ tl)) : TEnd [] [] led (JZ J) i tl al' n' := ⟨[], t, fun p hp => e ▸ hp, ab, rfl, rfl, k⟩
theorem loop0 {c : Cx} {KR : VAP} {E : VSP} {names : NKs} {n : Nat} {body : List Stmt} {is : List Slot1} {vals : Nat → List Value → Prop} {news : Led} {al : Al} {Kn : ALP} (J : Nat → ALP) (h0 : J 0 al [])
 (turn : ∀ i vs al tl led, i < n → vals i vs → J i al tl → (∀ p ∈ tl ++ news, p ∈ led) → vSts is c vs al led fun al1 n1 => vcS E glT names 60 body [] c KR al1 n1 (TEnd [] [] led (JZ J) i tl)) (fin : ∀ al' tl, Abv news tl → J n al' tl → Kn al' (tl ++ news)) : Loop E names body is c KR n vals [] news al Kn (JZ J) where
 mo := fun q_ q_ h => nomatch h
 h0 := ⟨rfl, h0⟩
 turn := fun i vs al mu tl led hi hv hJ ab hm sub off => by
  obtain ⟨rfl, hJ⟩ := hJ
  exact turn i vs al tl led hi hv hJ sub
 fin := fun al' mu' tl ab hm hJ => by
  obtain ⟨rfl, hJ⟩ := hJ
  exact fin al' tl ab hJ
theorem n_count {hl : Addr} {h1 h2 b : Int} {th1 th2 tb : Tok} {kh : Nat} {nw : Led} (hh : (hl, listOf [Value.int h1 th1, .int h2 th2].toArray kh) ∈ nw) (hb : 0 ≤ b ∧ b ≤ 1) (b1 : 0 ≤ h1 ∧ h1 ≤ 20) (b2 : 0 ≤ h2 ∧ h2 ≤ 20) : CtN 1 (.ref 276) [.ref hl, .int b tb] nw fun v q_ => ∃ t, v = .int ((h1 - b + 1) * (h2 - b + 1)) t := by
 refine code_vc (fun P => by k_is) (fun P => by k_is) rfl (by kernel_rfl) (by kernel_rfl) ?_
 intro c hC
 have hA := hC.toCAny
 intro t0
 refine for_list hC PassesOwn.never rfl (fun q_ => rfl) ⟨hl, _, kh, [], nw, _, rfl, rfl, hh, loop0 (fun i al tl => tl = [] ∧ E2_2 (fun v t => (al = hC.al [.ref hl, .int b tb, .int v t] ∨ ∃ z, al = hC.al [.ref hl, .int b tb, .int v t, z])) (fun v t => v = (match i with | 0 => 1 | 1 => h1 - b + 1 | _ => (h1 - b + 1) * (h2 - b + 1)))) ⟨rfl, 1, t0, .inl rfl, rfl⟩ ?_ ?_⟩
 · rintro i vs al tl led hi ⟨z, hz, rfl⟩ ⟨rfl, v, t, hal, hv⟩ sub
   have hal : alSet al 3 z = hC.al [.ref hl, .int b tb, .int v t, z] := by
    rcases hal with rfl | ⟨w, rfl⟩ <;> rfl
   refine vst1 ?_
   show vcS _ _ _ _ _ _ _ _ (alSet al 3 z) _ _
   refine hal ▸ ?_
   match i, hi, hz, hv with
   | 0, _, hz, hv =>
    cases hz
    obtain rfl : v = 1 := hv
    exact fun t1 t2 t3 => ⟨by lia, fun t4 => te0 [] rfl Abv.nil ⟨rfl, _, _, .inr ⟨_, rfl⟩, Int.one_mul _⟩⟩
   | 1, _, hz, hv =>
    cases hz
    obtain rfl : v = h1 - b + 1 := hv
    exact fun t1 t2 t3 => ⟨by lia, fun t4 => te0 [] rfl Abv.nil ⟨rfl, _, _, .inr ⟨_, rfl⟩, rfl⟩⟩
 · rintro al' tl ab ⟨rfl, v, t, hal, hv⟩
   rcases hal with rfl | ⟨w, rfl⟩ <;> exact ⟨.refl, t, congrArg (fun z => Value.int z t) hv⟩
theorem countK {lev : Nat} {c : Cx} {E : VSP} {al : Al} {nw : Led} {K : VLP} {vs : List Value} {x : Int} (h : CtN 1 (.ref 276) vs nw fun v q_ => ∃ t, v = .int x t) (hA : CAny lev c) (k : ∀ t n', Le nw n' → K (.int x t) n') (hl : 1 ≤ lev := by decide) : RawS E c (call (.ref 276) vs) al nw K :=
 h.go hA (fun v n' l ⟨t, e⟩ => e ▸ k t n' l) hl
theorem n_first {d : Bool} {t : Tok} {nw : Led} : CtN 1 (.ref 51) [.str (kindS d) t] nw fun v n => NumF nw n d v 0 := by
 refine code_vc (fun P => by k_is) (fun P => by k_is) rfl (by kernel_rfl) (by kernel_rfl) ?_
 intro c hC
 have hA := hC.toCAny
 intro t1
 refine iteFb (by cases d <;> kernel_rfl) fun t2 => ?_
 cases d with
 | false => exact iteTb (by kernel_rfl) fun t3 => ⟨.refl, .i⟩
 | true => exact iteFb (by kernel_rfl) fun t3 t4 D hD => ⟨.one hD, .d List.mem_cons_self hD⟩
end Mine
namespace Mine
open LCg
theorem ce0 {led tl n' : Led} {J : Nat → List Value → Led → Prop} {i : Nat} {ys : List Value} {y : Value} (t : Led) (e : n' = t ++ led) (ab : Abv led t) (k : J (i + 1) (ys ++ [y]) (t ++ tl)) : CEnd [] [] led (JZ J) i ys tl y n' := ⟨[], t, e, ab, rfl, rfl, k⟩
theorem comp0 {lev : Nat} {c : Cx} {al : Al} {scope : Scope} {own : Addr → SAs} {fz : List (Str × Addr × Value)} {tg : List (Str × Bool)} {elt : PySem.Expr} {n : Nat} {vals : Nat → List Value → Prop} {news : Led} {K : VLP} (J : Nat → List Value → Led → Prop)
 (sz : n ≤ 1000) (kp : ∀ p ∈ c.keep, p ∈ news) (cells : CellsIn fz news) (h0 : J 0 [] [])
 (turn : ∀ i vs ys tl led C keep, i < n → vals i vs → J i ys tl → Abv news tl → (∀ p ∈ tl ++ news, p ∈ led) → (∀ p ∈ keep, p ∈ led) → (∀ x a v, (own C ++ clz fz).lookup x = some a → (tgFr tg vs ++ frz fz).lookup x = some v → scope.names.lookup x ≠ some .local → E1_2 (fun o => (a, o) ∈ led) (fun o => o.data = .cell (some v))) →
  CAny lev (cxC scope c (c.fm al) (own C) (clz fz) C (tgFr tg vs ++ frz fz) keep) →
  vcE NoE glT (nsC scope.names) 60 false elt (tgFr tg vs ++ frz fz) (cxC scope c (c.fm al) (own C) (clz fz) C (tgFr tg vs ++ frz fz) keep) (alE scope.names) led (CEnd [] [] led (JZ J) i ys tl))
 (fin : ∀ D ys tl, Abv news ((D, lst ys) :: tl) → J n ys tl → K (.ref D) ((D, lst ys) :: (tl ++ news))) : CompV lev scope own tg elt c al fz n vals [] news K (JZ J) where
 sz := sz
 mo := fun q_ q_ h => nomatch h
 kp := kp
 cells := cells
 h0 := ⟨rfl, h0⟩
 turn := fun i vs ys mu tl led C keep hi hv hJ ab hm sub off hk hc hA => by
  obtain ⟨rfl, hJ⟩ := hJ
  exact turn i vs ys tl led C keep hi hv hJ ab sub hk hc hA
 fin := fun D ys mu' tl ab hmo hD hm hJ => by
  obtain ⟨rfl, hJ⟩ := hJ
  exact fin D ys tl ab hJ
noncomputable abbrev Fre (nw : Led) (a : Addr) : Prop := ∀ p ∈ nw, p.1 < a
inductive GrP (nw : Led) (o : Option Bool) (r k : Nat) (f : NNI) (v : Value) (n : Led) : Prop
 | pk (g : Addr) : v = .ref g → GridF (Fre nw) o n g r k f → GrP nw o r k f v n
theorem GridF.at {ok : Addr → Prop} {o : Option Bool} {n : Led} {g : Addr} {r c : Nat} {f : NNI} (h : GridF ok o n g r c f) : E2_3 (fun vs k => (g, listOf vs k) ∈ n) (fun vs k => vs.size = r) (fun vs k => ∀ i, i < r → E1_2 (fun a => vs[i]? = some (.ref a)) (fun a => RowF ok o n a c (f i))) := by
 obtain ⟨q_, vs, k, h1, h2, h3⟩ := h
 refine ⟨vs, k, h1, h2, fun i hi => ?_⟩
 obtain ⟨a, e, hr⟩ := h3 i _ (Array.getElem?_eq_getElem (h2 ▸ hi))
 exact ⟨a, by rw [Array.getElem?_eq_getElem (h2 ▸ hi), e], hr⟩
theorem RowF.at {ok : Addr → Prop} {o : Option Bool} {n : Led} {a : Addr} {c : Nat} {f : Nat → Int} (h : RowF ok o n a c f) : E2_3 (fun vs k => (a, listOf vs k) ∈ n) (fun vs k => vs.size = c) (fun vs k => ∀ j, j < c → E1_2 (fun v => vs[j]? = some v) (fun v => NumO o n v (f j))) := by
 obtain ⟨q_, vs, k, h1, h2, h3⟩ := h
 exact ⟨vs, k, h1, h2, fun j hj => ⟨_, Array.getElem?_eq_getElem (h2 ▸ hj), h3 j _ (Array.getElem?_eq_getElem (h2 ▸ hj))⟩⟩
theorem n_shape {ok : Addr → Prop} {o : Option Bool} {x : Addr} {r k : Nat} {f : NNI} {nw : Led} (hG : GridF ok o nw x r k f) (hr : 1 ≤ r ∧ r ≤ 1000) (hk : k ≤ 1000) : CtN 1 (.ref 351) [.ref x] nw (TupP nw r k) := by
 obtain ⟨vs, p, m1, e1, h1⟩ := hG.at
 obtain ⟨a, e2, hR⟩ := h1 0 (by exact And.left ‹_›)
 obtain ⟨us, p2, m2, e3, q_⟩ := hR.at
 refine code_vc (fun P => by k_is) (fun P => by k_is) rfl (by kernel_rfl) (by kernel_rfl) ?_
 intro c hC
 have hA := hC.toCAny
 refine r_len m1 (by exact nsr ‹_› ‹_›) fun t1 => ?_
 refine r_len m1 (by exact nsr ‹_› ‹_›) fun t2 t3 => ?_
 refine iteT (by lia) fun t4 ea eb hs => ?_
 refine r_idxL hs m1 (by decide) (by decide) e2 ?_
 refine r_len m2 (by exact ns ‹_› ‹_›) fun t5 D hD => ?_
 refine e1 ▸ e3 ▸ ?_
 exact ⟨.one hD, D, _, _, _, rfl, List.mem_cons_self, hD⟩
theorem shapeK {lev : Nat} {c : Cx} {E : VSP} {al : Al} {nw : Led} {K : VLP} {x : Addr} {r k : Nat} (h : CtN 1 (.ref 351) [.ref x] nw (TupP nw r k)) (hA : CAny lev c) (g : ∀ q t1 t2 j n, Le nw n → (q, tup [.int r t1, .int k t2] j) ∈ n → Fre nw q → K (.ref q) n) (hl : 1 ≤ lev := by decide) : RawS E c (call (.ref 351) [.ref x]) al nw K :=
 h.go hA (fun v n l ⟨q, t1, t2, j, e, m, s⟩ => e ▸ g q t1 t2 j n l m s) hl
theorem n_const {r k : Nat} {v : Int} {t1 t2 t3 : Tok} {nw : Led} (hr : r ≤ 20) (hk : k ≤ 20) : CtN 1 (.ref 356) [.int r t1, .int k t2, .int v t3] nw (GrP nw none r k fun q_ q_ => v) := by
 refine code_vc2 (W := AnyW) (fun P => by k_is) (fun P => by k_is) rfl (by kernel_rfl) (by kernel_rfl) (hown := fun q_ => rfl) (v1 := some (.int k t2)) (hv1 := rfl) (v2 := some (.int v t3)) (hv2 := rfl) ?_
 intro c o1 o2 q_ hC d1 d2 hL
 have hA := hC.toCAny
 have q1 : c.cl.lookup (Str.ofString "columns") = some (c.L + 1) := by rw [hC.clq]; rfl
 have q2 : c.cl.lookup (Str.ofString "value") = some (c.L + 1 + 1) := by rw [hC.clq]; rfl
 refine lc1 (b := false) (own := fun q_ => []) (fz := [(Str.ofString "value", c.L + 1 + 1, .int v t3), (Str.ofString "columns", c.L + 1, .int k t2)]) hA ⟨by obtain ⟨_, _, _, _, e⟩ := hC.en; rw [e]; with_unfolding_all rfl, rfl, by decide, fun q_ => rfl, fun q_ => ownOk_nil, fun q_ => by kernel_rfl, fun q_ => rfl⟩ ?_
 refine vcN hC.ns hC.fr ?_
 refine r_rng1 fun D t u w hD => ?_
 have l1 : Le nw ((D, rngO 0 r 1 t u w) :: cl2 c.L o1 o2 nw) := (le2 hL).cons hD
 refine ⟨D, [], _, _, rfl, rfl, .inr ⟨0, r, t, u, w, r, List.mem_cons_self, by exact Int.zero_add _, by exact z0 ‹_›, comp0 (fun i ys tl => Upto i ys fun q_ v' => E1_2 (fun a => v' = .ref a) (fun a => RowF (Fre nw) none tl a k fun q_ => v)) (by exact nt ‹_›) (hC.noK _) ⟨⟨o2, .tail _ (.head _), d2⟩, ⟨o1, .tail _ (.tail _ (.head _)), d1⟩, trivial⟩ Upto.zero ?_ ?_⟩⟩
 · rintro i vs ys tl led C keep hi ⟨t4, rfl⟩ hJ ab sub hk1 hcl hA'
   intro D2 hD2
   refine r_mulL List.mem_cons_self (by exact Int.natCast_nonneg _) (by simp; lia) (by lia) fun D3 hD3 => ?_
   refine ce0 [_, _] rfl (Abv.cons (fun p hp => hD3 p (jC _ hp)) (Abv.cons hD2 Abv.nil)) (hJ.snoc (fun j v' ⟨a, e, h⟩ => ⟨a, e, h.mono fun p hp => jC _ (jC _ hp)⟩) ⟨D3, rfl, fun p hp => ?_, _, _, List.mem_cons_self, rep_size, fun j u hu => ?_⟩)
   · exact hD3 p (jC _ (sub p (jR _ (l1.sub p hp))))
   · exact ⟨false, fun q_ e => (nomatch e), by rw [rep_at hu]; exact .i _ _⟩
 · intro D4 ys tl ab hJ
   refine ⟨l1.trans ⟨(D4, lst ys) :: tl, rfl, ab⟩, D4, rfl, ?_⟩
   exact gridO hJ List.mem_cons_self (fun p hp => ab (D4, lst ys) List.mem_cons_self p (l1.sub p hp)) fun p hp => jC _ (jL _ hp)
theorem n_unit {r : Nat} {t1 : Tok} {nw : Led} (hr : r ≤ 20) : CtN 1 (.ref 361) [.int r t1] nw (GrP nw (some false) r r fun i j => if i = j then 1 else 0) := by
 refine code_vc1 (W := AnyW) (fun P => by k_is) (fun P => by k_is) rfl (by kernel_rfl) (by kernel_rfl) (hown := fun q_ => rfl) (v1 := some (.int r t1)) (hv1 := rfl) ?_
 intro c o1 q_ hC d1 hL
 have hA := hC.toCAny
 have q1 : c.cl.lookup (Str.ofString "size") = some (c.L + 1) := by rw [hC.clq]; rfl
 refine lc1 (b := true) (own := fun C => [(Str.ofString "at", C + 1)]) (fz := [(Str.ofString "size", c.L + 1, .int r t1)]) hA ⟨by obtain ⟨_, _, _, _, e⟩ := hC.en; rw [e]; with_unfolding_all rfl, rfl, by decide, fun q_ => rfl, fun q_ => ownOk_one, fun q_ => by kernel_rfl, fun q_ => rfl⟩ ?_
 refine vcN hC.ns hC.fr ?_
 refine ⟨_, _, _, q1, .head _, d1, ?_⟩
 refine r_rng1 fun D t u w hD => ?_
 have l1 : Le nw ((D, rngO 0 r 1 t u w) :: cl1 c.L o1 nw) := (le1 hL).cons hD
 refine ⟨D, [], _, _, rfl, rfl, .inr ⟨0, r, t, u, w, r, List.mem_cons_self, by exact Int.zero_add _, by exact z0 ‹_›, comp0 (fun i ys tl => Upto i ys fun i v' => E1_2 (fun a => v' = .ref a) (fun a => RowF (Fre nw) (some false) tl a r fun j => if i = j then 1 else 0)) (by exact nt ‹_›) (hC.noK _) ⟨⟨o1, .tail _ (.head _), d1⟩, trivial⟩ Upto.zero ?_ ?_⟩⟩
 · rintro i vs ys tl led C keep hi ⟨t4, rfl⟩ hJ ab sub hk1 hcl hA'
   obtain ⟨oa, ma, da⟩ := hcl (Str.ofString "at") (C + 1) (.int (0 + i) t4) rfl rfl (by decide)
   refine lc1 (b := false) (own := fun q_ => []) (fz := [(Str.ofString "at", C + 1, .int (0 + i) t4)]) hA' ⟨by obtain ⟨_, _, _, _, e⟩ := hC.en; show closureFor _ (compEnvC _ _ _ _) = _; rw [e]; with_unfolding_all rfl, rfl, by decide, fun q_ => rfl, fun q_ => ownOk_nil, fun q_ => by kernel_rfl, fun q_ => rfl⟩ ?_
   refine r_rng1 fun D2 t u w hD2 => ?_
   refine ⟨D2, [], _, _, rfl, rfl, .inr ⟨0, r, t, u, w, r, List.mem_cons_self, by exact Int.zero_add _, by exact z0 ‹_›, comp0 (fun j ys tl => tl = [] ∧ Upto j ys fun j v' => NumO (some false) [] v' (if i = j then 1 else 0)) (by exact nt ‹_›) (fun p hp => jC _ (hk1 p hp)) ⟨⟨oa, .tail _ ma, da⟩, trivial⟩ ⟨rfl, Upto.zero⟩ ?_ ?_⟩⟩
   · rintro j vs ys2 tl2 led2 C2 keep2 hj ⟨t5, rfl⟩ ⟨rfl, hJ2⟩ ab2 sub2 hk2 hcl2 hA2
     refine iteC (fun h => ?_) fun h => ?_
     · exact fun t6 => ce0 [] rfl Abv.nil ⟨rfl, hJ2.snoc (fun q_ q_ h => h) (by rw [if_pos (by lia)]; exact .of (.i _ _))⟩
     · exact fun t6 => ce0 [] rfl Abv.nil ⟨rfl, hJ2.snoc (fun q_ q_ h => h) (by rw [if_neg (by lia)]; exact .of (.i _ _))⟩
   · rintro D3 ys2 tl2 ab2 ⟨rfl, hJ2⟩
     have hD3 : ∀ p ∈ led, p.1 < D3 := fun p hp => ab2 _ List.mem_cons_self p (jC _ hp)
     refine ce0 [(D3, lst ys2), (D2, rngO 0 r 1 t u w)] rfl (Abv.cons hD3 (Abv.cons hD2 Abv.nil)) (hJ.snoc (fun j v' ⟨a, e, h⟩ => ⟨a, e, h.mono fun p hp => jR _ hp⟩) ⟨D3, rfl, ?_⟩)
     exact rowO hJ2 List.mem_cons_self (fun p hp => hD3 p (sub p (jR _ (l1.sub p hp)))) fun p hp => nomatch hp
 · intro D4 ys tl ab hJ
   refine ⟨l1.trans ⟨(D4, lst ys) :: tl, rfl, ab⟩, D4, rfl, ?_⟩
   exact gridO hJ List.mem_cons_self (fun p hp => ab (D4, lst ys) List.mem_cons_self p (l1.sub p hp)) fun p hp => jC _ (jL _ hp)
theorem n_turned {ok : Addr → Prop} {o : Option Bool} {x : Addr} {r k : Nat} {f : NNI} {nw : Led} (hG : GridF ok o nw x r k f) (hr : 1 ≤ r ∧ r ≤ 20) (hk : k ≤ 20) : CtN 2 (.ref 376) [.ref x] nw (GrP nw o k r fun i j => f j i) := by
 obtain ⟨vs, p, m1, e1, h1⟩ := hG.at
 refine code_vc2 (W := AnyW) (fun P => by k_is) (fun P => by k_is) rfl (by kernel_rfl) (by kernel_rfl) (hown := fun q_ => rfl) (v1 := some (.ref x)) (hv1 := rfl) (v2 := none) (hv2 := rfl) ?_
 intro c o1 o2 q_ hC d1 d2 hL
 have hA := hC.toCAny
 have q1 : c.cl.lookup (Str.ofString "grid") = some (c.L + 1) := by rw [hC.clq]; rfl
 have q2 : c.cl.lookup (Str.ofString "rows") = some (c.L + 1 + 1) := by rw [hC.clq]; rfl
 refine ⟨_, _, _, q1, .tail _ (.head _), d1, ?_⟩
 have l0 := le2 (o1 := o1) (o2 := o2) hL
 refine shapeK (n_shape (hG.mono l0.sub) ⟨hr.1, by exact nr ‹_›⟩ (by exact nt ‹_›)) hA fun q t1 t2 j n hl hm hq => ?_
 refine unpI hm rfl ⟨_, o2, _, q2, hl.sub _ (.head _), d2, fun o2' d2' => ?_⟩
 have l2 := t22 (o' := o2') hL hl
 generalize setAt n (c.L + 1 + 1) o2' = n2 at l2 ⊢
 have l3 := (le2 (o1 := o1) (o2 := o2') hL).trans l2
 refine lc1 (b := true) (own := fun C => [(Str.ofString "spot", C + 1)]) (fz := [(Str.ofString "rows", c.L + 1 + 1, .int r t1), (Str.ofString "grid", c.L + 1, .ref x)]) hA ⟨by obtain ⟨_, _, _, _, e⟩ := hC.en; rw [e]; with_unfolding_all rfl, rfl, by decide, fun q_ => rfl, fun q_ => ownOk_one, fun q_ => by kernel_rfl, fun q_ => rfl⟩ ?_
 refine vcN hC.ns hC.fr ?_
 refine r_rng1 fun D t u w hD => ?_
 have l4 := l3.cons (o := rngO 0 k 1 t u w) hD
 have mc1 := jC (D, rngO 0 k 1 t u w) (l2.sub (c.L + 1, o1) (.tail _ (.head _)))
 have mc2 := jC (D, rngO 0 k 1 t u w) (l2.sub (c.L + 1 + 1, o2') (.head _))
 refine ⟨D, [], _, _, rfl, rfl, .inr ⟨0, k, t, u, w, k, List.mem_cons_self, by exact Int.zero_add _, by exact z0 ‹_›, comp0 (fun i ys tl => Upto i ys fun i v' => E1_2 (fun a => v' = .ref a) (fun a => RowF (Fre nw) o (tl ++ nw) a r fun j => f j i)) (by exact nt ‹_›) (hC.noK _) ⟨⟨o2', mc2, d2'⟩, ⟨o1, mc1, d1⟩, trivial⟩ Upto.zero ?_ ?_⟩⟩
 · rintro i vs' ys tl led C keep hi ⟨t4, rfl⟩ hJ ab sub hk1 hcl hA'
   obtain ⟨oa, ma, da⟩ := hcl (Str.ofString "spot") (C + 1) (.int (0 + i) t4) rfl rfl (by decide)
   have sl := fun p hp => sub p (jR _ hp)
   refine lc1 (b := false) (own := fun q_ => []) (fz := [(Str.ofString "spot", C + 1, .int (0 + i) t4), (Str.ofString "grid", c.L + 1, .ref x)]) hA' ⟨by obtain ⟨_, _, _, _, e⟩ := hC.en; show closureFor _ (compEnvC _ _ _ _) = _; rw [e]; with_unfolding_all rfl, rfl, by decide, fun q_ => rfl, fun q_ => ownOk_nil, fun q_ => by kernel_rfl, fun q_ => rfl⟩ ?_
   refine r_rng1 fun D2 t u w hD2 => ?_
   refine ⟨D2, [], _, _, rfl, rfl, .inr ⟨0, r, t, u, w, r, List.mem_cons_self, by exact Int.zero_add _, by exact z0r ‹_›, comp0 (fun j ys tl => tl = [] ∧ Upto j ys fun j v' => NumO o nw v' (f j i)) (by exact nr ‹_›) (fun p hp => jC _ (hk1 p hp)) ⟨⟨oa, .tail _ ma, da⟩, ⟨o1, .tail _ (sl _ mc1), d1⟩, trivial⟩ ⟨rfl, Upto.zero⟩ ?_ ?_⟩⟩
   · rintro j vs2 ys2 tl2 led2 C2 keep2 hj ⟨t5, rfl⟩ ⟨rfl, hJ2⟩ ab2 sub2 hk2 hcl2 hA2 ea eb hs
     have s2 : ∀ p ∈ nw, p ∈ led2 := fun p hp => sub2 p (jC _ (sl p (l4.sub p hp)))
     obtain ⟨a, e2, hR⟩ := h1 j (by lia)
     obtain ⟨us, p2, m2, e3, h2⟩ := hR.at
     obtain ⟨z, e4, hN⟩ := h2 i (by lia)
     refine r_idxL hs (s2 _ m1) (by exact Int.natCast_nonneg _) (by exact z2r ‹_› ‹_›) (by rw [Int.zero_add]; exact e2) fun ea eb hs => ?_
     refine r_idxL hs (s2 _ m2) (by exact Int.natCast_nonneg _) (by exact z2 ‹_› ‹_›) (by rw [Int.zero_add]; exact e4) (ce0 [] rfl Abv.nil ⟨rfl, hJ2.snoc (fun q_ q_ h => h) hN⟩)
   · rintro D3 ys2 tl2 ab2 ⟨rfl, hJ2⟩
     have hD3 : ∀ p ∈ led, p.1 < D3 := fun p hp => ab2 _ List.mem_cons_self p (jC _ hp)
     refine ce0 [(D3, lst ys2), (D2, rngO 0 r 1 t u w)] rfl (Abv.cons hD3 (Abv.cons hD2 Abv.nil)) (hJ.snoc (fun j v' ⟨a, e, h⟩ => ⟨a, e, h.mono fun p hp => List.mem_append.mpr ((jA hp).imp (jR _) id)⟩) ⟨D3, rfl, ?_⟩)
     exact rowO hJ2 List.mem_cons_self (fun p hp => hD3 p (sl p (l4.sub p hp))) fun p hp => jR _ hp
 · intro D4 ys tl ab hJ
   refine ⟨l4.trans ⟨(D4, lst ys) :: tl, rfl, ab⟩, D4, rfl, ?_⟩
   exact gridO hJ List.mem_cons_self (fun p hp => ab (D4, lst ys) List.mem_cons_self p (l4.sub p hp)) fun p hp => jC _ (List.mem_append.mpr ((jA hp).imp id (l4.sub p)))
end Mine
namespace Mine
open LCg
theorem NumO.num {d : Bool} {n : Led} {v : Value} {x : Int} (h : NumO (some d) n v x) : Num n d v x := by
 obtain ⟨b, e, h⟩ := h
 rw [← e d rfl]; exact h
theorem dot9 {x : Int} {n : Nat} (h : -(81 * (n : Int)) ≤ x ∧ x ≤ 81 * (n : Int)) (hn : n ≤ 9) : -999 ≤ x ∧ x ≤ 999 := by lia
theorem n_rbc {ok1 ok2 : Addr → Prop} {d : Bool} {x y q1 q2 yb : Addr} {k k2 sp : Nat} {t1 : Tok} {f : Nat → Int} {gf : NNI} {nw : Led} (hR : RowF ok1 (some d) nw x k f) (hG : GridF ok2 (some d) nw y k k2 gf) (hk : 1 ≤ k ∧ k ≤ 9) (hsp : sp < k2) (hk2 : k2 ≤ 9)
 (hq1 : (q1, methodObj (.ref 485) (.ref yb)) ∈ nw) (hq2 : (q2, methodObj (.ref 499) (.ref yb)) ∈ nw) (hy : RkIn nw yb) (hb1 : ∀ j, j < k → -9 ≤ f j ∧ f j ≤ 9) (hb2 : ∀ j, j < k → -9 ≤ gf j sp ∧ gf j sp ≤ 9) :
 CtN 8 (.ref 388) [.ref x, .ref y, .int sp t1, .ref q1, .ref q2] nw fun v n => NumF nw n d v (dotN f (fun j => gf j sp) k) := by
 obtain ⟨vs, p, m1, e1, h1⟩ := hR.at
 obtain ⟨us, p2, m2, e2, h2⟩ := hG.at
 refine code_vc (fun P => by k_is) (fun P => by k_is) rfl (by kernel_rfl) (by kernel_rfl) ?_
 intro c hC
 have hA := hC.toCAny
 intro t0
 refine for_enum hC PassesOwn.never rfl rfl rfl rfl ⟨x, vs, p, [], nw, _, rfl, rfl, m1, loop0 (fun i al tl => E2_3 (fun v b => (al = hC.al [.ref x, .ref y, .int sp t1, .ref q1, .ref q2, v] ∨ E2_1 (fun w z => al = hC.al [.ref x, .ref y, .int sp t1, .ref q1, .ref q2, v, w, z]))) (fun v b => Num tl b v (dotN f (fun j => gf j sp) i)) (fun v b => (b = if i = 0 then false else d))) ⟨.int 0 t0, false, .inl rfl, .i _ _, rfl⟩ ?_ ?_⟩
 · rintro i vs' al tl led hi ⟨t, z, hz, rfl⟩ ⟨v, b, hal, hv, hb⟩ sub
   have hi : i < k := e1 ▸ hi
   obtain ⟨z', hz', hN⟩ := h1 i hi
   obtain rfl : z = z' := Option.some.inj (hz.symm.trans hz')
   obtain ⟨a, e3, hA2⟩ := h2 i hi
   obtain ⟨us2, p3, m3, e4, h3⟩ := hA2.at
   obtain ⟨u, e5, hM⟩ := h3 sp hsp
   have s2 := fun p hp => sub p (jR _ hp)
   have hal : alSet (alSet al 6 (.int i t)) 7 z = hC.al [.ref x, .ref y, .int sp t1, .ref q1, .ref q2, v, .int i t, z] := by
    rcases hal with rfl | ⟨w, z2, rfl⟩ <;> rfl
   refine vst2 ?_
   show vcS _ _ _ _ _ _ _ _ (alSet (alSet al 6 _) 7 _) _ _
   refine hal ▸ ?_
   have hf := hb1 i hi
   have hg := hb2 i hi
   have hm := mul81 hf hg
   have hd := dotN_le (f := f) (g := fun j => gf j sp) i (fun j hj => hb1 j (Nat.lt_trans hj hi)) fun j hj => hb2 j (Nat.lt_trans hj hi)
   intro ea eb hs
   refine r_idxL hs (s2 _ m2) (by exact Int.natCast_nonneg _) (by exact z1r ‹_› ‹_›) e3 fun ea eb hs => ?_
   refine r_idxL hs (s2 _ m3) (by exact Int.natCast_nonneg _) (by exact z1 ‹_› ‹_›) e5 ⟨KeepV.meth hA (s2 _ hq2) (by k_is), ?_⟩
   refine (n_times (s2 _ hq2) (hy.mono s2) (hN.num.mono s2) (hM.num.mono s2) ⟨by exact ib ‹_›, by exact ib ‹_›, (ib hm : -999 ≤ f i * gf i sp ∧ f i * gf i sp ≤ 999), fun q_ => ⟨hf, hg⟩⟩).go hA fun v1 n1 l1 n1' => ?_
   refine ⟨KeepV.meth hA (l1.sub _ (s2 _ hq1)) (by k_is), ?_⟩
   have hv1 := n1'.1
   rw [Bool.or_self] at hv1
   refine (n_plus (l1.sub _ (s2 _ hq1)) ((hy.mono s2).mono l1.sub) (hv.mono fun p hp => l1.sub _ (sub p (jL _ hp))) hv1 ⟨dot9 hd (Nat.le_of_lt (Nat.lt_of_lt_of_le hi hk.2)), ib hm, dot9 (dotN_le (f := f) (g := fun j => gf j sp) (i + 1) (fun j hj => hb1 j (Nat.lt_of_lt_of_le hj hi)) fun j hj => hb2 j (Nat.lt_of_lt_of_le hj hi)) (Nat.le_trans hi hk.2), fun h => nomatch h⟩).go hA fun v2 n2 l2 h2' => ?_
   obtain ⟨tl2, rfl, ab2⟩ := l1.trans l2
   refine te0 tl2 rfl ab2 ⟨v2, b || d, .inr ⟨_, _, rfl⟩, (h2'.le l1.sub).new.mono fun p hp => jL _ hp, ?_⟩
   rw [hb, if_neg (Nat.succ_ne_zero i)]
   split <;> simp
 · rintro al' tl ab ⟨v, b, hal, hv, hb⟩
   rw [if_neg (e1 ▸ Nat.ne_of_gt hk.1)] at hb
   subst hb
   have fin : Pst nw (fun v n => NumF nw n b v (dotN f (fun j => gf j sp) k)) v (tl ++ nw) := ⟨⟨tl, rfl, ab⟩, (e1 ▸ hv).mono fun p hp => jL _ hp, fun r e q hq => by
    subst e
    cases hv with
    | d hm => exact ab _ hm q hq⟩
   rcases hal with rfl | ⟨w, z, rfl⟩ <;> exact fin
theorem n_prod {ok1 ok2 : Addr → Prop} {d : Bool} {x y p1 p2 yb : Addr} {r k k2 : Nat} {f gf : NNI} {nw : Led} (hG : GridF ok1 (some d) nw x r k f) (hH : GridF ok2 (some d) nw y k k2 gf) (hr : 1 ≤ r ∧ r ≤ 9) (hk : 1 ≤ k ∧ k ≤ 9) (hk2 : k2 ≤ 9)
 (hp1 : (p1, methodObj (.ref 485) (.ref yb)) ∈ nw) (hp2 : (p2, methodObj (.ref 499) (.ref yb)) ∈ nw) (hy : RkIn nw yb) (hb1 : ∀ i j, i < r → j < k → -9 ≤ f i j ∧ f i j ≤ 9) (hb2 : ∀ i j, i < k → j < k2 → -9 ≤ gf i j ∧ gf i j ≤ 9) :
 CtN 9 (.ref 381) [.ref x, .ref y, .ref p1, .ref p2] nw (GrP nw (some d) r k2 fun i j => dotN (f i) (fun l => gf l j) k) := by
 obtain ⟨vs, q, m1, e1, h1⟩ := hG.at
 refine code_vc4 (W := AnyW) (fun P => by k_is) (fun P => by k_is) rfl (by kernel_rfl) (by kernel_rfl) (hown := fun q_ => rfl) (v1 := some (.ref y)) (hv1 := rfl) (v2 := some (.ref p1)) (hv2 := rfl) (v3 := some (.ref p2)) (hv3 := rfl) (v4 := none) (hv4 := rfl) ?_
 intro c o1 o2 o3 o4 q_ hC d1 d2 d3 d4 hL
 have hA := hC.toCAny
 have q1 : c.cl.lookup (Str.ofString "other") = some (c.L + 1) := by rw [hC.clq]; rfl
 have q2 : c.cl.lookup (Str.ofString "plus") = some (c.L + 1 + 1) := by rw [hC.clq]; rfl
 have q3 : c.cl.lookup (Str.ofString "times") = some (c.L + 1 + 1 + 1) := by rw [hC.clq]; rfl
 have q4 : c.cl.lookup (Str.ofString "row") = some (c.L + 1 + 1 + 1 + 1) := by rw [hC.clq]; rfl
 have l0 := le4 (o1 := o1) (o2 := o2) (o3 := o3) (o4 := o4) hL
 refine shapeK (n_shape (hG.mono l0.sub) ⟨hr.1, by exact nr ‹_›⟩ (by exact nr ‹_›)) hA fun s t1 t2 j n1 l1 hm hs => ?_
 refine unpI hm rfl (vst2 ?_)
 refine ⟨_, o1, _, q1, l1.sub _ (.tail _ (.tail _ (.tail _ (.head _)))), d1, ?_⟩
 refine shapeK (n_shape (hH.mono (l0.trans l1).sub) ⟨hk.1, by exact nr ‹_›⟩ (by exact nt ‹_›)) hA fun s2 t3 t4 j2 n2 l2 hm2 hs2 => ?_
 intro t5 ea eb hsl
 refine r_idxT hsl hm2 (by decide) (by decide) rfl (iteF (fun h => h rfl) fun D hD => ?_)
 have lc := l1.trans l2
 have hDc : ∀ p ∈ cl4 c.L o1 o2 o3 o4 nw, p.1 < D := fun p hp => hD p (lc.sub p hp)
 refine RawC.sub (nw' := [(c.L + 1 + 1 + 1 + 1, o4), (D, listOf [].toArray 0)] ++ (cl3 c.L o1 o2 o3 nw)) ?_ ?_ (hC.noK _)
 rotate_left
 · intro p hp
   revert p; refine fmc ?_ fun p hp => ?_
   · exact jC _ (lc.sub _ (.head _))
   · revert p; refine fmc ?_ fun p hp => ?_
     · exact .head _
     · exact jC _ (lc.sub _ (jC _ hp))
 have l3 : Le nw (cl3 c.L o1 o2 o3 nw) := le3 hL
 have hL4 : c.L + 1 + 1 + 1 + 1 < D := hDc _ (.head _)
 have hx : ∀ p ∈ cl3 c.L o1 o2 o3 nw, p.1 < c.L + 1 + 1 + 1 + 1 := ltc4 hL
 refine for_list hC PassesOwn.never rfl (fun q_ => rfl) ⟨x, vs, q, [(c.L + 1 + 1 + 1 + 1, o4), (D, listOf [].toArray 0)], _, fun i al mu tl => E4_4 (fun o4 u its qn => o4.data = .cell u) (fun o4 u its qn => mu = [(c.L + 1 + 1 + 1 + 1, o4), (D, listOf its qn)]) (fun o4 u its qn => al = hC.al [.ref x, .ref y, .ref p1, .ref p2, .int r t1, .int k t2, .ref D]) (fun o4 u its qn => Upto i its.toList fun i v => E1_2 (fun a => v = .ref a) (fun a => RowF (Fre nw) (some d) (tl ++ nw) a k2 fun j => dotN (f i) (fun l => gf l j) k)), rfl, rfl, l3.sub _ m1, ⟨?_, ⟨o4, _, _, _, d4, rfl, rfl, Upto.zero⟩, ?_, ?_⟩⟩
 · intro p hp h
   rcases jX h with e | h
   · exact absurd (hx p hp) (by rw [e]; exact Nat.lt_irrefl _)
   · exact absurd (Nat.lt_trans (hx p hp) hL4) (by rw [jO h]; exact Nat.lt_irrefl _)
 · rintro i vs' al mu tl led hi ⟨z, hz, rfl⟩ ⟨o4, u, its, qn, d4, rfl, rfl, hJ⟩ ab hmu sub off
   obtain ⟨a, e2, hR⟩ := h1 i (by exact sz ‹_› ‹_›)
   obtain rfl : z = .ref a := Option.some.inj (hz.symm.trans e2)
   have sc : ∀ p ∈ cl3 c.L o1 o2 o3 nw, p ∈ led := fun p hp => sub p (jR _ hp)
   have s2 : ∀ p ∈ nw, p ∈ led := fun p hp => sc p (l3.sub p hp)
   have off1 : ∀ p ∈ led, p.1 ≠ c.L + 1 + 1 + 1 + 1 := fun p hp e => off p hp (by rw [e]; exact .head _)
   have off2 : ∀ p ∈ led, p.1 ≠ D := fun p hp e => off p hp (by rw [e]; exact .tail _ (.head _))
   refine ⟨_, o4, u, q4, .head _, d4, fun o4' d4' => ?_⟩
   have es : setAt ([(c.L + 1 + 1 + 1 + 1, o4), (D, listOf its qn)] ++ led) (c.L + 1 + 1 + 1 + 1) o4' = [(c.L + 1 + 1 + 1 + 1, o4'), (D, listOf its qn)] ++ led := by
    show setAt ((c.L + 1 + 1 + 1 + 1, o4) :: (D, listOf its qn) :: led) _ _ = _
    rw [setAt_cons, setAt_ne (Nat.ne_of_gt hL4), setAt_id off1]; rfl
   refine es ▸ ?_
   have s3 : ∀ p ∈ led, p ∈ [(c.L + 1 + 1 + 1 + 1, o4'), (D, listOf its qn)] ++ led := fun p hp => jR _ hp
   refine r_append hA rfl rfl ?_
   rw [hC.ns, hC.fr]
   have hsz : its.size = i := by rw [← hJ.1]; simp
   refine ⟨D, its, qn, rfl, .tail _ (.head _), by lia, ?_⟩
   refine lc1 (b := false) (own := fun q_ => []) (fz := [(Str.ofString "times", c.L + 1 + 1 + 1, .ref p2), (Str.ofString "row", c.L + 1 + 1 + 1 + 1, .ref a), (Str.ofString "plus", c.L + 1 + 1, .ref p1), (Str.ofString "other", c.L + 1, .ref y)]) hA ⟨by obtain ⟨_, _, _, _, e⟩ := hC.en; rw [e]; with_unfolding_all rfl, rfl, by decide, fun q_ => rfl, fun q_ => ownOk_nil, fun q_ => by kernel_rfl, fun q_ => rfl⟩ ?_
   refine vcN hC.ns hC.fr ?_
   refine ⟨_, o1, _, q1, s3 _ (sc _ m31), d1, ?_⟩
   refine shapeK (n_shape (hH.mono fun p hp => s3 _ (s2 p hp)) ⟨hk.1, by exact nr ‹_›⟩ (by exact nt ‹_›)) hA fun s5 t6 t7 j5 n3 l5 hm5 hs5 => ?_
   intro t8 ea eb hsl
   refine r_idxT hsl hm5 (by decide) (by decide) rfl ?_
   refine r_rng1 fun D2 t u w hD2 => ?_
   have l6 := l5.cons (o := rngO 0 k2 1 t u w) hD2
   have m6 : ∀ p ∈ led, p ∈ (D2, rngO 0 k2 1 t u w) :: n3 := fun p hp => l6.sub p (s3 p hp)
   refine ⟨D2, [], _, _, rfl, rfl, .inr ⟨0, k2, t, u, w, k2, List.mem_cons_self, by exact Int.zero_add _, by exact z0 ‹_›, comp0 (fun j ys tl2 => Upto j ys fun j v' => NumO (some d) tl2 v' (dotN (f i) (fun l => gf l j) k)) (by exact nt ‹_›) (hC.noK _) ⟨⟨o3, m6 _ (sc _ m33), d3⟩, ⟨o4', l6.sub _ (.head _), d4'⟩, ⟨o2, m6 _ (sc _ m32), d2⟩, ⟨o1, m6 _ (sc _ m31), d1⟩, trivial⟩ Upto.zero ?_ ?_⟩⟩
   · rintro j vs2 ys2 tl2 led2 C2 keep2 hj ⟨t9, rfl⟩ hJ2 ab2 sub2 hk2' hcl2 hA2
     have m7 : ∀ p ∈ nw, p ∈ led2 := fun p hp => sub2 p (jR _ (m6 p (s2 p hp)))
     have H : CtN 8 (.ref 388) [.ref a, .ref y, .int (0 + (j : Int)) t9, .ref p1, .ref p2] led2 (fun v n => NumF led2 n d v (dotN (f i) (fun l => gf l j) k)) := by
      rw [Int.zero_add]
      exact n_rbc (hR.mono m7) (hH.mono m7) hk hj hk2 (m7 _ hp1) (m7 _ hp2) (hy.mono m7) (fun l hl => hb1 i l (by exact sz ‹_› ‹_›) hl) fun l hl => hb2 l j hl hj
     refine H.go hA2 fun v n4 l7 hN => ?_
     obtain ⟨t, rfl, ab7⟩ := l7
     exact ce0 t rfl ab7 (hJ2.snoc (fun q_ q_ h => h.mono fun p hp => jR _ hp) (.of (hN.new.mono fun p hp => jL _ hp)))
   · intro D3 ys2 tl2 ab3 hJ3
     obtain ⟨tl5, e5, ab5⟩ := l6
     rw [e5] at ab3 ⊢
     have l8 : Le ([(c.L + 1 + 1 + 1 + 1, o4'), (D, listOf its qn)] ++ led) ((D3, lst ys2) :: (tl2 ++ (tl5 ++ ([(c.L + 1 + 1 + 1 + 1, o4'), (D, listOf its qn)] ++ led)))) := Le.trans ⟨tl5, rfl, ab5⟩ ⟨(D3, lst ys2) :: tl2, rfl, ab3⟩
     refine ⟨l8.sub _ (.tail _ (.head _)), [(c.L + 1 + 1 + 1 + 1, o4'), (D, listOf (its.push (.ref D3)) (qn + 1))] ++ (((D3, lst ys2) :: (tl2 ++ tl5)) ++ led), ?_, hC.noK _, ?_⟩
     · have ne : ∀ p ∈ (D3, lst ys2) :: (tl2 ++ tl5), D < p.1 := fun p hp => by
        revert p; refine fmc ?_ fun p hp => ?_
        · exact ab3 _ (.head _) (D, listOf its qn) (jR _ (.tail _ (.head _)))
        · revert p; refine fma (fun p hp => ?_) fun p hp => ?_
          · exact ab3 p (jC _ hp) (D, listOf its qn) (jR _ (.tail _ (.head _)))
          · exact ab5 p hp (D, listOf its qn) (.tail _ (.head _))
       intro p hp
       revert p; refine fmc ?_ fun p hp => ?_
       · exact mem_setAt (l8.sub _ (.head _)) (Nat.ne_of_lt hL4)
       · revert p; refine fmc ?_ fun p hp => ?_
         · exact self_setAt (l8.sub _ (.tail _ (.head _)))
         · replace hp : p ∈ ((D3, lst ys2) :: (tl2 ++ tl5)) ++ led := hp
           revert p; refine fma (fun p hp => ?_) fun p hp => ?_
           · refine mem_setAt ?_ (Nat.ne_of_gt (ne p hp))
             revert p; refine fmc ?_ fun p hp => ?_
             · exact .head _
             · revert p; refine fma (fun p hp => ?_) fun p hp => ?_
               · exact .tail _ (jL _ hp)
               · exact .tail _ (jR _ (jL _ hp))
           · exact mem_setAt (l8.sub _ (s3 p hp)) (off2 p hp)
     · refine ⟨[(c.L + 1 + 1 + 1 + 1, o4'), (D, listOf (its.push (.ref D3)) (qn + 1))], (D3, lst ys2) :: (tl2 ++ tl5), fun p hp => hp, ?_, rfl, o4', _, _, _, d4', rfl, rfl, ?_⟩
       · intro p hp q hq
         have hq' : q ∈ [(c.L + 1 + 1 + 1 + 1, o4'), (D, listOf its qn)] ++ led ∨ q.1 = c.L + 1 + 1 + 1 + 1 := by
          revert q; refine fmc ?_ fun q hq => ?_
          · exact .inr rfl
          · exact .inl (jC _ hq)
         have key : ∀ q ∈ [(c.L + 1 + 1 + 1 + 1, o4'), (D, listOf its qn)] ++ led, q.1 < p.1 := fun q hq => by
          revert p; refine fmc ?_ fun p hp => ?_
          · exact ab3 _ (.head _) q (jR _ hq)
          · revert p; refine fma (fun p hp => ?_) fun p hp => ?_
            · exact ab3 p (jC _ hp) q (jR _ hq)
            · exact ab5 p hp q hq
         rcases hq' with hq | hq
         · exact key q hq
         · rw [hq]; exact key _ (.head _)
       · rw [Array.toList_push]
         refine hJ.snoc (fun j v' ⟨a, e, h⟩ => ⟨a, e, h.mono fun p hp => ?_⟩) ⟨D3, rfl, rowO hJ3 (jL _ (jL _ (.head _))) (fun p hp => ab3 _ (.head _) p (jR _ (jR _ (s2 p hp)))) fun p hp => jL _ (jL _ (.tail _ (jL _ hp)))⟩
         revert p; refine fma (fun p hp => ?_) fun p hp => ?_
         · exact jL _ (jR _ hp)
         · exact jR _ hp
 · rintro al' mu' tl ab hmu ⟨o4, u, its, qn, d4, rfl, rfl, hJ⟩
   have hDn : ∀ p ∈ nw, p.1 < D := fun p hp => hDc p (l0.sub p hp)
   obtain ⟨t3, e3, a3⟩ := l3
   refine ⟨⟨[(c.L + 1 + 1 + 1 + 1, o4), (D, listOf its qn)] ++ (tl ++ t3), by rw [e3]; simp, ?_⟩, D, rfl, hDn, its, qn, .tail _ (.head _), by rw [← Array.length_toList, hJ.1, e1], fun i v hv => ?_⟩
   · refine Abv.cons (fun p hp => hx p (e3 ▸ jR _ hp)) (Abv.cons hDn fun q hq p hp => ?_)
     replace hq : q ∈ tl ++ t3 := hq
     revert q; refine fma (fun q hq => ?_) fun q hq => ?_
     · exact ab q hq p (e3 ▸ jR _ hp)
     · exact a3 q hq p hp
   · obtain ⟨a, e, h⟩ := hJ.2 i v (by rw [Array.getElem?_toList]; exact hv)
     refine ⟨a, e, h.mono fun p hp => ?_⟩
     revert p; refine fma (fun p hp => ?_) fun p hp => ?_
     · exact .tail _ (.tail _ (show p ∈ tl ++ _ from jL _ hp))
     · exact .tail _ (.tail _ (show p ∈ tl ++ cl3 c.L o1 o2 o3 nw from jR _ (e3 ▸ jR _ hp)))
theorem r_neD {lev : Nat} {c : Cx} {E : VSP} {al : Al} {nw : Led} {K : VLP} {va vb : Value} {d e : Dat} {q : Bool} (hC : CAny lev c) (hl : 4 ≤ lev) (ha : DatIn nw va d) (hb : DatIn nw vb e) (oa : kqdOk 8 d = true) (ob : kqdOk 8 e = true) (hq : q = true ↔ d = e) (h : K (.bool (!q)) nw) : RawS E c (compareOp .NotEq va vb) al nw K := fun g tk st => by
 obtain ⟨as, ra⟩ := kqd_in st.2.1 8 ha oa
 obtain ⟨bs, rb⟩ := kqd_in st.2.1 8 hb ob
 have la := kqd_lay 8 d oa
 have lb := kqd_lay 8 e ob
 obtain ⟨q_, q_, q_, q_, q_, un, q_, q_, q_, q_, q_, q_, q_, q_, q_, hAe, q_, q_, q_, q_, hu⟩ := hC.top.o
 refine ne_dataH (s := c.at g tk) ra rb ?_ ?_ (by rw [hAe]; exact lvK hl hu) ⟨g, tk, nw, rfl, st, ?_⟩
 · unfold SeqAt.shaped; rw [la.1, Bool.true_and]; exact decide_eq_true (Nat.le_trans la.2 (by decide))
 · unfold SeqAt.shaped; rw [lb.1, Bool.true_and]; exact decide_eq_true (Nat.le_trans lb.2 (by decide))
 · have : PyData.eqv (kqdP d) (kqdP e) = q := by
    have k := (kqd_eqv 8 d e 8 oa ob).trans hq.symm
    cases q with
    | true => exact k.mpr rfl
    | false => exact Bool.eq_false_iff.mpr fun x => nomatch (k.mp x)
   rw [this]; exact h
theorem r_eqD {lev : Nat} {c : Cx} {E : VSP} {al : Al} {nw : Led} {K : VLP} {va vb : Value} {d e : Dat} {q : Bool} (hC : CAny lev c) (hl : 4 ≤ lev) (ha : DatIn nw va d) (hb : DatIn nw vb e) (oa : kqdOk 8 d = true) (ob : kqdOk 8 e = true) (hq : q = true ↔ d = e) (h : K (.bool q) nw) : RawS E c (compareOp .Eq va vb) al nw K := fun g tk st => by
 obtain ⟨as, ra⟩ := kqd_in st.2.1 8 ha oa
 obtain ⟨bs, rb⟩ := kqd_in st.2.1 8 hb ob
 have la := kqd_lay 8 d oa
 have lb := kqd_lay 8 e ob
 obtain ⟨q_, q_, q_, q_, q_, un, q_, q_, q_, q_, q_, q_, q_, q_, q_, hAe, q_, q_, q_, q_, hu⟩ := hC.top.o
 refine eq_dataH (s := c.at g tk) ra rb ?_ ?_ (by rw [hAe]; exact lvK hl hu) ⟨g, tk, nw, rfl, st, ?_⟩
 · unfold SeqAt.shaped; rw [la.1, Bool.true_and]; exact decide_eq_true (Nat.le_trans la.2 (by decide))
 · unfold SeqAt.shaped; rw [lb.1, Bool.true_and]; exact decide_eq_true (Nat.le_trans lb.2 (by decide))
 · have : PyData.eqv (kqdP d) (kqdP e) = q := by
    have k := (kqd_eqv 8 d e 8 oa ob).trans hq.symm
    cases q with
    | true => exact k.mpr rfl
    | false => exact Bool.eq_false_iff.mpr fun x => nomatch (k.mp x)
   rw [this]; exact h
def oF : Option Bool → Addr
 | none => 485
 | some false => 492
 | some true => 499
theorem n_opM {o : Option Bool} {x y : Int} {v1 v2 : Value} {d : Bool} {m yb : Addr} {nw : Led} (hq : (m, methodObj (.ref (oF o)) (.ref yb)) ∈ nw) (hy : RkIn nw yb) (h1 : Num nw d v1 x) (h2 : Num nw d v2 y) (ok : oOk o x y) : CtN 7 (.ref m) [v1, v2] nw fun v n' => NumF nw n' d v (oI o x y) := by
 rcases o with q_ | q_ | q_
 · exact (n_plus hq hy h1 h2 ok).wk fun v n h => by rw [Bool.or_self] at h; exact h
 · exact (n_less hq hy h1 h2 ok).wk fun v n h => by rw [Bool.or_self] at h; exact h
 · exact (n_times hq hy h1 h2 ok).wk fun v n h => by rw [Bool.or_self] at h; exact h
theorem oF_fn {o : Option Bool} {P : Params} : fnIn (K39 P) (oF o) = true := by
 rcases o with q_ | q_ | q_
 · show fnIn (K39 P) 485 = true; k_is
 · show fnIn (K39 P) 492 = true; k_is
 · show fnIn (K39 P) 499 = true; k_is
inductive CellP (nw : Led) (o : Option Bool) (d : Bool) (r k : Nat) (f g : NNI) (v : Value) (n : Led) : Prop
 | pk (a : _) : v = .ref a → GridF (Fre nw) (some d) n a r k (fun i j => oI o (f i j) (g i j)) → CellP nw o d r k f g v n
noncomputable def CellJ (nw : Led) (o : Option Bool) (d : Bool) (k : Nat) (f g : NNI) (i : Nat) (ys : List Value) (tl : Led) : Prop := Upto i ys fun i v => E1_2 (fun a => v = .ref a) (fun a => RowF (Fre nw) (some d) tl a k fun j => oI o (f i j) (g i j))
theorem n_cell {o : Option Bool} {ok1 ok2 : Addr → Prop} {d : Bool} {x y m yb : Addr} {r k : Nat} {f gf : NNI} {nw : Led} (hG : GridF ok1 (some d) nw x r k f) (hH : GridF ok2 (some d) nw y r k gf) (hr : 1 ≤ r ∧ r ≤ 9) (hk : 1 ≤ k ∧ k ≤ 9)
 (hm : (m, methodObj (.ref (oF o)) (.ref yb)) ∈ nw) (hy : RkIn nw yb) (hb : ∀ i j, i < r → j < k → oOk o (f i j) (gf i j)) :
 CtN 9 (.ref 366) [.ref x, .ref y, .ref m] nw (CellP nw o d r k f gf) := by
 obtain ⟨vs, q, m1, e1, h1⟩ := hG.at
 obtain ⟨ws, q', m2, e2, h2⟩ := hH.at
 refine code_vc1 (W := AnyW) (fun P => by k_is) (fun P => by k_is) rfl (by kernel_rfl) (by kernel_rfl) (hown := fun q_ => rfl) (v1 := some (.ref m)) (hv1 := rfl) ?_
 intro c o1 q_ hC d1 hL
 have hA := hC.toCAny
 have q1 : c.cl.lookup (Str.ofString "work") = some (c.L + 1) := by rw [hC.clq]; rfl
 have l0 := le1 (o1 := o1) hL
 refine shapeK (n_shape (hG.mono l0.sub) ⟨hr.1, by exact nr ‹_›⟩ (by exact nr ‹_›)) hA fun s t1 t2 j n1 l1 hm1 hs => ?_
 have l01 := l0.trans l1
 refine shapeK (n_shape (hH.mono l01.sub) ⟨hr.1, by exact nr ‹_›⟩ (by exact nr ‹_›)) hA fun s2 t3 t4 j2 n2 l2 hm2 hs2 => ?_
 refine r_neD hA (by decide) (.tuple (l2.sub _ hm1) (.cons (.int _ _) (.cons (.int _ _) .nil))) (.tuple hm2 (.cons (.int _ _) (.cons (.int _ _) .nil))) rfl rfl (q := true) ⟨fun q_ => rfl, fun q_ => rfl⟩ (iteF' ?_)
 have l02 := l01.trans l2
 have mc := (l1.trans l2).sub (c.L + 1, o1) (.head _)
 refine lc2 (b := true) (own := fun C => [(Str.ofString "mate", C + 1 + 1), (Str.ofString "row", C + 1)]) (fz := [(Str.ofString "work", c.L + 1, .ref m)]) hA ⟨by obtain ⟨_, _, _, _, e⟩ := hC.en; rw [e]; with_unfolding_all rfl, rfl, by decide, fun q_ => rfl, fun q_ => ownOk_two (by decide), fun q_ => by kernel_rfl, fun q_ => rfl⟩ (by decide) (by rw [hC.ns]; rfl) rfl ?_
 rw [hC.ns, hC.fr]
 refine ⟨x, y, vs, ws, q, q', [], _, _, rfl, rfl, l02.sub _ m1, l02.sub _ m2, comp0 (CellJ nw o d k f gf) (by lia) (hC.noK _) ⟨⟨o1, mc, d1⟩, trivial⟩ Upto.zero ?_ ?_⟩
 · rintro i vs' ys tl led C keep hi ⟨u, v, hu, hv, rfl⟩ hJ ab sub hk1 hcl hA'
   obtain ⟨a, e3, hR⟩ := h1 i (by exact mk2 ‹_› ‹_›)
   obtain rfl := Option.some.inj (hu.symm.trans e3)
   obtain ⟨b, e4, hR2⟩ := h2 i (by exact mk2 ‹_› ‹_›)
   obtain rfl := Option.some.inj (hv.symm.trans e4)
   obtain ⟨us, p3, m3, e5, h3⟩ := hR.at
   obtain ⟨us2, p4, m4, e6, h4⟩ := hR2.at
   obtain ⟨oa, ma, da⟩ := hcl (Str.ofString "row") (C + 1) (.ref a) rfl rfl (by decide)
   obtain ⟨ob, mb, db⟩ := hcl (Str.ofString "mate") (C + 1 + 1) (.ref b) rfl rfl (by decide)
   have sl : ∀ p ∈ nw, p ∈ led := fun p hp => sub p (jR _ (l02.sub p hp))
   refine lc1 (b := false) (own := fun q_ => []) (fz := [(Str.ofString "work", c.L + 1, .ref m), (Str.ofString "row", C + 1, .ref a), (Str.ofString "mate", C + 1 + 1, .ref b)]) hA' ⟨by obtain ⟨_, _, _, _, e⟩ := hC.en; show closureFor _ (compEnvC _ _ _ _) = _; rw [e]; with_unfolding_all rfl, rfl, by decide, fun q_ => rfl, fun q_ => ownOk_nil, fun q_ => by kernel_rfl, fun q_ => rfl⟩ ?_
   refine r_len (sl _ m3) (by exact nsr ‹_› ‹_›) fun t5 => ?_
   refine r_rng1 fun D2 t u w hD2 => ?_
   rw [e5]
   refine ⟨D2, [], _, _, rfl, rfl, .inr ⟨0, k, t, u, w, k, List.mem_cons_self, by exact Int.zero_add _, by exact z0r ‹_›, comp0 (fun j ys tl => Upto j ys fun j v' => NumO (some d) tl v' (oI o (f i j) (gf i j))) (by exact nr ‹_›) (fun p hp => jC _ (hk1 p hp)) ⟨⟨o1, .tail _ (sub _ (jR _ mc)), d1⟩, ⟨oa, .tail _ ma, da⟩, ⟨ob, .tail _ mb, db⟩, trivial⟩ Upto.zero ?_ ?_⟩⟩
   · rintro j vs2 ys2 tl2 led2 C2 keep2 hj ⟨t6, rfl⟩ hJ2 ab2 sub2 hk2 hcl2 hA2 ea eb hs
     have s2 : ∀ p ∈ nw, p ∈ led2 := fun p hp => sub2 p (jR _ (jC _ (sl p hp)))
     obtain ⟨z, e7, hN⟩ := h3 j hj
     obtain ⟨z2, e8, hN2⟩ := h4 j hj
     refine r_idxL hs (s2 _ m3) (by exact Int.natCast_nonneg _) (by exact z2r ‹_› ‹_›) (by rw [Int.zero_add]; exact e7) fun ea eb hs => ?_
     refine r_idxL hs (s2 _ m4) (by exact Int.natCast_nonneg _) (by exact z2r ‹_› ‹_›) (by rw [Int.zero_add]; exact e8) ⟨KeepV.meth hA2 (s2 _ hm) oF_fn, ?_⟩
     refine (n_opM (s2 _ hm) (hy.mono s2) (hN.num.mono s2) (hN2.num.mono s2) (hb i j (by exact mk2 ‹_› ‹_›) hj)).go hA2 fun v n4 l7 hN => ?_
     obtain ⟨t, rfl, ab7⟩ := l7
     exact ce0 t rfl ab7 (hJ2.snoc (fun q_ q_ h => h.mono fun p hp => jR _ hp) (.of (hN.new.mono fun p hp => jL _ hp)))
   · intro D3 ys2 tl2 ab2 hJ2
     have hD3 : ∀ p ∈ led, p.1 < D3 := fun p hp => ab2 _ List.mem_cons_self p (jC _ hp)
     refine ce0 ((D3, lst ys2) :: (tl2 ++ [(D2, rngO 0 k 1 t u w)])) (by simp) (Abv.cons hD3 (fun q hq p hp => ?_)) (hJ.snoc (fun j v' ⟨a, e, h⟩ => ⟨a, e, h.mono fun p hp => jR _ hp⟩) ⟨D3, rfl, ?_⟩)
     · revert q; refine fma (fun q hq => ?_) fun q hq => ?_
       · exact ab2 q (jC _ hq) p (jC _ hp)
       · rw [jO hq]; exact hD2 p hp
     · exact rowO hJ2 (.head _) (fun p hp => hD3 p (sl p hp)) fun p hp => .tail _ (jL _ (jL _ hp))
 · intro D4 ys tl ab hJ
   refine ⟨l02.trans ⟨(D4, lst ys) :: tl, rfl, ab⟩, D4, rfl, ?_⟩
   have hJ : CellJ nw o d k f gf r ys tl := by rw [e1, e2, Nat.min_self] at hJ; exact hJ
   exact gridO hJ (.head _) (fun p hp => ab (D4, lst ys) (.head _) p (l02.sub p hp)) fun p hp => .tail _ (jL _ hp)
end Mine
namespace Mine
section
variable {lev : Nat} {c : Cx} {E : VSP} {al : Al} {nw rest : Led} {K : VLP} {Ku : Led → Prop} {KR : VAP} {Kn : ALP} {x y : Int} {t u : Tok} {s : Str}
theorem r_lenS (hn : s.length ≤ 1000) (h : ∀ t, K (.int s.length t) nw) : RawS E c (call (.builtin "len") [.str s t]) al nw K := fun g tk st =>
 len_writK s.length rfl (by lia) ⟨g, tk + 1 + 1, nw, rfl, st, h _⟩
theorem r_idxS {ea eb : PySem.Expr} (hs : isSl eb = false) (h0 : 0 ≤ x) (h1 : x < s.length) (hn : s.length ≤ 1000) (h : ∀ t, K (.str (Txt.item s x) t) nw) : RawS E c (subscriptTail ea eb (.str s t) (.int x u)) al nw K := fun g tk st =>
 KXi.item rfl (by lia) h1 (by lia) (fun q_ => ⟨g, tk + 1, nw, rfl, st, h _⟩) (sub_plain hs) (fun r => by cases ea <;> rfl)
theorem r_notin {d : Addr} {o : Obj} {kvs : List (Str × Value)} (hm : (d, o) ∈ nw) (hd : o.IsDictOf (strKind PG c.w) kvs) (hy : (d == sysModules) = false) {b : Bool} (hb : (valueAt kvs s).isSome = b) (h : K (.bool !b) nw) : RawS E c (compareOp .NotIn (.str s t) (.ref d)) al nw K := fun g tk st =>
 kdg_notin (s := c.at g tk) st.2.1 hm hd hy (strKind_is _ _ _ _) b hb ⟨g, tk + 1, nw, rfl, st, h⟩
theorem r_in {d : Addr} {o : Obj} {kvs : List (Str × Value)} (hm : (d, o) ∈ nw) (hd : o.IsDictOf (strKind PG c.w) kvs) (hy : (d == sysModules) = false) {b : Bool} (hb : (valueAt kvs s).isSome = b) (h : K (.bool b) nw) : RawS E c (compareOp .In (.str s t) (.ref d)) al nw K := fun g tk st =>
 kda_in (s := c.at g tk) st.2.1 hm hd hy (strKind_is _ _ _ _) b hb ⟨g, tk + 1, nw, rfl, st, h⟩
theorem r_dit {ea eb : PySem.Expr} {d : Addr} {o : Obj} {kvs : List (Str × Value)} {v : Value} (hs : isSl eb = false) (hm : (d, o) ∈ nw) (hd : o.IsDictOf (strKind PG c.w) kvs) (hv : valueAt kvs s = some v) (h : K v nw) : RawS E c (subscriptTail ea eb (.ref d) (.str s t)) al nw K := fun g tk st =>
 kda_itemA (s := c.at g tk) st.2.1 hm hd (strKind_is _ _ _ _) hv ⟨g, tk + 1, nw, rfl, st, h⟩ (sub_plain hs)
theorem r_listOf {b : Addr} {its : Array Value} {q : Nat} (hm : (b, listOf its q) ∈ nw) (hz : its.size ≤ 1000) (h : ∀ D k, (∀ p ∈ nw, p.1 < D) → K (.ref D) ((D, listOf its.toList.toArray k) :: nw)) : RawS E c (call (.type "list") [.ref b]) al nw K := fun g tk st =>
 kup_listOf (s := c.at g tk) st.1 st.2.1 hm rfl (fun D k h' F N lt => ⟨h', tk, _, rfl, st_cons st F N, h D k lt⟩) (szl (by rw [Array.length_toList]; exact hz))
noncomputable def vPart (f : PySem.Expr → VC) (e : Option PySem.Expr) : VC := match e with
 | some e => f e
 | none => fun q_ q_ q_ nw K => K .none nw
theorem r_slice {e : PySem.Expr} {lo hi : Option PySem.Expr} {p pos : Pos} (hC : CAny lev c)
 (h : vcE E glT c.ns 60 false e c.fr c al nw fun v n1 => vPart (vcE E glT c.ns 60 false) lo c.fr c al n1 fun vl n2 => vPart (vcE E glT c.ns 60 false) hi c.fr c al n2 fun vu n3 => E5_6 (fun z its q a b => v = .ref z) (fun z its q a b => (z, listOf its q) ∈ n3) (fun z its q a b => its.size ≤ 1000) (fun z its q a b => IsPart vl a) (fun z its q a b => IsPart vu b) (fun z its q a b => ∀ D, (∀ p ∈ n3, p.1 < D) → K (.ref D) ((D, listOf (slicePick its a b none) 0) :: n3))) :
 RawS E c (eval (.Subscript e (.Slice lo hi none p) pos) c.env) al nw K := by
 have part : ∀ {e : Option PySem.Expr} {al : Al} {n : Led} {K : VLP}, vPart (vcE E glT c.ns 60 false) e c.fr c al n K → RawS E c (evalPart e c.env) al n K := fun {e al n K} v => by
  cases e with
  | some e => exact fun g tk st => evalPart_some_step ((vcE_snd hC.okx 60).1 e al n K v g tk st)
  | none => exact fun g tk st => evalPart_none_step ⟨g, tk, n, rfl, st, v⟩
 intro g tk st
 refine Subscript_ (RawS.seq ((vcE_snd hC.okx 60).1 e al nw _ h) (fun v n1 g tk k st => ?_) g tk st)
 refine wpAny_Slice (RawS.seq (part k) (fun vl n2 g tk k st => RawS.seq (part k) (fun vu n3 g tk k st => ?_) g tk st) g tk st)
 obtain ⟨z, its, q, a, b, rfl, hm, hz, pa, pb, kk⟩ := k
 exact evalPart_none_step (slice_any (s := c.at g tk) st.1 st.2.1 hm pa pb (fun D h' F N lt => ⟨h', tk, _, rfl, st_cons st F N, kk D lt⟩) rfl hz)
structure RawU (E : VSP) (c : Cx) (m : Sem Unit) (al : Al) (nw : Led) (Kn : ALP) : Prop where
 o : ∀ g tk, c.st al nw g → wpAny (model PG c.w) c.A m (fun q_ s' => E3_3 (fun g' tk' n' => s' = c.at g' tk') (fun g' tk' n' => c.st al n' g') (fun g' tk' n' => Kn al n')) E (c.at g tk)
structure SetOk (K : Frag) (C : Addr) (name : Str) : Prop where
 a : findIn K (.ref C) "__setattr__" = some (some (.builtin "object.__setattr__"))
 b : plainOver K C = true
 d : takerIn K C name = some none
 e : hasDictIn K C = true
theorem c_asgA {e o : PySem.Expr} {attr : Str} {p pos : Pos} (hC : CAny lev c) (hw : swapsWith e (some (.Attribute o attr p)) pos.line c.env = pure false)
 (h : vcE E glT c.ns 60 false e c.fr c al nw fun v n1 => vcE E glT c.ns 60 false o c.fr c al n1 fun z n2 => RawU E c (setAttr z attr v) al n2 Kn) :
 RawC E c KR (exec (.Assign [.Attribute o attr p] e pos) c.env) al nw Kn := fun g tk st =>
 plainObj_wpAny_Assign_Attribute (RawS.seq ((vcE_snd hC.okx 60).1 e al nw _ h) (fun v n1 g tk k st => RawS.seq ((vcE_snd hC.okx 60).1 o al n1 _ k) (fun z n2 g tk k st => wpAny_mono (k.o g tk st) (fun q_ s' ⟨g', tk', n', e, st', k⟩ => ⟨g', tk', al, n', e, st', k⟩) fun q_ q_ e => e) g tk st) g tk st) hw
theorem c_asgI {e o i : PySem.Expr} {p pos : Pos} (hC : CAny lev c) (hw : swapsWith e (some (.Subscript o i p)) pos.line c.env = pure false)
 (h : vcE E glT c.ns 60 false e c.fr c al nw fun v n1 => vcE E glT c.ns 60 false o c.fr c al n1 fun z n2 => vcE E glT c.ns 60 false i c.fr c al n2 fun j n3 => RawU E c (setItem z j v) al n3 Kn) :
 RawC E c KR (exec (.Assign [.Subscript o i p] e pos) c.env) al nw Kn := fun g tk st =>
 wpAny_Assign_Subscript (RawS.seq ((vcE_snd hC.okx 60).1 e al nw _ h) (fun v n1 g tk k st => RawS.seq ((vcE_snd hC.okx 60).1 o al n1 _ k) (fun z n2 g tk k st => RawS.seq ((vcE_snd hC.okx 60).1 i al n2 _ k) (fun j n3 g tk k st => wpAny_mono (k.o g tk st) (fun q_ s' ⟨g', tk', n', e, st', k⟩ => ⟨g', tk', al, n', e, st', k⟩) fun q_ q_ e => e) g tk st) g tk st) g tk st) hw
theorem setL {D : Addr} {its : Array Value} {n : Nat} {v : Value} {g : Heap} {tk : Nat} (m : (D, listOf its n) ∈ nw) (sub : ∀ p ∈ rest, p ∈ nw) (off : ∀ p ∈ rest, p.1 ≠ D) (h0 : 0 ≤ x) (hz : x < its.size) (hx : x < 1000) (hk : c.keep = []) (st : c.st al nw g) (h : Kn al ((D, listOf (its.setIfInBounds x.toNat v) n) :: rest)) :
 wpAny (model PG c.w) c.A (setItem (.ref D) (.int x t) v) (fun q_ s' => E3_3 (fun g' tk' n' => s' = c.at g' tk') (fun g' tk' n' => c.st al n' g') (fun g' tk' n' => Kn al n')) E (c.at g tk) := by
 have N : News c.G c.L g ((D, listOf its n) :: rest) := fun p hp => by
  revert p; refine fmc ?_ fun p hp => ?_
  · exact st.2.1 _ m
  · exact st.2.1 _ (sub p hp)
 exact set_mu (s := c.at g tk) st.1 N off h0 (by lia) hz fun h' F N' => ⟨h', tk, _, rfl, ⟨F, N', st.2.2.1, fun p hp => by rw [hk] at hp; cases hp⟩, h⟩
theorem setD {D : Addr} {o : Obj} {kvs : List (Str × Value)} {v : Value} {g : Heap} {tk : Nat} (m : (D, o) ∈ nw) (hd : o.IsDictOf (strKind PG c.w) kvs) (hz : kvs.length ≤ 1000) (sub : ∀ p ∈ rest, p ∈ nw) (off : ∀ p ∈ rest, p.1 ≠ D) (hk : c.keep = []) (st : c.st al nw g) (h : ∀ o', o'.IsDictOf (strKind PG c.w) (stored kvs s v) → Kn al ((D, o') :: rest)) :
 wpAny (model PG c.w) c.A (setItem (.ref D) (.str s t) v) (fun q_ s' => E3_3 (fun g' tk' n' => s' = c.at g' tk') (fun g' tk' n' => c.st al n' g') (fun g' tk' n' => Kn al n')) E (c.at g tk) := by
 have N : News c.G c.L g ((D, o) :: rest) := fun p hp => by
  revert p; refine fmc ?_ fun p hp => ?_
  · exact st.2.1 _ m
  · exact st.2.1 _ (sub p hp)
 exact kda_set (s := c.at g tk) st.1 N (.head off) hd (strKind_is _ _ _ _) (szl hz) fun h' o' F N' hd' => ⟨h', tk + 1, _, rfl, ⟨F, N', st.2.2.1, fun p hp => by rw [hk] at hp; cases hp⟩, h o' hd'⟩
theorem r_cls {W : World → Prop} {C fI : Addr} {vs : List Value} {l : Nat} (hw : W c.w) (hC : CAny lev c) (h1 : makesIn (K39 c.w.params) C = true) (h2 : findIn (K39 c.w.params) (.ref C) "__init__" = some (some (.ref fI))) (h3 : isFn (K39 c.w.params) (.ref fI) = true) (hl : l + 2 ≤ lev) (hk : c.keep = [])
 (h : ∀ z d, (∀ p ∈ nw, p.1 < d) → d < z → E1_2 (fun K' => CtG W l (.ref fI) (.ref z :: vs) ((z, instObj C d) :: (d, dictOf [] 0) :: nw) K') (fun K' => ∀ v n, K' v n → v = .none ∧ K (.ref z) n)) : RawS E c (call (.ref C) vs) al nw K := fun g tk st => by
 obtain ⟨loose, mean, mg, mb, dp, un, gd, cn, cs, a, ccd, cl, outer, A₀, base, e1, e2, e3, e4, e5, e6⟩ := hC.top.o
 refine call_cls (s := c.at g tk) st.1 hC.top.X st.2.1 h1 h2 h3 fun z d h' F N lt1 lt2 => ?_
 obtain ⟨K', hK, hf⟩ := h z d lt1 lt2
 have hT : CTop l { c with A := c.A.under (.builtin "type.__call__" ⟨.ref C :: vs, []⟩) } := ⟨⟨loose, mean, mg, mb, dp + 1, un + 1, _, cn, cs, a, ccd, cl, outer, A₀, base, by rw [e1]; rfl, e2, e3, e4, lv1 (lvA (Nat.le_of_succ_le hl) e5), lv2 (lvB (Nat.le_of_succ_le hl) e6)⟩, hC.top.X⟩
 refine codeAny_mono (hK.o' { c with A := c.A.under (.builtin "type.__call__" ⟨.ref C :: vs, []⟩) } al E hw hT (fun q_ q_ q_ q_ p hp => by rw [show c.keep = [] from hk] at hp; cases hp) h' tk ⟨F, N, st.2.2.1, fun p hp => by rw [show c.keep = [] from hk] at hp; cases hp⟩) fun r s' hr => ?_
 match r with
 | .ok (.ret v) =>
  obtain ⟨h1, tk1, n1, e, st1, k⟩ := hr
  obtain ⟨rfl, k2⟩ := hf _ _ k
  exact ⟨rfl, h1, tk1, n1, e, st1, k2⟩
 | .ok .next => exact hr
 | .ok .brk => exact hr
 | .ok .cont => exact hr
 | .error e => exact hr
theorem r_dget {e a1 a2 : PySem.Expr} {p pos : Pos} {pl : Sem Bool} (hC : CAny lev c) (hs1 : isStar a1 = false) (hs2 : isStar a2 = false)
 (he : eval (.Call (.Attribute e (Str.ofString "get") p) [a1, a2] [] pos) c.env = (do
  let ov ← eval e c.env
  standAt p.atName
  let (f, first) ← holding [ov] (getMethod ov (Str.ofString "get") pl)
  callWith pos f first (backTo pos (starEach [a1, a2] c.env)) []))
 (h : vcE E glT c.ns 60 false e c.fr c al nw fun v n1 => E2_5 (fun d o => v = .ref d) (fun d o => (d, o) ∈ n1) (fun d o => o.IsDictOf (strKind PG c.w) []) (fun d o => (d == sysModules) = false) (fun d o => vcE E glT c.ns 60 false a1 c.fr c al n1 fun v1 n2 => vcE E glT c.ns 60 false a2 c.fr c al n2 fun v2 n3 => (d, o) ∈ n3 ∧ E4_3 (fun x t y u => v1 = .str x t) (fun x t y u => v2 = .str y u) (fun x t y u => ∀ t, K (.str y t) n3))) :
 RawS E c (eval (.Call (.Attribute e (Str.ofString "get") p) [a1, a2] [] pos) c.env) al nw K := by
 intro g tk st
 refine MethodCall_ ?_ he
 refine RawS.seq ((vcE_snd hC.okx 60).1 e al nw _ h) (fun v n1 g tk k st => ?_) g tk st
 obtain ⟨d, o, rfl, hm, hd, hy, k⟩ := k
 refine getMethod_strTab_get (TabAt.ofNews st.2.1 hm hy hd .nil) ?_
 have hst : [a1, a2].any isStar = false := by rw [List.any_cons, List.any_cons, hs1, hs2]; rfl
 have hA := args_snd (pos := pos) (E := E) (es := [a1, a2]) (f := vRaw E) (fr := []) (K := fun vs n3 => E2_3 (fun v1 v2 => vs = [v1, v2]) (fun v1 v2 => (d, o) ∈ n3) (fun v1 v2 => (E4_3 (fun x t y u => v1 = .str x t) (fun x t y u => v2 = .str y u) (fun x t y u => ∀ t, K (.str y t) n3)))) hst (fun q_ q_ q_ q_ v => v) al n1
  (RawS.mono ((vcE_snd hC.okx 60).1 a1 al n1 _ k) fun y n2 k => RawS.mono ((vcE_snd hC.okx 60).1 a2 al n2 _ k) fun y n2 k => ⟨_, _, rfl, k.1, k.2⟩) g tk st
 rw [star_one hs1] at hA ⊢
 refine Calls.callWith_builtin (by rw [star_one hs2]; rfl) (evalArgs_plain (wpAny_mono hA (fun vs s' y1 => ?_) fun q_ q_ e => e))
 obtain ⟨h', tk', nw', e', st', q_, v1, v2, e2, hm2, x, t, y, u, e3, e4, k⟩ := y1
 subst e' e2 e3 e4
 refine kt_get2_noneS (s := c.at h' tk') (TabAt.ofNews st'.2.1 hm2 hy hd .nil) rfl (PyProof.V.Flat.str y u) fun v hv => ?_
 obtain ⟨t', rfl⟩ := PyProof.V.Flat.str_inv hv
 exact ⟨h', tk' + 1, nw', rfl, st', k t'⟩
end
open LCg
theorem r_rng3 {c : Cx} {E : VSP} {al : Al} {nw : Led} {K : VLP} {x y z : Int} {t u w : Tok} (hz : 1 ≤ z ∧ z ≤ 1000) (h : ∀ D, (∀ p ∈ nw, p.1 < D) → K (.ref D) ((D, rngO x y z t u w) :: nw)) : RawS E c (call (.type "range") [.int x t, .int y u, .int z w]) al nw K := fun g tk st =>
 PySem.call_range_3 (s := c.at g tk) (fun e => absurd (e ▸ hz.1) (by decide)) ⟨_, _, _, rfl, st_cons st (st.1.push _) (News.push st.1 st.2.1 _), h _ fun p hp => Heap.lt_size (st.2.1 p hp).1⟩ (Or.inl (PyProof.noPylong_small (na hz)))
inductive SrcR (lev : Nat) (scope : Scope) (own : Addr → SAs) (tg : List (Str × Bool)) (elt : PySem.Expr) (c : Cx) (al : Al) (fz : List (Str × Addr × Value)) (K : VLP) (v : Value) (n1 : Led) : Prop
 | pk (ax : Addr) (mu news : Led) (J : CJ) (a b d : Int) (t u w : Tok) (n : Nat) : v = .ref ax → n1 = mu ++ news → (ax, rngO a b d t u w) ∈ news → Builtin.Range.small a b d = true → Builtin.Range.rangeSize a b d = (n : Int) → (CompV lev scope own tg elt c al fz n (fun i vs => ∃ t, vs = [.int (a + i * d) t]) mu news K J) → SrcR lev scope own tg elt c al fz K v n1
section
variable {lev : Nat} {c : Cx} {scope : Scope} {own : Addr → SAs} {fz : List (Str × Addr × Value)} {elt iter : PySem.Expr} {E : VSP} {al : Al} {nw : Led} {x : Str} {px pos : Pos} {b : Bool}
theorem lc1RA {lev' iy : Nat} {names : NKs} {cl : SAs} {KR : VAP} {Kn : ALP} {z : Str} {pz spos : Pos} (hC : CAny lev c) (hI : CIn lev' names c cl) (S : CompS scope own [(x, b)] iter c fz) (hy : findN names z 0 = some (iy, .local)) (hn : (names.map (·.1)).Nodup)
 (hsw : swapsWith (.ListComp elt [⟨.Name x px, iter, [], 0⟩] scope pos) (some (.Name z pz)) spos.line c.env = pure true)
 (h : vcE E glT c.ns 60 false iter c.fr c al nw (SrcR lev scope own [(x, b)] elt c al fz fun v n' => Kn (alSet al iy v) n')) :
 RawC E c KR (exec (.Assign [.Name z pz] (.ListComp elt [⟨.Name x px, iter, [], 0⟩] scope pos) spos) c.env) al nw Kn := by
 intro h1 tk1 st1
 refine lc_assign (s := c.at h1 tk1) st1.1 hI.lo hsw S.clos S.kind S.names S.ow (fun C => asg_1 S) (by unfold Env.kindOf; rw [hI.ok.nm, hI.ns]; exact findN_lookup hy) (by rw [hI.ok.kd]; rfl)
  (RawS.seq ((vcE_snd hC.okx 60).1 iter al nw _ h) (fun v n1 h tk k st => ?_) h1 tk1 st1) S.set
 obtain ⟨ax, mu, news, J, a, b', d, t, u, w, n, rfl, rfl, hm, hsm, hrs, V⟩ := k
 exact src_range (s := c.at h tk) (n := n) J (st.2.1 _ (jR _ hm)).1 hsm hrs hC.hn st.1 st.2.1 (szl V.sz) V.mo rfl V.h0 (fun s₂ hs => lc_turn hC S.kind S.chk V.cells (fun i v g m₂ cm₂ e ha => by
  obtain ⟨t, rfl⟩ := e
  exact ⟨[.int (a + i * d) t], ⟨t, rfl⟩, And.intro ha trivial⟩) V.turn hs) fun s₂ hs => finA hI hy hn st.2.2.1 hs V
end
noncomputable def AttIs (c : Cx) (nw : Led) (b : Value) (x : Str) (w : Value) : Prop := ∀ (E : VSP) al (K : VLP), K w nw → RawS E c (getAttr b x true) al nw K
end Mine
namespace Mine
open LCg
theorem word_facts {word : Str} {dec : Bool} (h : WordOk word dec) : (1 ≤ word.length ∧ word.length ≤ 2) ∧ (Txt.item word ((word.length : Int) - 1) == Str.ofString "$") = false ∧ (Txt.item word ((word.length : Int) - 1) == Str.ofString "%") = !dec ∧ (Txt.item word ((word.length : Int) - 1) == Str.ofString "!") = false := by
 have := List.all_eq_true.mp (show (([((Str.ofString "A%" : Str), false), ((Str.ofString "A" : Str), true), ((Str.ofString "B%" : Str), false), ((Str.ofString "B" : Str), true), ((Str.ofString "C%" : Str), false), ((Str.ofString "C" : Str), true), ((Str.ofString "D%" : Str), false), ((Str.ofString "D" : Str), true), ((Str.ofString "E%" : Str), false), ((Str.ofString "E" : Str), true), ((Str.ofString "S%" : Str), false), ((Str.ofString "S" : Str), true)] : List (Str × Bool)).all fun p => decide (1 ≤ p.1.length ∧ p.1.length ≤ 2) && ((Txt.item p.1 ((p.1.length : Int) - 1) == Str.ofString "$") == false) && ((Txt.item p.1 ((p.1.length : Int) - 1) == Str.ofString "%") == !p.2) && ((Txt.item p.1 ((p.1.length : Int) - 1) == Str.ofString "!") == false)) = true by decide +kernel) _ h
 rw [Bool.and_eq_true, Bool.and_eq_true, Bool.and_eq_true] at this
 exact ⟨of_decide_eq_true this.1.1.1, eq_of_beq this.1.1.2, eq_of_beq this.1.2, eq_of_beq this.2⟩
theorem n_kon {w : World} {word : Str} {dec : Bool} {t : Tok} {kd : Addr} {ok : Obj} {nw : Led} (hk : WordOk word dec) (hm : (kd, ok) ∈ nw) (hd : ok.IsDictOf (strKind PG w) []) (hy : (kd == sysModules) = false) : CtNW w 1 (.ref 44) [.str word t, .ref kd] nw fun v q_ => ∃ t, v = .str (kindS dec) t := by
 obtain ⟨hl, f1, f2, f3⟩ := word_facts hk
 refine code_vcG (fun P => by k_is) (fun P => by k_is) rfl (by kernel_rfl) (by kernel_rfl) ?_
 intro c hw hC
 have hA := hC.toCAny
 refine r_lenS (by exact nr ‹_›) fun t1 t2 t3 ea eb hs => ?_
 refine r_idxS hs (by lia) (by lia) (by exact nr ‹_›) fun t4 t5 => iteFb f1 ?_
 intro t6
 cases dec with
 | false => exact iteTb f2 fun t7 => ⟨.refl, t7, rfl⟩
 | true =>
  refine iteFb f2 fun t7 => iteFb f3 ?_
  refine r_dget hA rfl rfl rfl ?_
  rw [hC.ns, hC.fr]
  refine ⟨kd, ok, rfl, hm, hw ▸ hd, hy, ?_⟩
  intro t8 ea eb hs
  refine r_idxS hs (by decide) (by lia) (by exact nr ‹_›) fun t9 t10 => ⟨hm, _, _, _, _, rfl, rfl, fun t => ⟨.refl, t, rfl⟩⟩
theorem n_kind {w : World} {wa ad nd : Addr} {b : Int} {word : Str} {dec : Bool} {t : Tok} {nw : Led} (hW : WorldIn PG w nw wa b ad nd) (hk : WordOk word dec) : CtNW w 2 (.ref 283) [.ref wa, .str word t] nw fun v q_ => ∃ t, v = .str (kindS dec) t := by
 obtain ⟨dw, es, n, t1, t2, t3, t4, kd, ok, h1, h2, h3, h4, h5, h6, h7, h8, h9, h10, h11, h12, h13⟩ := hW
 refine code_vcG (fun P => by k_is) (fun P => by k_is) rfl (by kernel_rfl) (by kernel_rfl) ?_
 intro c hw hC
 have hA := hC.toCAny
 refine r_attr hA h1 h2 ⟨by k_is, by k_is, _, by k_is, by k_is⟩ h9 rfl ?_
 exact (n_kon hk h10 h11 h13).goW hw hA fun v n hl h => ⟨hl, h⟩
structure GrAt (P : Params) (n : Led) (g gda il hl : Addr) (gt : Nat → Tok) (gn ki : Nat) (room : Int) (its : Array Value) (b r k : Nat) (dec : Bool) (f : NNI) : Prop where
 inst : (g, instObj 265 gda) ∈ n
 dict : (gda, dictOf (gEs P gt (kindS dec) hl b il room) gn) ∈ n
 items : (il, listOf its ki) ∈ n
 highs : HighsIn n hl r k
 arr : ArrIs dec b n its r k f
 b1 : b ≤ 1
 rb : 1 ≤ r ∧ r ≤ 12
 kb : 1 ≤ k ∧ k ≤ 12
theorem GrAt.mono {P : Params} {n n' : Led} {g gda il hl : Addr} {gt : Nat → Tok} {gn ki b r k : Nat} {room : Int} {its : Array Value} {dec : Bool} {f : NNI} (h : GrAt P n g gda il hl gt gn ki room its b r k dec f) (hs : ∀ p ∈ n, p ∈ n') : GrAt P n' g gda il hl gt gn ki room its b r k dec f := ⟨hs _ h.inst, hs _ h.dict, hs _ h.items, h.highs.mono hs, h.arr.mono hs, h.b1, h.rb, h.kb⟩
inductive GrIs (P : Params) (n : Led) (g : Addr) (b r k : Nat) (dec : Bool) (f : NNI) : Prop
 | pk (gda il hl gt gn ki room its : _) : GrAt P n g gda il hl gt gn ki room its b r k dec f → GrIs P n g b r k dec f
theorem GrIs.mono {P : Params} {n n' : Led} {g : Addr} {b r k : Nat} {dec : Bool} {f : NNI} (h : GrIs P n g b r k dec f) (hs : ∀ p ∈ n, p ∈ n') : GrIs P n' g b r k dec f := by
 obtain ⟨gda, il, hl, gt, gn, ki, room, its, h⟩ := h
 exact ⟨gda, il, hl, gt, gn, ki, room, its, h.mono hs⟩
theorem r_gat {lev : Nat} {c : Cx} {E : VSP} {al : Al} {nw : Led} {K : VLP} {g gda : Addr} {es : List DictEntry} {n : Nat} {name : Str} {v : Value} (hC : CAny lev c) (m1 : (g, instObj 265 gda) ∈ nw) (m2 : (gda, dictOf es n) ∈ nw) (hn : name = Str.ofString "kind" ∨ name = Str.ofString "highs" ∨ name = Str.ofString "base" ∨ name = Str.ofString "items" ∨ name = Str.ofString "room") (hg : getL name es = some (some v)) (hh : handedIn v = true) (h : K v nw) :
 RawS E c (getAttr (.ref g) name true) al nw K := by
 rcases hn with rfl | rfl | rfl | rfl | rfl
 · exact r_attr hC m1 m2 ⟨by k_is, by k_is, _, by k_is, by k_is⟩ hg hh h
 · exact r_attr hC m1 m2 ⟨by k_is, by k_is, _, by k_is, by k_is⟩ hg hh h
 · exact r_attr hC m1 m2 ⟨by k_is, by k_is, _, by k_is, by k_is⟩ hg hh h
 · exact r_attr hC m1 m2 ⟨by k_is, by k_is, _, by k_is, by k_is⟩ hg hh h
 · exact r_attr hC m1 m2 ⟨by k_is, by k_is, _, by k_is, by k_is⟩ hg hh h
section
variable {lev : Nat} {c : Cx} {E : VSP} {al : Al} {nw : Led} {K : VLP} {P : Params} {g gda il hl : Addr} {gt : Nat → Tok} {gn ki b r k : Nat} {room : Int} {its : Array Value} {dec : Bool} {f : NNI}
theorem g_base (hC : CAny lev c) (G : GrAt P nw g gda il hl gt gn ki room its b r k dec f) (h : K (.int b (gt 4)) nw) : RawS E c (getAttr (.ref g) (Str.ofString "base") true) al nw K := r_gat hC G.inst G.dict (.inr (.inr (.inl rfl))) rfl rfl h
theorem g_highs (hC : CAny lev c) (G : GrAt P nw g gda il hl gt gn ki room its b r k dec f) (h : K (.ref hl) nw) : RawS E c (getAttr (.ref g) (Str.ofString "highs") true) al nw K := r_gat hC G.inst G.dict (.inr (.inl rfl)) rfl rfl h
theorem g_items (hC : CAny lev c) (G : GrAt P nw g gda il hl gt gn ki room its b r k dec f) (h : K (.ref il) nw) : RawS E c (getAttr (.ref g) (Str.ofString "items") true) al nw K := r_gat hC G.inst G.dict (.inr (.inr (.inr (.inl rfl)))) rfl rfl h
end
end Mine
namespace Mine
open LCg
noncomputable def RawRows (its : Array Value) (W : Nat) (i : Nat) (ys : List Value) (tl : Led) : Prop := Upto i ys fun j u => E3_4 (fun a vs k => u = .ref a) (fun a vs k => (a, listOf vs k) ∈ tl) (fun a vs k => vs.size = W) (fun a vs k => ∀ q, q < W → vs[q]? = its[j * W + q]?)
noncomputable def CutRows (nw : Led) (dec : Bool) (k : Nat) (f : NNI) (i : Nat) (ys : List Value) (tl : Led) : Prop := Upto i ys fun j u => E1_2 (fun a => u = .ref a) (fun a => RowF (Fre nw) (some dec) (tl ++ nw) a k (f j))
inductive RowsP (nw : Led) (dec : Bool) (r k : Nat) (f : NNI) (v : Value) (n : Led) : Prop
 | pk (x : _) : v = .ref x → GridF (Fre nw) (some dec) n x r k f → RowsP nw dec r k f v n
theorem n_rows {P : Params} {g : Addr} {b r k : Nat} {dec : Bool} {f : NNI} {nw : Led} (hG : GrIs P nw g b r k dec f) : CtN 1 (.ref 337) [.ref g] nw (RowsP nw dec r k f) := by
 obtain ⟨gda, il, hl, gt, gn, ki, room, its, G⟩ := hG
 obtain ⟨th1, th2, kh, hh⟩ := G.highs
 obtain ⟨hr1, hr2⟩ := G.rb
 obtain ⟨hk1, hk2⟩ := G.kb
 have hb := G.b1
 obtain ⟨W, hW⟩ : ∃ W, W = k + 1 - b := ⟨_, rfl⟩
 obtain ⟨R, hR⟩ : ∃ R, R = r + 1 - b := ⟨_, rfl⟩
 have hsz := G.arr.size
 have hit := G.arr.item
 rw [← hW, ← hR] at hsz hit
 have hR1 : 1 ≤ R := hR ▸ sbp hb hr1
 have hR2 : R ≤ 13 := hR ▸ sbl hr2
 have hW1 : 1 ≤ W := hW ▸ sbp hb hk1
 have hW2 : W ≤ 13 := hW ▸ sbl hk2
 have hzz : R * W ≤ 12 * 13 + 13 := Nat.mul_le_mul hR2 hW2
 refine code_vc3 (W := AnyW) (fun P => by k_is) (fun P => by k_is) rfl (by kernel_rfl) (by kernel_rfl) (hown := fun q_ => rfl) (v1 := some (.ref g)) (hv1 := rfl) (v2 := none) (hv2 := rfl) (v3 := none) (hv3 := rfl) ?_
 intro c o1 o2 o3 q_ hC d1 d2 d3 hL
 have hA := hC.toCAny
 have q1 : c.cl.lookup (Str.ofString "grid") = some (c.L + 1) := by rw [hC.clq]; rfl
 have q2 : c.cl.lookup (Str.ofString "first") = some (c.L + 1 + 1) := by rw [hC.clq]; rfl
 have q3 : c.cl.lookup (Str.ofString "wide") = some (c.L + 1 + 1 + 1) := by rw [hC.clq]; rfl
 have sn : ∀ {o3 o2 : Obj}, ∀ p ∈ nw, p ∈ cl3 c.L o1 o2 o3 nw := (le3 hL).sub
 intro t0
 refine ⟨_, o1, _, q1, m31, d1, g_base hA (G.mono sn) fun t1 => ⟨_, o2, _, q2, m32, d2, fun o2' d2' => ?_⟩⟩
 rw [s32 hL]
 refine ⟨_, o1, _, q1, m31, d1, g_highs hA (G.mono sn) (r_len (sn _ hh) (show (2 : Nat) ≤ 1000 by decide) fun t2 t3 => iteF (show ¬ ((2 : Nat) : Int) = 1 by decide) (vnil ?_))⟩
 refine ⟨_, o1, _, q1, m31, d1, g_highs hA (G.mono sn) (r_len (sn _ hh) (show (2 : Nat) ≤ 1000 by decide) fun t2 t3 => iteF (show ¬ ((2 : Nat) : Int) > 2 by decide) (vnil ?_))⟩
 refine ⟨_, o1, _, q1, m31, d1, g_highs hA (G.mono sn) fun t4 ea eb hs => r_idxL hs (sn _ hh) (by decide) (by decide) rfl ⟨_, o1, _, q1, m31, d1, g_base hA (G.mono sn) fun t5 t6 t7 => ⟨_, o3, _, q3, m33, d3, fun o3' d3' => ?_⟩⟩⟩
 rw [s33 hL]
 rw [sbc hb, ← hW] at d3'
 rw [show (1 : Int) - b = ((1 - b : Nat) : Int) from (Int.ofNat_sub hb).symm] at d2'
 have l0 : Le nw (cl3 c.L o1 o2' o3' nw) := le3 hL
 refine lc1RA (b := false) (own := fun q_ => []) (fz := [(Str.ofString "wide", c.L + 1 + 1 + 1, .int W t7), (Str.ofString "grid", c.L + 1, .ref g)]) hA hC ⟨by obtain ⟨_, _, _, _, e⟩ := hC.en; rw [e]; with_unfolding_all rfl, rfl, by decide, fun q_ => rfl, fun q_ => ownOk_nil, fun q_ => by kernel_rfl, fun q_ => rfl⟩ rfl (by decide +kernel) (by obtain ⟨_, _, _, _, e⟩ := hC.en; rw [e]; rfl) ?_
 rw [hC.ns, hC.fr]
 intro t8
 refine ⟨_, o1, _, q1, m31, d1, g_items hA (G.mono sn) (r_len (sn _ G.items) (by exact ns ‹_› ‹_›) fun t9 => ?_)⟩
 refine ⟨_, o3', _, q3, m33, d3', r_rng3 (zw hW1 hW2) fun D hD => ?_⟩
 refine hsz ▸ ?_
 have l1 := l0.cons (o := rngO 0 ((R * W : Nat) : Int) W t8 t9 t7) hD
 refine ⟨D, [], _, _, 0, _, _, _, _, _, R, rfl, rfl, .head _, (rs13 R (Nat.lt_succ_of_le hR2) W (Nat.lt_succ_of_le hW2) hR1 hW1).2, (rs13 R (Nat.lt_succ_of_le hR2) W (Nat.lt_succ_of_le hW2) hR1 hW1).1, comp0 (RawRows its W) (nt hR2) (hC.noK _) ⟨⟨o3', .tail _ m33, d3'⟩, ⟨o1, .tail _ m31, d1⟩, trivial⟩ Upto.zero ?_ ?_⟩
 · rintro i vs ys tl led C keep hi ⟨t, rfl⟩ hJ ab sub hk3 hcl hA'
   have s2 : ∀ p ∈ nw, p ∈ led := fun p hp => sub p (jR _ (l1.sub p hp))
   refine r_slice hA' ?_
   refine g_items hA' (G.mono s2) fun t10 => ?_
   have e : (0 : Int) + (i : Int) * (W : Int) = ((i * W : Nat) : Int) := by rw [Int.zero_add, Int.natCast_mul]
   refine ⟨il, its, ki, some ((i * W : Nat) : Int), some ((i * W + W : Nat) : Int), rfl, s2 _ G.items, by exact ns ‹_› ‹_›, e ▸ .int _ _, by rw [Int.natCast_add, ← e]; exact .int _ _, fun D2 hD2 => ?_⟩
   have hp := pick_run (its := its) (a := i * W) (b := i * W + W) (by rw [hsz, ← Nat.succ_mul]; exact Nat.mul_le_mul_right _ hi) (Nat.le_add_right _ _)
   exact ce0 [_] rfl (Abv.cons hD2 Abv.nil) (hJ.snoc (fun j u ⟨a, vs, k, e, h1, h2, h3⟩ => ⟨a, vs, k, e, jC _ h1, h2, h3⟩) ⟨D2, _, 0, rfl, .head _, hp.1.trans (Nat.add_sub_cancel_left ..), fun q hq => hp.2 q (by rw [Nat.add_sub_cancel_left]; exact hq)⟩)
 · intro D2 ys tl ab hJ
   have l2 : Le nw ((D2, lst ys) :: (tl ++ ((D, rngO 0 ((R * W : Nat) : Int) W t8 t9 t7) :: (cl3 c.L o1 o2' o3' nw)))) := l1.trans ⟨(D2, lst ys) :: tl, rfl, ab⟩
   have m2 : (c.L + 1 + 1, o2') ∈ (D2, lst ys) :: (tl ++ ((D, rngO 0 ((R * W : Nat) : Int) W t8 t9 t7) :: (cl3 c.L o1 o2' o3' nw))) := .tail _ (jR _ (.tail _ m32))
   have mt : ∀ p ∈ tl, p ∈ (D2, lst ys) :: (tl ++ ((D, rngO 0 ((R * W : Nat) : Int) W t8 t9 t7) :: (cl3 c.L o1 o2' o3' nw))) := fun p hp => .tail _ (jL _ hp)
   have mD : (D2, lst ys) ∈ (D2, lst ys) :: (tl ++ ((D, rngO 0 ((R * W : Nat) : Int) W t8 t9 t7) :: (cl3 c.L o1 o2' o3' nw))) := .head _
   generalize (D2, lst ys) :: (tl ++ ((D, rngO 0 ((R * W : Nat) : Int) W t8 t9 t7) :: (cl3 c.L o1 o2' o3' nw))) = n2 at l2 m2 mt mD ⊢
   have hys : ys.length = R := hJ.1
   refine lc1 (b := false) (own := fun q_ => []) (fz := [(Str.ofString "first", c.L + 1 + 1, .int ((1 - b : Nat) : Int) t1)]) hA ⟨by obtain ⟨_, _, _, _, e⟩ := hC.en; rw [e]; with_unfolding_all rfl, rfl, by decide, fun q_ => rfl, fun q_ => ownOk_nil, fun q_ => by kernel_rfl, fun q_ => rfl⟩ ?_
   refine r_slice hA ?_
   rw [hC.ns, hC.fr]
   refine ⟨_, o2', _, q2, m2, d2', D2, ys.toArray, ys.length, _, _, rfl, mD, (ns hys hR2 : ys.length ≤ 1000), .int _ _, .none, fun D3 hD3 => ?_⟩
   have hp5 := pick_from (its := ys.toArray) (a := 1 - b)
   have hn5 : (slicePick ys.toArray (some ((1 - b : Nat) : Int)) none none).size = r := hp5.1.trans ((congrArg (· - (1 - b)) (hys.trans hR)).trans (sbs hb))
   have l3 := l2.cons (o := listOf (slicePick ys.toArray (some ((1 - b : Nat) : Int)) none none) 0) hD3
   refine ⟨D3, [], _, _, rfl, rfl, .inl ⟨_, 0, .head _, comp0 (CutRows nw dec k f) (by exact ns ‹_› ‹_›) (hC.noK _) ⟨⟨o2', .tail _ m2, d2'⟩, trivial⟩ Upto.zero ?_ ?_⟩⟩
   · rintro i vs ys2 tl2 led C keep hi ⟨v, hv, rfl⟩ hJ2 ab2 sub hk3 hcl hA'
     rw [hn5] at hi
     rw [hp5.2, List.getElem?_toArray] at hv
     obtain ⟨a, us, k9, rfl, hm9, hz9, hv9⟩ := hJ.2 _ _ hv
     have s2 : ∀ p ∈ nw, p ∈ led := fun p hp => sub p (jR _ (l3.sub p hp))
     refine r_slice hA' ?_
     refine ⟨a, us, k9, _, _, rfl, sub _ (jR _ (.tail _ (mt _ hm9))), ns hz9 hW2, .int _ _, .none, fun D7 hD7 => ?_⟩
     have hp7 := pick_from (its := us) (a := 1 - b)
     refine ce0 [_] rfl (Abv.cons hD7 Abv.nil) (hJ2.snoc (fun j u ⟨a, e, x⟩ => ⟨a, e, x.mono fun p hp => jC _ hp⟩) ⟨D7, rfl, fun p hp => hD7 p (s2 p hp), _, 0, .head _, hp7.1.trans ((congrArg (· - (1 - b)) (hz9.trans hW)).trans (sbs hb)), fun q v hq => ?_⟩)
     rw [hp7.2] at hq
     have hq9 := (Array.getElem?_eq_some_iff.mp hq).1
     rw [hz9] at hq9
     rw [hv9 _ hq9] at hq
     obtain ⟨v', e', x'⟩ := hit (1 - b + i) (1 - b + q) (hR ▸ sbi hb hi) hq9
     rw [e'] at hq
     cases hq
     have hcf : cellF f (1 - b + i + b) (1 - b + q + b) = f i q := by
      rw [sbo hb, sbo hb]; rfl
     rw [hcf] at x'
     exact x'.mono fun p hp => .tail _ (jR _ hp)
   · intro D4 ys2 tl2 ab2 hJ2
     have hJ2 : CutRows nw dec k f r ys2 tl2 := by rw [hn5] at hJ2; exact hJ2
     refine ⟨l3.trans ⟨(D4, lst ys2) :: tl2, rfl, ab2⟩, D4, rfl, ?_⟩
     exact gridO hJ2 (.head _) (fun p hp => ab2 _ (.head _) p (l3.sub p hp)) fun p hp => jC _ (List.mem_append.mpr ((jA hp).imp id (l3.sub p)))
end Mine
namespace Mine
open LCg
inductive ZipL (E : VSP) (names : NKs) (body : List Stmt) (is : List Slot1) (c : Cx) (KR : VAP) (al : Al) (Kn : ALP) (v u : Value) (n2 : Led) : Prop
 | pk (ax bx : Addr) (xs ys : Array Value) (k1 k2 : Nat) (mu news : Led) (J : LJ) : v = .ref ax → u = .ref bx → n2 = mu ++ news → (ax, listOf xs k1) ∈ news → (bx, listOf ys k2) ∈ news → Loop E names body is c KR (min xs.size ys.size) (fun i vs => E2_3 (fun x y => xs[i]? = some x) (fun x y => ys[i]? = some y) (fun x y => vs = [x, y])) mu news al Kn J → ZipL E names body is c KR al Kn v u n2
section
variable {lev : Nat} {c : Cx} {names : NKs} {cl : SAs} {KR : VAP} {E : VSP} {al : Al} {nw : Led} {Kn : ALP} {body : List Stmt} {tp p p2 pos : Pos}
theorem for_zip {fn : Str} {a b : PySem.Expr} {ts : List PySem.Expr} {k9 : Nat} {is : List Slot1} (hC : CIn lev names c cl) (hO : PassesOwn (model PG c.w) c.A c.env E) (hx : tgtS names ts = some is) (h2 : is.length = 2) (hf : fnV glT names fn = some (.type "zip")) (hs1 : isStar a = false) (hs2 : isStar b = false)
 (h : vcE E glT names 60 false a [] c al nw fun v n1 => vcE E glT names 60 false b [] c al n1 fun u n2 => ZipL E names body is c KR al Kn v u n2) :
 RawC E c KR (exec (.For (.Tuple ts k9 tp) (.Call (.Name fn p) [a, b] [] p2) body [] pos) c.env) al nw Kn := by
 intro h1 tk1 st1
 refine For_turns (s := c.at h1 tk1) (hC.lo ▸ st1.1) (call_at hC.ok.toCxOk (hC.ns.symm ▸ hf) (by rw [List.any_cons, List.any_cons, hs1, hs2]; rfl) (RawS.mono (hC.ev h) fun v n1 hv => RawS.mono (hC.ev hv) fun u n2 hu => ?_) st1) (fun q_ => rfl) hO
 obtain ⟨ax, bx, xs, ys, k1, k2, mu, news, J, rfl, rfl, rfl, hm1, hm2, Z⟩ := hu
 exact fun h tk st => fsrc_zip (s := c.at h tk) J hC.hn hC.lo (hC.fm ▸ st.1) st.2.1 hm1 hm2 Z.mo rfl (hC.ns ▸ st.2.2.1) Z.h0
  (fun s₂ hs => fturn2 hC hO hx (fun i v q_ ⟨T, x, y, e1, e2, e3, e4⟩ => ⟨T, [x, y], e1, e4, h2.symm, x, y, e2, e3, rfl⟩) Z.turn hs)
  fun s₂ hs h' tk' al' mu' tl F ha N ab hmu hJ => by
   obtain ⟨g, rfl⟩ := hs
   exact EndS.next (hC.stL F ha N) (Z.fin al' mu' tl ab hmu hJ)
end
section
variable {lev : Nat} {c : Cx} {names : NKs} {cl : SAs} {KR : VAP} {E : VSP} {al : Al} {nw : Led} {Kn : ALP} {e o i : PySem.Expr} {attr : Str} {p pos : Pos}
theorem asgA (hC : CIn lev names c cl) (hw : swapsWith e (some (.Attribute o attr p)) pos.line c.env = pure false)
 (h : vcE E glT names 60 false e [] c al nw fun v n1 => vcE E glT names 60 false o [] c al n1 fun z n2 => RawU E c (setAttr z attr v) al n2 Kn) :
 RawC E c KR (exec (.Assign [.Attribute o attr p] e pos) c.env) al nw Kn := c_asgA hC.toCAny hw (by rw [hC.ns, hC.fr]; exact h)
theorem asgI (hC : CIn lev names c cl) (hw : swapsWith e (some (.Subscript o i p)) pos.line c.env = pure false)
 (h : vcE E glT names 60 false e [] c al nw fun v n1 => vcE E glT names 60 false o [] c al n1 fun z n2 => vcE E glT names 60 false i [] c al n2 fun j n3 => RawU E c (setItem z j v) al n3 Kn) :
 RawC E c KR (exec (.Assign [.Subscript o i p] e pos) c.env) al nw Kn := c_asgI hC.toCAny hw (by rw [hC.ns, hC.fr]; exact h)
end
noncomputable def oth (nw : Led) (a : Addr) : Led := nw.filter fun p => p.1 != a
noncomputable def putO (nw : Led) (a : Addr) (o : Obj) : Led := (a, o) :: oth nw a
theorem mem_oth {nw : Led} {a : Addr} {p : Addr × Obj} : p ∈ oth nw a ↔ p ∈ nw ∧ p.1 ≠ a := by
 unfold oth; rw [List.mem_filter, bne_iff_ne]
theorem putO_ne {nw : Led} {a : Addr} {o : Obj} {p : Addr × Obj} (h : p ∈ nw) (hn : p.1 ≠ a) : p ∈ putO nw a o := .tail _ (mem_oth.mpr ⟨h, hn⟩)
theorem oth_cv {nw : Led} {a : Addr} {o : Obj} {p : Addr × Obj} (h : p ∈ nw) : ∃ q ∈ putO nw a o, q.1 = p.1 := by
 by_cases e : p.1 = a
 · exact ⟨_, .head _, e.symm⟩
 · exact ⟨p, putO_ne h e, rfl⟩
section
variable {lev : Nat} {c : Cx} {E : VSP} {al : Al} {nw : Led} {Kn : ALP} {x : Int} {t : Tok} {s : Str} {v : Value} {g : Heap} {tk n : Nat}
theorem setA' {z C d : Addr} {es : List DictEntry} {rest : Led} {name : Str} (es' : Tok → List DictEntry) (n' : Nat) (hC : CAny lev c) (hS : SetOk (K39 c.w.params) C name) (m1 : (z, instObj C d) ∈ rest) (m2 : (d, dictOf es n) ∈ nw) (sub : ∀ p ∈ rest, p ∈ nw) (off : ∀ p ∈ rest, p.1 ≠ d) (hg : (getL name es).isSome = true) (hz : ∀ tk, (es' tk).length ≤ 1000)
 (hput : ∀ tk, (putL name (PyData.keyHash c.w.params name) (.str name tk) v es, putN name es n) = (es' tk, n')) (hk : c.keep = []) (h : ∀ tk, Kn al ((d, dictOf (es' tk) n') :: rest)) :
 RawU E c (setAttr (.ref z) name v) al nw Kn := by
 refine ⟨fun g tk st => ?_⟩
 have N : News c.G c.L g ((d, dictOf es n) :: rest) := fun p hp => by
  revert p; refine fmc ?_ fun p hp => ?_
  · exact st.2.1 _ m2
  · exact st.2.1 _ (sub p hp)
 exact set_dict (s := c.at g tk) st.1 hC.top.X N (InstAt.of_news N (jC _ m1) List.mem_cons_self) rfl hS.a hS.b hS.d hS.e hg (hput _) (.head off) (hz _) fun h' F N' => ⟨h', tk + 2, _, rfl, ⟨F, N', st.2.2.1, fun p hp => by rw [hk] at hp; cases hp⟩, h _⟩
theorem setL' {D : Addr} {its : Array Value} (m : (D, listOf its n) ∈ nw) (h0 : 0 ≤ x) (hz : x < its.size) (hx : x < 1000) (hk : c.keep = []) (h : Kn al (putO nw D (listOf (its.setIfInBounds x.toNat v) n))) :
 RawU E c (setItem (.ref D) (.int x t) v) al nw Kn := ⟨fun g tk st =>
 setL m (rest := oth nw D) (fun p hp => (mem_oth.mp hp).1) (fun p hp => (mem_oth.mp hp).2) h0 hz hx hk st h⟩
theorem setD' {D : Addr} {o : Obj} {kvs : List (Str × Value)} (m : (D, o) ∈ nw) (hd : o.IsDictOf (strKind PG c.w) kvs) (hz : kvs.length ≤ 1000) (hk : c.keep = []) (h : ∀ o', o'.IsDictOf (strKind PG c.w) (stored kvs s v) → Kn al (putO nw D o')) :
 RawU E c (setItem (.ref D) (.str s t) v) al nw Kn := ⟨fun g tk st =>
 setD m hd hz (rest := oth nw D) (fun p hp => (mem_oth.mp hp).1) (fun p hp => (mem_oth.mp hp).2) hk st h⟩
end
theorem set_same {α : Type} {a : α} {l : List α} {i : Nat} (h : l[i]? = some a) : l.set i a = l := by
 induction l generalizing i with
 | nil => rfl
 | cons b r ih =>
  cases i with
  | zero => cases h; rfl
  | succ i => exact congrArg (b :: ·) (ih h)
noncomputable abbrev Lab := Addr → Nat
noncomputable def fro (ow : Lab) (n : Led) : Led := n.filter fun p => ow p.1 == 0
theorem mem_fro {ow : Lab} {n : Led} {p : Addr × Obj} : p ∈ fro ow n ↔ p ∈ n ∧ ow p.1 = 0 := by
 unfold fro; rw [List.mem_filter, beq_iff_eq]
structure Ext (ow : Lab) (nw : Led) (ow' : Lab) (n : Led) : Prop where
 same : ∀ p ∈ nw, ow' p.1 = ow p.1
 kp : ∀ p ∈ nw, ow p.1 = 0 ∨ 50 ≤ ow p.1 → p ∈ n
 cv : ∀ p ∈ nw, ∃ q ∈ n, q.1 = p.1
section
variable {ow ow1 ow2 : Lab} {a b d : Led}
theorem Ext.sub (h : Ext ow a ow1 b) : ∀ p ∈ fro ow a, p ∈ fro ow1 b := fun p hp => by
 obtain ⟨h1, h2⟩ := mem_fro.mp hp
 exact mem_fro.mpr ⟨h.kp p h1 (.inl h2), (h.same p h1).trans h2⟩
theorem Ext.trans (h : Ext ow a ow1 b) (k : Ext ow1 b ow2 d) : Ext ow a ow2 d where
 same p hp := by
  obtain ⟨q, hq, e⟩ := h.cv p hp
  rw [← e, k.same q hq, e, h.same p hp]
 kp p hp hl := k.kp p (h.kp p hp hl) (by rw [h.same p hp]; exact hl)
 cv p hp := by
  obtain ⟨q, hq, e⟩ := h.cv p hp
  obtain ⟨r, hr, e2⟩ := k.cv q hq
  exact ⟨r, hr, e2.trans e⟩
theorem Ext.of (h : ∀ p ∈ a, p ∈ b) : Ext ow a ow b := ⟨fun q_ q_ => rfl, fun p hp q_ => h p hp, fun p hp => ⟨p, h p hp, rfl⟩⟩
end
structure WC where
 w : World
 wa : Addr
 ad : Addr
 nd : Addr
 dec : Bool
 b : Nat
structure AR where
 word : Str
 g : Addr
 room : Nat
 r : Nat
 c : Nat
 f : NNI
structure AX where
 gda : Addr
 il : Addr
 hl : Addr
 gt : Nat → Tok
 gn : Nat
 ki : Nat
 its : Array Value
structure GrW (k : WC) (ow : Lab) (n : Led) (l : Nat) (A : AR) (x : AX) : Prop where
 inst : (A.g, instObj 265 x.gda) ∈ fro ow n
 dict : (x.gda, dictOf (gEs k.w.params x.gt (kindS k.dec) x.hl k.b x.il A.room) x.gn) ∈ n
 items : (x.il, listOf x.its x.ki) ∈ n
 highs : HighsIn (fro ow n) x.hl A.r A.c
 arr : ArrIs k.dec k.b (fro ow n) x.its A.r A.c A.f
 lg : ow x.gda = l
 li : ow x.il = l
 ne : x.gda ≠ x.il
 rb : 1 ≤ A.r ∧ A.r ≤ 12
 kb : 1 ≤ A.c ∧ A.c ≤ 12
noncomputable def tabA (S : List AR) : List (Str × Value) := S.map fun A => (A.word, .ref A.g)
structure WSt (k : WC) (ow : Lab) (n : Led) (nks : List (Str × Value)) (S : List AR) : Prop where
 cov : ∀ a, ow a ≠ 0 → ∃ p ∈ n, p.1 = a
 tp : ∀ a vs q, (a, tup vs q) ∈ n → ow a = 0
 b1 : k.b ≤ 1
 wld : WorldIn PG k.w (fro ow n) k.wa k.b k.ad k.nd
 tab : E1_2 (fun oa => (k.ad, oa) ∈ n) (fun oa => oa.IsDictOf (strKind PG k.w) (tabA S))
 nms : E1_2 (fun on => (k.nd, on) ∈ n) (fun on => on.IsDictOf (strKind PG k.w) nks)
 nkl : nks.length ≤ 20
 la : ow k.ad = 1
 ln : ow k.nd = 2
 arr : ∀ i A, S[i]? = some A → ∃ x, GrW k ow n (i + 3) A x
 wok : ∀ A ∈ S, WordOk A.word k.dec
 ws : (S.map (·.word)).Nodup
 len : S.length ≤ 8
inductive Chg (k : WC) (ow : Lab) (nw : Led) (nks : List (Str × Value)) (S : List AR) (n : Led) : Prop
 | pk (ow' : _) : WSt k ow' n nks S → Ext ow nw ow' n → Chg k ow nw nks S n
section
variable {k : WC} {ow ow' : Lab} {n n' : Led} {nks : List (Str × Value)} {S : List AR} {A A' : AR} {l i : Nat} {x : AX}
theorem fro_mono (hs : ∀ p ∈ n, p ∈ n') : ∀ p ∈ fro ow n, p ∈ fro ow n' := fun p hp => mem_fro.mpr ⟨hs p (mem_fro.mp hp).1, (mem_fro.mp hp).2⟩
theorem fro_sub : ∀ p ∈ fro ow n, p ∈ n := fun q_ hp => (mem_fro.mp hp).1
theorem GrW.is (h : GrW k ow n l A x) (hb : k.b ≤ 1) : GrIs k.w.params n A.g k.b A.r A.c k.dec A.f :=
 ⟨x.gda, x.il, x.hl, x.gt, x.gn, x.ki, A.room, x.its, fro_sub _ h.inst, h.dict, h.items, h.highs.mono fro_sub, h.arr.mono fro_sub, hb, h.rb, h.kb⟩
structure WRd (k : WC) (n : Led) (S : List AR) : Prop where
 wld : WorldIn PG k.w n k.wa k.b k.ad k.nd
 tab : E1_2 (fun oa => (k.ad, oa) ∈ n) (fun oa => oa.IsDictOf (strKind PG k.w) (tabA S))
 ws : (S.map (·.word)).Nodup
 arr : ∀ A ∈ S, GrIs k.w.params n A.g k.b A.r A.c k.dec A.f
theorem WRd.mono (h : WRd k n S) (hs : ∀ p ∈ n, p ∈ n') : WRd k n' S :=
 ⟨h.wld.mono hs, let ⟨oa, a, b⟩ := h.tab; ⟨oa, hs _ a, b⟩, h.ws, fun A hA => (h.arr A hA).mono hs⟩
theorem WSt.rd (h : WSt k ow n nks S) : WRd k n S :=
 ⟨h.wld.mono fun p hp => (List.mem_filter.mp hp).1, h.tab, h.ws, fun A hA => by
  obtain ⟨i, hi⟩ := List.getElem?_of_mem hA
  obtain ⟨x, hx⟩ := h.arr i A hi
  exact hx.is h.b1⟩
theorem GrW.keep (h : GrW k ow n l A x) (ho : ∀ p ∈ n, ow' p.1 = ow p.1) (hs : ∀ p ∈ n, ow p.1 = 0 ∨ ow p.1 = l → p ∈ n') : GrW k ow' n' l A x :=
 have hf : ∀ p ∈ fro ow n, p ∈ fro ow' n' := fun p hp => by
  obtain ⟨h1, h2⟩ := mem_fro.mp hp
  exact mem_fro.mpr ⟨hs p h1 (.inl h2), (ho p h1).trans h2⟩
 ⟨hf _ h.inst, hs _ h.dict (.inr h.lg), hs _ h.items (.inr h.li), h.highs.mono hf, h.arr.mono hf, (ho _ h.dict).trans h.lg, (ho _ h.items).trans h.li, h.ne, h.rb, h.kb⟩
theorem WSt.fresh (h : WSt k ow n nks S) {a : Addr} (ha : ∀ p ∈ n, p.1 < a) : ow a = 0 := Classical.byContradiction fun h0 => by
 obtain ⟨p, hp, e⟩ := h.cov a h0
 exact absurd (ha p hp) (by rw [e]; exact Nat.lt_irrefl _)
theorem WSt.le (h : WSt k ow n nks S) (hl : Le n n') : WSt k ow n' nks S where
 cov a ha := by
  obtain ⟨p, hp, e⟩ := h.cov a ha
  exact ⟨p, hl.sub p hp, e⟩
 tp a vs q hm := by
  obtain ⟨t, rfl, ab⟩ := hl
  rcases jA hm with hm | hm
  · exact h.fresh fun p hp => ab _ hm p hp
  · exact h.tp a vs q hm
 b1 := h.b1
 wld := h.wld.mono (fro_mono hl.sub)
 tab := by
  obtain ⟨oa, h1, h2⟩ := h.tab
  exact ⟨oa, hl.sub _ h1, h2⟩
 nms := by
  obtain ⟨oa, h1, h2⟩ := h.nms
  exact ⟨oa, hl.sub _ h1, h2⟩
 nkl := h.nkl
 la := h.la
 ln := h.ln
 arr i A e := by
  obtain ⟨x, hx⟩ := h.arr i A e
  exact ⟨x, hx.keep (fun q_ q_ => rfl) fun p hp q_ => hl.sub p hp⟩
 wok := h.wok
 ws := h.ws
 len := h.len
theorem WSt.set (h : WSt k ow n nks S) (hA : S[i]? = some A) (ho : ∀ p ∈ n, ow' p.1 = ow p.1) (hs : ∀ p ∈ n, ow p.1 ≠ i + 3 → p ∈ n') (hc : ∀ a, ow' a ≠ 0 → ∃ p ∈ n', p.1 = a) (ht : ∀ a vs q, (a, tup vs q) ∈ n' → ow' a = 0) (hw : A'.word = A.word) (hg : A'.g = A.g) (hG : GrW k ow' n' (i + 3) A' x) : WSt k ow' n' nks (S.set i A') where
 cov := hc
 tp := ht
 b1 := h.b1
 wld := h.wld.mono fun p hp => by
  obtain ⟨h1, h2⟩ := mem_fro.mp hp
  exact mem_fro.mpr ⟨hs p h1 (by rw [h2]; exact (Nat.succ_ne_zero _).symm), (ho p h1).trans h2⟩
 tab := by
  obtain ⟨oa, h1, h2⟩ := h.tab
  refine ⟨oa, hs _ h1 (by show ow k.ad ≠ _; rw [h.la]; exact n13), ?_⟩
  have : tabA (S.set i A') = tabA S := by
   unfold tabA
   rw [List.map_set, hw, hg]
   exact set_same (by rw [List.getElem?_map, hA]; rfl)
  rw [this]; exact h2
 nms := by
  obtain ⟨on, h1, h2⟩ := h.nms
  exact ⟨on, hs _ h1 (by show ow k.nd ≠ _; rw [h.ln]; exact n23), h2⟩
 nkl := h.nkl
 la := by
  obtain ⟨oa, h1, q_⟩ := h.tab
  exact (ho _ h1).trans h.la
 ln := by
  obtain ⟨oa, h1, q_⟩ := h.nms
  exact (ho _ h1).trans h.ln
 arr j B e := by
  by_cases hj : j = i
  · subst hj
    rw [List.getElem?_set_self (List.getElem?_eq_some_iff.mp hA).1] at e
    cases e
    exact ⟨x, hG⟩
  · rw [List.getElem?_set_ne (Ne.symm hj)] at e
    obtain ⟨y, hy⟩ := h.arr j B e
    exact ⟨y, hy.keep ho fun p hp hl => hs p hp (ownJ hl hj)⟩
 wok B hB := by
  rcases List.mem_or_eq_of_mem_set hB with hB | rfl
  · exact h.wok B hB
  · rw [hw]; exact h.wok A (List.mem_of_getElem? hA)
 ws := by
  have : (S.set i A').map (·.word) = S.map (·.word) := by
   rw [List.map_set, hw]
   exact set_same (by rw [List.getElem?_map, hA]; rfl)
  rw [this]; exact h.ws
 len := by rw [List.length_set]; exact h.len
theorem NumO.fro {o : Option Bool} {v : Value} {z : Int} (h : WSt k ow n nks S) (x : NumO o n v z) : NumO o (fro ow n) v z := by
 obtain ⟨b, e, x⟩ := x
 refine ⟨b, e, ?_⟩
 cases x with
 | i => exact .i _ _
 | d hm => exact .d (mem_fro.mpr ⟨hm, h.tp _ _ _ hm⟩)
theorem RowF.fro {o : Option Bool} {a : Addr} {c : Nat} {f : Nat → Int} (h : WSt k ow n nks S) (x : RowF (fun a => ow a = 0) o n a c f) : RowF (fun a => ow a = 0) o (fro ow n) a c f := by
 obtain ⟨z, vs, q, hm, hz, hv⟩ := x
 exact ⟨z, vs, q, mem_fro.mpr ⟨hm, z⟩, hz, fun j v e => (hv j v e).fro h⟩
noncomputable def Mat (ow : Lab) (o : Option Bool) (n : Led) (g : Addr) (r c : Nat) (f : NNI) : Prop := GridF (fun a => ow a = 0) o (fro ow n) g r c f
theorem Mat.of {o : Option Bool} {g : Addr} {r c : Nat} {f : NNI} (h : WSt k ow n nks S) (hl : Le n n') (x : GridF (fun a => ∀ p ∈ n, p.1 < a) o n' g r c f) : Mat ow o n' g r c f := by
 have h' := h.le hl
 obtain ⟨z, vs, q, hm, hz, hv⟩ := x.okm fun a ha => h.fresh ha
 refine ⟨z, vs, q, mem_fro.mpr ⟨hm, z⟩, hz, fun i v e => ?_⟩
 obtain ⟨a, e1, R⟩ := hv i v e
 exact ⟨a, e1, R.fro h'⟩
theorem Mat.ext {o : Option Bool} {g : Addr} {r c : Nat} {f : NNI} (x : Mat ow o n g r c f) (h : Ext ow n ow' n') : Mat ow' o n' g r c f := by
 have y := GridF.mono x h.sub
 obtain ⟨z, vs, q, hm, hz, hv⟩ := y
 refine ⟨(mem_fro.mp hm).2, vs, q, hm, hz, fun i v e => ?_⟩
 obtain ⟨a, e1, q_, us, q2, hm2, R, R2⟩ := hv i v e
 exact ⟨a, e1, (mem_fro.mp hm2).2, us, q2, hm2, R, R2⟩
end
section
variable {lev : Nat} {c : Cx} {nw : Led} {w : World} {wa ad nd : Addr} {b : Int}
theorem w_arrays (hC : CAny lev c) (h : WorldIn PG w nw wa b ad nd) : AttIs c nw (.ref wa) (Str.ofString "arrays") (.ref ad) := by
 obtain ⟨dw, es, n, t1, t2, t3, t4, kd, ok, h1, h2, h3, h4, h5, h6, h7, h8, h9, h10, h11, h12, h13⟩ := h
 exact fun q_ q_ q_ k => r_attr hC h1 h2 ⟨by k_is, by k_is, _, by k_is, by k_is⟩ h7 rfl k
theorem w_names (hC : CAny lev c) (h : WorldIn PG w nw wa b ad nd) : AttIs c nw (.ref wa) (Str.ofString "names") (.ref nd) := by
 obtain ⟨dw, es, n, t1, t2, t3, t4, kd, ok, h1, h2, h3, h4, h5, h6, h7, h8, h9, h10, h11, h12, h13⟩ := h
 exact fun q_ q_ q_ k => r_attr hC h1 h2 ⟨by k_is, by k_is, _, by k_is, by k_is⟩ h8 rfl k
theorem w_base (hC : CAny lev c) (h : WorldIn PG w nw wa b ad nd) : ∃ t, AttIs c nw (.ref wa) (Str.ofString "base") (.int b t) := by
 obtain ⟨dw, es, n, t1, t2, t3, t4, kd, ok, h1, h2, h3, h4, h5, h6, h7, h8, h9, h10, h11, h12, h13⟩ := h
 exact ⟨t4, fun q_ q_ q_ k => r_attr hC h1 h2 ⟨by k_is, by k_is, _, by k_is, by k_is⟩ h6 rfl k⟩
theorem w_room (hC : CAny lev c) (h : WorldIn PG w nw wa b ad nd) : ∃ t, AttIs c nw (.ref wa) (Str.ofString "room") (.int 400 t) := by
 obtain ⟨dw, es, n, t1, t2, t3, t4, kd, ok, h1, h2, h3, h4, h5, h6, h7, h8, h9, h10, h11, h12, h13⟩ := h
 exact ⟨t3, fun q_ q_ q_ k => r_attr hC h1 h2 ⟨by k_is, by k_is, _, by k_is, by k_is⟩ h5 rfl k⟩
theorem w_bits (hC : CAny lev c) (h : WorldIn PG w nw wa b ad nd) : ∃ t, AttIs c nw (.ref wa) (Str.ofString "bits") (.int 16 t) := by
 obtain ⟨dw, es, n, t1, t2, t3, t4, kd, ok, h1, h2, h3, h4, h5, h6, h7, h8, h9, h10, h11, h12, h13⟩ := h
 exact ⟨t1, fun q_ q_ q_ k => r_attr hC h1 h2 ⟨by k_is, by k_is, _, by k_is, by k_is⟩ h3 rfl k⟩
theorem w_digits (hC : CAny lev c) (h : WorldIn PG w nw wa b ad nd) : ∃ t, AttIs c nw (.ref wa) (Str.ofString "digits") (.int 9 t) := by
 obtain ⟨dw, es, n, t1, t2, t3, t4, kd, ok, h1, h2, h3, h4, h5, h6, h7, h8, h9, h10, h11, h12, h13⟩ := h
 exact ⟨t2, fun q_ q_ q_ k => r_attr hC h1 h2 ⟨by k_is, by k_is, _, by k_is, by k_is⟩ h4 rfl k⟩
theorem WorldIn.ady (h : WorldIn PG w nw wa b ad nd) : (ad == sysModules) = false := by
 obtain ⟨q_, q_, q_, q_, q_, q_, q_, q_, q_, q_, q_, q_, q_, q_, q_, q_, q_, q_, q_, q_, h, q_⟩ := h
 exact h
end
theorem tab_at {A : AR} {S : List AR} (hn : (S.map (·.word)).Nodup) (hA : A ∈ S) : valueAt (tabA S) A.word = some (.ref A.g) := by
 induction S with
 | nil => cases hA
 | cons B r ih =>
  have hn := List.nodup_cons.mp hn
  unfold tabA valueAt
  rw [List.map_cons, List.find?_cons]
  rcases jX hA with rfl | hA
  · rw [decide_eq_true rfl]; rfl
  · rw [decide_eq_false (show B.word ≠ A.word from fun e => hn.1 (show B.word ∈ _ from e ▸ List.mem_map_of_mem hA))]
    exact ih hn.2 hA
theorem tab_no {S : List AR} {word : Str} (hw : word ∉ S.map (·.word)) : valueAt (tabA S) word = none := by
 unfold tabA valueAt
 rw [Option.map_eq_none_iff, List.find?_eq_none]
 intro x hx e
 obtain ⟨B, hB, rfl⟩ := List.mem_map.mp hx
 exact hw (List.mem_map.mpr ⟨B, hB, of_decide_eq_true e⟩)
noncomputable def alO : List (Str × NameKind) → List (Option Value) → Al
 | [], _ => []
 | (x, _) :: r, [] => (x, none) :: alO r []
 | (x, _) :: r, v :: vs => (x, v) :: alO r vs
noncomputable abbrev CIn.alo {lev : Nat} {c : Cx} {names : NKs} {cl : SAs} (_ : CIn lev names c cl) (vs : List (Option Value)) : Al := alO names vs
end Mine
namespace Mine
open LCg
noncomputable def pfAt (b k s1 s2 : Int) : Nat → Int
 | 0 => 0
 | 1 => s1 - b
 | _ => (s1 - b) * (k - b + 1) + s2 - b
theorem place_b {b r k s1 s2 : Int} (hb : 0 ≤ b ∧ b ≤ 1) (h1 : b ≤ s1 ∧ s1 ≤ r) (h2 : b ≤ s2 ∧ s2 ≤ k) (hr : r ≤ 12) (hk : k ≤ 12) : (s1 - b).natAbs ≤ 12 ∧ (k - b + 1).natAbs ≤ 13 := by lia
theorem place_step {b r k s1 s2 : Int} {a1 a2 a3 a4 : Tok} (hb : 0 ≤ b ∧ b ≤ 1) (h1 : b ≤ s1 ∧ s1 ≤ r) (h2 : b ≤ s2 ∧ s2 ≤ k) (hr : r ≤ 12) (hk : k ≤ 12) : ∀ (i : Nat) (x y : Value), i < 2 → [Value.int s1 a1, .int s2 a2].toArray[i]? = some x → [Value.int r a3, .int k a4].toArray[i]? = some y →
 E4_7 (fun s h t u => x = .int s t) (fun s h t u => y = .int h u) (fun s h t u => b ≤ s) (fun s h t u => s ≤ h) (fun s h t u => (pfAt b k s1 s2 i * (h - b + 1)).natAbs < 2 ^ 64) (fun s h t u => (pfAt b k s1 s2 i).natAbs < 2 ^ 64) (fun s h t u => pfAt b k s1 s2 i * (h - b + 1) + s - b = pfAt b k s1 s2 (i + 1))
 | 0, _, _, _, hx, hy => by
  cases hx; cases hy
  exact ⟨_, _, _, _, rfl, rfl, h1.1, h1.2, by show (0 * _ : Int).natAbs < _; rw [Int.zero_mul]; decide, (show (0 : Int).natAbs < 2 ^ 64 by decide), by show 0 * _ + s1 - b = s1 - b; rw [Int.zero_mul, Int.zero_add]⟩
 | 1, _, _, _, hx, hy => by
  cases hx; cases hy
  have hab := place_b hb h1 h2 hr hk
  exact ⟨_, _, _, _, rfl, rfl, h2.1, h2.2, by
   show ((s1 - b) * (k - b + 1)).natAbs < _
   rw [Int.natAbs_mul]
   exact Nat.lt_of_le_of_lt (Nat.mul_le_mul hab.1 hab.2) (by decide), Nat.lt_of_le_of_lt hab.1 (by decide), rfl⟩
 | n + 2, _, _, h, _, _ => absurd h (Nat.not_lt.mpr (Nat.le_add_left ..))
theorem n_place {P : Params} {g sl : Addr} {b r k q : Nat} {s1 s2 : Int} {a1 a2 : Tok} {dec : Bool} {f : NNI} {nw : Led} (hG : GrIs P nw g b r k dec f) (hs : (sl, listOf [.int s1 a1, .int s2 a2].toArray q) ∈ nw) (h1 : (b : Int) ≤ s1 ∧ s1 ≤ r) (h2 : (b : Int) ≤ s2 ∧ s2 ≤ k) :
 CtN 1 (.ref 318) [.ref g, .ref sl] nw fun v q_ => ∃ t, v = .int ((s1 - b) * (k - b + 1) + s2 - b) t := by
 obtain ⟨gda, il, hl, gt, gn, ki, room, its, G⟩ := hG
 obtain ⟨th1, th2, kh, hh⟩ := G.highs
 have hst := place_step (a1 := a1) (a2 := a2) (a3 := th1) (a4 := th2) (b := b) (r := r) (k := k) (bz G.b1) h1 h2 (Int.ofNat_le.mpr G.rb.2) (Int.ofNat_le.mpr G.kb.2)
 refine code_vc (fun P => by k_is) (fun P => by k_is) rfl (by kernel_rfl) (by kernel_rfl) ?_
 intro c hC
 have hA := hC.toCAny
 refine r_len hs (show (2 : Nat) ≤ 1000 by decide) fun t1 => g_highs hA G (r_len hh (show (2 : Nat) ≤ 1000 by decide) fun t2 => iteF (fun h => h rfl) (vnil fun t0 => vst1 ?_))
 refine for_zip hC PassesOwn.never rfl rfl rfl rfl rfl (g_highs hA G ⟨sl, hl, _, _, q, kh, [], nw, _, rfl, rfl, rfl, hs, hh, loop0 (fun i al tl => tl = [] ∧ ∃ t, al = hC.al [.ref g, .ref sl, .int (pfAt b k s1 s2 i) t] ∨ E2_1 (fun x y => al = hC.al [.ref g, .ref sl, .int (pfAt b k s1 s2 i) t, x, y])) ⟨rfl, t0, .inl rfl⟩ ?_ ?_⟩)
 · rintro i vs al tl led hi ⟨x, y, hx, hy, rfl⟩ ⟨rfl, t, hal⟩ sub
   obtain ⟨s, h, ts, th, rfl, rfl, c1, c2, c3, c4, c5⟩ := hst i x y hi hx hy
   have G' := G.mono sub
   have hal : alSet (alSet al 3 (.int s ts)) 4 (.int h th) = hC.al [.ref g, .ref sl, .int (pfAt b k s1 s2 i) t, .int s ts, .int h th] := by
    rcases hal with rfl | ⟨x, y, rfl⟩ <;> rfl
   refine vst2 ?_
   refine hal ▸ ?_
   refine g_base hA G' (iteT c1 (iteFb (by rw [decide_eq_true c2]; rfl) ?_))
   refine vnil ?_
   exact g_base hA G' fun t1 t2 t3 => ⟨c4, fun t4 t5 => g_base hA G' fun t => vst1 (vnil (te0 [] rfl Abv.nil ⟨rfl, t, .inr ⟨_, _, by rw [← c5]; rfl⟩⟩))⟩
 · rintro al' tl ab ⟨rfl, t, hal⟩
   have fin : Pst nw (fun v q_ => ∃ t, v = .int ((s1 - b) * (k - b + 1) + s2 - b) t) (.int (pfAt b k s1 s2 2) t) ([] ++ nw) := ⟨.refl, t, rfl⟩
   rcases hal with rfl | ⟨x, y, rfl⟩ <;> exact fin
theorem n_gridof {k : WC} {S : List AR} {A : AR} {t tm : Tok} {many : Int} {nw : Led} (hW : WRd k nw S) (hm : A ∈ S) : CtNW k.w 1 (.ref 304) [.ref k.wa, .str A.word t, .int many tm] nw fun v q_ => v = .ref A.g := by
 obtain ⟨oa, ma, da⟩ := hW.tab
 have hw0 := hW.wld
 have hv := tab_at hW.ws hm
 refine code_vcG (fun P => by k_is) (fun P => by k_is) rfl (by kernel_rfl) (by kernel_rfl) ?_
 intro c hw hC
 have hA := hC.toCAny
 rw [← hw] at da
 refine w_arrays hA hw0 _ _ _ (r_notin ma da hw0.ady (b := true) (by rw [hv]; rfl) (iteF' (vnil ?_)))
 exact w_arrays hA hw0 _ _ _ fun ea eb hs => r_dit hs ma da hv ⟨.refl, rfl⟩
theorem n_named {k : WC} {S : List AR} {A : AR} {t : Tok} {nw : Led} (hW : WRd k nw S) (hm : A ∈ S) : CtNW k.w 2 (.ref 513) [.ref k.wa, .str A.word t] nw (RowsP nw k.dec A.r A.c A.f) := by
 have hG := hW.arr A hm
 refine code_vcG (fun P => by k_is) (fun P => by k_is) rfl (by kernel_rfl) (by kernel_rfl) ?_
 intro c hw hC
 have hA := hC.toCAny
 intro t2
 refine (n_gridof hW hm).goW hw hA fun v n hl hv => ?_
 subst hv
 refine (n_rows (hG.mono hl.sub)).go hA fun v n2 l2 ⟨x, e, h⟩ => ⟨hl.trans l2, x, e, h.okm fun a ha p hp => ha p (hl.sub p hp)⟩
theorem namedK {lev : Nat} {c : Cx} {E : VSP} {al : Al} {nw : Led} {K : VLP} {w : World} {dec : Bool} {r k : Nat} {f : NNI} {vs : List Value} (h : CtNW w 2 (.ref 513) vs nw (RowsP nw dec r k f)) (hw : c.w = w) (hA : CAny lev c) (g : ∀ x n, Le nw n → GridF (Fre nw) (some dec) n x r k f → K (.ref x) n) (hl : 2 ≤ lev := by decide) : RawS E c (call (.ref 513) vs) al nw K :=
 h.goW hw hA (fun v n l ⟨x, e, m⟩ => e ▸ g x n l m) hl
theorem n_getitem {k : WC} {S : List AR} {A : AR} {t a1 a2 : Tok} {sl : Addr} {j q : Nat} {m nw : Led} (hW : WRd k m S) (sb : ∀ p ∈ m, p ∈ nw) (hm : A ∈ S) (hb : k.b = 0) (hj : j ≤ A.c) (hs : (sl, listOf [.int 0 a1, .int (j : Int) a2].toArray q) ∈ nw) : CtNW k.w 2 (.ref 325) [.ref k.wa, .str A.word t, .ref sl] nw fun v q_ => Num m k.dec v 0 := by
 have hG := hW.arr A hm
 rw [hb] at hG
 have hG2 := hG
 obtain ⟨gda, il, hl, gt, gn, ki, room, its, G⟩ := hG
 have hk := G.kb
 obtain ⟨v, e, N⟩ := G.arr.item 0 j (Nat.succ_pos _) (Nat.lt_succ_of_le hj)
 have e2 : ((0 : Int) - (0 : Nat)) * ((A.c : Int) - (0 : Nat) + 1) + j - (0 : Nat) = j := by
  show (0 : Int) * _ + j - 0 = j
  rw [Int.zero_mul, Int.zero_add, Int.sub_zero]
 have N' := N.num
 have e3 : cellF A.f (0 + 0) (j + 0) = 0 := rfl
 rw [e3] at N'
 refine code_vcG (fun P => by k_is) (fun P => by k_is) rfl (by kernel_rfl) (by kernel_rfl) ?_
 intro c hw hC
 have hA := hC.toCAny
 refine r_len hs (show (2 : Nat) ≤ 1000 by decide) fun t1 => ?_
 refine (n_gridof (hW.mono sb) hm).goW hw hA fun v n l1 hv => ?_
 subst hv
 refine vst1 ?_
 refine g_items hA (G.mono fun p hp => l1.sub p (sb p hp)) ?_
 refine (n_place (hG2.mono fun p hp => l1.sub p (sb p hp)) (l1.sub _ hs) (by lia) (by lia)).go hA fun v n2 l2 z1 ea eb hsl => ?_
 obtain ⟨t2, hv⟩ := z1
 subst hv
 rw [e2]
 exact r_idxL hsl (l2.sub _ (l1.sub _ (sb _ G.items))) (by exact Int.natCast_nonneg _) (by lia) (by rw [Int.toNat_natCast]; rw [Nat.zero_mul, Nat.zero_add] at e; exact e) ⟨l1.trans l2, N'⟩
end Mine
namespace Mine
open LCg
theorem set_kind {P : Params} : SetOk (K39 P) 265 (Str.ofString "kind") := ⟨by k_is, by k_is, by k_is, by k_is⟩
theorem set_highs {P : Params} : SetOk (K39 P) 265 (Str.ofString "highs") := ⟨by k_is, by k_is, by k_is, by k_is⟩
theorem set_base {P : Params} : SetOk (K39 P) 265 (Str.ofString "base") := ⟨by k_is, by k_is, by k_is, by k_is⟩
theorem set_items {P : Params} : SetOk (K39 P) 265 (Str.ofString "items") := ⟨by k_is, by k_is, by k_is, by k_is⟩
theorem set_room {P : Params} : SetOk (K39 P) 265 (Str.ofString "room") := ⟨by k_is, by k_is, by k_is, by k_is⟩
theorem NumF.off {nw n n' : Led} {b : Bool} {v : Value} {x : Int} {a : Addr} (h : NumF nw n b v x) (ha : ∃ q ∈ nw, q.1 = a) (hs : ∀ p ∈ n, p.1 ≠ a → p ∈ n') : Num n' b v x := by
 obtain ⟨q, hq, rfl⟩ := ha
 obtain ⟨h, f⟩ := h
 cases h with
 | i => exact .i _ _
 | d hm => exact .d (hs _ hm (Nat.ne_of_gt (f _ rfl q hq)))
structure NewG (P : Params) (nw : Led) (dec : Bool) (b r k : Nat) (z d : Addr) (n : Led) (x : AX) : Prop where
 le : Le nw n
 inst : (z, instObj 265 d) ∈ n
 dict : (d, dictOf (gEs P x.gt (kindS dec) x.hl b x.il (((r + 1 - b) * (k + 1 - b) : Nat) : Int)) x.gn) ∈ n
 items : (x.il, listOf x.its x.ki) ∈ n
 highs : HighsIn n x.hl r k
 arr : ArrIs dec b n x.its r k fun q_ q_ => 0
 gda : x.gda = d
 fz : Fre nw z
 fd : Fre nw d
 fh : Fre nw x.hl
 fi : Fre nw x.il
 tn : ∀ a vs q, (a, tup vs q) ∈ n → a ≠ d ∧ a ≠ x.il
 ne : z ≠ d ∧ x.hl ≠ d ∧ x.il ≠ d ∧ z ≠ x.il ∧ x.hl ≠ x.il
noncomputable abbrev en (P : Params) (x : String) (t : Tok) (v : Value) : DictEntry := ⟨PyData.keyHash P (Str.ofString x), .str (Str.ofString x) t, v⟩
theorem n_ginit {w : World} {dec : Bool} {b r k q : Nat} {z d hs : Addr} {t tb th1 th2 : Tok} {nw : Led} (hh : (hs, listOf [.int r th1, .int k th2].toArray q) ∈ nw) (hb : b ≤ 1) (hr : 1 ≤ r ∧ r ≤ 10) (hk : 1 ≤ k ∧ k ≤ 10) (hd : ∀ p ∈ nw, p.1 < d) (hz : d < z) :
 CtW w 2 (.ref 262) [.ref z, .str (kindS dec) t, .ref hs, .int b tb] ((z, instObj 265 d) :: (d, dictOf [] 0) :: nw) fun v n => v = .none ∧ ∃ x, NewG w.params nw dec b r k z d n x := by
 have hdz : ∀ p ∈ (z, instObj 265 d) :: nw, p.1 ≠ d := fun p hp => by
  revert p; refine fmc ?_ fun p hp => ?_
  · exact Nat.ne_of_gt hz
  · exact Nat.ne_of_lt (hd p hp)
 have hZ : (r : Int) - b + 1 = ((r + 1 - b : Nat) : Int) ∧ (k : Int) - b + 1 = ((k + 1 - b : Nat) : Int) := ⟨sbc hb, sbc hb⟩
 have hZ1 : ((r : Int) - b + 1) * (k - b + 1) = (((r + 1 - b) * (k + 1 - b) : Nat) : Int) := by rw [hZ.1, hZ.2, Int.natCast_mul]
 have hZ2 : (r + 1 - b) * (k + 1 - b) ≤ 121 := Nat.mul_le_mul (sbl hr.2) (sbl hk.2)
 refine code_vcG (fun P => by k_is) (fun P => by k_is) rfl (by kernel_rfl) (by kernel_rfl) ?_
 intro c hw hC
 have hA := hC.toCAny
 have sb : ∀ {a b : Addr × Obj} {l : Led}, ∀ p ∈ a :: l, p ∈ a :: b :: l := fun p hp => by
  revert p; refine fmc ?_ fun p hp => ?_
  · exact .head _
  · exact .tail _ (.tail _ hp)
 refine asgA hC rfl (setA' (fun t1 => [en c.w.params "kind" t1 (.str (kindS dec) t)]) 1 hA set_kind (.head _) (.tail _ (.head _)) sb hdz rfl (fun q_ => (by decide : 1 ≤ 1000)) (fun q_ => rfl) hC.kp fun t1 => ?_)
 refine asgA hC rfl (r_listOf (.tail _ (.tail _ hh)) (show (2 : Nat) ≤ 1000 by decide) fun hl kh hhl => setA' (rest := (hl, listOf [.int r th1, .int k th2].toArray kh) :: (z, instObj 265 d) :: nw) (fun t2 => [en c.w.params "kind" t1 (.str (kindS dec) t), en c.w.params "highs" t2 (.ref hl)]) 2 hA set_highs (.tail _ (.head _)) (.tail _ (.head _)) sb ?_ rfl (fun q_ => (by decide : 2 ≤ 1000)) (fun q_ => rfl) hC.kp fun t2 => ?_)
 · intro p hp
   revert p; refine fmc ?_ fun p hp => ?_
   · exact Nat.ne_of_gt (hhl _ (.head _))
   · exact hdz p hp
 have hhd : d < hl := hhl _ (.head _)
 have hhz : z < hl := hhl _ (.tail _ (.head _))
 have hhn : Fre nw hl := fun p hp => hhl p (.tail _ (.tail _ hp))
 have off3 : ∀ p ∈ (hl, listOf [Value.int r th1, .int k th2].toArray kh) :: (z, instObj 265 d) :: nw, p.1 ≠ d := fun p hp => by
  revert p; refine fmc ?_ fun p hp => ?_
  · exact Nat.ne_of_gt hhd
  · exact hdz p hp
 refine asgA hC rfl (setA' (rest := (hl, listOf [.int r th1, .int k th2].toArray kh) :: (z, instObj 265 d) :: nw) (fun t3 => [en c.w.params "kind" t1 (.str (kindS dec) t), en c.w.params "highs" t2 (.ref hl), en c.w.params "base" t3 (.int b tb)]) 3 hA set_base (.tail _ (.head _)) (.head _) (fun p hp => .tail _ hp) off3 rfl (fun q_ => (by decide : 3 ≤ 1000)) (fun q_ => rfl) hC.kp fun t3 => ?_)
 refine asgA hC rfl ?_
 refine n_first.go hA fun v n1 l1 hv => ?_
 intro D1 hD1
 have l2 := l1.cons (o := listOf [v].toArray 0) hD1
 refine countK (n_count (l2.sub _ (.tail _ (.tail _ (.tail _ hh)))) (zb hb) (zbr hr) (zbr hk)) hA fun t6 n3 l3 => ?_
 refine hZ1 ▸ ?_
 refine r_mulL (l3.sub _ (.head _)) (by exact Int.natCast_nonneg _) (by rw [Int.toNat_natCast]; exact Nat.le_trans (Nat.le_of_eq (Nat.one_mul _)) (nt hZ2)) (Int.ofNat_le.mpr (nt hZ2)) fun il hil => ?_
 obtain ⟨tt, e3, ab⟩ := l2.trans l3
 have hv1 := hv.1.mono fun p hp => l3.sub p (.tail _ hp)
 have hild : d < il := hil _ ((l2.trans l3).sub _ (.head _))
 subst e3
 have har := fun (n : Led) hs => zeros_is (b := b) (r := r) (c := k) rfl (.of (NumF.off (n' := n) ⟨hv1, hv.2⟩ ⟨_, .head _, rfl⟩ hs))
 have hsz : (List.replicate ((((r + 1 - b) * (k + 1 - b) : Nat)) : Int).toNat [v]).flatten.toArray.size = (r + 1 - b) * (k + 1 - b) := rep_size
 generalize (List.replicate ((((r + 1 - b) * (k + 1 - b) : Nat)) : Int).toNat [v]).flatten.toArray = its at har hsz ⊢
 have off4 : ∀ p ∈ (il, listOf its 0) :: (tt ++ ((hl, listOf [Value.int r th1, .int k th2].toArray kh) :: (z, instObj 265 d) :: nw)), p.1 ≠ d := fun p hp => by
  revert p; refine fmc ?_ fun p hp => ?_
  · exact Nat.ne_of_gt hild
  · revert p; refine fma (fun p hp => ?_) fun p hp => ?_
    · exact Nat.ne_of_gt (ab p hp _ (.head _))
    · exact off3 p hp
 have sub4 : ∀ {o : Obj}, ∀ p ∈ tt ++ ((hl, listOf [Value.int r th1, .int k th2].toArray kh) :: (z, instObj 265 d) :: nw), p ∈ tt ++ ((d, o) :: (hl, listOf [Value.int r th1, .int k th2].toArray kh) :: (z, instObj 265 d) :: nw) := fun p hp => by
  revert p; refine fma (fun p hp => ?_) fun p hp => ?_
  · exact jL _ hp
  · exact jR _ (.tail _ hp)
 have mi : ∀ {x : Addr × Obj} {o : Obj}, (z, instObj 265 d) ∈ x :: (tt ++ ((hl, o) :: (z, instObj 265 d) :: nw)) := .tail _ (jR _ (.tail _ (.head _)))
 refine setA' (rest := (il, listOf its 0) :: (tt ++ ((hl, listOf [.int r th1, .int k th2].toArray kh) :: (z, instObj 265 d) :: nw))) (fun t4 => [en c.w.params "kind" t1 (.str (kindS dec) t), en c.w.params "highs" t2 (.ref hl), en c.w.params "base" t3 (.int b tb), en c.w.params "items" t4 (.ref il)]) 4 hA set_items mi (.tail _ (jR _ (.head _))) (fun p hp => ?_) off4 rfl (fun q_ => (by decide : 4 ≤ 1000)) (fun q_ => rfl) hC.kp fun t4 => ?_
 · revert p; refine fmc ?_ fun p hp => ?_
   · exact .head _
   · exact .tail _ (sub4 p hp)
 refine asgA hC rfl (r_gat hA (.tail _ mi) (.head _) (.inr (.inr (.inr (.inl rfl)))) rfl rfl (r_len (.tail _ (.head _)) (by exact ns ‹_› ‹_›) fun t7 => setA' (fun t5 => gEs c.w.params (tk8 t1 t t2 t3 tb t4 t5 t7) (kindS dec) hl b il _) 5 hA set_room mi (.head _) (fun p hp => .tail _ hp) off4 rfl (fun q_ => (by decide : 5 ≤ 1000)) (fun q_ => rfl) hC.kp fun t5 => vnil ?_))
 have hab : ∀ {o o' : Obj}, Abv nw ((d, o) :: (il, o') :: (tt ++ [(hl, listOf [Value.int r th1, .int k th2].toArray kh), (z, instObj 265 d)])) := by
  intro o o' q hq p hp
  have h1 := hd p hp
  revert q; refine fmc ?_ fun q hq => ?_
  · exact h1
  revert q; refine fmc ?_ fun q hq => ?_
  · exact Nat.lt_trans h1 hild
  revert q; refine fma (fun q hq => ?_) fun q hq => ?_
  · exact ab q hq p (.tail _ (.tail _ (.tail _ hp)))
  · revert q; refine fmc ?_ fun q hq => ?_
    · exact hhn p hp
    · rw [jO hq]; exact Nat.lt_trans h1 hz
 have hhi : hl < il := hil _ (jR _ (.tail _ (.head _)))
 have hzi : z < il := Nat.lt_trans hhz hhi
 exact ⟨rfl, ⟨d, il, hl, tk8 t1 t t2 t3 tb t4 t5 t7, 5, 0, its⟩, {
  le := ⟨_, by rw [List.cons_append, List.cons_append, List.append_assoc]; rfl, hab⟩
  inst := .tail _ mi
  dict := by rw [← hw, ← hsz]; exact .head _
  items := .tail _ (.head _)
  highs := ⟨th1, th2, kh, .tail _ (.tail _ (jR _ (.head _)))⟩
  arr := har _ fun p hp hn => .tail _ (.tail _ (by
   rcases jA hp with hp | hp
   · exact jL _ hp
   · rcases jX hp with rfl | hp
     · exact absurd rfl hn
     · exact jR _ hp))
  gda := rfl
  fz := fun p hp => Nat.lt_trans (hd p hp) hz
  fd := hd
  fh := hhn
  fi := fun p hp => Nat.lt_trans (hd p hp) hild
  tn := fun a vs q hm => by
   rcases jX hm with e | hm
   · cases congrArg (fun p => p.2.data) e
   rcases jX hm with e | hm
   · exact absurd (show Value.type "tuple" = Value.type "list" from congrArg (fun p => p.2.cls) e) (by decide)
   exact ⟨off4 _ (.tail _ hm), Nat.ne_of_lt (hil _ (sub4 _ hm))⟩
  ne := ⟨Nat.ne_of_gt hz, Nat.ne_of_gt hhd, Nat.ne_of_gt hild, Nat.ne_of_lt hzi, Nat.ne_of_lt hhi⟩ }⟩
end Mine
namespace Mine
open LCg
theorem NumO.tups {o : Option Bool} {n n' : Led} {v : Value} {z : Int} (x : NumO o n v z) (hs : ∀ a vs q, (a, tup vs q) ∈ n → (a, tup vs q) ∈ n') : NumO o n' v z := by
 obtain ⟨b, e, x⟩ := x
 refine ⟨b, e, ?_⟩
 cases x with
 | i => exact .i _ _
 | d hm => exact .d (hs _ _ _ hm)
theorem ArrIs.tups {dec : Bool} {b r k : Nat} {n n' : Led} {its : Array Value} {f : NNI} (h : ArrIs dec b n its r k f) (hs : ∀ a vs q, (a, tup vs q) ∈ n → (a, tup vs q) ∈ n') : ArrIs dec b n' its r k f :=
 ⟨h.size, fun p q hp hq => let ⟨v, e, x⟩ := h.item p q hp hq; ⟨v, e, x.tups hs⟩⟩
theorem WSt.add {k : WC} {ow : Lab} {nw n : Led} {nks : List (Str × Value)} {S : List AR} {z d : Addr} {r c : Nat} {x : AX} {word : Str} {oa' : Obj} (h : WSt k ow nw nks S) (N : NewG k.w.params nw k.dec k.b r c z d n x) (ho : oa'.IsDictOf (strKind PG k.w) (stored (tabA S) word (.ref z))) (hw : word ∉ S.map (·.word)) (hk : WordOk word k.dec) (hl : S.length ≤ 7) (hr : 1 ≤ r ∧ r ≤ 12) (hc : 1 ≤ c ∧ c ≤ 12) :
 Chg k ow nw nks (S ++ [⟨word, z, (r + 1 - k.b) * (c + 1 - k.b), r, c, fun q_ q_ => 0⟩]) (putO n k.ad oa') := by
 have h1 := h.le N.le
 obtain ⟨oa, ma, da⟩ := h.tab
 obtain ⟨on, mn, dn⟩ := h.nms
 have lt : ∀ {a : Addr}, Fre nw a → a ≠ k.ad := fun {a} ha e => absurd (ha _ ma) (by rw [e]; exact Nat.lt_irrefl _)
 have hs : ∀ p ∈ n, ow p.1 ≠ 1 → p ∈ putO n k.ad oa' := fun p hp hp1 => putO_ne hp fun e => hp1 (by rw [e]; exact h.la)
 have same : ∀ p ∈ nw, (fun a => if a = d ∨ a = x.il then S.length + 3 else ow a) p.1 = ow p.1 := fun p hp => if_neg fun e => by
  rcases e with e | e
  · exact absurd (N.fd p hp) (by rw [e]; exact Nat.lt_irrefl _)
  · exact absurd (N.fi p hp) (by rw [e]; exact Nat.lt_irrefl _)
 have n0 : ∀ {a : Addr}, a ≠ d → a ≠ x.il → (fun a => if a = d ∨ a = x.il then S.length + 3 else ow a) a = ow a := fun h1 h2 => if_neg fun e => e.elim h1 h2
 have l1 : (fun a => if a = d ∨ a = x.il then S.length + 3 else ow a) d = S.length + 3 := if_pos (.inl rfl)
 have l2 : (fun a => if a = d ∨ a = x.il then S.length + 3 else ow a) x.il = S.length + 3 := if_pos (.inr rfl)
 generalize (fun a => if a = d ∨ a = x.il then S.length + 3 else ow a) = ow' at same n0 l1 l2
 have cv : ∀ p ∈ nw, ∃ q ∈ putO n k.ad oa', q.1 = p.1 := fun p hp => oth_cv (N.le.sub p hp)
 have tps : ∀ a vs q, (a, tup vs q) ∈ n → (a, tup vs q) ∈ fro ow' (putO n k.ad oa') := fun a vs q hm => by
  obtain ⟨t1, t2⟩ := N.tn a vs q hm
  have t3 := h1.tp a vs q hm
  exact mem_fro.mpr ⟨hs _ hm (by rw [t3]; decide), (n0 t1 t2).trans t3⟩
 have fr : ∀ p ∈ fro ow nw, p ∈ fro ow' (putO n k.ad oa') := fun p hp => by
  obtain ⟨a, b⟩ := mem_fro.mp hp
  exact mem_fro.mpr ⟨hs _ (N.le.sub p a) (by rw [b]; decide), (same p a).trans b⟩
 have fre : ∀ {a : Addr} {o : Obj}, (a, o) ∈ n → Fre nw a → a ≠ d → a ≠ x.il → (a, o) ∈ fro ow' (putO n k.ad oa') := fun {a o} hm ha t1 t2 => by
  have := h.fresh ha
  exact mem_fro.mpr ⟨hs _ hm (by rw [this]; decide), (n0 t1 t2).trans this⟩
 obtain ⟨w1, w2, w3⟩ := N.ne
 refine ⟨ow', {
  cov := fun a ha => by
   by_cases e1 : a = d
   · exact ⟨_, putO_ne N.dict (lt N.fd), e1.symm⟩
   by_cases e2 : a = x.il
   · exact ⟨_, putO_ne N.items (lt N.fi), e2.symm⟩
   obtain ⟨p, hp, e⟩ := h.cov a (by rw [← n0 e1 e2]; exact ha)
   rw [← e]; exact cv p hp
  tp := fun a vs q hm => by
   rcases jX hm with e | hm
   · exact absurd (Prod.mk.inj e).2.symm (dict_ne_tup ho)
   · have hm := (mem_oth.mp hm).1
     obtain ⟨t1, t2⟩ := N.tn a vs q hm
     exact (n0 t1 t2).trans (h1.tp a vs q hm)
  b1 := h.b1
  wld := h.wld.mono fr
  tab := ⟨oa', .head _, by rw [stored_new (tab_no hw)] at ho; unfold tabA at ho ⊢; rw [List.map_append]; exact ho⟩
  nms := ⟨on, hs _ (N.le.sub _ mn) (by show ow k.nd ≠ 1; rw [h.ln]; decide), dn⟩
  nkl := h.nkl
  la := (same _ ma).trans h.la
  ln := (same _ mn).trans h.ln
  arr := fun i A e => by
   by_cases hi : i < S.length
   · rw [List.getElem?_append_left hi] at e
     obtain ⟨y, hy⟩ := h.arr i A e
     exact ⟨y, hy.keep same fun p hp hl => hs p (N.le.sub p hp) (own1 hl)⟩
   · rw [List.getElem?_append_right (Nat.not_lt.mp hi)] at e
     have hi2 : i = S.length := by
      have := (List.getElem?_eq_some_iff.mp e).1
      exact lastI hi this
     rw [hi2, Nat.sub_self] at e
     cases e
     refine hi2 ▸ ?_
     obtain ⟨th1, th2, kh, hh⟩ := N.highs
     exact ⟨x, ⟨fre (N.gda ▸ N.inst) N.fz w1 w3.2.1, N.gda ▸ hs _ N.dict (by rw [h.fresh N.fd]; decide), hs _ N.items (by rw [h.fresh N.fi]; decide), ⟨th1, th2, kh, fre hh N.fh w2 w3.2.2⟩, N.arr.tups tps, N.gda ▸ l1, l2, N.gda ▸ Ne.symm w3.1, hr, hc⟩⟩
  wok := fun A hA => by
   rcases jA hA with hA | hA
   · exact h.wok A hA
   · rw [jO hA]; exact hk
  ws := by
   rw [List.map_append]
   refine List.nodup_append.mpr ⟨h.ws, List.nodup_cons.mpr ⟨List.not_mem_nil, List.nodup_nil⟩, fun a ha b hb e => ?_⟩
   rw [List.map_cons, List.map_nil, List.mem_singleton] at hb
   subst e hb; exact hw ha
  len := by rw [List.length_append, List.length_singleton]; exact Nat.succ_le_succ hl }, {
  same := same
  kp := fun p hp hl => hs p (N.le.sub p hp) (own5 hl)
  cv := cv }⟩
theorem n_check {w : World} {wa ad nd hs : Addr} {b r k q : Nat} {th1 th2 : Tok} {nw : Led} (hW : WorldIn PG w nw wa b ad nd) (hh : (hs, listOf [.int r th1, .int k th2].toArray q) ∈ nw) (hb : b ≤ 1) (hr : 1 ≤ r ∧ r ≤ 10) (hk : 1 ≤ k ∧ k ≤ 10) : CtN 2 (.ref 290) [.ref wa, .ref hs] nw fun v q_ => v = .none := by
 have hst : ∀ (i : Nat) (x : Value), [Value.int r th1, .int k th2].toArray[i]? = some x → E2_2 (fun h t => x = .int h t) (fun h t => (b : Int) ≤ h) := fun i x hx => by
  match i, hx with
  | 0, hx => cases hx; exact ⟨_, _, rfl, Int.ofNat_le.mpr (Nat.le_trans hb hr.1)⟩
  | 1, hx => cases hx; exact ⟨_, _, rfl, Int.ofNat_le.mpr (Nat.le_trans hb hk.1)⟩
 have hZ : ¬ ((r : Int) - b + 1) * (k - b + 1) > 400 := by
  rw [sbc hb, sbc hb, ← Int.natCast_mul]
  exact Int.not_lt.mpr (Int.ofNat_le.mpr (Nat.le_trans (Nat.mul_le_mul (sbl hr.2) (sbl hk.2)) (by decide)))
 refine code_vc (fun P => by k_is) (fun P => by k_is) rfl (by kernel_rfl) (by kernel_rfl) ?_
 intro c hC
 have hA := hC.toCAny
 refine r_len hh (show (2 : Nat) ≤ 1000 by decide) fun t1 t2 => iteF (show ¬ ((2 : Nat) : Int) = 0 by decide) (vnil ?_)
 refine for_list hC PassesOwn.never rfl (fun q_ => rfl) ⟨hs, _, q, [], nw, _, rfl, rfl, hh, loop0 (fun i al tl => tl = [] ∧ (al = hC.al [.ref wa, .ref hs] ∨ ∃ z, al = hC.al [.ref wa, .ref hs, z])) ⟨rfl, .inl rfl⟩ ?_ ?_⟩
 · rintro i vs al tl led hi ⟨z, hz, rfl⟩ ⟨rfl, hal⟩ sub
   obtain ⟨h, t, rfl, hbh⟩ := hst i z hz
   have hal : alSet al 2 (.int h t) = hC.al [.ref wa, .ref hs, .int h t] := by
    rcases hal with rfl | ⟨w, rfl⟩ <;> rfl
   refine vst1 ?_
   refine hal ▸ ?_
   obtain ⟨tb, wb⟩ := w_base hA (hW.mono sub)
   exact wb _ _ _ (iteF (Int.not_lt.mpr hbh) (vnil (te0 [] rfl Abv.nil ⟨rfl, .inr ⟨_, rfl⟩⟩)))
 · rintro al' tl ab ⟨rfl, hal⟩
   have hal : ∃ z, al' = (Str.ofString "world", some (.ref wa)) :: (Str.ofString "highs", some (.ref hs)) :: z := by
    rcases hal with rfl | ⟨w, rfl⟩ <;> exact ⟨_, rfl⟩
   obtain ⟨z, rfl⟩ := hal
   obtain ⟨tb, wb⟩ := w_base hA hW
   refine wb _ _ _ (countK (n_count hh (zb hb) (zbr hr) (zbr hk)) hA fun t n l1 => ?_)
   obtain ⟨tr, wr⟩ := w_room hA (hW.mono l1.sub)
   exact wr _ _ _ (iteF hZ (vnil ⟨l1, rfl⟩))
theorem mk265 {P : Params} : makesIn (K39 P) 265 = true ∧ findIn (K39 P) (.ref 265) "__init__" = some (some (.ref 262)) ∧ isFn (K39 P) (.ref 262) = true := ⟨by k_is, by k_is, by k_is⟩
theorem n_dim {k : WC} {ow : Lab} {nks : List (Str × Value)} {S : List AR} {word : Str} {tw : Tok} {hs : Addr} {r c q : Nat} {th1 th2 : Tok} {nw : Led} (hW : WSt k ow nw nks S) (hh : (hs, listOf [.int r th1, .int c th2].toArray q) ∈ nw) (hn : word ∉ S.map (·.word)) (hk : WordOk word k.dec) (hl : S.length ≤ 7) (hr : 1 ≤ r ∧ r ≤ 10) (hc : 1 ≤ c ∧ c ≤ 10) :
 CtW k.w 5 (.ref 297) [.ref k.wa, .str word tw, .ref hs] nw fun v n => v = .none ∧ ∃ g, Chg k ow nw nks (S ++ [⟨word, g, (r + 1 - k.b) * (c + 1 - k.b), r, c, fun q_ q_ => 0⟩]) n := by
 obtain ⟨oa, ma, da⟩ := hW.tab
 have hw0 := hW.wld.mono fro_sub
 have hv := tab_no hn
 refine code_vcG (fun P => by k_is) (fun P => by k_is) rfl (by kernel_rfl) (by kernel_rfl) ?_
 intro c hw hC
 have hA := hC.toCAny
 have da' := da
 rw [← hw] at da'
 refine w_arrays hA hw0 _ _ _ (r_in ma da' hw0.ady (b := false) (by rw [hv]; rfl) (iteF' (vnil ?_)))
 refine (n_check hw0 hh hW.b1 hr hc).go hA fun v n l1 e => ?_
 subst e
 have h1 := hW.le l1
 have w1 := h1.wld.mono fro_sub
 refine asgI hC rfl ?_
 refine (n_kind w1 hk).goW hw hA fun v n2 l2 z2 => ?_
 obtain ⟨t2, e⟩ := z2
 subst e
 have h2 := h1.le l2
 have w2 := h2.wld.mono fro_sub
 obtain ⟨tb, wb⟩ := w_base hA w2
 refine wb _ _ _ (r_cls (W := (· = k.w)) hw hA mk265.1 mk265.2.1 mk265.2.2 (by decide) hC.kp fun z d hd hz => ⟨_, n_ginit (l2.sub _ (l1.sub _ hh)) hW.b1 hr hc hd hz, fun v n3 ⟨e, x, N⟩ => ⟨e, ?_⟩⟩)
 have m3 : (k.ad, oa) ∈ n3 := N.le.sub _ (l2.sub _ (l1.sub _ ma))
 refine w_arrays hA (w2.mono N.le.sub) _ _ _ (setD' m3 da' (by unfold tabA; rw [List.length_map]; lia) hC.kp fun o' ho => vnil ⟨rfl, z, ?_⟩)
 rw [hw] at ho
 obtain ⟨ow', s1, s2⟩ := h2.add N ho hn hk hl (by exact nb ‹_›) (by exact nb ‹_›)
 exact ⟨ow', s1, (Ext.of fun p hp => l2.sub p (l1.sub p hp)).trans s2⟩
end Mine
namespace Mine
open LCg
structure Wk (ow : Lab) (d : Addr) (nw n : Led) : Prop where
 cov : ∀ a, ow a ≠ 0 → ∃ p ∈ nw, p.1 = a
 kp : ∀ p ∈ nw, p.1 ≠ d → p ∈ n
 cv : ∀ p ∈ nw, ∃ q ∈ n, q.1 = p.1
 tp : ∀ a vs q, (a, tup vs q) ∈ n → ow a = 0
section
variable {k : WC} {ow : Lab} {nw n n' : Led} {nks : List (Str × Value)} {S : List AR} {d a : Addr} {o : Obj}
theorem Wk.start (h : WSt k ow nw nks S) : Wk ow d nw nw := ⟨h.cov, fun q_ hp q_ => hp, fun p hp => ⟨p, hp, rfl⟩, h.tp⟩
theorem Wk.lt (h : Wk ow d nw n) (ha : ∀ p ∈ n, p.1 < a) : ∀ p ∈ nw, p.1 < a := fun p hp => by
 obtain ⟨q, hq, e⟩ := h.cv p hp
 exact e ▸ ha q hq
theorem Wk.fresh (h : Wk ow d nw n) (ha : ∀ p ∈ n, p.1 < a) : ow a = 0 := Classical.byContradiction fun h0 => by
 obtain ⟨p, hp, e⟩ := h.cov a h0
 exact absurd (h.lt ha p hp) (by rw [e]; exact Nat.lt_irrefl _)
theorem Wk.le (h : Wk ow d nw n) (hl : Le n n') : Wk ow d nw n' where
 cov := h.cov
 kp p hp hd := hl.sub p (h.kp p hp hd)
 cv p hp := by
  obtain ⟨q, hq, e⟩ := h.cv p hp
  exact ⟨q, hl.sub q hq, e⟩
 tp a vs q hm := by
  obtain ⟨t, rfl, ab⟩ := hl
  rcases jA hm with hm | hm
  · exact h.fresh fun p hp => ab _ hm p hp
  · exact h.tp a vs q hm
theorem Wk.put (h : Wk ow d nw n) (ho : ∀ vs q, o ≠ tup vs q) : Wk ow d nw (putO n d o) where
 cov := h.cov
 kp p hp hd := putO_ne (h.kp p hp hd) hd
 cv p hp := by
  obtain ⟨q, hq, e⟩ := h.cv p hp
  rw [← e]; exact oth_cv hq
 tp a vs q hm := by
  rcases jX hm with e | hm
  · exact absurd (Prod.mk.inj e).2.symm (ho _ _)
  · exact h.tp a vs q (mem_oth.mp hm).1
theorem dict_nt {es : List DictEntry} {q : Nat} : ∀ vs j, dictOf es q ≠ tup vs j := fun vs j e => by cases congrArg Obj.data e
theorem list_nt {its : Array Value} {q : Nat} : ∀ vs j, listOf its q ≠ tup vs j := fun vs j e => absurd (show Value.type "list" = Value.type "tuple" from congrArg Obj.cls e) (by decide)
end
structure GrU (P : Params) (dec : Bool) (b : Nat) (A : AR) (x : AX) (hl il : Addr) (n : Led) : Prop where
 inst : (A.g, instObj 265 x.gda) ∈ n
 dict : (x.gda, dictOf (gEs P x.gt (kindS dec) hl b il A.room) x.gn) ∈ n
theorem GrU.le {P : Params} {dec : Bool} {b : Nat} {A : AR} {x : AX} {hl il : Addr} {n n' : Led} (h : GrU P dec b A x hl il n) (l : Le n n') : GrU P dec b A x hl il n' := ⟨l.sub _ h.inst, l.sub _ h.dict⟩
theorem GrU.put {P : Params} {dec : Bool} {b : Nat} {A : AR} {x : AX} {hl il hl' il' : Addr} {n : Led} (h : GrU P dec b A x hl il n) (hn : A.g ≠ x.gda) : GrU P dec b A x hl' il' (putO n x.gda (dictOf (gEs P x.gt (kindS dec) hl' b il' A.room) x.gn)) := ⟨putO_ne h.inst hn, .head _⟩
section
variable {lev : Nat} {c : Cx} {E : VSP} {al : Al} {nw : Led} {K : VLP} {P : Params} {dec : Bool} {b : Nat} {A : AR} {x : AX} {hl il : Addr} {Kn : ALP}
theorem u_base (hC : CAny lev c) (G : GrU P dec b A x hl il nw) (h : K (.int b (x.gt 4)) nw) : RawS E c (getAttr (.ref A.g) (Str.ofString "base") true) al nw K := r_gat hC G.inst G.dict (.inr (.inr (.inl rfl))) rfl rfl h
theorem u_kind (hC : CAny lev c) (G : GrU P dec b A x hl il nw) (h : K (.str (kindS dec) (x.gt 1)) nw) : RawS E c (getAttr (.ref A.g) (Str.ofString "kind") true) al nw K := r_gat hC G.inst G.dict (.inl rfl) rfl rfl h
theorem u_room (hC : CAny lev c) (G : GrU P dec b A x hl il nw) (h : K (.int A.room (x.gt 7)) nw) : RawS E c (getAttr (.ref A.g) (Str.ofString "room") true) al nw K := r_gat hC G.inst G.dict (.inr (.inr (.inr (.inr rfl)))) rfl rfl h
theorem u_highs (hC : CAny lev c) (G : GrU P dec b A x hl il nw) (h : K (.ref hl) nw) : RawS E c (getAttr (.ref A.g) (Str.ofString "highs") true) al nw K := r_gat hC G.inst G.dict (.inr (.inl rfl)) rfl rfl h
theorem u_setH {hl' : Addr} (hC : CAny lev c) (hP : P = c.w.params) (G : GrU P dec b A x hl il nw) (hn : A.g ≠ x.gda) (hk : c.keep = []) (h : Kn al (putO nw x.gda (dictOf (gEs P x.gt (kindS dec) hl' b il A.room) x.gn))) : RawU E c (setAttr (.ref A.g) (Str.ofString "highs") (.ref hl')) al nw Kn := by
 subst hP
 exact setA' (rest := oth nw x.gda) (fun q_ => gEs c.w.params x.gt (kindS dec) hl' b il A.room) x.gn hC set_highs (mem_oth.mpr ⟨G.inst, hn⟩) G.dict (fun p hp => (mem_oth.mp hp).1) (fun p hp => (mem_oth.mp hp).2) rfl (fun q_ => (by decide : 5 ≤ 1000)) (fun q_ => rfl) hk fun q_ => h
theorem u_setI {il' : Addr} (hC : CAny lev c) (hP : P = c.w.params) (G : GrU P dec b A x hl il nw) (hn : A.g ≠ x.gda) (hk : c.keep = []) (h : Kn al (putO nw x.gda (dictOf (gEs P x.gt (kindS dec) hl b il' A.room) x.gn))) : RawU E c (setAttr (.ref A.g) (Str.ofString "items") (.ref il')) al nw Kn := by
 subst hP
 exact setA' (rest := oth nw x.gda) (fun q_ => gEs c.w.params x.gt (kindS dec) hl b il' A.room) x.gn hC set_items (mem_oth.mpr ⟨G.inst, hn⟩) G.dict (fun p hp => (mem_oth.mp hp).1) (fun p hp => (mem_oth.mp hp).2) rfl (fun q_ => (by decide : 5 ≤ 1000)) (fun q_ => rfl) hk fun q_ => h
end
theorem WSt.arrD {k : WC} {ow : Lab} {nw n : Led} {nks : List (Str × Value)} {S : List AR} {A : AR} {i : Nat} {x : AX} {D il : Addr} {r kc q ki : Nat} {t1 t2 : Tok} {its : Array Value} {f : NNI} (h : WSt k ow nw nks S) (hi : S[i]? = some A) (G : GrW k ow nw (i + 3) A x) (W : Wk ow x.gda nw n) (U : GrU k.w.params k.dec k.b A x D il n)
 (hD : (D, listOf [.int r t1, .int kc t2].toArray q) ∈ n) (h0 : ow D = 0) (hil : (il, listOf its ki) ∈ n) (hf : Fre nw il) (ht : ∀ a vs q, (a, tup vs q) ∈ n → a ≠ il) (hd : D ≠ il) (har : ArrIs k.dec k.b n its r kc f) (hr : 1 ≤ r ∧ r ≤ 12) (hc : 1 ≤ kc ∧ kc ≤ 12) : Chg k ow nw nks (S.set i { A with r := r, c := kc, f := f }) n := by
 have lg := G.lg
 have g0 := (mem_fro.mp G.inst).2
 have same : ∀ p ∈ nw, (fun a => if a = il then i + 3 else ow a) p.1 = ow p.1 := fun p hp => if_neg (Nat.ne_of_lt (hf p hp))
 have l1 : (fun a => if a = il then i + 3 else ow a) il = i + 3 := if_pos rfl
 have n0 : ∀ {a : Addr}, a ≠ il → (fun a => if a = il then i + 3 else ow a) a = ow a := fun e => if_neg e
 generalize (fun a => if a = il then i + 3 else ow a) = ow' at same n0 l1
 have kp : ∀ p ∈ nw, ow p.1 ≠ i + 3 → p ∈ n := fun p hp hl => W.kp p hp fun e => hl (by rw [e]; exact lg)
 have cv : ∀ a, ow' a ≠ 0 → ∃ p ∈ n, p.1 = a := fun a ha => by
  by_cases e : a = il
  · exact ⟨_, hil, e.symm⟩
  · obtain ⟨p, hp, e2⟩ := h.cov a (by rw [← n0 e]; exact ha)
    rw [← e2]; exact W.cv p hp
 have tp : ∀ a vs q, (a, tup vs q) ∈ n → ow' a = 0 := fun a vs q hm => (n0 (ht a vs q hm)).trans (W.tp a vs q hm)
 refine ⟨ow', h.set (x := ⟨x.gda, il, D, x.gt, x.gn, ki, its⟩) hi same kp cv tp rfl rfl ⟨?_, U.dict, hil, ⟨t1, t2, q, mem_fro.mpr ⟨hD, (n0 hd).trans h0⟩⟩, har.tups fun a vs q hm => mem_fro.mpr ⟨hm, tp a vs q hm⟩, (same _ G.dict).trans lg, l1, Nat.ne_of_lt (hf _ G.dict), hr, hc⟩, same, fun p hp hl => kp p hp (own8 hl (List.getElem?_eq_some_iff.mp hi).1 h.len), fun p hp => W.cv p hp⟩
 exact mem_fro.mpr ⟨U.inst, (same _ (fro_sub _ G.inst)).trans g0⟩
theorem n_redim {k : WC} {ow : Lab} {nks : List (Str × Value)} {S : List AR} {A : AR} {i : Nat} {hs : Addr} {r kc q : Nat} {th1 th2 : Tok} {nw : Led} (hW : WSt k ow nw nks S) (hi : S[i]? = some A) (hf : (hs, listOf [.int r th1, .int kc th2].toArray q) ∈ fro ow nw) (hr : 1 ≤ r ∧ r ≤ 10) (hc : 1 ≤ kc ∧ kc ≤ 10) (hroom : (r + 1 - k.b) * (kc + 1 - k.b) ≤ A.room) :
 CtW k.w 3 (.ref 332) [.ref k.wa, .ref A.g, .ref hs] nw fun v n => v = .none ∧ Chg k ow nw nks (S.set i { A with r := r, c := kc, f := fun q_ q_ => 0 }) n := by
 obtain ⟨x, G⟩ := hW.arr i A hi
 have hb := hW.b1
 have g0 := (mem_fro.mp G.inst).2
 have lg := G.lg
 obtain ⟨hh, hs0⟩ := mem_fro.mp hf
 have hsne : hs ≠ x.gda := fun e => by
  replace hs0 : ow hs = 0 := hs0
  rw [e] at hs0; rw [hs0] at lg; exact nomatch lg
 have hne : A.g ≠ x.gda := fun e => by rw [e] at g0; rw [g0] at lg; exact nomatch lg
 have U0 : GrU k.w.params k.dec k.b A x x.hl x.il nw := ⟨fro_sub _ G.inst, G.dict⟩
 have W0 : Wk ow x.gda nw nw := .start hW
 have hZ : (r : Int) - k.b + 1 = ((r + 1 - k.b : Nat) : Int) ∧ (kc : Int) - k.b + 1 = ((kc + 1 - k.b : Nat) : Int) := ⟨sbc hb, sbc hb⟩
 have hZ1 : ((r : Int) - k.b + 1) * (kc - k.b + 1) = (((r + 1 - k.b) * (kc + 1 - k.b) : Nat) : Int) := by rw [hZ.1, hZ.2, Int.natCast_mul]
 have hZ2 : (r + 1 - k.b) * (kc + 1 - k.b) ≤ 121 := Nat.mul_le_mul (sbl hr.2) (sbl hc.2)
 have hZ3 : ¬ ((r : Int) - k.b + 1) * (kc - k.b + 1) > (A.room : Int) := by rw [hZ1]; lia
 refine code_vcG (fun P => by k_is) (fun P => by k_is) rfl (by kernel_rfl) (by kernel_rfl) ?_
 intro c hw hC
 have hA := hC.toCAny
 refine (n_check (hW.wld.mono fro_sub) hh hb hr hc).go hA fun v n1 l1 e => ?_
 refine u_base hA (U0.le l1) (countK (n_count (l1.sub _ hh) (zb hb) (zbr hr) (zbr hc)) hA fun t n2 l2 => ?_)
 have l12 := l1.trans l2
 refine u_room hA (U0.le l12) (iteF hZ3 (vnil ?_))
 refine asgA hC rfl (r_listOf (l12.sub _ hh) (show (2 : Nat) ≤ 1000 by decide) fun D kh hD => ?_)
 have U1 := U0.le (l12.cons (o := listOf [.int r th1, .int kc th2].toArray kh) hD)
 have W1 := (W0.le (l12.cons (o := listOf [.int r th1, .int kc th2].toArray kh) hD)).put (dict_nt (es := gEs k.w.params x.gt (kindS k.dec) D k.b x.il A.room) (q := x.gn))
 refine u_setH hA (by rw [hw]) U1 hne hC.kp ?_
 have U2 := U1.put (hl' := D) (il' := x.il) hne
 have hDne : D ≠ x.gda := Nat.ne_of_gt (hD _ (U0.le l12).dict)
 have mD : (D, listOf [.int r th1, .int kc th2].toArray kh) ∈ putO ((D, listOf [.int r th1, .int kc th2].toArray kh) :: n2) x.gda (dictOf (gEs k.w.params x.gt (kindS k.dec) D k.b x.il A.room) x.gn) := putO_ne (.head _) hDne
 have mh : (hs, listOf [.int r th1, .int kc th2].toArray q) ∈ putO ((D, listOf [.int r th1, .int kc th2].toArray kh) :: n2) x.gda (dictOf (gEs k.w.params x.gt (kindS k.dec) D k.b x.il A.room) x.gn) := putO_ne (.tail _ (l12.sub _ hh)) hsne
 generalize putO ((D, listOf [.int r th1, .int kc th2].toArray kh) :: n2) x.gda (dictOf (gEs k.w.params x.gt (kindS k.dec) D k.b x.il A.room) x.gn) = n3 at U2 W1 mD mh ⊢
 refine asgA hC rfl (u_kind hA U2 (n_first.go hA fun v n4 l4 hv D1 hD1 => u_base hA (U2.le (l4.cons hD1)) (countK (n_count ((l4.cons hD1).sub _ mh) (zb hb) (zbr hr) (zbr hc)) hA fun t5 n5 l5 => ?_)))
 refine hZ1 ▸ ?_
 refine r_mulL (l5.sub _ (.head _)) (by exact Int.natCast_nonneg _) (by rw [Int.toNat_natCast]; exact Nat.le_trans (Nat.le_of_eq (Nat.one_mul _)) (nt hZ2)) (Int.ofNat_le.mpr (nt hZ2)) fun il hil => ?_
 have l6 := (l4.cons (o := listOf [v].toArray 0) hD1).trans l5
 have har := fun (n : Led) hs => zeros_is (b := k.b) (r := r) (c := kc) rfl ((NumO.of (hv.1.mono fun p hp => l5.sub p (.tail _ hp))).tups (n' := n) hs)
 generalize (List.replicate (((r + 1 - k.b) * (kc + 1 - k.b) : Nat) : Int).toNat [v]).flatten.toArray = its at har ⊢
 have l7 := l6.cons (o := listOf its 0) hil
 have U3 := U2.le l7
 have W3 := (W1.le l7).put (dict_nt (es := gEs k.w.params x.gt (kindS k.dec) D k.b il A.room) (q := x.gn))
 refine u_setI hA (by rw [hw]) U3 hne hC.kp (vnil ⟨rfl, ?_⟩)
 have hine : il ≠ x.gda := Nat.ne_of_gt (hil _ (l6.sub _ U2.dict))
 exact hW.arrD hi G W3 (U3.put hne) (putO_ne (l7.sub _ mD) hDne) (W0.le l12 |>.fresh hD) (putO_ne (.head _) hine) (fun p hp => W1.lt (fun q hq => hil q (l6.sub q hq)) p hp) (fun a vs q hm => by
  rcases jX hm with e | hm
  · exact absurd (Prod.mk.inj e).2.symm (dict_nt _ _)
  rcases jX (mem_oth.mp hm).1 with e | hm
  · exact absurd (Prod.mk.inj e).2.symm (list_nt _ _)
  · exact Nat.ne_of_lt (hil _ hm)) (Nat.ne_of_lt (hil _ (l6.sub _ mD))) (har _ fun a vs q hm => putO_ne (.tail _ hm) (fun e => by have z := (W1.le l6).tp a vs q hm; replace e : a = x.gda := e; rw [e, lg] at z; exact absurd z (Nat.succ_ne_zero _))) ⟨hr.1, by exact nr ‹_›⟩ ⟨hc.1, by exact nr ‹_›⟩
theorem n_ledto {k : WC} {ow : Lab} {nks : List (Str × Value)} {S : List AR} {A : AR} {i : Nat} {hs : Addr} {r kc q : Nat} {th1 th2 : Tok} {nw : Led} (hW : WSt k ow nw nks S) (hi : S[i]? = some A) (hf : (hs, listOf [.int r th1, .int kc th2].toArray q) ∈ fro ow nw) (hr : 1 ≤ r ∧ r ≤ 10) (hc : 1 ≤ kc ∧ kc ≤ 10) (hroom : (r + 1 - k.b) * (kc + 1 - k.b) ≤ A.room) :
 CtW k.w 5 (.ref 525) [.ref k.wa, .ref A.g, .ref hs] nw fun v n => v = .none ∧ ∃ f, Chg k ow nw nks (S.set i { A with r := r, c := kc, f := f }) n := by
 obtain ⟨x, G⟩ := hW.arr i A hi
 obtain ⟨t1, t2, kh, hh⟩ := G.highs
 have U0 : GrU k.w.params k.dec k.b A x x.hl x.il nw := ⟨fro_sub _ G.inst, G.dict⟩
 refine code_vcG (fun P => by k_is) (fun P => by k_is) rfl (by kernel_rfl) (by kernel_rfl) ?_
 intro c hw hC
 have hA := hC.toCAny
 refine u_highs hA U0 ?_
 refine r_neD hA (by decide) (.list (fro_sub _ hh) (.cons (.int _ _) (.cons (.int _ _) .nil))) (.list (fro_sub _ hf) (.cons (.int _ _) (.cons (.int _ _) .nil))) rfl rfl (q := decide (A.r = r ∧ A.c = kc)) ⟨fun e => by rw [(of_decide_eq_true e).1, (of_decide_eq_true e).2], fun e => ?_⟩ ⟨fun e => ?_, fun e => vnil ⟨rfl, A.f, ?_⟩⟩
 · injection e with e
   injection e with e1 e
   injection e with e2 e
   injection e1 with e1
   injection e2 with e2
   exact decide_eq_true ⟨by lia, by lia⟩
 · exact (n_redim hW hi hf hr hc hroom).goF hw hC fun v n ⟨q_, h⟩ => vnil ⟨rfl, _, h⟩
 · have e : A.r = r ∧ A.c = kc := of_decide_eq_true (by cases h : decide (A.r = r ∧ A.c = kc) <;> rw [h] at e <;> first | rfl | cases e)
   obtain ⟨rfl, rfl⟩ := e
   exact ⟨ow, by rw [set_same hi]; exact hW, .of fun q_ hp => hp⟩
end Mine
namespace Mine
open LCg
noncomputable def PrJ (dec : Bool) (b : Nat) (il : Addr) (ki r kc : Nat) (news : Led) (Q : Al → Prop) (F : Nat → NNI) : LJ := fun i al mu tl => E1_4 (fun its => mu = [(il, listOf its ki)]) (fun its => Q al) (fun its => (∀ p ∈ tl, il < p.1)) (fun its => ArrIs dec b (tl ++ news) its r kc (F i))
structure GrB (P : Params) (dec : Bool) (b : Nat) (A : AR) (x : AX) (n : Led) : Prop where
 inst : (A.g, instObj 265 x.gda) ∈ n
 dict : (x.gda, dictOf (gEs P x.gt (kindS dec) x.hl b x.il A.room) x.gn) ∈ n
 highs : HighsIn n x.hl A.r A.c
 b1 : b ≤ 1
 rb : 1 ≤ A.r ∧ A.r ≤ 12
 kb : 1 ≤ A.c ∧ A.c ≤ 12
theorem GrB.mono {P : Params} {dec : Bool} {b : Nat} {A : AR} {x : AX} {n n' : Led} (h : GrB P dec b A x n) (hs : ∀ p ∈ n, p ∈ n') : GrB P dec b A x n' := ⟨hs _ h.inst, hs _ h.dict, h.highs.mono hs, h.b1, h.rb, h.kb⟩
theorem idxI {b i r : Nat} (hb : b ≤ 1) (h : i < r) : (b : Int) ≤ (i : Int) + 1 ∧ (i : Int) + 1 ≤ r := ⟨Int.ofNat_le.mpr (Nat.le_trans hb (Nat.le_add_left ..)), Int.ofNat_le.mpr h⟩
theorem put_place {b c i j : Nat} (hb : b ≤ 1) (hc : 1 ≤ c) : ((i : Int) + 1 - b) * ((c : Int) - b + 1) + ((j : Int) + 1) - b = (((i + 1 - b) * (c + 1 - b) + (j + 1 - b) : Nat) : Int) := by
 have e1 : (i : Int) + 1 - b = ((i + 1 - b : Nat) : Int) := sbd hb
 have e2 : (c : Int) - b + 1 = ((c + 1 - b : Nat) : Int) := sbc hb
 have e3 : (j : Int) + 1 - b = ((j + 1 - b : Nat) : Int) := sbd hb
 rw [Int.add_sub_assoc, e1, e2, e3, Int.natCast_add, Int.natCast_mul]
theorem n_putrows {k : WC} {ow : Lab} {nks : List (Str × Value)} {S : List AR} {A : AR} {i : Nat} {y : Addr} {f : NNI} {nw : Led} (hW : WSt k ow nw nks S) (hi : S[i]? = some A) (hG : Mat ow none nw y A.r A.c f) (hf : ∀ p q, p < A.r → q < A.c → -999 ≤ f p q ∧ f p q ≤ 999) :
 CtW k.w 7 (.ref 344) [.ref k.wa, .ref A.g, .ref y] nw fun v n => v = .none ∧ Chg k ow nw nks (S.set i { A with f := f }) n := by
 obtain ⟨x, G⟩ := hW.arr i A hi
 have lg := G.lg
 have li := G.li
 have fne : ∀ p ∈ fro ow nw, p.1 ≠ x.il := fun p hp e => by
  have := (mem_fro.mp hp).2
  rw [e, li] at this; exact absurd this (Nat.succ_ne_zero _)
 have fx : ∀ p ∈ fro ow nw, p ∈ oth nw x.il := fun p hp => mem_oth.mpr ⟨fro_sub p hp, fne p hp⟩
 have hB : GrB k.w.params k.dec k.b A x (oth nw x.il) := ⟨fx _ G.inst, mem_oth.mpr ⟨G.dict, G.ne⟩, G.highs.mono fx, hW.b1, G.rb, G.kb⟩
 have hG1 := hG.mono fx
 have hw1 := hW.wld.mono fx
 have ar0 := (G.arr.mono fx).congr fun p q q_ q_ => mix_start f A.f p q
 obtain ⟨vs, q, m1, e1, h1⟩ := GridF.at hG1
 have hZ : (A.r + 1 - k.b) * (A.c + 1 - k.b) ≤ 169 := Nat.mul_le_mul (sbl G.rb.2) (sbl G.kb.2)
 refine code_vcG (fun P => by k_is) (fun P => by k_is) rfl (by kernel_rfl) (by kernel_rfl) ?_
 intro c hw hC
 have hA := hC.toCAny
 refine RawC.sub (nw' := [(x.il, listOf x.its x.ki)] ++ oth nw x.il) ?_ ?_ (hC.noK _)
 rotate_left
 · intro p hp
   revert p; refine fmc ?_ fun p hp => ?_
   · exact G.items
   · exact (mem_oth.mp hp).1
 refine for_enum hC PassesOwn.never rfl rfl rfl rfl ⟨y, vs, q, [(x.il, listOf x.its x.ki)], _, PrJ k.dec k.b x.il x.ki A.r A.c (oth nw x.il) (fun al => E5_1 (fun o3 o4 o5 o6 o7 => al = hC.alo [some (.ref k.wa), some (.ref A.g), some (.ref y), o3, o4, o5, o6, o7])) (fun i => mixF f A.f i 0), rfl, rfl, m1, ⟨?_, ⟨_, rfl, ⟨_, _, _, _, _, rfl⟩, fun q_ h => (nomatch h), ar0⟩, ?_, ?_⟩⟩
 · intro p hp h
   exact (mem_oth.mp hp).2 (jO h)
 · rintro i' vs' al mu tl led hi' ⟨t3, z, hz, rfl⟩ ⟨its, rfl, ⟨o3, o4, o5, o6, o7, rfl⟩, ab2, ar⟩ ab hmu sub off
   obtain ⟨a, e2, hR⟩ := h1 i' (e1 ▸ hi')
   obtain rfl := Option.some.inj (hz.symm.trans e2)
   obtain ⟨us, q2, m2, e3, h2⟩ := hR.at
   have sx : ∀ p ∈ oth nw x.il, p ∈ led := fun p hp => sub p (jR _ hp)
   refine vst2 ?_
   refine for_enum hC PassesOwn.never rfl rfl rfl rfl ⟨a, us, q2, [(x.il, listOf its x.ki)], led, PrJ k.dec k.b x.il x.ki A.r A.c (tl ++ oth nw x.il) (fun al => E3_1 (fun o5 o6 o7 => al = hC.alo [some (.ref k.wa), some (.ref A.g), some (.ref y), some (.int i' t3), some (.ref a), o5, o6, o7])) (fun j => mixF f A.f i' j), rfl, rfl, sx _ m2, ⟨off, ⟨_, rfl, ⟨_, _, _, rfl⟩, fun q_ h => (nomatch h), ar⟩, ?_, ?_⟩⟩
   · rintro j vs3 al mu2 tl2 led2 hj ⟨t4, z2, hz2, rfl⟩ ⟨its2, rfl, ⟨o5, o6, o7, rfl⟩, ab4, ar2⟩ ab3 hmu2 sub2 off2
     obtain ⟨v, e4, bb, q_, hN⟩ := h2 j (e3 ▸ hj)
     obtain rfl := Option.some.inj (hz2.symm.trans e4)
     have s2 : ∀ p ∈ oth nw x.il, p ∈ [(x.il, listOf its2 x.ki)] ++ led2 := fun p hp => .tail _ (sub2 p (jR _ (sx p hp)))
     have B := hB.mono s2
     obtain ⟨th1, th2, kh, hh⟩ := B.highs
     refine vst2 ?_
     refine r_gat hA B.inst B.dict (.inr (.inl rfl)) rfl rfl (r_len hh (show (2 : Nat) ≤ 1000 by decide) fun t5 t6 => iteF (show ¬ ((2 : Nat) : Int) = 1 by decide) fun t7 t8 t9 t10 D hD => vst1 ?_)
     have l1 : Le ([(x.il, listOf its2 x.ki)] ++ led2) ((D, listOf [.int ((i' : Int) + 1) t8, .int ((j : Int) + 1) t10].toArray 0) :: ([(x.il, listOf its2 x.ki)] ++ led2)) := .one hD
     have B1 := B.mono l1.sub
     refine asgI hC rfl (r_gat hA B1.inst B1.dict (.inl rfl) rfl rfl ?_)
     obtain ⟨tb, wb⟩ := w_bits hA (hw1.mono fun p hp => l1.sub p (s2 p hp))
     obtain ⟨td, wd⟩ := w_digits hA (hw1.mono fun p hp => l1.sub p (s2 p hp))
     refine wb _ _ _ (wd _ _ _ ((n_suited (hN.mono fun p hp => l1.sub p (s2 p hp)) (hf i' j (e1 ▸ hi') (e3 ▸ hj))).go hA fun v' n2 l2 hv => ?_))
     have B2 := B1.mono l2.sub
     refine r_gat hA B2.inst B2.dict (.inr (.inr (.inr (.inl rfl)))) rfl rfl ?_
     have ar3 : ArrIs k.dec k.b n2 its2 A.r A.c (mixF f A.f i' j) := ar2.mono fun p hp => l2.sub p (l1.sub p (.tail _ (by
      revert p; refine fma (fun p hp => ?_) fun p hp => ?_
      · exact sub2 p (jL _ hp)
      · exact sub2 p (jR _ (sub p hp)))))
     have mi : (x.il, listOf its2 x.ki) ∈ n2 := l2.sub _ (l1.sub _ (.head _))
     refine (n_place ⟨_, _, _, _, _, _, _, _, B2.inst, B2.dict, mi, B2.highs, ar3, B2.b1, B2.rb, B2.kb⟩ (l2.sub _ (.head _)) (idxI B.b1 (e1 ▸ hi')) (idxI B.b1 (e3 ▸ hj))).go hA fun w n3 l3 z1 => ?_
     obtain ⟨t11, e⟩ := z1
     subst e
     refine (put_place B.b1 B.kb.1) ▸ ?_
     obtain ⟨t2, rfl, a2⟩ := l2
     obtain ⟨hk, ar4⟩ := (ar2.mono fun p hp => jR t2 hp).setAt hW.b1 (e1 ▸ hi') (e3 ▸ hj) (NumO.of (hv.new.mono fun p hp => jL _ hp)) rfl
     have hk2 := hk
     rw [ar2.size] at hk2
     refine setL' (l3.sub _ mi) (Int.natCast_nonneg _) (Int.ofNat_lt.mpr hk) (Int.ofNat_lt.mpr (Nat.lt_of_lt_of_le hk2 (nt hZ))) hC.kp (vnil ⟨[(x.il, listOf (its2.setIfInBounds ((i' + 1 - k.b) * (A.c + 1 - k.b) + (j + 1 - k.b)) v') x.ki)], t2, ?_, fun p hp q hq => a2 p hp q (l1.sub q hq), rfl, _, rfl, ⟨_, _, _, rfl⟩, ?_, ?_⟩)
     · intro p hp
       revert p; refine fmc ?_ fun p hp => ?_
       · exact .head _
       · replace hp : p ∈ t2 ++ led2 := hp
         revert p; refine fma (fun p hp => ?_) fun p hp => ?_
         · exact putO_ne (l3.sub _ (jL _ hp)) (Nat.ne_of_gt (a2 p hp _ (l1.sub _ (.head _))))
         · exact putO_ne (l3.sub _ (jR _ (l1.sub _ (.tail _ hp)))) fun e => off2 p hp (by rw [e]; exact .head _)
     · intro p hp
       revert p; refine fma (fun p hp => ?_) fun p hp => ?_
       · exact a2 p hp _ (l1.sub _ (.head _))
       · exact ab4 p hp
     · rw [List.append_assoc]
       exact ar4.congr fun p q q_ q_ => mix_item f A.f i' j p q
   · rintro al' mu2 tl2 ab3 hmu2 ⟨its2, rfl, ⟨o5, o6, o7, rfl⟩, ab4, ar2⟩
     refine vnil ⟨[(x.il, listOf its2 x.ki)], tl2, fun p hp => hp, ?_, rfl, its2, rfl, ⟨_, _, _, _, _, rfl⟩, ?_, ?_⟩
     · intro p hp q hq
       revert q; refine fmc ?_ fun q hq => ?_
       · exact ab4 p hp
       · exact ab3 p hp q hq
     · intro p hp
       revert p; refine fma (fun p hp => ?_) fun p hp => ?_
       · exact ab4 p hp
       · exact ab2 p hp
     · rw [List.append_assoc]
       rw [e3] at ar2
       exact ar2.congr fun p q q_ hq => mix_row f A.f i' A.c p q hq
 · rintro al' mu' tl ab hmu ⟨its, rfl, q_, ab2, ar⟩
   rw [e1] at ar
   have kp : ∀ p ∈ nw, p.1 ≠ x.il → p ∈ [(x.il, listOf its x.ki)] ++ (tl ++ oth nw x.il) := fun p hp hn => .tail _ (jR tl (mem_oth.mpr ⟨hp, hn⟩))
   have kf : ∀ p ∈ fro ow nw, p ∈ fro ow ([(x.il, listOf its x.ki)] ++ (tl ++ oth nw x.il)) := fun p hp => mem_fro.mpr ⟨kp p (fro_sub p hp) (fne p hp), (mem_fro.mp hp).2⟩
   have cv : ∀ p ∈ nw, ∃ q ∈ [(x.il, listOf its x.ki)] ++ (tl ++ oth nw x.il), q.1 = p.1 := fun p hp => by
    by_cases e : p.1 = x.il
    · exact ⟨_, .head _, e.symm⟩
    · exact ⟨p, kp p hp e, rfl⟩
   have tp : ∀ a vs q, (a, tup vs q) ∈ [(x.il, listOf its x.ki)] ++ (tl ++ oth nw x.il) → ow a = 0 := fun a vs q hm => by
    rcases jX hm with e | hm
    · exact absurd (Prod.mk.inj e).2.symm (list_nt _ _)
    · replace hm : (a, tup vs q) ∈ tl ++ oth nw x.il := hm
      rcases jA hm with hm | hm
      · refine hW.fresh fun p hp => ?_
        by_cases e : p.1 = x.il
        · rw [e]; exact ab2 _ hm
        · exact ab _ hm p (mem_oth.mpr ⟨hp, e⟩)
      · exact hW.tp a vs q (mem_oth.mp hm).1
   have h8 : i < 8 := Nat.lt_of_lt_of_le (List.getElem?_eq_some_iff.mp hi).1 hW.len
   refine vnil ⟨rfl, ow, hW.set (x := { x with its := its }) hi (fun q_ q_ => rfl) (fun p hp hl => kp p hp fun e => hl (by rw [e]; exact li)) (fun a ha => ?_) tp rfl rfl ⟨kf _ G.inst, kp _ G.dict G.ne, .head _, G.highs.mono kf, ?_, lg, li, G.ne, G.rb, G.kb⟩, fun q_ q_ => rfl, fun p hp hl => kp p hp fun e => own8 hl h8 (Nat.le_refl 8) (e ▸ li), cv⟩
   · obtain ⟨p, hp, e⟩ := hW.cov a ha
     rw [← e]; exact cv p hp
   · exact (ar.tups fun a vs q hm => mem_fro.mpr ⟨.tail _ hm, tp a vs q (.tail _ hm)⟩).congr fun p q hp q_ => mix_end f A.f A.r p q hp
end Mine
namespace Mine
open LCg
theorem n_gridofN {k : WC} {ow : Lab} {nks : List (Str × Value)} {S : List AR} {word : Str} {t tm : Tok} {nw : Led} (hW : WSt k ow nw nks S) (hn : word ∉ S.map (·.word)) (hk : WordOk word k.dec) (hl : S.length ≤ 7) :
 CtW k.w 6 (.ref 304) [.ref k.wa, .str word t, .int 2 tm] nw fun v n => E1_2 (fun g => v = .ref g) (fun g => Chg k ow nw nks (S ++ [⟨word, g, (10 + 1 - k.b) * (10 + 1 - k.b), 10, 10, fun q_ q_ => 0⟩]) n) := by
 obtain ⟨oa, ma, da⟩ := hW.tab
 have hw0 := hW.wld.mono fro_sub
 have hv := tab_no hn
 refine code_vcG (fun P => by k_is) (fun P => by k_is) rfl (by kernel_rfl) (by kernel_rfl) ?_
 intro c hw hC
 have hA := hC.toCAny
 have da' := da
 rw [← hw] at da'
 refine w_arrays hA hw0 _ _ _ (r_notin ma da' hw0.ady (b := false) (by rw [hv]; rfl) (iteT' ?_))
 intro D hD
 refine r_mulL (.head _) (by decide) (by decide) (by decide) fun D2 hD2 => ?_
 have l1 := (Le.one (o := listOf [.int 10 522].toArray 0) hD).cons (o := listOf [.int 10 522, .int 10 522].toArray 0) hD2
 refine (n_dim (hW.le l1) (.head _) hn hk hl (by decide) (by decide)).goF hw hC fun v n ⟨q_, g, ow', W', X'⟩ => vnil ?_
 obtain ⟨oa2, ma2, da2⟩ := W'.tab
 have hw2 := W'.wld.mono fro_sub
 have hv2 := tab_at W'.ws (jR _ (.head _))
 rw [← hw] at da2
 exact w_arrays hA hw2 _ _ _ fun ea eb hs => r_dit hs ma2 da2 hv2 ⟨g, rfl, ow', W', (Ext.of l1.sub).trans X'⟩
theorem n_putres {k : WC} {ow : Lab} {nks : List (Str × Value)} {S' : Addr → List AR} {A : Addr → AR} {i : Nat} {word : Str} {tw : Tok} {y : Addr} {r kc : Nat} {f : NNI} {nw : Led}
 (H : ∀ t, CtW k.w 6 (.ref 304) [.ref k.wa, .str word tw, .int 2 t] nw fun v n => E1_2 (fun g => v = .ref (A g).g) (fun g => Chg k ow nw nks (S' g) n)) (hS : ∀ g, (S' g)[i]? = some (A g) ∧ (r + 1 - k.b) * (kc + 1 - k.b) ≤ (A g).room)
 (hG : Mat ow none nw y r kc f) (hr : 1 ≤ r ∧ r ≤ 10) (hc : 1 ≤ kc ∧ kc ≤ 10) (hf : ∀ p q, p < r → q < kc → -999 ≤ f p q ∧ f p q ≤ 999) :
 CtW k.w 8 (.ref 539) [.ref k.wa, .str word tw, .ref y] nw fun v n => v = .none ∧ ∃ g, Chg k ow nw nks ((S' g).set i { A g with r := r, c := kc, f := f }) n := by
 refine code_vcG (fun P => by k_is) (fun P => by k_is) rfl (by kernel_rfl) (by kernel_rfl) ?_
 intro c hw hC
 have hA := hC.toCAny
 intro t1
 refine (H t1).goF hw hC fun v n1 ⟨g, e, ow1, W1, X1⟩ => vst1 ?_
 subst e
 obtain ⟨hi, hroom⟩ := hS g
 have M1 := hG.ext X1
 refine shapeK (n_shape (GridF.mono M1 fro_sub) ⟨hr.1, by exact nr ‹_›⟩ (by exact nr ‹_›)) hA fun s t2 t3 j n2 l2 hm hs => ?_
 have W2 := W1.le l2
 obtain ⟨x, G⟩ := W2.arr i _ hi
 have U2 : GrU k.w.params k.dec k.b (A g) x x.hl x.il n2 := ⟨fro_sub _ G.inst, G.dict⟩
 obtain ⟨th1, th2, kh, hh⟩ := G.highs.mono fro_sub
 refine unpI hm rfl (vst2 ?_)
 refine u_highs hA U2 (r_len hh (show (2 : Nat) ≤ 1000 by decide) fun t4 t5 => iteF (show ¬ ((2 : Nat) : Int) = 1 by decide) (iteF' (vnil ?_)))
 refine u_highs hA U2 (r_len hh (show (2 : Nat) ≤ 1000 by decide) fun t6 t7 => iteF (show ¬ ((2 : Nat) : Int) = 1 by decide) fun D hD => ?_)
 have l3 := Le.one (o := listOf [.int r t2, .int kc t3].toArray 0) hD
 have W3 := W2.le l3
 refine (n_ledto W3 hi (mem_fro.mpr ⟨.head _, W2.fresh hD⟩) hr hc hroom).goF hw hC fun v n4 z2 => ?_
 obtain ⟨q_, f', ow4, W4, X4⟩ := z2
 have hi4 : ((S' g).set i { A g with r := r, c := kc, f := f' })[i]? = some { A g with r := r, c := kc, f := f' } := List.getElem?_set_self (List.getElem?_eq_some_iff.mp hi).1
 have X3 := (Ext.of (ow := ow1) fun p hp => l3.sub p (l2.sub p hp)).trans X4
 refine (n_putrows (A := { A g with r := r, c := kc, f := f' }) W4 hi4 (M1.ext X3) hf).goF hw hC fun v n5 ⟨q_, ow5, W5, X5⟩ => vnil ⟨rfl, g, ow5, ?_, (X1.trans X3).trans X5⟩
 rw [List.set_set] at W5
 exact W5
end Mine
namespace Mine
open LCg
theorem set502b {P : Params} : SetOk (K39 P) 502 (Str.ofString "bits") := ⟨by k_is, by k_is, by k_is, by k_is⟩
theorem set502d {P : Params} : SetOk (K39 P) 502 (Str.ofString "digits") := ⟨by k_is, by k_is, by k_is, by k_is⟩
theorem mk502 {P : Params} : makesIn (K39 P) 502 = true ∧ findIn (K39 P) (.ref 502) "__init__" = some (some (.ref 478)) ∧ isFn (K39 P) (.ref 478) = true := ⟨by k_is, by k_is, by k_is⟩
noncomputable def RkP (P : Params) (nw : Led) (z d : Addr) (v : Value) (n : Led) : Prop := v = .none ∧ E4_1 (fun t0 tb t1 td => n = (d, dictOf [en P "bits" t0 (.int 16 tb), en P "digits" t1 (.int 9 td)] 2) :: (z, instObj 502 d) :: nw)
theorem n_rinit {w : World} {wa ad nd z d : Addr} {b : Int} {nw : Led} (hW : WorldIn PG w nw wa b ad nd) (hd : ∀ p ∈ nw, p.1 < d) (hz : d < z) : CtW w 2 (.ref 478) [.ref z, .ref wa] ((z, instObj 502 d) :: (d, dictOf [] 0) :: nw) (RkP w.params nw z d) := by
 have hdz : ∀ p ∈ (z, instObj 502 d) :: nw, p.1 ≠ d := fun p hp => by
  revert p; refine fmc ?_ fun p hp => ?_
  · exact Nat.ne_of_gt hz
  · exact Nat.ne_of_lt (hd p hp)
 have s1 : ∀ {o : Obj}, ∀ p ∈ (z, instObj 502 d) :: nw, p ∈ (z, instObj 502 d) :: (d, o) :: nw := fun p hp => by
  revert p; refine fmc ?_ fun p hp => ?_
  · exact .head _
  · exact .tail _ (.tail _ hp)
 refine code_vcG (fun P => by k_is) (fun P => by k_is) rfl (by kernel_rfl) (by kernel_rfl) ?_
 intro c hw hC
 have hA := hC.toCAny
 subst hw
 obtain ⟨tb, wb⟩ := w_bits hA (hW.mono fun p hp => s1 (o := dictOf [] 0) p (.tail _ hp))
 refine asgA hC rfl (wb _ _ _ (setA' (fun t => [en c.w.params "bits" t (.int 16 tb)]) 1 hA set502b (.head _) (.tail _ (.head _)) s1 hdz rfl (fun q_ => (by decide : 1 ≤ 1000)) (fun q_ => rfl) hC.kp fun t0 => ?_))
 obtain ⟨td, wd⟩ := w_digits hA (hW.mono fun p hp => jC (d, dictOf [en c.w.params "bits" t0 (.int 16 tb)] 1) (.tail (z, instObj 502 d) hp))
 exact asgA hC rfl (wd _ _ _ (setA' (fun t => [en c.w.params "bits" t0 (.int 16 tb), en c.w.params "digits" t (.int 9 td)]) 2 hA set502d (.head _) (.head _) (fun p hp => .tail _ hp) hdz rfl (fun q_ => (by decide : 2 ≤ 1000)) (fun q_ => rfl) hC.kp fun t1 => vnil ⟨rfl, t0, tb, t1, td, rfl⟩))
section
variable {lev : Nat} {c : Cx} {E : VSP} {al : Al} {nw : Led} {K : VLP}
theorem r_reck {w : World} {wa ad nd : Addr} {b : Int} (hw : c.w = w) (hC : CAny lev c) (hW : WorldIn PG w nw wa b ad nd) (hk : c.keep = []) (h : ∀ y n, Le nw n → RkE w.params n y → K (.ref y) n) (hl : 4 ≤ lev := by decide) : RawS E c (call (.ref 502) [.ref wa]) al nw K :=
 r_cls (W := (· = w)) hw hC mk502.1 mk502.2.1 mk502.2.2 hl hk fun z d hd hz => ⟨_, n_rinit hW hd hz, fun v n ⟨e, t0, tb, t1, td, e2⟩ => ⟨e, by
  subst e2
  exact h z _ ⟨[_, _], rfl, .cons hd (.cons (fun p hp => Nat.lt_trans (hd p hp) hz) .nil)⟩ ⟨d, 2, t0, tb, t1, td, .tail _ (.head _), .head _⟩⟩⟩
theorem r_bound {y : Addr} {name : Str} {o : Option Bool} (hC : CAny lev c) (hy : RkE c.w.params nw y) (hn : (name, o) = (Str.ofString "plus", none) ∨ (name, o) = (Str.ofString "less", some false) ∨ (name, o) = (Str.ofString "times", some true))
 (h : ∀ q, (∀ p ∈ nw, p.1 < q) → K (.ref q) ((q, methodObj (.ref (oF o)) (.ref y)) :: nw)) : RawS E c (getAttr (.ref y) name true) al nw K := fun g tk st => by
 obtain ⟨d, n, t0, tb, t1, td, m1, m2⟩ := hy
 have I := InstAt.of_news st.2.1 m1 m2
 rcases hn with e | e | e
 · cases e
   exact kbm_bound (s := c.at g tk) st.1 hC.top.X st.2.1 I (by k_is) (by k_is) (by k_is) (by k_is) (by k_is) (by k_is) (by decide +kernel) rfl fun q h' F N lt => ⟨h', tk + 1, _, rfl, st_cons st F N, h q lt⟩
 · cases e
   exact kbm_bound (s := c.at g tk) st.1 hC.top.X st.2.1 I (by k_is) (by k_is) (by k_is) (by k_is) (by k_is) (by k_is) (by decide +kernel) rfl fun q h' F N lt => ⟨h', tk + 1, _, rfl, st_cons st F N, h q lt⟩
 · cases e
   exact kbm_bound (s := c.at g tk) st.1 hC.top.X st.2.1 I (by k_is) (by k_is) (by k_is) (by k_is) (by k_is) (by k_is) (by decide +kernel) rfl fun q h' F N lt => ⟨h', tk + 1, _, rfl, st_cons st F N, h q lt⟩
theorem r_inT {D : Addr} {vs : List Value} {q : Nat} {x : Str} {t : Tok} {ys : List Str} (hm : (D, tup vs q) ∈ nw) (hi : StrsAre vs ys) (h : K (.bool (ys.any (· == x))) nw) : RawS E c (compareOp .In (.str x t) (.ref D)) al nw K := fun g tk st =>
 PyProof.Rows.in_tuple_strs (s := c.at g tk) (st.2.1.isTup hm) hi ⟨g, tk, nw, rfl, st, h⟩
end
end Mine
namespace Mine
open LCg
inductive RowsG (nw : Led) (o : Option Bool) (r k : Nat) (f : NNI) (v : Value) (n : Led) : Prop
 | pk (x : _) : v = .ref x → GridF (Fre nw) o n x r k f → RowsG nw o r k f v n
theorem strs3 {a b d : Str} {t1 t2 t3 : Tok} : StrsAre [.str a t1, .str b t2, .str d t3] [a, b, d] := .cons _ _ (.cons _ _ (.cons _ _ .nil))
theorem n_rkcopy {k : WC} {ow : Lab} {nks : List (Str × Value)} {S : List AR} {A : AR} {word : Str} {tw t1 t2 : Tok} {wt : Addr} {wk : Nat} {nw : Led} (hW : WSt k ow nw nks S) (hm : A ∈ S) (hwt : (wt, tup [.str (Str.ofString "copy") t1, .str A.word t2] wk) ∈ nw) : CtNW k.w 6 (.ref 553) [.ref k.wa, .str word tw, .ref wt, .none] nw (RowsG nw (some k.dec) A.r A.c A.f) := by
 refine code_vcG (fun P => by k_is) (fun P => by k_is) rfl (by kernel_rfl) (by kernel_rfl) ?_
 intro c hw hC
 have hA := hC.toCAny
 intro t3 ea eb hs
 refine r_idxT hs hwt (by decide) (by decide) rfl ?_
 refine r_reck hw hA (hW.wld.mono fro_sub) hC.kp fun y n1 l1 hy D1 hD1 => unpI (.head _) rfl (vst2 ?_)
 intro t4 t5 t6 D2 hD2
 refine r_inT (.head _) strs3 (iteFb (by kernel_rfl) (vnil fun t7 => iteTb (by kernel_rfl) fun t8 ea eb hs => ?_))
 have l2 := (l1.cons (o := tup [.str (Str.ofString "copy") t1, .ref y] 0) hD1).cons (o := tup [.str (Str.ofString "ZER") t4, .str (Str.ofString "CON") t5, .str (Str.ofString "IDN") t6] 0) hD2
 refine r_idxT hs (l2.sub _ hwt) (by decide) (by decide) rfl ?_
 exact (n_named ((hW.le l2).rd) hm).goW hw hA fun v n l3 ⟨x, e, h⟩ => ⟨l2.trans l3, x, e, h.okm fun a ha p hp => ha p (l2.sub p hp)⟩
theorem n_rktrn {k : WC} {ow : Lab} {nks : List (Str × Value)} {S : List AR} {A : AR} {word : Str} {tw t1 t2 : Tok} {wt : Addr} {wk : Nat} {nw : Led} (hW : WSt k ow nw nks S) (hm : A ∈ S) (hwt : (wt, tup [.str (Str.ofString "TRN") t1, .str A.word t2] wk) ∈ nw) : CtNW k.w 6 (.ref 553) [.ref k.wa, .str word tw, .ref wt, .none] nw (RowsG nw (some k.dec) A.c A.r fun i j => A.f j i) := by
 obtain ⟨i, hi⟩ := List.getElem?_of_mem hm
 obtain ⟨x, G⟩ := hW.arr i A hi
 have hr := G.rb
 have hc := G.kb
 refine code_vcG (fun P => by k_is) (fun P => by k_is) rfl (by kernel_rfl) (by kernel_rfl) ?_
 intro c hw hC
 have hA := hC.toCAny
 intro t3 ea eb hs
 refine r_idxT hs hwt (by decide) (by decide) rfl ?_
 refine r_reck hw hA (hW.wld.mono fro_sub) hC.kp fun y n1 l1 hy D1 hD1 => unpI (.head _) rfl (vst2 ?_)
 intro t4 t5 t6 D2 hD2
 refine r_inT (.head _) strs3 (iteFb (by kernel_rfl) (vnil fun t7 => iteFb (by kernel_rfl) (vnil fun t8 => iteTb (by kernel_rfl) fun t9 ea eb hs => ?_)))
 have l2 := (l1.cons (o := tup [.str (Str.ofString "TRN") t1, .ref y] 0) hD1).cons (o := tup [.str (Str.ofString "ZER") t4, .str (Str.ofString "CON") t5, .str (Str.ofString "IDN") t6] 0) hD2
 refine r_idxT hs (l2.sub _ hwt) (by decide) (by decide) rfl ?_
 refine namedK (n_named ((hW.le l2).rd) hm) hw hA fun x n l3 h => ?_
 have l23 := l2.trans l3
 exact (n_turned h ⟨hr.1, by exact nr ‹_›⟩ (by exact nr ‹_›)).go hA fun v n4 l4 ⟨g, e, h4⟩ => ⟨l23.trans l4, g, e, h4.okm fun a ha p hp => ha p (l23.sub p hp)⟩
theorem n_rkmul {k : WC} {ow : Lab} {nks : List (Str × Value)} {S : List AR} {A B : AR} {word : Str} {tw t1 t2 t3 t4 : Tok} {wt : Addr} {wk : Nat} {nw : Led} (hW : WSt k ow nw nks S) (hmA : A ∈ S) (hmB : B ∈ S) (hwt : (wt, tup [.str (Str.ofString "two") t1, .str (Str.ofString "*") t2, .str A.word t3, .str B.word t4] wk) ∈ nw)
 (e1 : A.c = B.r) (hA1 : A.r ≤ 9) (hA2 : A.c ≤ 9) (hB2 : B.c ≤ 9) (hb1 : ∀ i j, i < A.r → j < A.c → -9 ≤ A.f i j ∧ A.f i j ≤ 9) (hb2 : ∀ i j, i < A.c → j < B.c → -9 ≤ B.f i j ∧ B.f i j ≤ 9) :
 CtNW k.w 10 (.ref 553) [.ref k.wa, .str word tw, .ref wt, .none] nw (RowsG nw (some k.dec) A.r B.c fun i j => dotN (A.f i) (fun l => B.f l j) A.c) := by
 obtain ⟨i, hi⟩ := List.getElem?_of_mem hmA
 obtain ⟨x, G⟩ := hW.arr i A hi
 have hr := G.rb
 have hc := G.kb
 refine code_vcG (fun P => by k_is) (fun P => by k_is) rfl (by kernel_rfl) (by kernel_rfl) ?_
 intro c hw hC
 have hA := hC.toCAny
 intro t5 ea eb hs
 refine r_idxT hs hwt (by decide) (by decide) rfl ?_
 refine r_reck hw hA (hW.wld.mono fro_sub) hC.kp fun y n1 l1 hy D1 hD1 => unpI (.head _) rfl (vst2 ?_)
 intro t6 t7 t8 D2 hD2
 refine r_inT (.head _) strs3 (iteFb (by kernel_rfl) (vnil fun t9 => iteFb (by kernel_rfl) (vnil fun t10 => iteFb (by kernel_rfl) (vnil fun t11 => iteFb (by kernel_rfl) (vnil fun t12 => iteFb (by kernel_rfl) (vnil fun t13 ea eb hs => ?_))))))
 have l2 := (Le.one (o := tup [.str (Str.ofString "two") t1, .ref y] 0) hD1).cons (o := tup [.str (Str.ofString "ZER") t6, .str (Str.ofString "CON") t7, .str (Str.ofString "IDN") t8] 0) hD2
 have l02 := l1.trans l2
 refine r_idxT hs (l02.sub _ hwt) (by decide) (by decide) rfl ?_
 refine namedK (n_named ((hW.le l02).rd) hmA) hw hA fun x n3 l3 h3 => ?_
 intro t14 ea eb hs
 have l03 := l02.trans l3
 refine r_idxT hs (l03.sub _ hwt) (by decide) (by decide) rfl ?_
 refine (n_named ((hW.le l03).rd) hmB).goW hw hA fun v n4 l4 ⟨x2, e, h4⟩ D3 hD3 => unpI (.head _) rfl (vst2 ?_)
 subst e
 intro t15 ea eb hs
 have l5 := l4.cons (o := tup [.ref x, .ref x2] 0) hD3
 have l05 := l03.trans l5
 refine r_idxT hs (l05.sub _ hwt) (by decide) (by decide) rfl fun t16 => iteTb (by kernel_rfl) ?_
 have y5 := (hy.mono l2.sub).mono fun p hp => l5.sub p (l3.sub p hp)
 rw [← hw] at y5
 refine r_bound (o := none) hA y5 (.inl rfl) fun p1 hp1 => ?_
 refine r_bound (o := some true) hA (y5.mono fun p hp => .tail _ hp) (.inr (.inr rfl)) fun p2 hp2 => ?_
 have l6 := (l05.cons (o := methodObj (.ref 485) (.ref y)) hp1).cons (o := methodObj (.ref 499) (.ref y)) hp2
 have l7 : Le n4 _ := ((Le.one (o := tup [.ref x, .ref x2] 0) hD3).cons (o := methodObj (.ref 485) (.ref y)) hp1).cons (o := methodObj (.ref 499) (.ref y)) hp2
 rw [← e1] at h4
 refine (n_prod ((h3.mono l4.sub).mono l7.sub) (h4.mono l7.sub) ⟨hr.1, hA1⟩ ⟨hc.1, hA2⟩ hB2 (.tail _ (.head _)) (.head _) ((y5.mono fun p hp => .tail _ (.tail _ hp)).rk) hb1 hb2).go hA fun v n8 l8 ⟨g, e, h8⟩ => ⟨l6.trans l8, g, e, h8.okm fun a ha p hp => ha p (l6.sub p hp)⟩
end Mine
namespace Mine
open LCg
noncomputable def opW (o : Bool) : Str := if o then Str.ofString "-" else Str.ofString "+"
noncomputable def opF (o : Bool) : Option Bool := if o then some false else none
theorem n_rkcell {k : WC} {ow : Lab} {nks : List (Str × Value)} {S : List AR} {A B : AR} {word : Str} {o : Bool} {tw t1 t2 t3 t4 : Tok} {wt : Addr} {wk : Nat} {nw : Led} (hW : WSt k ow nw nks S) (hmA : A ∈ S) (hmB : B ∈ S) (hwt : (wt, tup [.str (Str.ofString "two") t1, .str (opW o) t2, .str A.word t3, .str B.word t4] wk) ∈ nw)
 (e1 : A.r = B.r) (e2 : A.c = B.c) (hA1 : A.r ≤ 9) (hA2 : A.c ≤ 9) (hb : ∀ i j, i < A.r → j < A.c → oOk (opF o) (A.f i j) (B.f i j)) :
 CtNW k.w 10 (.ref 553) [.ref k.wa, .str word tw, .ref wt, .none] nw (RowsG nw (some k.dec) A.r A.c fun i j => oI (opF o) (A.f i j) (B.f i j)) := by
 obtain ⟨i, hi⟩ := List.getElem?_of_mem hmA
 obtain ⟨x, G⟩ := hW.arr i A hi
 have hr := G.rb
 have hc := G.kb
 refine code_vcG (fun P => by k_is) (fun P => by k_is) rfl (by kernel_rfl) (by kernel_rfl) ?_
 intro c hw hC
 have hA := hC.toCAny
 intro t5 ea eb hs
 refine r_idxT hs hwt (by decide) (by decide) rfl ?_
 refine r_reck hw hA (hW.wld.mono fro_sub) hC.kp fun y n1 l1 hy D1 hD1 => unpI (.head _) rfl (vst2 ?_)
 intro t6 t7 t8 D2 hD2
 refine r_inT (.head _) strs3 (iteFb (by kernel_rfl) (vnil fun t9 => iteFb (by kernel_rfl) (vnil fun t10 => iteFb (by kernel_rfl) (vnil fun t11 => iteFb (by kernel_rfl) (vnil fun t12 => iteFb (by kernel_rfl) (vnil fun t13 ea eb hs => ?_))))))
 have l2 := (Le.one (o := tup [.str (Str.ofString "two") t1, .ref y] 0) hD1).cons (o := tup [.str (Str.ofString "ZER") t6, .str (Str.ofString "CON") t7, .str (Str.ofString "IDN") t8] 0) hD2
 have l02 := l1.trans l2
 refine r_idxT hs (l02.sub _ hwt) (by decide) (by decide) rfl ?_
 refine namedK (n_named ((hW.le l02).rd) hmA) hw hA fun x n3 l3 h3 => ?_
 intro t14 ea eb hs
 have l03 := l02.trans l3
 refine r_idxT hs (l03.sub _ hwt) (by decide) (by decide) rfl ?_
 refine (n_named ((hW.le l03).rd) hmB).goW hw hA fun v n4 l4 ⟨x2, e, h4⟩ D3 hD3 => unpI (.head _) rfl (vst2 ?_)
 subst e
 intro t15 ea eb hs
 have l5 := l4.cons (o := tup [.ref x, .ref x2] 0) hD3
 have l05 := l03.trans l5
 refine r_idxT hs (l05.sub _ hwt) (by decide) (by decide) rfl fun t16 => iteFb (by cases o <;> kernel_rfl) (vnil ?_)
 have y5 := (hy.mono l2.sub).mono fun p hp => l5.sub p (l3.sub p hp)
 rw [← hw] at y5
 rw [← e1, ← e2] at h4
 have fin : ∀ q, (∀ p ∈ (D3, tup [.ref x, .ref x2] 0) :: n4, p.1 < q) → RawS NoE c (call (.ref 366) [.ref x, .ref x2, .ref q]) (hC.al [.ref k.wa, .str word tw, .ref wt, .none, .str (Str.ofString "two") t1, .ref y] |> fun al => alSet (alSet al 8 (.ref x)) 9 (.ref x2)) ((q, methodObj (.ref (oF (opF o))) (.ref y)) :: (D3, tup [.ref x, .ref x2] 0) :: n4) (Pst nw (RowsG nw (some k.dec) A.r A.c fun i j => oI (opF o) (A.f i j) (B.f i j))) := fun q hq => by
  have l7 := (Le.one (o := tup [.ref x, .ref x2] 0) hD3).cons (o := methodObj (.ref (oF (opF o))) (.ref y)) hq
  exact (n_cell ((h3.mono l4.sub).mono l7.sub) (h4.mono l7.sub) ⟨hr.1, hA1⟩ ⟨hc.1, hA2⟩ (.head _) ((y5.mono fun p hp => .tail _ hp).rk) hb).go hA fun v n8 l8 ⟨g, e, h8⟩ => ⟨(l05.cons hq).trans l8, g, e, h8.okm fun a ha p hp => ha p ((l05.cons hq).sub p hp)⟩
 intro t20 ea eb hs
 refine r_idxT hs (l05.sub _ hwt) (by decide) (by decide) rfl fun t17 => ?_
 cases o with
 | false => exact iteTb (by kernel_rfl) (r_bound (o := none) hA y5 (.inl rfl) fin)
 | true => exact iteFb (by kernel_rfl) (r_bound (o := some false) hA y5 (.inr (.inl rfl)) fin)
theorem n_shaped {k : WC} {ow : Lab} {nks : List (Str × Value)} {S : List AR} {A : AR} {tw : Tok} {e : Addr} {q : Nat} {nw : Led} (hW : WSt k ow nw nks S) (hm : A ∈ S) (he : (e, listOf ([] : List Value).toArray q) ∈ nw) : CtNW k.w 6 (.ref 532) [.ref k.wa, .str A.word tw, .ref e, .none] nw fun v q_ => v = .ref A.g := by
 refine code_vcG (fun P => by k_is) (fun P => by k_is) rfl (by kernel_rfl) (by kernel_rfl) ?_
 intro c hw hC
 have hA := hC.toCAny
 intro D hD
 have l1 := Le.one (o := listOf ([] : List Value).toArray 0) hD
 refine r_eqD hA (by decide) (.list (l1.sub _ he) .nil) (.list (.head _) .nil) rfl rfl (q := true) ⟨fun q_ => rfl, fun q_ => rfl⟩ (iteT' fun t1 => ?_)
 refine (n_gridof (hW.le l1).rd hm).goW hw hA fun v n l2 hv => vst1 ?_
 subst hv
 intro D2 hD2
 refine r_neD hA (by decide) (.list (.tail _ (l2.sub _ (l1.sub _ he))) .nil) (.list (.head _) .nil) rfl rfl (q := true) ⟨fun q_ => rfl, fun q_ => rfl⟩ (iteF' (vnil ⟨(l1.trans l2).cons hD2, rfl⟩))
theorem n_filledC {k : WC} {ow : Lab} {nks : List (Str × Value)} {S : List AR} {A : AR} {tw t1 : Tok} {e : Addr} {q : Nat} {nw : Led} (hW : WSt k ow nw nks S) (hm : A ∈ S) (he : (e, listOf ([] : List Value).toArray q) ∈ nw) : CtNW k.w 7 (.ref 546) [.ref k.wa, .str A.word tw, .str (Str.ofString "CON") t1, .ref e, .none] nw (RowsG nw none A.r A.c fun q_ q_ => 1) := by
 obtain ⟨i, hi⟩ := List.getElem?_of_mem hm
 obtain ⟨x, G⟩ := hW.arr i A hi
 have hr := G.rb
 have hc := G.kb
 have hG := G.is hW.b1
 refine code_vcG (fun P => by k_is) (fun P => by k_is) rfl (by kernel_rfl) (by kernel_rfl) ?_
 intro c hw hC
 have hA := hC.toCAny
 refine (n_shaped hW hm he).goW hw hA fun v n l1 hv => ?_
 subst hv
 refine (n_rows (hG.mono l1.sub)).go hA fun v n2 l2 z2 => ?_
 obtain ⟨x, e, h2⟩ := z2
 subst e
 refine shapeK (n_shape h2 ⟨hr.1, by exact nr ‹_›⟩ (by exact nr ‹_›)) hA fun s t2 t3 j n3 l3 hm3 hs3 => ?_
 have l03 := (l1.trans l2).trans l3
 refine unpI hm3 rfl (vst2 fun t4 => iteFb (by kernel_rfl) (vnil fun t5 => iteTb (by kernel_rfl) fun t6 => ?_))
 exact (n_const (by exact nr ‹_›) (by exact nr ‹_›)).go hA fun v n4 l4 ⟨g, e, h4⟩ => ⟨l03.trans l4, g, e, h4.okm fun a ha p hp => ha p (l03.sub p hp)⟩
theorem n_rkcon {k : WC} {ow : Lab} {nks : List (Str × Value)} {S : List AR} {A : AR} {tw t1 : Tok} {wt e : Addr} {wk q : Nat} {nw : Led} (hW : WSt k ow nw nks S) (hm : A ∈ S) (hwt : (wt, tup [.str (Str.ofString "CON") t1, .ref e] wk) ∈ nw) (he : (e, listOf ([] : List Value).toArray q) ∈ nw) : CtNW k.w 8 (.ref 553) [.ref k.wa, .str A.word tw, .ref wt, .none] nw (RowsG nw none A.r A.c fun q_ q_ => 1) := by
 refine code_vcG (fun P => by k_is) (fun P => by k_is) rfl (by kernel_rfl) (by kernel_rfl) ?_
 intro c hw hC
 have hA := hC.toCAny
 intro t3 ea eb hs
 refine r_idxT hs hwt (by decide) (by decide) rfl ?_
 refine r_reck hw hA (hW.wld.mono fro_sub) hC.kp fun y n1 l1 hy D1 hD1 => unpI (.head _) rfl (vst2 ?_)
 intro t4 t5 t6 D2 hD2
 have l2 := (l1.cons (o := tup [.str (Str.ofString "CON") t1, .ref y] 0) hD1).cons (o := tup [.str (Str.ofString "ZER") t4, .str (Str.ofString "CON") t5, .str (Str.ofString "IDN") t6] 0) hD2
 refine r_inT (.head _) strs3 (iteTb (by kernel_rfl) fun t7 ea eb hs => ?_)
 refine r_idxT hs (l2.sub _ hwt) (by decide) (by decide) rfl ?_
 exact (n_filledC (hW.le l2) hm (l2.sub _ he)).goW hw hA fun v n l3 ⟨x, e, h⟩ => ⟨l2.trans l3, x, e, h.okm fun a ha p hp => ha p (l2.sub p hp)⟩
end Mine
namespace Mine
open LCg
theorem CtG.lv {W : World → Prop} {l l' : Nat} {f : Value} {vs : List Value} {nw : Led} {K : VLP} (h : CtG W l f vs nw K) (hl : l ≤ l') : CtG W l' f vs nw K := ⟨fun c al E hw hC hk => h.o' c al E hw (hC.le hl) hk⟩
theorem Mat.any {ow : Lab} {o : Option Bool} {n : Led} {g : Addr} {r c : Nat} {f : NNI} (h : Mat ow o n g r c f) : Mat ow none n g r c f := by
 obtain ⟨z, vs, q, hm, hz, hv⟩ := h
 refine ⟨z, vs, q, hm, hz, fun i v e => ?_⟩
 obtain ⟨a, e1, z2, us, q2, hm2, hz2, R⟩ := hv i v e
 exact ⟨a, e1, z2, us, q2, hm2, hz2, fun j v e => (R j v e).any⟩
inductive RkZ (k : WC) (ow : Lab) (nw : Led) (nk : Value → List (Str × Value)) (Qz : VLP) (S : List AR) (r kc : Nat) (f : NNI) (v : Value) (n : Led) : Prop
 | pk (x ow1 z : _) : v = .ref x → WSt k ow1 n (nk z) S → Ext ow nw ow1 n → Mat ow1 none n x r kc f → Qz z (fro ow1 n) → RkZ k ow nw nk Qz S r kc f v n
noncomputable abbrev RkQ (k : WC) (ow : Lab) (nw : Led) (nks : List (Str × Value)) := RkZ k ow nw (fun q_ => nks) fun q_ q_ => True
theorem RkQ.of {k : WC} {ow : Lab} {nw : Led} {nks : List (Str × Value)} {S : List AR} {o : Option Bool} {r kc l l' : Nat} {f : NNI} {g : Value} {vs : List Value} (hW : WSt k ow nw nks S) (h : CtNW k.w l g vs nw (RowsG nw o r kc f)) : CtW k.w l g vs nw (RkQ k ow nw nks S r kc f) :=
 h.wkK (fun v n ⟨hl, x, e, hG⟩ => ⟨x, ow, .none, e, hW.le hl, .of hl.sub, (Mat.of hW hl hG).any, trivial⟩) fun c q_ hp v n hn p hpp => hn.1.sub p (hp p hpp)
theorem n_domat {k : WC} {ow : Lab} {nk : Value → List (Str × Value)} {Qz : VLP} {S : List AR} {S' : Addr → List AR} {A : Addr → AR} {i : Nat} {word : Str} {tw t1 t2 : Tok} {wt T : Addr} {r kc q : Nat} {f : NNI} {nw : Led} (hT : (T, tup [.str (Str.ofString "MAT") t1, .str (Str.ofString "SET") t2, .str word tw, .ref wt] q) ∈ nw)
 (HR : CtW k.w 10 (.ref 553) [.ref k.wa, .str word tw, .ref wt, .none] nw (RkZ k ow nw nk Qz S r kc f))
 (hQ : ∀ z a b, (∀ p ∈ a, p ∈ b) → Qz z a → Qz z b) (HP : ∀ z ow1 n1 t, WSt k ow1 n1 (nk z) S → CtW k.w 6 (.ref 304) [.ref k.wa, .str word tw, .int 2 t] n1 fun v n => E1_2 (fun g => v = .ref (A g).g) (fun g => Chg k ow1 n1 (nk z) (S' g) n)) (hS : ∀ g, (S' g)[i]? = some (A g) ∧ (r + 1 - k.b) * (kc + 1 - k.b) ≤ (A g).room)
 (hr : 1 ≤ r ∧ r ≤ 10) (hc : 1 ≤ kc ∧ kc ≤ 10) (hf : ∀ p q, p < r → q < kc → -999 ≤ f p q ∧ f p q ≤ 999) :
 CtW k.w 11 (.ref 565) [.ref k.wa, .ref T, .none] nw fun v n => v = .none ∧ E3_3 (fun g z ow' => WSt k ow' n (nk z) ((S' g).set i { A g with r := r, c := kc, f := f })) (fun g z ow' => Ext ow nw ow' n) (fun g z ow' => Qz z (fro ow' n)) := by
 refine code_vcG (fun P => by k_is) (fun P => by k_is) rfl (by kernel_rfl) (by kernel_rfl) ?_
 intro c hw hC
 have hA := hC.toCAny
 intro t3 ea eb hs
 refine r_idxT hs hT (by decide) (by decide) rfl fun t4 => iteTb (by kernel_rfl) fun t5 ea eb hs => ?_
 refine r_idxT hs hT (by decide) (by decide) rfl fun t6 ea eb hs => ?_
 refine r_idxT hs hT (by decide) (by decide) rfl fun t7 ea eb hs => ?_
 refine r_idxT hs hT (by decide) (by decide) rfl (HR.goF hw hC fun v n z1 => ?_)
 obtain ⟨x, ow1, z, e, W1, X1, M1, q1⟩ := z1
 subst e
 exact (n_putres (fun t => HP z ow1 n t W1) hS M1 hr hc hf).goF hw hC fun v n2 ⟨q_, g, ow2, W2, X2⟩ => vnil ⟨rfl, g, z, ow2, W2, X1.trans X2, hQ z _ _ X2.sub q1⟩
theorem n_lawset {k : WC} {ow : Lab} {nk : Value → List (Str × Value)} {Qz : VLP} {S : List AR} {S' : Addr → List AR} {A : Addr → AR} {i : Nat} {word : Str} {tw : Tok} {wt : Addr} {r kc : Nat} {f : NNI} {nw : Led}
 (HR : ∀ n, Le nw n → CtW k.w 10 (.ref 553) [.ref k.wa, .str word tw, .ref wt, .none] n (RkZ k ow n nk Qz S r kc f))
 (hQ : ∀ z a b, (∀ p ∈ a, p ∈ b) → Qz z a → Qz z b) (HP : ∀ z ow1 n1 t, WSt k ow1 n1 (nk z) S → CtW k.w 6 (.ref 304) [.ref k.wa, .str word tw, .int 2 t] n1 fun v n => E1_2 (fun g => v = .ref (A g).g) (fun g => Chg k ow1 n1 (nk z) (S' g) n)) (hS : ∀ g, (S' g)[i]? = some (A g) ∧ (r + 1 - k.b) * (kc + 1 - k.b) ≤ (A g).room)
 (hr : 1 ≤ r ∧ r ≤ 10) (hc : 1 ≤ kc ∧ kc ≤ 10) (hf : ∀ p q, p < r → q < kc → -999 ≤ f p q ∧ f p q ≤ 999) :
 CtW k.w 12 (.ref 633) [.ref k.wa, .str word tw, .ref wt] nw fun v n => v = .none ∧ E3_3 (fun g z ow' => WSt k ow' n (nk z) ((S' g).set i { A g with r := r, c := kc, f := f })) (fun g z ow' => Ext ow nw ow' n) (fun g z ow' => Qz z (fro ow' n)) := by
 refine code_vcG (fun P => by k_is) (fun P => by k_is) rfl (by kernel_rfl) (by kernel_rfl) ?_
 intro c hw hC
 have hA := hC.toCAny
 intro t1 t2 D hD
 have l1 := Le.one (o := tup [.str (Str.ofString "MAT") t1, .str (Str.ofString "SET") t2, .str word tw, .ref wt] 0) hD
 exact (n_domat (.head _) (HR _ l1) hQ HP hS hr hc hf).goF hw hC fun v n ⟨q_, g, z, ow2, W2, X2, q2⟩ => vnil ⟨rfl, g, z, ow2, W2, (Ext.of l1.sub).trans X2, q2⟩
theorem gridof_at {k : WC} {ow : Lab} {nks : List (Str × Value)} {S : List AR} {A : AR} {word : Str} {tw t : Tok} {n : Led} (hm : A ∈ S) (e : A.word = word) (hW : WSt k ow n nks S) : CtW k.w 6 (.ref 304) [.ref k.wa, .str word tw, .int 2 t] n fun v n' => E1_2 (fun (g : Addr) => v = .ref A.g) (fun (g : Addr) => Chg k ow n nks S n') := by
 subst e
 refine CtG.lv (l := 1) ?_ (by decide)
 exact (n_gridof hW.rd hm).wkK (fun v n' ⟨hl, e⟩ => ⟨0, e, ow, hW.le hl, .of hl.sub⟩) fun c q_ hp v n hn p hpp => hn.1.sub p (hp p hpp)
end Mine
namespace Mine
open LCg
noncomputable def Ints (us : Array Value) : Prop := us.size ≤ 1000 ∧ ∀ (i : Nat) u, us[i]? = some u → E2_1 (fun x t => u = Value.int x t)
theorem IntsAre.at {vs : List Value} {ns : List Int} (h : IntsAre vs ns) : ∀ (i : Nat) u, vs[i]? = some u → E2_1 (fun x t => u = Value.int x t) := by
 induction h with
 | nil => exact fun i u e => by cases e
 | cons n t _ ih =>
  intro i u e
  cases i with
  | zero => cases e; exact ⟨_, _, rfl⟩
  | succ i => exact ih i u e
theorem IntsAre.of : ∀ {vs : List Value}, (∀ (i : Nat) u, vs[i]? = some u → E2_1 (fun x t => u = Value.int x t)) → ∃ ns, IntsAre vs ns
 | [], _ => ⟨[], .nil⟩
 | v :: r, h => by
  obtain ⟨x, t, e⟩ := h 0 v rfl
  obtain ⟨ns, hn⟩ := IntsAre.of (vs := r) fun i u e => h (i + 1) u e
  subst e
  exact ⟨_, .cons x t hn⟩
noncomputable def TapeO (nm : Addr) (s : Int) (ts : Tok) (m : Nat) (tt : Tok) : Obj := listOf [.ref nm, .int s ts, .int m tt].toArray 0
inductive TapeP (nw : Led) (v : Value) (n : Led) : Prop
 | pk (T nm us q s ts tt : _) : v = .ref T → (T, TapeO nm s ts 0 tt) ∈ n → (nm, listOf us q) ∈ n → Ints us → Fre nw T → Fre nw nm → nm ≠ T → TapeP nw v n
theorem r_sum {lev : Nat} {c : Cx} {E : VSP} {al : Al} {nw : Led} {K : VLP} {l : Addr} {vs : List Value} {ns : List Int} {q : Nat} (hC : CAny lev c) (hm : (l, listOf vs.toArray q) ∈ nw) (hi : IntsAre vs ns) (h : ∀ t, K (.int ns.sum t) nw) : RawS E c (call (.builtin "sum") [.ref l]) al nw K := fun g tk st =>
 LSm.sum_ints (s := c.at g tk) st.1 st.2.1 hC.hn (st.2.1.isList hm) hi fun h' tk' t' F N => ⟨h', tk', nw, rfl, ⟨F, N, st.2.2⟩, h t'⟩
inductive NextP (nw : Led) (T nm : Addr) (s : Int) (ts : Tok) (m : Nat) (many : Int) (v : Value) (n : Led) : Prop
 | pk (x t tt : _) : v = .int x t → (0 ≤ x ∧ x < many) → n = putO nw T (TapeO nm s ts (m + 1) tt) → NextP nw T nm s ts m many v n
theorem n_next {T nm : Addr} {us : Array Value} {q m : Nat} {s many : Int} {ts tt tm : Tok} {nw : Led} (hT : (T, TapeO nm s ts m tt) ∈ nw) (hn : (nm, listOf us q) ∈ nw) (ne : nm ≠ T) (hu : Ints us) (hm : m ≤ 100) (hk : 0 < many) : Ct 1 (.ref 599) [.ref T, .int many tm] nw (NextP nw T nm s ts m many) := by
 refine code_vc (fun P => by k_is) (fun P => by k_is) rfl (by kernel_rfl) (by kernel_rfl) ?_
 intro c hC
 have hA := hC.toCAny
 intro t1 ea eb hs
 refine r_idxL hs hT (by decide) (by decide) rfl ?_
 refine vst1 (asgI hC rfl fun t2 t3 t4 => setL' hT (by decide) (show (2 : Int) < ((3 : Nat) : Int) by decide) (by decide) hC.kp ?_)
 have mT : (T, TapeO nm s ts (m + 1) t3) ∈ putO nw T (TapeO nm s ts (m + 1) t3) := .head _
 have mn : (nm, listOf us q) ∈ putO nw T (TapeO nm s ts (m + 1) t3) := putO_ne hn ne
 have fin : ∀ (x : Int) t, NextP nw T nm s ts m many (.int (x % many) t) (putO nw T (TapeO nm s ts (m + 1) t3)) := fun x t => ⟨_, t, t3, rfl, ⟨Int.emod_nonneg _ (Int.ne_of_gt hk), Int.emod_lt_of_pos _ hk⟩, rfl⟩
 intro t5 ea eb hs
 refine r_idxL hs mT (by decide) (by decide) rfl (r_len mn hu.1 fun t6 => ⟨fun h => ?_, fun h => ?_⟩)
 · have h := of_decide_eq_true h
   intro t7 ea eb hs
   refine r_idxL hs mT (by decide) (by decide) rfl fun ea eb hs => ?_
   obtain ⟨x, t, e⟩ := hu.2 m us[m] (Array.getElem?_eq_getElem (by lia))
   exact r_idxL (v := .int x t) hs mn (by exact Int.natCast_nonneg _) (by lia) (by rw [Int.toNat_natCast, Array.getElem?_eq_getElem (by lia), e]) ⟨hk, fun t8 => fin x t8⟩
 · intro t7 ea eb hs
   refine r_idxL hs mT (by decide) (by decide) rfl fun t8 => ⟨by lia, fun t9 t10 t11 => ⟨by decide, by decide, fun t12 t13 => ⟨hk, fun t14 => fin _ t14⟩⟩⟩
end Mine
namespace Mine
open LCg
theorem listNt {its : Array Value} {k : Nat} {vs : List Value} {q : Nat} : listOf its k ≠ tup vs q := fun e => by
 have h := congrArg Obj.cls e
 injection h with h
 exact absurd h (by decide)
theorem putO_head {led : Led} {T : Addr} {o o' : Obj} (h : ∀ p ∈ led, p.1 ≠ T) : putO ((T, o) :: led) T o' = (T, o') :: led := by
 unfold putO oth
 rw [List.filter_cons_of_neg (by show ¬ (T != T) = true; rw [bne_self_eq_false]; exact Bool.false_ne_true), List.filter_eq_self.mpr fun p hp => bne_iff_ne.mpr (h p hp)]
theorem lc1M {lev : Nat} {c : Cx} {scope : Scope} {own : Addr → SAs} {fz : List (Str × Addr × Value)} {elt iter : PySem.Expr} {E : VSP} {al : Al} {nw : Led} {x : Str} {px pos : Pos} {b : Bool} {K : VLP} (hC : CAny lev c) (S : CompS scope own [(x, b)] iter c fz)
 (h : vcE E glT c.ns 60 false iter c.fr c al nw fun v n1 => E1_3 (fun n2 => (∀ p ∈ n2, p ∈ n1)) (fun n2 => (∀ p ∈ c.keep, p ∈ n2)) (fun n2 => Src1 lev scope own [(x, b)] elt c al fz K v n2)) :
 RawS E c (eval (.ListComp elt [⟨.Name x px, iter, [], 0⟩] scope pos) c.env) al nw K := by
 intro h1 tk1 st1
 exact lc_eval (s := c.at h1 tk1) st1.1 S.clos S.kind S.names S.ow (fun C => asg_1 S) (RawS.seq ((vcE_snd hC.okx 60).1 iter al nw _ h) (fun v n1 h tk ⟨n2, sb, kp, k⟩ st => src1 hC S k ⟨st.1, fun p hp => st.2.1 p (sb p hp), st.2.2.1, kp⟩ fun s n J mu news vals hs V => finE st.2.2.1 hs V) h1 tk1 st1) S.set
inductive Small (v : Value) : Prop
 | pk (x t : _) : v = Value.int x t → -4 ≤ x → x ≤ 6 → Small v
noncomputable def ivOf : Option Value → Int
 | some (.int x _) => x
 | _ => 0
theorem small_row {ys : List Value} {k : Nat} {n nw : Led} {D : Addr} {q : Nat} (h : Upto k ys fun q_ v => Small v) (hm : (D, listOf ys.toArray q) ∈ n) (hD : Fre nw D) : E1_2 (fun (g : Nat → Int) => RowF (Fre nw) (some false) n D k g) (fun (g : Nat → Int) => ∀ j, j < k → -4 ≤ g j ∧ g j ≤ 6) := by
 refine ⟨fun j => ivOf ys[j]?, ⟨hD, _, q, hm, by rw [List.size_toArray]; exact h.1, fun j v e => ?_⟩, fun j hj => ?_⟩
 · rw [List.getElem?_toArray] at e
   obtain ⟨x, t, rfl, q_, q_⟩ := h.2 j v e
   show NumO _ _ _ (ivOf ys[j]?)
   refine e ▸ ?_
   exact ⟨false, fun d e => by cases e; rfl, .i _ _⟩
 · have hj2 : j < ys.length := by rw [h.1]; exact hj
   obtain ⟨x, t, e, b, b'⟩ := h.2 j ys[j] (List.getElem?_eq_getElem hj2)
   show -4 ≤ ivOf ys[j]? ∧ ivOf ys[j]? ≤ 6
   rw [List.getElem?_eq_getElem hj2, e]
   exact ⟨b, b'⟩
noncomputable def DrawJ (T nm : Addr) (s : Int) (ts : Tok) (m w : Nat) (i : Nat) (j : Nat) (ys : List Value) (mu tl : Led) : Prop := (∃ tt, mu = [(T, TapeO nm s ts (m + i * w + j) tt)]) ∧ tl = [] ∧ Upto j ys fun q_ v => Small v
noncomputable def GridJ (nw : Led) (T nm : Addr) (s : Int) (ts : Tok) (m w : Nat) (i : Nat) (ys : List Value) (mu tl : Led) : Prop := (∃ tt, mu = [(T, TapeO nm s ts (m + i * w) tt)]) ∧ Upto i ys fun q_ v => E2_3 (fun a g => v = .ref a) (fun a g => RowF (Fre nw) (some false) tl a w g) (fun a g => ∀ j, j < w → -4 ≤ g j ∧ g j ≤ 6)
structure GridP (nw : Led) (T nm : Addr) (s : Int) (ts : Tok) (m r w : Nat) (v : Value) (n : Led) : Prop where
 g : E2_3 (fun x f => v = .ref x) (fun x f => GridF (Fre nw) (some false) n x r w f) (fun x f => ∀ i j, i < r → j < w → -4 ≤ f i j ∧ f i j ≤ 6)
 tape : ∃ tt, (T, TapeO nm s ts (m + r * w) tt) ∈ n
 kp : ∀ p ∈ nw, p.1 ≠ T → p ∈ n
 fr : ∀ p ∈ n, (p.1 = T ∧ ∀ vs q, p.2 ≠ tup vs q) ∨ p ∈ nw ∨ Fre nw p.1
theorem n_grid {T nm : Addr} {us : Array Value} {q m r w : Nat} {s : Int} {ts tt t1 t2 : Tok} {nw : Led} (hT : (T, TapeO nm s ts m tt) ∈ nw) (hn : (nm, listOf us q) ∈ nw) (ne : nm ≠ T) (hu : Ints us) (hm : m + r * w ≤ 90) (hr : r ≤ 3) (hw : w ≤ 3) : Ct 2 (.ref 616) [.ref T, .int r t1, .int w t2] nw (GridP nw T nm s ts m r w) := by
 refine code_vc2 (W := AnyW) (fun P => by k_is) (fun P => by k_is) rfl (by kernel_rfl) (by kernel_rfl) (hown := fun q_ => rfl) (v1 := some (.ref T)) (hv1 := rfl) (v2 := some (.int w t2)) (hv2 := rfl) ?_
 intro c o1 o2 q_ hC d1 d2 hL
 have hA := hC.toCAny
 have q1 : c.cl.lookup (Str.ofString "tape") = some (c.L + 1) := by rw [hC.clq]; rfl
 have q2 : c.cl.lookup (Str.ofString "wide") = some (c.L + 1 + 1) := by rw [hC.clq]; rfl
 have hTL : T < c.L := hL _ hT
 refine lc1M (b := false) (own := fun q_ => []) (fz := [(Str.ofString "wide", c.L + 1 + 1, .int w t2), (Str.ofString "tape", c.L + 1, .ref T)]) hA ⟨by obtain ⟨_, _, _, _, e⟩ := hC.en; rw [e]; with_unfolding_all rfl, rfl, by decide, fun q_ => rfl, fun q_ => ownOk_nil, fun q_ => by kernel_rfl, fun q_ => rfl⟩ ?_
 refine vcN hC.ns hC.fr ?_
 refine r_rng1 fun D t u v hD => ?_
 have c1 : (c.L + 1, o1) ∈ oth (cl2 c.L o1 o2 nw) T := mem_oth.mpr ⟨m21, Nat.ne_of_gt (Nat.lt_succ_of_lt hTL)⟩
 have c2 : (c.L + 1 + 1, o2) ∈ oth (cl2 c.L o1 o2 nw) T := mem_oth.mpr ⟨m22, Nat.ne_of_gt (Nat.lt_succ_of_lt (Nat.lt_succ_of_lt hTL))⟩
 have mn : (nm, listOf us q) ∈ oth (cl2 c.L o1 o2 nw) T := mem_oth.mpr ⟨(le2 hL).sub _ hn, ne⟩
 have hsub : ∀ p ∈ nw, p.1 ≠ T → p ∈ oth (cl2 c.L o1 o2 nw) T := fun p hp hne => mem_oth.mpr ⟨(le2 hL).sub _ hp, hne⟩
 have hoff : ∀ p ∈ oth (cl2 c.L o1 o2 nw) T, p.1 ≠ T := fun p hp => (mem_oth.mp hp).2
 have hall : ∀ p ∈ [(T, TapeO nm s ts m tt)] ++ ((D, rngO 0 r 1 t u v) :: oth (cl2 c.L o1 o2 nw) T), p ∈ (D, rngO 0 r 1 t u v) :: cl2 c.L o1 o2 nw := fun p hp => by
  revert p; refine fmc ?_ fun p hp => ?_
  · exact .tail _ ((le2 hL).sub _ hT)
  revert p; refine fmc ?_ fun p hp => ?_
  · exact .head _
  · exact .tail _ (mem_oth.mp hp).1
 have hDT : D ≠ T := Nat.ne_of_gt (hD _ ((le2 hL).sub _ hT))
 have hfr : ∀ p ∈ oth (cl2 c.L o1 o2 nw) T, p ∈ nw ∨ Fre nw p.1 := fun p hp => by
  rcases jX (mem_oth.mp hp).1 with rfl | hp
  · exact .inr fun q hq => Nat.lt_succ_of_lt (Nat.lt_succ_of_lt (hL q hq))
  · rcases jX hp with rfl | hp
    · exact .inr fun q hq => Nat.lt_succ_of_lt (hL q hq)
    · exact .inl hp
 generalize oth (cl2 c.L o1 o2 nw) T = nx at c1 c2 mn hsub hoff hall hfr
 refine ⟨_, hall, hC.noK _, D, [(T, TapeO nm s ts m tt)], _, _, rfl, rfl, .inr ⟨0, r, t, u, v, r, .head _, by exact Int.zero_add _, by exact z0 ‹_›, ⟨by exact nt ‹_›, ?_, hC.noK _, ⟨⟨o2, .tail _ c2, d2⟩, ⟨o1, .tail _ c1, d1⟩, trivial⟩, (?_ : GridJ nw T nm s ts m w 0 [] _ []), ?_, ?_⟩⟩⟩
 · intro p hp h
   rcases jX hp with rfl | hp
   · exact hDT (jO h)
   · exact hoff p hp (jO h)
 · exact ⟨⟨tt, by rw [Nat.zero_mul]; rfl⟩, Upto.zero⟩
 · rintro i vs ys mu tl led C keep hi ⟨t4, rfl⟩ ⟨⟨tt1, rfl⟩, hJ⟩ ab hmu sub off hk1 hcl hA'
   have s1 : ∀ p ∈ nx, p ∈ led := fun p hp => sub p (jR _ (.tail _ hp))
   refine lc1M (b := false) (own := fun q_ => []) (fz := [(Str.ofString "tape", c.L + 1, .ref T)]) hA' ⟨by obtain ⟨_, _, _, _, e⟩ := hC.en; show closureFor _ (compEnvC _ _ _ _) = _; rw [e]; with_unfolding_all rfl, rfl, by decide, fun q_ => rfl, fun q_ => ownOk_nil, fun q_ => by kernel_rfl, fun q_ => rfl⟩ ?_
   refine r_rng1 fun D2 t u v hD2 => ?_
   have hall2 : ∀ p ∈ [(T, TapeO nm s ts (m + i * w) tt1)] ++ ((D2, rngO 0 w 1 t u v) :: led), p ∈ (D2, rngO 0 w 1 t u v) :: ([(T, TapeO nm s ts (m + i * w) tt1)] ++ led) := fun p hp => by
    revert p; refine fmc ?_ fun p hp => ?_
    · exact .tail _ (.head _)
    revert p; refine fmc ?_ fun p hp => ?_
    · exact .head _
    · exact .tail _ (.tail _ hp)
   have kp2 : ∀ p ∈ keep, p ∈ [(T, TapeO nm s ts (m + i * w) tt1)] ++ ((D2, rngO 0 w 1 t u v) :: led) := fun p hp => .tail _ (.tail _ (hk1 p hp))
   have hTD2 : T < D2 := hD2 _ (.head _)
   refine ⟨_, hall2, kp2, D2, [(T, TapeO nm s ts (m + i * w) tt1)], _, _, rfl, rfl, .inr ⟨0, w, t, u, v, w, .head _, by exact Int.zero_add _, by exact z0 ‹_›, ⟨by exact nt ‹_›, ?_, fun p hp => .tail _ (hk1 p hp), ⟨⟨o1, .tail _ (s1 _ c1), d1⟩, trivial⟩, (?_ : DrawJ T nm s ts m w i 0 [] _ []), ?_, ?_⟩⟩⟩
   · intro p hp h
     rcases jX hp with rfl | hp
     · exact Nat.ne_of_gt hTD2 (jO h)
     · exact off p hp h
   · exact ⟨⟨tt1, rfl⟩, rfl, Upto.zero⟩
   · rintro j vs2 ys2 mu2 tl2 led2 C2 keep2 hj ⟨t5, rfl⟩ ⟨⟨tt2, rfl⟩, rfl, hJ2⟩ ab2 hmu2 sub2 off2 hk2 hcl2 hA2 t6
     have off3 : ∀ p ∈ led2, p.1 ≠ T := fun p hp e => off2 p hp (by rw [e]; exact .head _)
     have hij : m + i * w + j ≤ 100 := by have := Nat.mul_le_mul_right w (Nat.succ_le_of_lt hi); rw [Nat.succ_mul] at this; lia
     refine RawS.mono ((n_next (.head _) (.tail _ (sub2 _ (.tail _ (s1 _ mn)))) ne hu hij (by decide)).o _ _ _ trivial hA2.top fun q_ v n y1 p hp => by obtain ⟨_, _, _, _, _, e⟩ := y1; rw [e]; exact putO_ne (.tail _ (hk2 p hp)) (off3 p (hk2 p hp))) fun v n z1 => ?_
     obtain ⟨x, t7, tt3, e, hx, e2⟩ := z1
     subst e
     have e2 := e2.trans (putO_head off3)
     refine e2 ▸ ?_
     exact fun t8 t9 => ⟨[_], [], rfl, Abv.nil, rfl, ⟨tt3, rfl⟩, rfl, hJ2.snoc (fun q_ q_ h => h) ⟨_, _, rfl, by lia, by lia⟩⟩
   · rintro D3 ys2 mu2 tl2 ab2 hmo2 hD3 hm2 ⟨⟨tt2, rfl⟩, rfl, hJ2⟩
     have h3 : ∀ p ∈ led, p.1 < D3 := fun p hp => ab2 _ (.head _) p (.tail _ hp)
     have hTD3 : T < D3 := Nat.lt_trans hTD2 (ab2 _ (.head _) _ (.head _))
     have hf3 : Fre nw D3 := fun p hp => Nat.lt_trans (Nat.lt_succ_of_lt (hL p hp)) (h3 _ (s1 _ c1))
     obtain ⟨g, hg, hgb⟩ := small_row hJ2 (D := D3) (n := [(D3, lst ys2), (D2, rngO 0 w 1 t u v)] ++ tl) (.head _) hf3
     refine ⟨[_], [(D3, lst ys2), (D2, rngO 0 w 1 t u v)], rfl, ?_, rfl, ⟨tt2, by rw [Nat.succ_mul, ← Nat.add_assoc]⟩, hJ.snoc (fun j v ⟨a, g, e, h, b⟩ => ⟨a, g, e, h.mono fun p hp => jR _ hp, b⟩) ⟨D3, g, rfl, hg, hgb⟩⟩
     refine Abv.cons (fun p hp => ?_) (Abv.cons hD2 Abv.nil)
     revert p; refine fmc ?_ fun p hp => ?_
     · exact hTD3
     · exact h3 p hp
 · rintro D4 ys mu tl ab hmo hD4 hm ⟨⟨tt2, rfl⟩, hJ⟩
   have hc : ∀ i : Nat, ∃ (g : Nat → Int), ∀ v : Value, ys[i]? = some v → E1_3 (fun (a : Addr) => v = .ref a) (fun (a : Addr) => RowF (Fre nw) (some false) tl a w g) (fun (a : Addr) => ∀ j, j < w → -4 ≤ g j ∧ g j ≤ 6) := fun i => by
    cases e : ys[i]? with
    | none => exact ⟨fun q_ => 0, fun v h => nomatch h⟩
    | some v =>
     obtain ⟨a, g, e1, h, h2⟩ := hJ.2 i v e
     exact ⟨g, fun v' h' => by cases h'; exact ⟨a, e1, h, h2⟩⟩
   obtain ⟨f, hf⟩ := Classical.skolem.mp hc
   have hfD : Fre nw D4 := fun p hp => Nat.lt_trans (Nat.lt_succ_of_lt (hL p hp)) (ab _ (.head _) _ (.tail _ c1))
   refine ⟨⟨D4, f, rfl, ⟨hfD, ys.toArray, _, jR [_] (.head _), by rw [List.size_toArray]; exact hJ.1, fun i v e => ?_⟩, fun i j hi hj => ?_⟩, ⟨tt2, .head _⟩, fun p hp hne => .tail _ (.tail _ (jR tl (.tail _ (hsub p hp hne)))), fun p hp => ?_⟩
   · rw [List.getElem?_toArray] at e
     obtain ⟨a, e1, h, q_⟩ := hf i v e
     exact ⟨a, e1, h.mono fun p hp => jR [_] (.tail _ (jL _ hp))⟩
   · have hi2 : i < ys.length := by rw [hJ.1]; exact hi
     obtain ⟨a, q_, q_, b⟩ := hf i ys[i] (List.getElem?_eq_getElem hi2)
     exact b j hj
   · have above : ∀ z : Addr × Obj, c.L + 1 < z.1 → Fre nw z.1 := fun z hz q hq => Nat.lt_trans (Nat.lt_succ_of_lt (hL q hq)) hz
     revert p; refine fmc ?_ fun p hp => ?_
     · exact .inl ⟨rfl, fun q_ q_ => listNt⟩
     · revert p; refine fmc ?_ fun p hp => ?_
       · exact .inr (.inr hfD)
       · replace hp : p ∈ tl ++ ((D, rngO 0 r 1 t u v) :: nx) := hp
         revert p; refine fma (fun p hp => ?_) fun p hp => ?_
         · exact .inr (.inr (above p (ab p (.tail _ hp) _ (.tail _ c1))))
         · revert p; refine fmc ?_ fun p hp => ?_
           · exact .inr (.inr (above _ (hD _ (.tail _ (.head _)))))
           · exact .inr (hfr p hp)
end Mine
namespace Mine
open LCg
theorem IntsAre.mk' : ∀ {vs : List Value} {ns : List Int}, vs.length = ns.length → (∀ (i : Nat) v m, vs[i]? = some v → ns[i]? = some m → ∃ t, v = Value.int m t) → IntsAre vs ns
 | [], [], _, _ => .nil
 | v :: r, m :: s, hl, h => by
  obtain ⟨t, e⟩ := h 0 v m rfl rfl
  subst e
  exact .cons m t (IntsAre.mk' (Nat.succ.inj hl) fun i v m e1 e2 => h (i + 1) v m e1 e2)
 | [], _ :: _, h, _ => nomatch h
 | _ :: _, [], h, _ => nomatch h
theorem dotN_sum (f g : Nat → Int) : ∀ k, ((List.range k).map fun l => f l * g l).sum = dotN f g k
 | 0 => rfl
 | k + 1 => by rw [List.range_succ, List.map_append, List.sum_append, dotN_sum f g k]; show _ + (f k * g k + 0) = _; rw [Int.add_zero]; rfl
theorem upto_dot {f g : Nat → Int} {k : Nat} {ys : List Value} (h : Upto k ys fun l v => ∃ t, v = .int (f l * g l) t) : E1_2 (fun ns => IntsAre ys ns) (fun ns => ns.sum = dotN f g k) := by
 refine ⟨(List.range k).map fun l => f l * g l, IntsAre.mk' (by rw [List.length_map, List.length_range]; exact h.1) fun i v m e1 e2 => ?_, dotN_sum f g k⟩
 obtain ⟨t, e⟩ := h.2 i v e1
 rw [List.getElem?_map] at e2
 have hi : i < k := by rw [← h.1]; exact (List.getElem?_eq_some_iff.mp e1).1
 rw [List.getElem?_range hi] at e2
 cases e2
 exact ⟨t, e⟩
theorem NumO.int {n : Led} {v : Value} {x : Int} (h : NumO (some false) n v x) : ∃ t, v = .int x t := by
 have := h.num
 cases this
 exact ⟨_, rfl⟩
noncomputable def ProdJ (nw : Led) (k2 k : Nat) (f g : NNI) (i : Nat) (ys : List Value) (tl : Led) : Prop := Upto i ys fun i v => E1_2 (fun a => v = .ref a) (fun a => RowF (Fre nw) (some false) tl a k2 fun j => dotN (f i) (fun l => g l j) k)
theorem n_lprod {ok1 ok2 : Addr → Prop} {x y : Addr} {r k k2 : Nat} {f gf : NNI} {nw : Led} (hG : GridF ok1 (some false) nw x r k f) (hH : GridF ok2 (some false) nw y k k2 gf) (hr : r ≤ 9) (hk : 1 ≤ k ∧ k ≤ 9) (hk2 : k2 ≤ 9)
 (hb1 : ∀ i j, i < r → j < k → -9 ≤ f i j ∧ f i j ≤ 9) :
 CtN 1 (.ref 621) [.ref x, .ref y] nw (GrP nw (some false) r k2 fun i j => dotN (f i) (fun l => gf l j) k) := by
 obtain ⟨vs, q, m1, e1, h1⟩ := hG.at
 obtain ⟨ws, q', m2, e2, h2⟩ := hH.at
 obtain ⟨b0, e3, hR0⟩ := h2 0 (by exact And.left ‹_›)
 obtain ⟨us0, q0, m0, z0, q_⟩ := hR0.at
 refine code_vc1 (W := AnyW) (fun P => by k_is) (fun P => by k_is) rfl (by kernel_rfl) (by kernel_rfl) (hown := fun q_ => rfl) (v1 := some (.ref y)) (hv1 := rfl) ?_
 intro c o1 q_ hC d1 hL
 have hA := hC.toCAny
 have q1 : c.cl.lookup (Str.ofString "other") = some (c.L + 1) := by rw [hC.clq]; rfl
 have l0 := le1 (o1 := o1) hL
 refine lc1 (b := true) (own := fun C => [(Str.ofString "row", C + 1)]) (fz := [(Str.ofString "other", c.L + 1, .ref y)]) hA ⟨by obtain ⟨_, _, _, _, e⟩ := hC.en; rw [e]; with_unfolding_all rfl, rfl, by decide, fun q_ => rfl, fun q_ => ownOk_one, fun q_ => by kernel_rfl, fun q_ => rfl⟩ ?_
 refine vcN hC.ns hC.fr ?_
 refine ⟨x, [], _, _, rfl, rfl, .inl ⟨vs, q, l0.sub _ m1, comp0 (ProdJ nw k2 k f gf) (by exact ns ‹_› ‹_›) (hC.noK _) ⟨⟨o1, .head _, d1⟩, trivial⟩ Upto.zero ?_ ?_⟩⟩
 · rintro i vs' ys tl led C keep hi ⟨v, hv, rfl⟩ hJ ab sub hk1 hcl hA'
   obtain ⟨a, e4, hR⟩ := h1 i (by exact sz ‹_› ‹_›)
   obtain rfl := Option.some.inj (hv.symm.trans e4)
   obtain ⟨us, q3, m3, e5, h3⟩ := hR.at
   obtain ⟨oa, ma, da⟩ := hcl (Str.ofString "row") (C + 1) (.ref a) rfl rfl (by decide)
   have sl : ∀ p ∈ nw, p ∈ led := fun p hp => sub p (jR _ (l0.sub p hp))
   have mc : (c.L + 1, o1) ∈ led := sub _ (jR _ (.head _))
   refine lc1 (b := true) (own := fun C => [(Str.ofString "column", C + 1)]) (fz := [(Str.ofString "row", C + 1, .ref a), (Str.ofString "other", c.L + 1, .ref y)]) hA' ⟨by obtain ⟨_, _, _, _, e⟩ := hC.en; show closureFor _ (compEnvC _ _ _ _) = _; rw [e]; with_unfolding_all rfl, rfl, by decide, fun q_ => rfl, fun q_ => ownOk_one, fun q_ => by kernel_rfl, fun q_ => rfl⟩ ?_
   intro t0 ea eb hs
   refine r_idxL hs (sl _ m2) (by decide) (by decide) e3 (r_len (sl _ m0) (by exact ns ‹_› ‹_›) fun t1 => r_rng1 fun D2 t u w hD2 => ?_)
   rw [z0]
   have mo1 : (c.L + 1, o1) ∈ (D2, rngO 0 k2 1 t u w) :: led := .tail _ mc
   have l2 := Le.one (o := rngO 0 k2 1 t u w) hD2
   refine ⟨D2, [], _, _, rfl, rfl, .inr ⟨0, k2, t, u, w, k2, .head _, by exact Int.zero_add _, by lia, comp0 (fun j ys tl => Upto j ys fun j v => ∃ t, v = .int (dotN (f i) (fun l => gf l j) k) t) (by exact nt ‹_›) (fun p hp => .tail _ (hk1 p hp)) ⟨⟨oa, .tail _ ma, da⟩, ⟨o1, mo1, d1⟩, trivial⟩ Upto.zero ?_ ?_⟩⟩
   · rintro j vs2 ys2 tl2 led2 C2 keep2 hj ⟨t5, rfl⟩ hJ2 ab2 sub2 hk2' hcl2 hA2
     obtain ⟨oc, mcc, dc⟩ := hcl2 (Str.ofString "column") (C2 + 1) (.int (0 + j) t5) rfl rfl (by decide)
     have s2 : ∀ p ∈ led, p ∈ led2 := fun p hp => sub2 p (jR _ (.tail _ hp))
     refine lc1 (b := false) (own := fun q_ => []) (fz := [(Str.ofString "row", C + 1, .ref a), (Str.ofString "other", c.L + 1, .ref y), (Str.ofString "column", C2 + 1, .int (0 + j) t5)]) hA2 ⟨by obtain ⟨_, _, _, _, e⟩ := hC.en; show closureFor _ (compEnvC _ _ _ (compEnvC _ _ _ _)) = _; rw [e]; with_unfolding_all rfl, rfl, by decide, fun q_ => rfl, fun q_ => ownOk_nil, fun q_ => by kernel_rfl, fun q_ => rfl⟩ ?_
     refine r_len (s2 _ (sl _ m2)) (by exact nsr ‹_› ‹_›) fun t6 => r_rng1 fun D3 t u w hD3 => ?_
     rw [e2]
     refine ⟨D3, [], _, _, rfl, rfl, .inr ⟨0, k, t, u, w, k, .head _, by exact Int.zero_add _, by exact z0r ‹_›, comp0 (fun l ys tl => tl = [] ∧ Upto l ys fun l v => ∃ t, v = .int (f i l * gf l j) t) (by exact nr ‹_›) (fun p hp => .tail _ (hk2' p hp)) ⟨⟨oa, .tail _ (s2 _ ma), da⟩, ⟨o1, .tail _ (s2 _ mc), d1⟩, ⟨oc, .tail _ mcc, dc⟩, trivial⟩ ⟨rfl, Upto.zero⟩ ?_ ?_⟩⟩
     · rintro l vs3 ys3 tl3 led3 C3 keep3 hl ⟨t7, rfl⟩ ⟨rfl, hJ3⟩ ab3 sub3 hk3 hcl3 hA3 ea eb hs
       have s3 : ∀ p ∈ nw, p ∈ led3 := fun p hp => sub3 p (.tail _ (s2 p (sl p hp)))
       obtain ⟨z, e6, hN⟩ := h3 l hl
       obtain ⟨tz, rfl⟩ := hN.int
       obtain ⟨b, e7, hR2⟩ := h2 l hl
       obtain ⟨us2, q4, m4, e8, h4⟩ := hR2.at
       obtain ⟨z2, e9, hN2⟩ := h4 j hj
       obtain ⟨tz2, rfl⟩ := hN2.int
       have hb := hb1 i l (by exact sz ‹_› ‹_›) hl
       refine r_idxL hs (s3 _ m3) (by exact Int.natCast_nonneg _) (by exact z2r ‹_› ‹_›) (by rw [Int.zero_add]; exact e6) fun ea eb hs => ?_
       refine r_idxL hs (s3 _ m2) (by exact Int.natCast_nonneg _) (by exact z2r ‹_› ‹_›) (by rw [Int.zero_add]; exact e7) fun ea eb hs => ?_
       exact r_idxL (v := .int (gf l j) tz2) hs (s3 _ m4) (by exact Int.natCast_nonneg _) (by exact z2 ‹_› ‹_›) (by rw [Int.zero_add]; exact e9) ⟨na hb, fun t8 => ce0 [] rfl Abv.nil ⟨rfl, hJ3.snoc (fun q_ q_ h => h) ⟨t8, rfl⟩⟩⟩
     · rintro D4 ys3 tl3 ab3 ⟨rfl, hJ3⟩
       obtain ⟨ns, hns, hsum⟩ := upto_dot hJ3
       refine r_sum hA2 (.head _) hns fun t8 => ?_
       refine hsum ▸ ?_
       have hD4 : ∀ p ∈ led2, p.1 < D4 := fun p hp => ab3 _ (.head _) p (.tail _ hp)
       exact ce0 [_, _] rfl (Abv.cons hD4 (Abv.cons hD3 Abv.nil)) (hJ2.snoc (fun q_ q_ h => h) ⟨t8, rfl⟩)
   · intro D3 ys2 tl2 ab2 hJ2
     have hD3 : ∀ p ∈ led, p.1 < D3 := fun p hp => ab2 _ (.head _) p (.tail _ hp)
     refine ce0 ((D3, lst ys2) :: (tl2 ++ [(D2, rngO 0 k2 1 t u w)])) (by simp) (Abv.cons hD3 (fun q hq p hp => ?_)) (hJ.snoc (fun j v ⟨a, e, h⟩ => ⟨a, e, h.mono fun p hp => jR _ hp⟩) ⟨D3, rfl, ?_⟩)
     · revert q; refine fma (fun q hq => ?_) fun q hq => ?_
       · exact ab2 q (.tail _ hq) p (.tail _ hp)
       · rw [jO hq]; exact hD2 p hp
     · exact rowO (Upto.mono (P' := fun j v => NumO (some false) [] v (dotN (f i) (fun l => gf l j) k)) hJ2 fun j v y1 => by obtain ⟨t, e⟩ := y1; subst e; exact .of (.i _ _)) (.head _) (fun p hp => hD3 p (sl p hp)) fun p hp => nomatch hp
 · intro D4 ys tl ab hJ
   refine ⟨l0.trans ⟨(D4, lst ys) :: tl, rfl, ab⟩, D4, rfl, ?_⟩
   have hJ : ProdJ nw k2 k f gf r ys tl := by rw [e1] at hJ; exact hJ
   exact gridO hJ (.head _) (fun p hp => ab (D4, lst ys) (.head _) p (l0.sub p hp)) fun p hp => .tail _ (jL _ hp)
end Mine
namespace Mine
open LCg
theorem lastT {n : Nat} (h : 1 ≤ n) : ((-1 : Int) + n).toNat = n - 1 := by
 rw [Int.add_comm, show (n : Int) + -1 = ((n - 1 : Nat) : Int) from (Int.ofNat_sub h).symm]
 rfl
theorem r_idxLast {c : Cx} {E : VSP} {al : Al} {nw : Led} {K : VLP} {ea eb : PySem.Expr} {l : Addr} {its : Array Value} {q : Nat} {v : Value} {t : Tok} (hs : isSl eb = false) (hm : (l, listOf its q) ∈ nw) (h1 : 1 ≤ its.size) (e : its[its.size - 1]? = some v) (h : K v nw) : RawS E c (subscriptTail ea eb (.ref l) (.int (-1) t)) al nw K := fun g tk st => by
 have hl := News.isList st.2.1 hm
 refine tail_any (s := c.at g tk) hl.typeIs slot_list_getitem.lookup (wpAny_getItem_list_neg (x := v) hl (by decide) (by lia) (by decide) ?_ ⟨g, tk, nw, rfl, st, h⟩) (sub_plain hs)
 exact (lastT h1).symm ▸ e
set_option synthInstance.maxHeartbeats 400000 in
set_option synthInstance.maxSize 1000 in
theorem kept_go {n c e : Int} (h : IsN c e n) (hn : -999 ≤ n ∧ n ≤ 999) (h0 : n ≠ 0 ∨ e = 0) (hc : c ≠ 0) (hm : c % 10 = 0) : e ≤ 1 ∧ IsN (c / 10) (e + 1) n ∧ (n ≠ 0 ∨ e + 1 = 0) := by
 obtain ⟨k, rfl, q_, q⟩ := isN_all (P := fun k c n => c ≠ 0 → c % 10 = 0 → k ≤ 1 ∧ c / 10 * 10 ^ (k + 1) = n ∧ n ≠ 0) (by decide +kernel) h hn
 have q := q hc hm
 exact ⟨Int.ofNat_le.mpr q.1, ⟨k + 1, Nat.succ_le_succ q.1, rfl, q.2.1⟩, .inl q.2.2⟩
set_option synthInstance.maxHeartbeats 400000 in
set_option synthInstance.maxSize 1000 in
theorem kept_no {n c e : Int} (h : IsN c e n) (hn : -999 ≤ n ∧ n ≤ 999) (h0 : n ≠ 0 ∨ e = 0) (k : c = 0 ∨ c % 10 ≠ 0) : c = nc n ∧ e = ne n := by
 obtain ⟨j, rfl, q_, q⟩ := isN_all (P := fun k c n => (n ≠ 0 ∨ (k : Int) = 0) → (c = 0 ∨ c % 10 ≠ 0) → c = nc n ∧ (k : Int) = ne n) (by decide +kernel) h hn
 exact q h0 k
theorem kepm {e : Int} {m : Nat} (h : e = 3 - m) (k : e ≤ 1) : m - 1 < m ∧ e + 1 = 3 - ((m - 1 : Nat) : Int) := by lia
theorem iteAnd {p p2 : Prop} [Decidable p] [Decidable p2] {B X Y : Prop} (hb : ITE (decide p2) X Y → B) (hx : p → p2 → X) (hy : ¬ p ∨ ¬ p2 → Y) : ITE (decide p) B (ITE false X Y) :=
 iteC (fun h => hb (iteC (hx h) fun h2 => hy (.inr h2))) fun h => iteF' (hy (.inl h))
noncomputable def KeptR (k : Nat) (f : Nat → Int) (j : Nat) (its : Array Value) (tl : Led) : Prop := Upto j its.toList fun l v => NumO (some true) tl v (f l)
noncomputable def KeptG (nw : Led) (k : Nat) (f : NNI) (i : Nat) (its : Array Value) (tl : Led) : Prop := Upto i its.toList fun j v => E1_2 (fun a => v = .ref a) (fun a => RowF (Fre nw) (some true) tl a k (f j))
noncomputable def KepJ (A : List (Option Value) → Al) (nw : Led) (x D : Addr) (t : Tok) (k : Nat) (f : NNI) : LJ := fun i al mu tl => E5_3 (fun its qn o2 o4 o5 => mu = [(D, listOf its qn)]) (fun its qn o2 o4 o5 => al = A [some (.ref x), some (.str (Str.ofString "") t), o2, some (.ref D), o4, o5]) (fun its qn o2 o4 o5 => KeptG nw k f i its tl)
noncomputable def KepJ2 (A : List (Option Value) → Al) (x a D D2 : Addr) (t : Tok) (k : Nat) (f : Nat → Int) : LJ := fun j al mu tl => E4_4 (fun its2 q2 o4 o5 => mu = [(D2, listOf its2 q2)]) (fun its2 q2 o4 o5 => al = A [some (.ref x), some (.str (Str.ofString "") t), some (.ref a), some (.ref D), o4, o5]) (fun its2 q2 o4 o5 => KeptR k f j its2 tl) (fun its2 q2 o4 o5 => ∀ p ∈ tl, D2 < p.1)
inductive KepW (A : List Value → Al) (x a D : Addr) (t : Tok) (base : Led) (n : Int) (m : Nat) (al : Al) (nw' : Led) : Prop
 | pk (c e tc te : _) : al = A [.ref x, .str (Str.ofString "") t, .ref a, .ref D, .int c tc, .int e te] → Le base nw' → IsN c e n → (n ≠ 0 ∨ e = 0) → e = 3 - m → m ≤ 3 → KepW A x a D t base n m al nw'
theorem n_keptI {ok : Addr → Prop} {x : Addr} {r k : Nat} {f : NNI} {t : Tok} {nw : Led} (hG : GridF ok (some false) nw x r k f) (hr : r ≤ 9) (hk : k ≤ 9) : CtN 1 (.ref 611) [.ref x, .str (Str.ofString "%") t] nw (RowsG nw (some false) r k f) := by
 obtain ⟨vs, q, m1, e1, h1⟩ := hG.at
 refine code_vc (fun P => by k_is) (fun P => by k_is) rfl (by kernel_rfl) (by kernel_rfl) ?_
 intro c hC
 have hA := hC.toCAny
 intro t1
 refine iteTb (by kernel_rfl) ?_
 refine lc1 (b := false) (own := fun q_ => []) (fz := []) hA ⟨by obtain ⟨_, _, _, _, e⟩ := hC.en; rw [e]; with_unfolding_all rfl, rfl, by decide, fun q_ => rfl, fun q_ => ownOk_nil, fun q_ => by kernel_rfl, fun q_ => rfl⟩ ?_
 refine vcN hC.ns hC.fr ?_
 refine ⟨x, [], _, _, rfl, rfl, .inl ⟨vs, q, m1, comp0 (fun i ys tl => Upto i ys fun j v => E1_2 (fun a => v = .ref a) (fun a => RowF (Fre nw) (some false) tl a k (f j))) (by exact ns ‹_› ‹_›) (hC.noK _) trivial Upto.zero ?_ ?_⟩⟩
 · rintro i vs' ys tl led C keep hi ⟨v, hv, rfl⟩ hJ ab sub hk1 hcl hA'
   obtain ⟨a, e2, hR⟩ := h1 i (by exact sz ‹_› ‹_›)
   obtain rfl := Option.some.inj (hv.symm.trans e2)
   obtain ⟨us, q2, m2, e3, h2⟩ := hR.at
   have sl : ∀ p ∈ nw, p ∈ led := fun p hp => sub p (jR _ hp)
   refine r_listOf (sl _ m2) (by exact ns ‹_› ‹_›) fun D kd hD => ce0 [_] rfl (Abv.cons hD Abv.nil) (hJ.snoc (fun j v ⟨a, e, h⟩ => ⟨a, e, h.mono fun p hp => .tail _ hp⟩) ⟨D, rfl, fun p hp => hD p (sl p hp), _, kd, .head _, ?_, fun j v e => ?_⟩)
   · rw [List.size_toArray, Array.length_toList]; exact e3
   · rw [List.getElem?_toArray, Array.getElem?_toList] at e
     obtain ⟨z, e4, hN⟩ := h2 j (by have := (Array.getElem?_eq_some_iff.mp e).1; lia)
     obtain rfl := Option.some.inj (e.symm.trans e4)
     obtain ⟨tz, rfl⟩ := hN.int
     exact .of (.i _ _)
 · intro D4 ys tl ab hJ
   refine ⟨⟨(D4, lst ys) :: tl, rfl, ab⟩, D4, rfl, ?_⟩
   rw [e1] at hJ
   exact gridO hJ (.head _) (fun p hp => ab (D4, lst ys) (.head _) p hp) fun p hp => .tail _ (jL _ hp)
theorem n_keptD {ok : Addr → Prop} {x : Addr} {r k : Nat} {f : NNI} {t : Tok} {nw : Led} (hG : GridF ok (some false) nw x r k f) (hr : r ≤ 9) (hk : k ≤ 9) (hf : ∀ i j, i < r → j < k → -999 ≤ f i j ∧ f i j ≤ 999) : CtN 1 (.ref 611) [.ref x, .str (Str.ofString "") t] nw (RowsG nw (some true) r k f) := by
 obtain ⟨vs, q, m1, e1, h1⟩ := hG.at
 refine code_vc (fun P => by k_is) (fun P => by k_is) rfl (by kernel_rfl) (by kernel_rfl) ?_
 intro c hC
 have hA := hC.toCAny
 intro t1
 refine iteFb (by kernel_rfl) (vnil ?_)
 intro D hD
 refine for_list hC PassesOwn.never rfl (fun q_ => rfl) ⟨x, vs, q, [(D, listOf [].toArray 0)], nw, KepJ hC.alo nw x D t k f, rfl, rfl, m1, ⟨?_, ⟨_, _, _, _, _, rfl, rfl, Upto.zero⟩, ?_, ?_⟩⟩
 · intro p hp h
   exact Nat.ne_of_lt (hD p hp) (jO h)
 · rintro i vs' al mu tl led hi ⟨z, hz, rfl⟩ ⟨its, qn, o2, o4, o5, rfl, rfl, hJ⟩ ab hmu sub off
   obtain ⟨a, e2, hR⟩ := h1 i (by exact sz ‹_› ‹_›)
   obtain rfl : z = .ref a := Option.some.inj (hz.symm.trans e2)
   obtain ⟨us, q2, m2, e3, h2⟩ := hR.at
   have hiz : its.size = i := by rw [← Array.length_toList]; exact hJ.1
   have offD : ∀ p ∈ led, p.1 ≠ D := fun p hp e => off p hp (by rw [e]; exact .head _)
   have sl : ∀ p ∈ nw, p ∈ led := fun p hp => sub p (jR _ hp)
   refine vst1 ?_
   refine r_append hA rfl rfl ?_
   rw [hC.ns, hC.fr]
   refine ⟨D, its, qn, rfl, .head _, by lia, fun D2 hD2 => ⟨.tail _ (.head _), [(D2, listOf [].toArray 0)] ++ ((D, listOf (its.push (.ref D2)) (qn + 1)) :: led), ?_, hC.noK _, ?_⟩⟩
   · have hne : D2 ≠ D := Nat.ne_of_gt (hD2 _ (.head _))
     intro p hp
     revert p; refine fmc ?_ fun p hp => ?_
     · exact mem_setAt (.head _) hne
     · revert p; refine fmc ?_ fun p hp => ?_
       · exact self_setAt (.tail _ (.head _))
       · exact mem_setAt (.tail _ (.tail _ hp)) (offD p hp)
   have hDD : D < D2 := hD2 _ (.head _)
   have hl2 : ∀ p ∈ led, p.1 < D2 := fun p hp => hD2 p (.tail _ hp)
   refine for_list hC PassesOwn.never rfl (fun q_ => rfl) ⟨a, us, q2, [(D2, listOf [].toArray 0)], (D, listOf (its.push (.ref D2)) (qn + 1)) :: led, KepJ2 hC.alo x a D D2 t k (f i), rfl, rfl, .tail _ (sl _ m2), ⟨?_, ⟨_, _, _, _, rfl, rfl, Upto.zero, fun q_ h => nomatch h⟩, ?_, ?_⟩⟩
   · intro p hp h
     rcases jX hp with rfl | hp
     · exact Nat.ne_of_lt hDD (jO h)
     · exact Nat.ne_of_lt (hl2 p hp) (jO h)
   · rintro j vs2 al mu2 tl2 led2 hj ⟨z2, hz2, rfl⟩ ⟨its2, qn2, o4, o5, rfl, rfl, hJ2, ab4⟩ ab2 hmu2 sub2 off2
     obtain ⟨z3, e4, hN⟩ := h2 j (by exact sz ‹_› ‹_›)
     obtain rfl := Option.some.inj (hz2.symm.trans e4)
     obtain ⟨tz, rfl⟩ := hN.int
     have hiz2 : its2.size = j := by rw [← Array.length_toList]; exact hJ2.1
     have offD2 : ∀ p ∈ led2, p.1 ≠ D2 := fun p hp e => off2 p hp (by rw [e]; exact .head _)
     have hfn := hf i j (by exact sz ‹_› ‹_›) (by exact sz ‹_› ‹_›)
     have mD : (D, listOf (its.push (.ref D2)) (qn + 1)) ∈ led2 := sub2 _ (jR _ (.head _))
     generalize hn : f i j = n at hfn hN
     refine vst1 fun t2 => vst1 ?_
     refine vwhl hC PassesOwn.never (KepW hC.al x a D t ([(D2, listOf its2 qn2)] ++ led2) n) 3 ⟨n, 0, tz, t2, rfl, .refl, ⟨0, by decide, rfl, Int.mul_one _⟩, .inr rfl, rfl, Nat.le_refl _⟩ ?_
     rintro m al nw' ⟨cc, e, tc, te, rfl, hl, hI, h0, hme, hm3⟩
     intro t3
     refine iteAnd (p2 := cc % 10 = 0) (fun h t4 => ⟨by decide, fun t5 t6 => h⟩) (fun hc hm => ?_) fun hz => ?_
     · obtain ⟨k1, k2, k3⟩ := kept_go hI hfn h0 hc hm
       intro t7
       exact ⟨by decide, by decide, fun t8 t9 t10 D3 hD3 => unpI (.head _) rfl ⟨m - 1, (kepm hme k1).1, cc / 10, e + 1, t8, t10, rfl, hl.cons hD3, k2, k3, (kepm hme k1).2, Nat.le_trans (Nat.sub_le ..) hm3⟩⟩
     · obtain ⟨rfl, rfl⟩ := kept_no hI hfn h0 (hz.imp Decidable.of_not_not id)
       obtain ⟨tl3, rfl, ab3⟩ := hl
       refine r_append hA rfl rfl ?_
       rw [hC.ns, hC.fr]
       intro t7 t8 ea eb hs
       refine r_idxLast (v := .ref D2) hs (jR _ (.tail _ mD)) (by rw [Array.size_push]; lia) (by rw [Array.size_push, Nat.add_sub_cancel, Array.getElem?_push_size]) ?_
       refine ⟨D2, its2, qn2, rfl, jR _ (.head _), by lia, fun D3 hD3 => ⟨.tail _ (jR _ (.head _)), [(D2, listOf (its2.push (.ref D3)) (qn2 + 1))] ++ ([(D3, tup [.int (nc n) tc, .int (ne n) te] 0)] ++ led2), ?_, hC.noK _, ?_⟩⟩
       · have hne : D3 ≠ D2 := Nat.ne_of_gt (hD3 _ (jR _ (.head _)))
         intro p hp
         revert p; refine fmc ?_ fun p hp => ?_
         · exact self_setAt (.tail _ (jR _ (.head _)))
         · revert p; refine fmc ?_ fun p hp => ?_
           · exact mem_setAt (.head _) hne
           · exact mem_setAt (.tail _ (jR _ (.tail _ hp))) (offD2 p hp)
       have h3 : ∀ p ∈ [(D2, listOf its2 qn2)] ++ led2, p.1 < D3 := fun p hp => hD3 p (jR _ hp)
       refine vnil ⟨[(D2, listOf (its2.push (.ref D3)) (qn2 + 1))], [(D3, tup [.int (nc n) tc, .int (ne n) te] 0)], fun p hp => hp, Abv.cons h3 Abv.nil, rfl, its2.push (.ref D3), qn2 + 1, _, _, rfl, rfl, ?_, fun p hp => ?_⟩
       · unfold KeptR
         rw [Array.toList_push]
         exact hJ2.snoc (fun q_ q_ h => h.mono fun p hp => .tail _ hp) (hn ▸ .of (.d (.head _)))
       · revert p; refine fmc ?_ fun p hp => ?_
         · exact h3 _ (.head _)
         · exact ab4 p hp
   · rintro al' mu2 tl2 ab2 hmu2 ⟨its2, qn2, o4, o5, rfl, rfl, hJ2, ab4⟩
     rw [e3] at hJ2
     refine vnil ⟨[(D, listOf (its.push (.ref D2)) (qn + 1))], (D2, listOf its2 qn2) :: tl2, ?_, ?_, rfl, its.push (.ref D2), qn + 1, _, _, _, rfl, rfl, ?_⟩
     · intro p hp
       revert p; refine fmc ?_ fun p hp => ?_
       · exact jR [_] (jR _ (.head _))
       · revert p; refine fmc ?_ fun p hp => ?_
         · exact .head _
         · revert p; refine fma (fun p hp => ?_) fun p hp => ?_
           · exact jR [_] (jL _ hp)
           · exact jR [_] (jR _ (.tail _ hp))
     · refine Abv.cons hD2 fun p hp q hq => ?_
       revert q; refine fmc ?_ fun q hq => ?_
       · exact ab2 p hp (D, listOf (its.push (.ref D2)) (qn + 1)) (.head _)
       · exact ab2 p hp q (.tail _ hq)
     · unfold KeptG
       rw [Array.toList_push]
       refine hJ.snoc (fun j v ⟨a, e, h⟩ => ⟨a, e, h.mono fun p hp => jR _ hp⟩) ⟨D2, rfl, fun p hp => hl2 p (sl p hp), its2, qn2, .head _, ?_, fun l v e => ?_⟩
       · rw [← Array.length_toList]; exact hJ2.1
       · exact (hJ2.2 l v (by rw [Array.getElem?_toList]; exact e)).mono fun p hp => .tail _ (jL _ hp)
 · rintro al' mu' tl ab hmu ⟨its, qn, o2, o4, o5, rfl, rfl, hJ⟩
   rw [e1] at hJ
   refine ⟨⟨(D, listOf its qn) :: tl, rfl, Abv.cons hD ab⟩, D, rfl, hD, its, qn, .head _, ?_, fun i v e => ?_⟩
   · rw [← Array.length_toList]; exact hJ.1
   · obtain ⟨a, e4, h⟩ := hJ.2 i v (by rw [Array.getElem?_toList]; exact e)
     exact ⟨a, e4, h.mono fun p hp => jR [_] (jL _ hp)⟩
end Mine
namespace Mine
open LCg
-- steps in few words
section
variable {lev : Nat} {c : Cx} {E : VSP} {al : Al} {nw n1 : Led} {K : VLP} {x : Int} {t : Tok}
theorem subL {l : Addr} {its : Array Value} {q : Nat} {v : Value} (hm : (l, listOf its q) ∈ nw) (h0 : 0 ≤ x) (h1 : x < 1000) (e : its[x.toNat]? = some v) (h : K v nw) : ∀ ea eb, isSl eb = false → RawS E c (subscriptTail ea eb (.ref l) (.int x t)) al nw K := fun q_ q_ hs => r_idxL hs hm h0 h1 e h
theorem subT {l : Addr} {vs : List Value} {q : Nat} {v : Value} (hm : (l, tup vs q) ∈ nw) (h0 : 0 ≤ x) (h1 : x < 1000) (e : vs[x.toNat]? = some v) (h : K v nw) : ∀ ea eb, isSl eb = false → RawS E c (subscriptTail ea eb (.ref l) (.int x t)) al nw K := fun q_ q_ hs => r_idxT hs hm h0 h1 e h
theorem subD {s : Str} {d : Addr} {o : Obj} {kvs : List (Str × Value)} {v : Value} (hm : (d, o) ∈ nw) (hd : o.IsDictOf (strKind PG c.w) kvs) (hv : valueAt kvs s = some v) (h : K v nw) : ∀ ea eb, isSl eb = false → RawS E c (subscriptTail ea eb (.ref d) (.str s t)) al nw K := fun q_ q_ hs => r_dit hs hm hd hv h
variable {scope : Scope} {own : Addr → SAs} {fz : List (Str × Addr × Value)} {tg : List (Str × Bool)} {elt : PySem.Expr} {mu news : Led} {J : CJ} {ax : Addr}
theorem src1L {its : Array Value} {k : Nat} (hm : (ax, listOf its k) ∈ news) (V : CompV lev scope own tg elt c al fz its.size (fun i vs => E1_2 (fun v => its[i]? = some v) (fun v => vs = [v])) mu news K J) : Src1 lev scope own tg elt c al fz K (.ref ax) (mu ++ news) := ⟨ax, mu, news, J, rfl, rfl, .inl ⟨its, k, hm, V⟩⟩
theorem src1R {n : Nat} {u w : Tok} (hm : (ax, rngO 0 n 1 t u w) ∈ news) (hn : n ≤ 1000) (V : CompV lev scope own tg elt c al fz n (fun i vs => ∃ t, vs = [.int i t]) mu news K J) : Src1 lev scope own tg elt c al fz K (.ref ax) (mu ++ news) :=
 ⟨ax, mu, news, J, rfl, rfl, .inr ⟨0, n, t, u, w, n, hm, Int.zero_add _, ⟨by decide, Int.ofNat_le.mpr hn⟩, (funext fun i => funext fun vs => by rw [Int.zero_add] : (fun (i : Nat) vs => ∃ t, vs = [Value.int (0 + (i : Int)) t]) = fun (i : Nat) vs => ∃ t, vs = [Value.int i t]) ▸ V⟩⟩
end
-- data
noncomputable def numD (d : Bool) (x : Int) : Dat := if d then .tuple [.int (nc x), .int (ne x)] else .int x
noncomputable def rowD (d : Bool) (k : Nat) (f : Nat → Int) : Dat := .list ((List.range k).map fun j => numD d (f j))
noncomputable def gridD (d : Bool) (r k : Nat) (f : NNI) : Dat := .list ((List.range r).map fun i => rowD d k (f i))
theorem numD_ok {d : Bool} {x : Int} {n : Nat} : kqdOk (n + 1) (numD d x) = true := by
 cases d <;> cases n <;> rfl
theorem rowD_ok {d : Bool} {k : Nat} {f : Nat → Int} {n : Nat} : kqdOk (n + 2) (rowD d k f) = true := by
 show ((List.range k).map fun j => numD d (f j)).all (kqdOk (n + 1)) = true
 rw [List.all_map, List.all_eq_true]
 exact fun j q_ => numD_ok
theorem gridD_ok {d : Bool} {r k : Nat} {f : NNI} {n : Nat} : kqdOk (n + 3) (gridD d r k f) = true := by
 show ((List.range r).map fun i => rowD d k (f i)).all (kqdOk (n + 2)) = true
 rw [List.all_map, List.all_eq_true]
 exact fun j q_ => rowD_ok
theorem Num.dat {n : Led} {d : Bool} {v : Value} {x : Int} (h : Num n d v x) : DatIn n v (numD d x) := by
 cases h with
 | i => exact .int _ _
 | d hm => exact .tuple hm (.cons (.int _ _) (.cons (.int _ _) .nil))
theorem datAll_of {n : Led} : ∀ {vs : List Value} {ds : List Dat}, vs.length = ds.length → (∀ (i : Nat) v d, vs[i]? = some v → ds[i]? = some d → DatIn n v d) → DatAll n vs ds
 | [], [], _, _ => .nil
 | v :: vs, d :: ds, hl, h => .cons (h 0 v d rfl rfl) (datAll_of (Nat.succ.inj hl) fun i v d e1 e2 => h (i + 1) v d e1 e2)
 | [], _ :: _, h, _ => nomatch h
 | _ :: _, [], h, _ => nomatch h
theorem datAll_map {n : Led} {vs : List Value} {k : Nat} {F : Nat → Dat} (hl : vs.length = k) (h : ∀ i v, vs[i]? = some v → DatIn n v (F i)) : DatAll n vs ((List.range k).map F) :=
 datAll_of (by rw [List.length_map, List.length_range]; exact hl) fun i v d e1 e2 => by
  rw [List.getElem?_map, List.getElem?_range (by rw [← hl]; exact (List.getElem?_eq_some_iff.mp e1).1)] at e2
  cases e2
  exact h i v e1
theorem RowF.dat {ok : Addr → Prop} {d : Bool} {n : Led} {a : Addr} {k : Nat} {f : Nat → Int} (h : RowF ok (some d) n a k f) : DatIn n (.ref a) (rowD d k f) := by
 obtain ⟨q_, vs, q, hm, hz, hv⟩ := h
 exact .list (vs := vs.toList) hm (datAll_map (by rw [Array.length_toList]; exact hz) fun i v e => (hv i v (by rw [← Array.getElem?_toList]; exact e)).num.dat)
theorem GridF.dat {ok : Addr → Prop} {d : Bool} {n : Led} {g : Addr} {r k : Nat} {f : NNI} (h : GridF ok (some d) n g r k f) : DatIn n (.ref g) (gridD d r k f) := by
 obtain ⟨q_, vs, q, hm, hz, hv⟩ := h
 exact .list (vs := vs.toList) hm (datAll_map (by rw [Array.length_toList]; exact hz) fun i v e => by
  obtain ⟨a, rfl, hR⟩ := hv i v (by rw [← Array.getElem?_toList]; exact e)
  exact hR.dat)
theorem rowD_eq {d : Bool} {k : Nat} {f g : Nat → Int} (h : ∀ j, j < k → f j = g j) : rowD d k f = rowD d k g := congrArg Dat.list (List.map_congr_left fun j hj => by rw [h j (List.mem_range.mp hj)])
theorem gridD_eq {d : Bool} {r k : Nat} {f g : NNI} (h : ∀ i j, i < r → j < k → f i j = g i j) : gridD d r k f = gridD d r k g := congrArg Dat.list (List.map_congr_left fun i hi => rowD_eq fun j hj => h i j (List.mem_range.mp hi) hj)
end Mine
namespace Mine
open LCg
noncomputable def BSs : Str := Str.ofString "BS"
inductive CFrO (lev : Nat) (A : Around) (en : Env) (G : Heap) (L : Addr) (A₀ : Around) (base : Heap) (outer : List Env) : Prop
 | pk (loose : List Str) (mean : ExcName → Option Value) (mg mb : SoV) (dp un : Nat) (gd : Option (List Code)) (cn : Str) (cs : Scope) (a : Addr) (ccd : Value) (cl : SAs) : A = ktrTop dp un gd cn cs L a ccd cl outer → en = envX cn cs L a ccd cl → Below A₀ base outer G → Top topProg loose mean mg mb G → cs.kind = .function → dp + lev < recursionLimit → un + 20 * lev < cLine → CFrO lev A en G L A₀ base outer
structure CFr (lev : Nat) (c : Cx) (A₀ : Around) (base : Heap) (outer : List Env) : Prop where
 o : CFrO lev c.A c.env c.G c.L A₀ base outer
 A : c.A = A₀.deeper c.env
 X : (K39 c.w.params).In c.G
theorem CFr.le {l l' : Nat} {c : Cx} {A₀ : Around} {base : Heap} {outer : List Env} (h : CFr l c A₀ base outer) (hl : l' ≤ l) : CFr l' c A₀ base outer := by
 obtain ⟨⟨loose, mean, mg, mb, dp, un, gd, cn, cs, a, ccd, cl, h1, h2, h3, h4, h5, h6, h7⟩, hA, X⟩ := h
 exact ⟨⟨loose, mean, mg, mb, dp, un, gd, cn, cs, a, ccd, cl, h1, h2, h3, h4, h5, lvA hl h6, lvB hl h7⟩, hA, X⟩
inductive EBS (c : Cx) (base : Heap) (outer : List Env) (nw : Led) (e : Value) (s' : Shared) : Prop
 | pk (ea dx od nws h tk : _) : e = .ref ea → s' = c.at h tk → (dx, od) ∈ nws → CodeD od BSs → (∀ p ∈ nw, p ∈ nws) → (∀ (Q : Unit → Shared → Prop) (E : VSP), (∀ h', RaisedP base outer ea (ExcP 34 dx) nws h' → c.G.UpToSlots h' → Q () (c.at h' tk)) → wpAny (model PG c.w) c.A (leaving c.env (.ref ea)) Q E (c.at h tk)) → EBS c base outer nw e s'
inductive RzP (c : Cx) (base : Heap) (outer : List Env) (nw : Led) (r : Result) (s' : Shared) : Prop
 | pk (ea dx od nws g₂ m' h' tk' : _) : r = .error (.ref ea) → s' = c.at h' tk' → RaisedP base (c.env :: outer) ea (ExcP 34 dx) nws h' → (dx, od) ∈ nws → CodeD od BSs → (∀ p ∈ nw, p ∈ nws) → Fr c.G c.L g₂ m' → g₂.UpToSlots h' → RzP c base outer nw r s'
structure CtR (W : World → Prop) (lev : Nat) (f : Value) (vs : List Value) (nw : Led) : Prop where
 o : ∀ (c : Cx) (al : Al) (A₀ : Around) (base : Heap) (outer : List Env), W c.w → CFr lev c A₀ base outer → ∀ h tk, c.st al nw h → codeAny (model PG c.w) c.A (.call f ⟨vs, []⟩) (RzP c base outer nw) (c.at h tk)
section
variable {W : World → Prop} {c : Cx} {al : Al} {nw nw0 : Led} {K : VLP} {lev l : Nat} {A₀ : Around} {base : Heap} {outer : List Env} {f : Value} {vs : List Value}
theorem CFr.hf (h : CFr lev c A₀ base outer) : c.env.frame = some c.L := by
 obtain ⟨q_, q_, q_, q_, q_, q_, q_, q_, q_, q_, q_, q_, q_, h2, q_⟩ := h.o
 rw [h2]
theorem CtR.go (h : CtR W l f vs nw) (hw : W c.w) (hF : CFr lev c A₀ base outer) (hs : ∀ p ∈ nw0, p ∈ nw) (hl : l ≤ lev := by decide) : RawS (EBS c base outer nw0) c (call f vs) al nw K := fun g tk st =>
 wpAny_call (codeAny_mono (h.o c al A₀ base outer hw (hF.le hl) g tk st) fun r s' hr => by
  obtain ⟨ea, dx, od, nws, g₂, m', h', tk', rfl, rfl, R, m1, cd, sub, F, U⟩ := hr
  obtain ⟨q_, q_, q_, q_, q_, q_, q_, q_, q_, q_, q_, q_, q_, q_, hB, q_⟩ := hF.o
  refine ⟨ea, dx, od, nws, h', tk', rfl, rfl, m1, cd, fun p hp => sub p (hs p hp), fun Q E hq => ?_⟩
  rw [hF.A]
  exact leave_onR (s' := c.at h' tk') ExcP.map hB F hF.hf R U fun h'' R' U' => hq h'' R' U')
inductive ErrP (nw0 : Led) (v : Value) (n : Led) : Prop
 | pk (e oe dx od nw2 vs : _) : v = .ref e → n = (e, oe) :: (dx, od) :: nw2 → ExcP 34 dx oe → oe.data = .fields vs → vs[1]? = some .none → CodeD od BSs → (∀ p ∈ nw2, p.1 ≠ e) → e ≠ dx → (∀ p ∈ nw0, p ∈ nw2) → ErrP nw0 v n
theorem r_err {E : VSP} {td : Str} {t1 t2 : Tok} (hC : CAny lev c) (hl : 3 ≤ lev) (hk : c.keep = []) (hs : ∀ p ∈ nw0, p ∈ nw) (h : ∀ v n, ErrP nw0 v n → K v n) : RawS E c (call (.ref 34) [.str BSs t1, .str td t2]) al nw K := fun g tk st => by
 obtain ⟨loose, mean, mg, mb, dp, un, gd, cn, cs, a, ccd, cl, outer, A₀, base, h1, h2, h3, h4, h5, h6⟩ := hC.top.o
 rw [h1]
 exact c_err (s := c.at g tk) h2 st.1 hC.top.X st.2.1 h3 h4 (lvA hl h5) (lvK hl h6) fun e dx oe vs od h' tk' a1 a2 a3 a4 F N hne hd =>
  ⟨h', tk', _, rfl, ⟨F, N, st.2.2.1, fun p hp => by rw [hk] at hp; cases hp⟩, h _ _ ⟨e, oe, dx, od, nw, vs, rfl, rfl, a1, a2, a3, a4, hne, hd, hs⟩⟩
theorem c_raise {KR : VAP} {Kn : ALP} {names : NKs} {cl : SAs} {ex : PySem.Expr} {pos : Pos} (hC : CIn lev names c cl) (hF : CFr lev c A₀ base outer) (h : vcE (EBS c base outer nw0) glT names 60 false ex [] c al nw (ErrP nw0)) : RawC (EBS c base outer nw0) c KR (exec (.Raise (some ex) none pos) c.env) al nw Kn := fun g tk st => by
 refine raise34 hC.top.X hC.hn (wpAny_mono (hC.ev h g tk st) (fun v s1 hv => ?_) fun q_ q_ e => e)
 obtain ⟨h', tk', n, rfl, st', e, oe, dx, od, nw2, vs, rfl, rfl, px, pd, p1, pc, hne, hd, hs⟩ := hv
 obtain ⟨q_, q_, q_, q_, q_, q_, q_, q_, q_, q_, q_, q_, q_, h2, hB, q_, hk, q_⟩ := hF.o
 refine ⟨e, oe, vs, _, _, rfl, st'.1, (st'.2.1 _ (.head _)).1, px.1, pd, p1, e, dx, od, (dx, od) :: nw2, h', tk', rfl, rfl, .head _, pc, fun p hp => .tail _ (hs p hp), fun Q E hq => ?_⟩
 rw [hF.A]
 exact leave_firstR (s' := c.at h' tk') ExcP.map hB st'.1 hF.hf (by rw [h2]; exact hk) st'.2.1 (fun p hp => by
  revert p; refine fmc ?_ fun p hp => ?_
  · exact Ne.symm hd
  · exact hne p hp) px pd p1 fun h'' R' U' => hq h'' R' U'
end
section
variable {lev : Nat} {f : Addr} {vs : List Value} {nw : Led} {name qual : Str} {ps : Arguments} {body : List Stmt} {names : NKs} {mo : List (Str × Const)} {dV kV doc pm cdv ct oc : Value} {an od : Option Addr} {osl : Array (Option Value)}
theorem code_vcR {W : World → Prop} (own : Addr → SAs) (ho : ∀ P, (K39 P).lookup f = some ⟨oc, od, .func (fnOf name qual ps body (sc names mo) dV kV doc pm an cdv ct), osl⟩) (hcd : ∀ P, codeIn (K39 P) cdv qual = true)
 (hb : bindArgs (fnOf name qual ps body (sc names mo) dV kV doc pm an cdv ct) ⟨vs, []⟩ = pure (zipN names vs)) (hk : (kindB names vs && decide ((cellsFrom 0 names []).map (·.1)).Nodup) = true) (hal : alC (zipN names vs) names = alN names vs) (hown : ∀ L', cellsFrom (L' + 1) names [] = own L')
 (h : ∀ c cells A₀ base outer, W c.w → CFr lev c A₀ base outer → CIn lev names c (own c.L) → CellsAre (bindC (fun y => names.lookup y) (zipN names vs) fun q_ => none) (own c.L) cells → (∀ p ∈ nw, p.1 < c.L) →
  vcS (EBS c base outer nw) glT names 60 body [] c (fun q_ q_ q_ => False) (alN names vs) (cells ++ nw) (fun q_ q_ => False)) : CtR W (lev + 1) (.ref f) vs nw := by
 refine ⟨fun c al0 A₀ base outer hW hF h0 tk st => ?_⟩
 obtain ⟨⟨loose, mean, mg, mb, dp, un, gd, cn, cs, a, ccd, cl, h1, he, h2, h3, h4, h5, h6⟩, hA, X⟩ := hF
 rw [h1]
 refine code_defCF h2 st.1 X st.2.1 h3 rfl rfl h4 (ho _) (hcd _) (lv0 h5) (BindsTo.of_eq hb) (kk hk) (of_decide_eq_true (kn hk)) (ks hk) hal own hown ?_
 intro g L' h₁ tk1 cells FG F' ha' hs' N' Y B' X' T' hlt
 have hC : CIn lev names (cxF c.w (Around.deeper (ktrTop dp un gd cn cs c.L a ccd cl outer) (envX qual (sc names mo) L' f cdv (own L'))) g L' f qual cdv names mo (own L') c.gs c.d c.os) (own L') :=
  { top := ⟨⟨loose, mean, mg, mb, dp + 1, un + 3, gd, qual, sc names mo, f, cdv, own L', _, _, base, rfl, B', T', rfl, lv1 h5, lv3 h6⟩, X'⟩, gl := rfl, bu := rfl, hn := rfl, okx := (cfOk X' T' hs' rfl).toCxOk, ok := cfOk X' T' hs' rfl, ns := rfl, fr := rfl, kp := rfl, clq := rfl, fm := rfl, lo := rfl, en := ⟨_, _, _, _, rfl⟩ }
 have hF' : CFr lev (cxF c.w (Around.deeper (ktrTop dp un gd cn cs c.L a ccd cl outer) (envX qual (sc names mo) L' f cdv (own L'))) g L' f qual cdv names mo (own L') c.gs c.d c.os) (ktrTop dp un gd cn cs c.L a ccd cl outer) base (envX cn cs c.L a ccd cl :: outer) :=
  ⟨⟨loose, mean, mg, mb, dp + 1, un + 3, gd, qual, sc names mo, f, cdv, own L', rfl, rfl, B', T', rfl, lv1 h5, lv3 h6⟩, rfl, X'⟩
 have v := h _ cells _ _ _ (by exact hW) hF' hC Y hlt
 refine wpAny_mono (vcS_snd hC.ok 60 body (alN names vs) (cells ++ nw) _ v h₁ tk1 ⟨F', N', ha', fun p hp => nomatch hp⟩) (fun fl s' hfl => ?_) fun e s' he' => ?_
 · obtain ⟨q_, q_, q_, q_, q_, q_, k⟩ := hfl
   cases fl <;> exact k.elim
 · obtain ⟨ea, dx, od, nws, h2', tk2, rfl, rfl, m1, cd, sub, rdy⟩ := he'
   exact rdy _ _ fun h'' R U => ⟨ea, dx, od, nws, g, _, h'', tk2, rfl, rfl, he ▸ R, m1, cd, sub, FG, U⟩
end
theorem cellsInv {cm : SoV} {x : Str} {a : Addr} {own : SAs} {cells : Led} (h : CellsAre cm ((x, a) :: own) cells) : E2_3 (fun o os => cells = (a, o) :: os) (fun o os => o.data = .cell (cm x)) (fun o os => CellsAre cm own os) := by
 cases h with | cons d Y => exact ⟨_, _, rfl, d, Y⟩
end Mine
namespace Mine
open LCg
theorem n_prodR {ok1 ok2 : Addr → Prop} {o1 o2 : Option Bool} {x y p1 p2 : Addr} {r k r2 k2 : Nat} {f gf : NNI} {nw : Led} (hG : GridF ok1 o1 nw x r k f) (hH : GridF ok2 o2 nw y r2 k2 gf) (hr : 1 ≤ r ∧ r ≤ 20) (hk : k ≤ 20) (hr2 : 1 ≤ r2 ∧ r2 ≤ 20) (hk2 : k2 ≤ 20) (hne : k ≠ r2) : CtR AnyW 4 (.ref 381) [.ref x, .ref y, .ref p1, .ref p2] nw := by
 refine code_vcR (fun L' => [(Str.ofString "row", L' + 1 + 1 + 1 + 1), (Str.ofString "times", L' + 1 + 1 + 1), (Str.ofString "plus", L' + 1 + 1), (Str.ofString "other", L' + 1)]) (fun P => by k_is) (fun P => by k_is) rfl (by kernel_rfl) (by kernel_rfl) (fun q_ => rfl) ?_
 intro c cells A₀ base outer hw hF hC Y hL
 obtain ⟨o4, cells4, rfl, d4, Y4⟩ := cellsInv Y
 obtain ⟨o3, cells3, rfl, d3, Y3⟩ := cellsInv Y4
 obtain ⟨o2, cells2, rfl, d2, Y2⟩ := cellsInv Y3
 obtain ⟨o1, cells1, rfl, d1, Y1⟩ := cellsInv Y2
 cases Y1
 have hA := hC.toCAny
 replace d1 : o1.data = .cell (some (.ref y)) := d1
 have q1 : c.cl.lookup (Str.ofString "other") = some (c.L + 1) := by rw [hC.clq]; rfl
 replace d2 : o2.data = .cell (some (.ref p1)) := d2
 have q2 : c.cl.lookup (Str.ofString "plus") = some (c.L + 1 + 1) := by rw [hC.clq]; rfl
 replace d3 : o3.data = .cell (some (.ref p2)) := d3
 have q3 : c.cl.lookup (Str.ofString "times") = some (c.L + 1 + 1 + 1) := by rw [hC.clq]; rfl
 have q4 : c.cl.lookup (Str.ofString "row") = some (c.L + 1 + 1 + 1 + 1) := by rw [hC.clq]; rfl
 have l0 := le4 (o1 := o1) (o2 := o2) (o3 := o3) (o4 := o4) hL
 refine shapeK (n_shape (hG.mono l0.sub) ⟨hr.1, by exact nr ‹_›⟩ (by exact nt ‹_›)) hA fun s t1 t2 j n1 l1 hm hs => ?_
 refine unpI hm rfl (vst2 ?_)
 refine ⟨_, o1, _, q1, l1.sub _ (.tail _ (.tail _ (.tail _ (.head _)))), d1, ?_⟩
 refine shapeK (n_shape (hH.mono (l0.trans l1).sub) ⟨hr2.1, by exact nr ‹_›⟩ (by exact nt ‹_›)) hA fun s2 t3 t4 j2 n2 l2 hm2 hs2 => ?_
 intro t5 ea eb hsl
 refine r_idxT hsl hm2 (by decide) (by decide) rfl (iteT (by lia) (c_raise hC hF fun t6 => ?_))
 exact r_err hA (by decide) hC.kp ((l0.trans l1).trans l2).sub fun q_ q_ h => h
theorem n_cellR {ok1 ok2 : Addr → Prop} {o1' o2' : Option Bool} {x y m : Addr} {r k r2 k2 : Nat} {f gf : NNI} {nw : Led} (hG : GridF ok1 o1' nw x r k f) (hH : GridF ok2 o2' nw y r2 k2 gf) (hr : 1 ≤ r ∧ r ≤ 20) (hk : k ≤ 20) (hr2 : 1 ≤ r2 ∧ r2 ≤ 20) (hk2 : k2 ≤ 20) (hne : k ≠ k2) : CtR AnyW 5 (.ref 366) [.ref x, .ref y, .ref m] nw := by
 refine code_vcR (fun L' => [(Str.ofString "work", L' + 1)]) (fun P => by k_is) (fun P => by k_is) rfl (by kernel_rfl) (by kernel_rfl) (fun q_ => rfl) ?_
 intro c cells A₀ base outer hw hF hC Y hL
 obtain ⟨o1, cells1, rfl, d1, Y1⟩ := cellsInv Y
 cases Y1
 have hA := hC.toCAny
 replace d1 : o1.data = .cell (some (.ref m)) := d1
 have q1 : c.cl.lookup (Str.ofString "work") = some (c.L + 1) := by rw [hC.clq]; rfl
 have l0 := le1 (o1 := o1) hL
 refine shapeK (n_shape (hG.mono l0.sub) ⟨hr.1, by exact nr ‹_›⟩ (by exact nt ‹_›)) hA fun s t1 t2 j n1 l1 hm1 hs => ?_
 have l01 := l0.trans l1
 refine shapeK (n_shape (hH.mono l01.sub) ⟨hr2.1, by exact nr ‹_›⟩ (by exact nt ‹_›)) hA fun s2 t3 t4 j2 n2 l2 hm2 hs2 => ?_
 refine r_neD hA (by decide) (.tuple (l2.sub _ hm1) (.cons (.int _ _) (.cons (.int _ _) .nil))) (.tuple hm2 (.cons (.int _ _) (.cons (.int _ _) .nil))) rfl rfl (q := false) ⟨fun e => (nomatch e), fun e => ?_⟩ (iteT' (c_raise hC hF fun t6 => ?_))
 · injection e with e
   injection e with e1 e
   injection e with e2 e
   injection e2 with e2
   lia
 · exact r_err hA (by decide) hC.kp (l01.trans l2).sub fun q_ q_ h => h
theorem n_filledR {k : WC} {ow : Lab} {nks : List (Str × Value)} {S : List AR} {A : AR} {tw t1 : Tok} {e : Addr} {q : Nat} {nw : Led} (hW : WSt k ow nw nks S) (hm : A ∈ S) (he : (e, listOf ([] : List Value).toArray q) ∈ nw) (hne : A.r ≠ A.c) : CtR (· = k.w) 7 (.ref 546) [.ref k.wa, .str A.word tw, .str (Str.ofString "IDN") t1, .ref e, .none] nw := by
 have hG := hW.rd.arr A hm
 obtain ⟨gda, il, hl, gt, gn, ki, room, its, G⟩ := id hG
 have hr := G.rb
 have hc := G.kb
 refine code_vcR (fun L' => []) (fun P => by k_is) (fun P => by k_is) rfl (by kernel_rfl) (by kernel_rfl) (fun q_ => rfl) ?_
 intro c cells A₀ base outer hw hF hC Y hL
 cases Y
 have hA := hC.toCAny
 refine (n_shaped hW hm he).goW hw hA fun v n l1 hv => ?_
 subst hv
 refine (n_rows (hG.mono l1.sub)).go hA fun v n2 l2 z5 => ?_
 obtain ⟨x, e, h2⟩ := z5
 subst e
 refine shapeK (n_shape h2 ⟨hr.1, by exact nr ‹_›⟩ (by exact nr ‹_›)) hA fun s t2 t3 j n3 l3 hm3 hs3 => ?_
 refine unpI hm3 rfl (vst2 fun t4 => iteTb (by kernel_rfl) (iteT (by lia) (c_raise hC hF fun t5 t6 => ?_)))
 exact r_err hA (by decide) hC.kp ((l1.trans l2).trans l3).sub fun q_ q_ h => h
theorem n_sqR {ok : Addr → Prop} {o : Option Bool} {x : Addr} {r k : Nat} {f : NNI} {nw : Led} (hG : GridF ok o nw x r k f) (hr : 1 ≤ r ∧ r ≤ 20) (hk : k ≤ 20) (hne : r ≠ k) : CtR AnyW 4 (.ref 459) [.ref x] nw := by
 refine code_vcR (fun L' => []) (fun P => by k_is) (fun P => by k_is) rfl (by kernel_rfl) (by kernel_rfl) (fun q_ => rfl) ?_
 intro c cells A₀ base outer hw hF hC Y hL
 cases Y
 have hA := hC.toCAny
 refine shapeK (n_shape hG ⟨hr.1, by exact nr ‹_›⟩ (by exact nt ‹_›)) hA fun s t1 t2 j n1 l1 hm1 hs => ?_
 refine unpI hm1 rfl (vst2 (iteT (by lia) (iteT' (c_raise hC hF fun t6 => ?_))))
 exact r_err hA (by decide) hC.kp l1.sub fun q_ q_ h => h
theorem n_invR {ok : Addr → Prop} {o : Option Bool} {x : Addr} {r k : Nat} {f : NNI} {t : Tok} {nw : Led} (hG : GridF ok o nw x r k f) (hr : 1 ≤ r ∧ r ≤ 20) (hk : k ≤ 20) (hne : r ≠ k) : CtR AnyW 5 (.ref 464) [.ref x, .int 9 t] nw := by
 refine code_vcR (fun L' => [(Str.ofString "size", L' + 1 + 1), (Str.ofString "digits", L' + 1)]) (fun P => by k_is) (fun P => by k_is) rfl (by kernel_rfl) (by kernel_rfl) (fun q_ => rfl) ?_
 intro c cells A₀ base outer hw hF hC Y hL
 obtain ⟨o2, cells2, rfl, d2, Y2⟩ := cellsInv Y
 obtain ⟨o1, cells1, rfl, d1, Y1⟩ := cellsInv Y2
 cases Y1
 have hA := hC.toCAny
 replace d1 : o1.data = .cell (some (.int 9 t)) := d1
 have q1 : c.cl.lookup (Str.ofString "digits") = some (c.L + 1) := by rw [hC.clq]; rfl
 have q2 : c.cl.lookup (Str.ofString "size") = some (c.L + 1 + 1) := by rw [hC.clq]; rfl
 have l0 := le2 (o1 := o1) (o2 := o2) hL
 exact (n_sqR (hG.mono l0.sub) hr hk hne).go trivial hF l0.sub
end Mine
namespace Mine
open LCg
section
variable {k : WC} {ow : Lab} {nks : List (Str × Value)} {S : List AR} {A B : AR} {word : Str} {tw t1 t2 t3 t4 : Tok} {wt : Addr} {wk : Nat} {nw : Led}
theorem n_rkmulR (hW : WSt k ow nw nks S) (hmA : A ∈ S) (hmB : B ∈ S) (hwt : (wt, tup [.str (Str.ofString "two") t1, .str (Str.ofString "*") t2, .str A.word t3, .str B.word t4] wk) ∈ nw) (hne : A.c ≠ B.r) : CtR (· = k.w) 7 (.ref 553) [.ref k.wa, .str word tw, .ref wt, .none] nw := by
 obtain ⟨q_, q_, q_, q_, q_, q_, q_, q_, GA⟩ := hW.rd.arr A hmA
 obtain ⟨q_, q_, q_, q_, q_, q_, q_, q_, GB⟩ := hW.rd.arr B hmB
 have hr := GA.rb
 have hc := GA.kb
 have hr2 := GB.rb
 have hc2 := GB.kb
 refine code_vcR (fun L' => []) (fun P => by k_is) (fun P => by k_is) rfl (by kernel_rfl) (by kernel_rfl) (fun q_ => rfl) ?_
 intro c cells A₀ base outer hw hF hC Y hL
 cases Y
 have hA := hC.toCAny
 intro t5 ea eb hs
 refine r_idxT hs hwt (by decide) (by decide) rfl ?_
 refine r_reck hw hA (hW.wld.mono fro_sub) hC.kp fun y n1 l1 hy D1 hD1 => unpI (.head _) rfl (vst2 ?_)
 intro t6 t7 t8 D2 hD2
 refine r_inT (.head _) strs3 (iteFb (by kernel_rfl) (vnil fun t9 => iteFb (by kernel_rfl) (vnil fun t10 => iteFb (by kernel_rfl) (vnil fun t11 => iteFb (by kernel_rfl) (vnil fun t12 => iteFb (by kernel_rfl) (vnil fun t13 ea eb hs => ?_))))))
 have l2 := (Le.one (o := tup [.str (Str.ofString "two") t1, .ref y] 0) hD1).cons (o := tup [.str (Str.ofString "ZER") t6, .str (Str.ofString "CON") t7, .str (Str.ofString "IDN") t8] 0) hD2
 have l02 := l1.trans l2
 refine r_idxT hs (l02.sub _ hwt) (by decide) (by decide) rfl ?_
 refine namedK (n_named ((hW.le l02).rd) hmA) hw hA fun x n3 l3 h3 => ?_
 intro t14 ea eb hs
 have l03 := l02.trans l3
 refine r_idxT hs (l03.sub _ hwt) (by decide) (by decide) rfl ?_
 refine (n_named ((hW.le l03).rd) hmB).goW hw hA fun v n4 l4 ⟨x2, e, h4⟩ D3 hD3 => unpI (.head _) rfl (vst2 ?_)
 subst e
 intro t15 ea eb hs
 have l5 := l4.cons (o := tup [.ref x, .ref x2] 0) hD3
 have l05 := l03.trans l5
 refine r_idxT hs (l05.sub _ hwt) (by decide) (by decide) rfl fun t16 => iteTb (by kernel_rfl) ?_
 have y5 := (hy.mono l2.sub).mono fun p hp => l5.sub p (l3.sub p hp)
 rw [← hw] at y5
 refine r_bound (o := none) hA y5 (.inl rfl) fun p1 hp1 => ?_
 refine r_bound (o := some true) hA (y5.mono fun p hp => .tail _ hp) (.inr (.inr rfl)) fun p2 hp2 => ?_
 have l6 := (l05.cons (o := methodObj (.ref 485) (.ref y)) hp1).cons (o := methodObj (.ref 499) (.ref y)) hp2
 have l7 : Le n4 _ := ((Le.one (o := tup [.ref x, .ref x2] 0) hD3).cons (o := methodObj (.ref 485) (.ref y)) hp1).cons (o := methodObj (.ref 499) (.ref y)) hp2
 exact (n_prodR ((h3.mono l4.sub).mono l7.sub) (h4.mono l7.sub) ⟨hr.1, by exact nr ‹_›⟩ (by exact nr ‹_›) ⟨hr2.1, by exact nr ‹_›⟩ (by exact nr ‹_›) hne).go trivial hF l6.sub
theorem n_rkcellR (hW : WSt k ow nw nks S) (hmA : A ∈ S) (hmB : B ∈ S) (hwt : (wt, tup [.str (Str.ofString "two") t1, .str (Str.ofString "+") t2, .str A.word t3, .str B.word t4] wk) ∈ nw) (hne : A.c ≠ B.c) : CtR (· = k.w) 7 (.ref 553) [.ref k.wa, .str word tw, .ref wt, .none] nw := by
 obtain ⟨q_, q_, q_, q_, q_, q_, q_, q_, GA⟩ := hW.rd.arr A hmA
 obtain ⟨q_, q_, q_, q_, q_, q_, q_, q_, GB⟩ := hW.rd.arr B hmB
 have hr := GA.rb
 have hc := GA.kb
 have hr2 := GB.rb
 have hc2 := GB.kb
 refine code_vcR (fun L' => []) (fun P => by k_is) (fun P => by k_is) rfl (by kernel_rfl) (by kernel_rfl) (fun q_ => rfl) ?_
 intro c cells A₀ base outer hw hF hC Y hL
 cases Y
 have hA := hC.toCAny
 intro t5 ea eb hs
 refine r_idxT hs hwt (by decide) (by decide) rfl ?_
 refine r_reck hw hA (hW.wld.mono fro_sub) hC.kp fun y n1 l1 hy D1 hD1 => unpI (.head _) rfl (vst2 ?_)
 intro t6 t7 t8 D2 hD2
 refine r_inT (.head _) strs3 (iteFb (by kernel_rfl) (vnil fun t9 => iteFb (by kernel_rfl) (vnil fun t10 => iteFb (by kernel_rfl) (vnil fun t11 => iteFb (by kernel_rfl) (vnil fun t12 => iteFb (by kernel_rfl) (vnil fun t13 ea eb hs => ?_))))))
 have l2 := (Le.one (o := tup [.str (Str.ofString "two") t1, .ref y] 0) hD1).cons (o := tup [.str (Str.ofString "ZER") t6, .str (Str.ofString "CON") t7, .str (Str.ofString "IDN") t8] 0) hD2
 have l02 := l1.trans l2
 refine r_idxT hs (l02.sub _ hwt) (by decide) (by decide) rfl ?_
 refine namedK (n_named ((hW.le l02).rd) hmA) hw hA fun x n3 l3 h3 => ?_
 intro t14 ea eb hs
 have l03 := l02.trans l3
 refine r_idxT hs (l03.sub _ hwt) (by decide) (by decide) rfl ?_
 refine (n_named ((hW.le l03).rd) hmB).goW hw hA fun v n4 l4 ⟨x2, e, h4⟩ D3 hD3 => unpI (.head _) rfl (vst2 ?_)
 subst e
 intro t15 ea eb hs
 have l5 := l4.cons (o := tup [.ref x, .ref x2] 0) hD3
 have l05 := l03.trans l5
 refine r_idxT hs (l05.sub _ hwt) (by decide) (by decide) rfl fun t16 => iteFb (by kernel_rfl) (vnil fun t17 ea eb hs => ?_)
 have y5 := (hy.mono l2.sub).mono fun p hp => l5.sub p (l3.sub p hp)
 rw [← hw] at y5
 refine r_idxT hs (l05.sub _ hwt) (by decide) (by decide) rfl fun t17 => iteTb (by kernel_rfl) (r_bound (o := none) hA y5 (.inl rfl) fun q hq => ?_)
 have l7 := (Le.one (o := tup [.ref x, .ref x2] 0) hD3).cons (o := methodObj (.ref 485) (.ref y)) hq
 exact (n_cellR ((h3.mono l4.sub).mono l7.sub) (h4.mono l7.sub) ⟨hr.1, by exact nr ‹_›⟩ (by exact nr ‹_›) ⟨hr2.1, by exact nr ‹_›⟩ (by exact nr ‹_›) hne).go trivial hF (l05.cons hq).sub
theorem n_rkidnR {e : Addr} {q : Nat} (hW : WSt k ow nw nks S) (hm : A ∈ S) (hwt : (wt, tup [.str (Str.ofString "IDN") t1, .ref e] wk) ∈ nw) (he : (e, listOf ([] : List Value).toArray q) ∈ nw) (hne : A.r ≠ A.c) : CtR (· = k.w) 8 (.ref 553) [.ref k.wa, .str A.word tw, .ref wt, .none] nw := by
 refine code_vcR (fun L' => []) (fun P => by k_is) (fun P => by k_is) rfl (by kernel_rfl) (by kernel_rfl) (fun q_ => rfl) ?_
 intro c cells A₀ base outer hw hF hC Y hL
 cases Y
 have hA := hC.toCAny
 intro t3 ea eb hs
 refine r_idxT hs hwt (by decide) (by decide) rfl ?_
 refine r_reck hw hA (hW.wld.mono fro_sub) hC.kp fun y n1 l1 hy D1 hD1 => unpI (.head _) rfl (vst2 ?_)
 intro t4 t5 t6 D2 hD2
 have l2 := (l1.cons (o := tup [.str (Str.ofString "IDN") t1, .ref y] 0) hD1).cons (o := tup [.str (Str.ofString "ZER") t4, .str (Str.ofString "CON") t5, .str (Str.ofString "IDN") t6] 0) hD2
 refine r_inT (.head _) strs3 (iteTb (by kernel_rfl) fun t7 ea eb hs => ?_)
 refine r_idxT hs (l2.sub _ hwt) (by decide) (by decide) rfl ?_
 exact (n_filledR (hW.le l2) hm (l2.sub _ he) hne).go hw hF l2.sub
theorem n_rkinvR (hW : WSt k ow nw nks S) (hm : A ∈ S) (hwt : (wt, tup [.str (Str.ofString "INV") t1, .str A.word t2] wk) ∈ nw) (hne : A.r ≠ A.c) : CtR (· = k.w) 6 (.ref 553) [.ref k.wa, .str word tw, .ref wt, .none] nw := by
 obtain ⟨q_, q_, q_, q_, q_, q_, q_, q_, GA⟩ := hW.rd.arr A hm
 have hr := GA.rb
 have hc := GA.kb
 refine code_vcR (fun L' => []) (fun P => by k_is) (fun P => by k_is) rfl (by kernel_rfl) (by kernel_rfl) (fun q_ => rfl) ?_
 intro c cells A₀ base outer hw hF hC Y hL
 cases Y
 have hA := hC.toCAny
 intro t5 ea eb hs
 refine r_idxT hs hwt (by decide) (by decide) rfl ?_
 refine r_reck hw hA (hW.wld.mono fro_sub) hC.kp fun y n1 l1 hy D1 hD1 => unpI (.head _) rfl (vst2 ?_)
 intro t6 t7 t8 D2 hD2
 have l2 := (l1.cons (o := tup [.str (Str.ofString "INV") t1, .ref y] 0) hD1).cons (o := tup [.str (Str.ofString "ZER") t6, .str (Str.ofString "CON") t7, .str (Str.ofString "IDN") t8] 0) hD2
 refine r_inT (.head _) strs3 (iteFb (by kernel_rfl) (vnil fun t9 => iteFb (by kernel_rfl) (vnil fun t10 => iteFb (by kernel_rfl) (vnil fun t11 => iteFb (by kernel_rfl) (vnil fun t12 => iteTb (by kernel_rfl) fun t13 ea eb hs => ?_)))))
 refine r_idxT hs (l2.sub _ hwt) (by decide) (by decide) rfl ?_
 refine namedK (n_named ((hW.le l2).rd) hm) hw hA fun x n3 l3 h3 => ?_
 have l03 := l2.trans l3
 obtain ⟨td, wd⟩ := w_digits hA ((hW.le l03).wld.mono fro_sub)
 exact wd _ _ _ ((n_invR h3 ⟨hr.1, by exact nr ‹_›⟩ (by exact nr ‹_›) hne).go trivial hF l03.sub)
theorem n_domatR {T : Addr} {q : Nat} (hT : (T, tup [.str (Str.ofString "MAT") t1, .str (Str.ofString "SET") t2, .str word tw, .ref wt] q) ∈ nw) (HR : CtR (· = k.w) 8 (.ref 553) [.ref k.wa, .str word tw, .ref wt, .none] nw) : CtR (· = k.w) 9 (.ref 565) [.ref k.wa, .ref T, .none] nw := by
 refine code_vcR (fun L' => []) (fun P => by k_is) (fun P => by k_is) rfl (by kernel_rfl) (by kernel_rfl) (fun q_ => rfl) ?_
 intro c cells A₀ base outer hw hF hC Y hL
 cases Y
 have hA := hC.toCAny
 intro t3 ea eb hs
 refine r_idxT hs hT (by decide) (by decide) rfl fun t4 => iteTb (by kernel_rfl) fun t5 ea eb hs => ?_
 refine r_idxT hs hT (by decide) (by decide) rfl fun t6 ea eb hs => ?_
 refine r_idxT hs hT (by decide) (by decide) rfl fun t7 ea eb hs => ?_
 exact r_idxT hs hT (by decide) (by decide) rfl (HR.go hw hF fun q_ hp => hp)
theorem n_lawsetR (HR : ∀ n, Le nw n → CtR (· = k.w) 8 (.ref 553) [.ref k.wa, .str word tw, .ref wt, .none] n) : CtR (· = k.w) 10 (.ref 633) [.ref k.wa, .str word tw, .ref wt] nw := by
 refine code_vcR (fun L' => []) (fun P => by k_is) (fun P => by k_is) rfl (by kernel_rfl) (by kernel_rfl) (fun q_ => rfl) ?_
 intro c cells A₀ base outer hw hF hC Y hL
 cases Y
 have hA := hC.toCAny
 intro t1 t2 D hD
 have l1 := Le.one (o := tup [.str (Str.ofString "MAT") t1, .str (Str.ofString "SET") t2, .str word tw, .ref wt] 0) hD
 exact (n_domatR (.head _) (HR _ l1)).go hw hF l1.sub
theorem CtR.lv {W : World → Prop} {l l' : Nat} {f : Value} {vs : List Value} (h : CtR W l f vs nw) (hl : l ≤ l') : CtR W l' f vs nw := ⟨fun c al A₀ base outer hw hF => h.o c al A₀ base outer hw (hF.le hl)⟩
end
end Mine
namespace Mine
open LCg
theorem n_cdiv {a : Int} {t u : Tok} {nw : Led} : CtN 1 (.ref 395) [.int a t, .int 1 u] nw fun v q_ => ∃ t, v = .int 1 t := by
 refine code_vc (fun P => by k_is) (fun P => by k_is) rfl (by kernel_rfl) (by kernel_rfl) ?_
 intro c hC
 have hA := hC.toCAny
 refine r_abs1 fun b tb h0 q_ => r_abs1 fun b1 tb1 h1 hb1 => ?_
 obtain rfl : b1 = 1 := hb1.resolve_right fun e => absurd h1 (e ▸ by decide)
 intro D hD
 refine unpI (.head _) rfl (vst2 ?_)
 refine vwhl hC PassesOwn.never (fun m al nw' => Le nw nw' ∧ ((m = 1 ∧ E3_1 (fun b t1 t2 => al = hC.al [.int b t1, .int 1 t2])) ∨ (m = 0 ∧ E2_1 (fun t1 t2 => al = hC.al [.int 1 t1, .int 0 t2])))) 1 ⟨.one hD, .inl ⟨rfl, b, tb, tb1, rfl⟩⟩ ?_
 rintro m al nw' ⟨l1, ⟨rfl, b, t1, t2, rfl⟩ | ⟨rfl, t1, t2, rfl⟩⟩
 · refine fun t3 => iteT (by decide) ⟨by decide, fun t4 D2 hD2 => unpI (.head _) rfl (vst2 ⟨0, by decide, l1.cons hD2, .inr ⟨rfl, t2, t4, ?_⟩⟩)⟩
   rw [Int.emod_one]
   rfl
 · exact fun t3 => iteF (by decide) ⟨l1, t1, rfl⟩
inductive FrI (n : Led) (v : Value) (x : Int) : Prop
 | pk (r t1 t2 q : _) : v = .ref r → (r, tup [.int x t1, .int 1 t2] q) ∈ n → FrI n v x
theorem FrI.mono {n n' : Led} {v : Value} {x : Int} (h : FrI n v x) (hs : ∀ p ∈ n, p ∈ n') : FrI n' v x := by
 obtain ⟨r, t1, t2, q, e, m⟩ := h
 exact ⟨r, t1, t2, q, e, hs _ m⟩
inductive FrF (nw n : Led) (v : Value) (x : Int) : Prop
 | pk (r t1 t2 q : _) : v = .ref r → (r, tup [.int x t1, .int 1 t2] q) ∈ n → (∀ p ∈ nw, p.1 < r) → FrF nw n v x
theorem FrF.fr {nw n : Led} {v : Value} {x : Int} (h : FrF nw n v x) : FrI n v x := by
 obtain ⟨r, t1, t2, q, e, m, q_⟩ := h
 exact ⟨r, t1, t2, q, e, m⟩
theorem FrF.le {nw n1 n : Led} {v : Value} {x : Int} (h : FrF n1 n v x) (hs : ∀ p ∈ nw, p ∈ n1) : FrF nw n v x := by
 obtain ⟨r, t1, t2, q, e, m, k⟩ := h
 exact ⟨r, t1, t2, q, e, m, fun p hp => k p (hs p hp)⟩
theorem FrF.new {led t : Led} {v : Value} {x : Int} (h : FrF led (t ++ led) v x) : FrI t v x := by
 obtain ⟨r, t1, t2, q, e, m, k⟩ := h
 rcases jA m with m | m
 · exact ⟨r, t1, t2, q, e, m⟩
 · exact absurd (k _ m) (Nat.lt_irrefl _)
theorem FrF.mk' {nw n : Led} {x : Int} {r : Addr} {t1 t2 : Tok} {q : Nat} (m : (r, tup [.int x t1, .int 1 t2] q) ∈ n) (k : ∀ p ∈ nw, p.1 < r) : FrF nw n (.ref r) x := ⟨r, t1, t2, q, rfl, m, k⟩
theorem n_frac {a : Int} {t u : Tok} {nw : Led} : CtN 2 (.ref 402) [.int a t, .int 1 u] nw fun v n => FrF nw n v a := by
 refine code_vc (fun P => by k_is) (fun P => by k_is) rfl (by kernel_rfl) (by kernel_rfl) ?_
 intro c hC
 have hA := hC.toCAny
 refine n_cdiv.go hA fun v n l1 ⟨t1, e⟩ t2 => iteT (by decide) ?_
 subst e
 refine ⟨by decide, by decide, fun t3 => ⟨by decide, by decide, fun t4 D hD => ⟨l1.cons hD, ?_⟩⟩⟩
 rw [Int.ediv_one]
 exact .mk' (.head _) fun p hp => hD p (l1.sub p hp)
theorem n_frof {b : Bool} {v : Value} {x : Int} {nw : Led} (h : Num nw b v x) (hx : -999 ≤ x ∧ x ≤ 999) : CtN 1 (.ref 409) [v] nw fun v n => FrF nw n v x := by
 cases h with
 | i n u =>
  refine code_vc (fun P => by k_is) (fun P => by k_is) rfl (by kernel_rfl) (by kernel_rfl) ?_
  intro c hC
  have hA := hC.toCAny
  exact r_isIS (iteF' (r_isIT (iteF' fun t1 D hD => ⟨.one hD, .mk' (.head _) hD⟩)))
 | d hm =>
  have h02 := ne_b hx
  refine code_vc (fun P => by k_is) (fun P => by k_is) rfl (by kernel_rfl) (by kernel_rfl) ?_
  intro c hC
  have hA := hC.toCAny
  refine r_isTS hm (iteF' (r_isTT hm (iteT' (unpI hm rfl (vst2 fun t1 => iteT h02.1 fun t2 => ⟨rfl, h02.1, ir h02, fun t3 => ⟨nc_b hx, fun t4 t5 D hD => ⟨.one hD, ?_⟩⟩⟩)))))
  rw [(nrmF hx).1.2.2]
  exact .mk' (.head _) hD
theorem n_frtimes {v1 v2 : Value} {x y : Int} {nw : Led} (h1 : FrI nw v1 x) (h2 : FrI nw v2 y) (hx : -999 ≤ x ∧ x ≤ 999) : CtN 3 (.ref 416) [v1, v2] nw fun v n => FrF nw n v (x * y) := by
 obtain ⟨r1, t1, t2, q1, rfl, m1⟩ := h1
 obtain ⟨r2, t3, t4, q2, rfl, m2⟩ := h2
 refine code_vc (fun P => by k_is) (fun P => by k_is) rfl (by kernel_rfl) (by kernel_rfl) ?_
 intro c hC
 have hA := hC.toCAny
 refine fun t5 => subT m1 (by decide) (by decide) rfl fun t6 => subT m2 (by decide) (by decide) rfl ⟨na hx, fun t7 t8 => subT m1 (by decide) (by decide) rfl fun t9 => subT m2 (by decide) (by decide) rfl ⟨by decide, fun t10 => ?_⟩⟩
 exact n_frac.go hA fun v n l h => ⟨l, h⟩
theorem n_frless {v1 v2 : Value} {x y : Int} {nw : Led} (h1 : FrI nw v1 x) (h2 : FrI nw v2 y) (hx : -999 ≤ x ∧ x ≤ 999) (hy : -999 ≤ y ∧ y ≤ 999) : CtN 3 (.ref 423) [v1, v2] nw fun v n => FrF nw n v (x - y) := by
 obtain ⟨r1, t1, t2, q1, rfl, m1⟩ := h1
 obtain ⟨r2, t3, t4, q2, rfl, m2⟩ := h2
 refine code_vc (fun P => by k_is) (fun P => by k_is) rfl (by kernel_rfl) (by kernel_rfl) ?_
 intro c hC
 have hA := hC.toCAny
 refine fun t5 => subT m1 (by decide) (by decide) rfl fun t6 => subT m2 (by decide) (by decide) rfl ⟨na hx, fun t7 t8 => subT m2 (by decide) (by decide) rfl fun t9 => subT m1 (by decide) (by decide) rfl ⟨na hy, fun t10 t11 t12 => ?_⟩⟩
 refine subT m1 (by decide) (by decide) rfl fun t13 => subT m2 (by decide) (by decide) rfl ⟨by decide, fun t14 => ?_⟩
 rw [Int.mul_one, Int.mul_one]
 exact n_frac.go hA fun v n l h => ⟨l, h⟩
theorem n_frby {v1 v2 : Value} {x : Int} {nw : Led} (h1 : FrI nw v1 x) (h2 : FrI nw v2 1) (hx : -999 ≤ x ∧ x ≤ 999) : CtN 3 (.ref 430) [v1, v2] nw fun v n => FrF nw n v x := by
 obtain ⟨r1, t1, t2, q1, rfl, m1⟩ := h1
 obtain ⟨r2, t3, t4, q2, rfl, m2⟩ := h2
 refine code_vc (fun P => by k_is) (fun P => by k_is) rfl (by kernel_rfl) (by kernel_rfl) ?_
 intro c hC
 have hA := hC.toCAny
 refine fun t5 => subT m1 (by decide) (by decide) rfl fun t6 => subT m2 (by decide) (by decide) rfl ⟨na hx, fun t7 t8 => subT m1 (by decide) (by decide) rfl fun t9 => subT m2 (by decide) (by decide) rfl ⟨by decide, fun t10 => ?_⟩⟩
 rw [Int.mul_one]
 exact n_frac.go hA fun v n l h => ⟨l, h⟩
theorem fig1 {b : Int} {f : Nat} (h : FigIs b f) (hb : b ≤ 9) : f = 1 := by
 exact Nat.le_antisymm (fig_le h (Int.lt_of_le_of_lt hb (by decide)) (Nat.le_refl 1)) h.1
theorem ab9 {x b : Int} (hx : -9 ≤ x ∧ x ≤ 9) (h : b = x ∨ b = -x) : b ≤ 9 := h.elim (fun e => e ▸ hx.2) fun e => e ▸ Int.neg_le_neg hx.1
theorem n_dfr {v : Value} {x : Int} {t : Tok} {nw : Led} (h : FrI nw v x) (hx : -9 ≤ x ∧ x ≤ 9) : CtN 4 (.ref 437) [v, .int 9 t] nw fun v n => NumF nw n true v x := by
 obtain ⟨r, t1, t2, q, rfl, m⟩ := h
 have hD : ∀ c, c = x * 10000000000000 → Dec c (-12 - 1) x := fun c hc => by
  by_cases h0 : x = 0
  · exact .inl ⟨h0, by rw [hc, h0]; rfl⟩
  · refine .inr ⟨13, ?_, ?_, ?_, by decide, by decide, by rw [ne_small hx]; rfl⟩ <;> rw [nc_small hx]
    · exact hc
    · exact allI 9 (P := fun x => x ≠ 0 → x % 10 ≠ 0) (by decide +kernel) hx h0
    · exact ib hx
 refine code_vc (fun P => by k_is) (fun P => by k_is) rfl (by kernel_rfl) (by kernel_rfl) ?_
 intro c hC
 have hA := hC.toCAny
 refine unpI m rfl (vst2 fun t3 t4 => figsK (n_figs (by decide) (by decide)) hA fun f1 t5 n1 l1 F1 => ?_)
 refine fun t6 => r_abs1 fun b tb h0 hb => figsK (n_figs h0 (Int.lt_of_le_of_lt (ab9 hx hb) (by decide))) hA fun f2 t7 n2 l2 F2 => ?_
 obtain rfl := fig1 F1 (by decide)
 obtain rfl := fig1 F2 (ab9 hx hb)
 refine fun t8 t9 => ?_
 rw [show (9 : Int) + 3 + ((1 : Nat) : Int) - ((1 : Nat) : Int) = 12 from rfl]
 refine iteF (by decide) (vnil (r_abs1 fun b2 tb2 h02 hb2 t10 => ⟨rfl, by decide, by decide, fun t11 => ⟨na ⟨h02, ab9 hx hb2⟩, fun t12 => ⟨by decide, by decide, fun t13 => r_abs1 fun b3 tb3 h03 hb3 t14 => ⟨rfl, by decide, by decide, fun t15 => ⟨na ⟨h03, ab9 hx hb3⟩, fun t16 => ⟨by decide, fun t17 D hD2 => unpI (.head _) rfl (vst2 ?_)⟩⟩⟩⟩⟩⟩))
 rw [Int.ediv_one, Int.emod_one]
 refine fun t18 => ⟨by decide, fun t19 t20 => iteF (by decide) fun t21 t22 => ?_⟩
 have e12 : (10 : Int) ^ (12 : Int).toNat = 1000000000000 := by decide
 refine e12 ▸ ?_
 refine fun t23 => iteC (fun hn t24 t25 t26 t27 => ?_) fun hn t25 t26 t27 => ?_
 · exact (n_dec (hD _ (by lia))).go hA fun v n4 l4 h4 => ⟨((l1.trans l2).cons hD2).trans l4, h4.le ((l1.trans l2).cons hD2).sub⟩
 · exact (n_dec (hD _ (by lia))).go hA fun v n4 l4 h4 => ⟨((l1.trans l2).cons hD2).trans l4, h4.le ((l1.trans l2).cons hD2).sub⟩
theorem CtG.shr {W : World → Prop} {lev : Nat} {f : Value} {vs : List Value} {nw : Led} {P : Value → Prop} (h : CtG W lev f vs nw fun v n => (∀ p ∈ nw, p ∈ n) ∧ P v) : CtG W lev f vs nw fun v n => n = nw ∧ P v :=
 ⟨fun c al E hw hC q_ g tk st => codeAny_mono (h.o' c al E hw hC (fun hk v n hn p hp => hn.1 p (hk p hp)) g tk st) fun r s' h' => by
  match r with
  | .ok (.ret v) => obtain ⟨h1, tk1, n1, e, st1, sb, k⟩ := h'; exact ⟨h1, tk1, nw, e, ⟨st1.1, fun q hq => st1.2.1 q (sb q hq), st1.2.2.1, st.2.2.2⟩, rfl, k⟩
  | .ok .next => exact h'
  | .ok .brk => exact h'
  | .ok .cont => exact h'
  | .error e => exact h'⟩
inductive FrR (n : Led) (v : Value) (k : Nat) (f : Nat → Int) : Prop
 | pk (a its q : _) : v = .ref a → (a, listOf its q) ∈ n → its.size = k → (∀ j, j < k → E1_2 (fun u => its[j]? = some u) (fun u => FrI n u (f j))) → FrR n v k f
theorem FrR.mono {n n' : Led} {v : Value} {k : Nat} {f : Nat → Int} (h : FrR n v k f) (hs : ∀ p ∈ n, p ∈ n') : FrR n' v k f := by
 obtain ⟨a, its, q, e, m, z, h⟩ := h
 exact ⟨a, its, q, e, hs _ m, z, fun j hj => let ⟨u, e, h⟩ := h j hj; ⟨u, e, h.mono hs⟩⟩
theorem FrR.of {n n' : Led} {D k : Nat} {ys : List Value} {f : Nat → Int} (h : Upto k ys fun j v => FrI n v (f j)) (hD : (D, lst ys) ∈ n') (hs : ∀ p ∈ n, p ∈ n') : FrR n' (.ref D) k f :=
 ⟨D, ys.toArray, _, rfl, hD, by simpa using h.1, fun j hj => ⟨_, by simpa using List.getElem?_eq_getElem (h.1.symm ▸ hj), (h.2 j _ (List.getElem?_eq_getElem (h.1.symm ▸ hj))).mono hs⟩⟩
theorem n_pivot {at' g q r k : Nat} {its : Array Value} {F : NNI} {t : Tok} {nw : Led} (hm : (g, listOf its q) ∈ nw) (hz : its.size = r) (hG : ∀ i, i < r → E1_2 (fun u => its[i]? = some u) (fun u => FrR nw u k (F i))) (hr : at' < r) (hr2 : r ≤ 9) (hk : at' < k) (hk2 : k ≤ 9) (h0 : F at' at' ≠ 0) : Ct 1 (.ref 444) [.ref g, .int at' t] nw fun v n => n = nw ∧ ∃ t, v = .int at' t := by
 refine CtG.shr ?_
 refine code_vc (fun P => by k_is) (fun P => by k_is) rfl (by kernel_rfl) (by kernel_rfl) ?_
 intro c hC
 have hA := hC.toCAny
 refine for_range hC PassesOwn.never rfl (fun q_ => rfl) ?_
 refine r_len hm (by exact ns ‹_› ‹_›) fun t1 => r_rng2 fun D t2 u w hD => ?_
 refine hz ▸ ?_
 have l1 := Le.one (o := rngO at' r 1 t2 u w) hD
 refine ⟨D, at', r, t2, u, w, r - at', [], _, _, rfl, rfl, .head _, by lia, by lia, loop0 (fun i al tl => i = 0 ∧ al = hC.al [.ref g, .int at' t]) ⟨rfl, rfl⟩ ?_ ?_⟩
 · rintro i vs al tl led hi ⟨t3, rfl⟩ ⟨rfl, rfl⟩ sub
   obtain ⟨u1, e1, a, its1, q1, rfl, m1, z1, h1⟩ := hG at' hr
   obtain ⟨u2, e2, b, t4, t5, q2, rfl, m2⟩ := h1 at' hk
   have s1 : ∀ p ∈ nw, p ∈ led := fun p hp => sub p (jR _ (.tail _ hp))
   refine vst1 (subL (s1 _ hm) (by exact Int.natCast_nonneg _) (by lia) (by simpa using e1) (subL (s1 _ m1) (by exact Int.natCast_nonneg _) (by lia) (by simpa using e2) fun t6 => subT (s1 _ m2) (by decide) (by decide) rfl fun t7 => iteT h0 ?_))
   exact ⟨s1, t3, rfl⟩
 · rintro al' tl ab ⟨h, q_⟩
   lia
theorem n_clear {v1 v2 v3 : Value} {k : Nat} {f g : Nat → Int} {x : Int} {nw : Led} (h1 : FrR nw v1 k f) (h2 : FrR nw v2 k g) (h3 : FrI nw v3 x) (hk : k ≤ 9) (hx : -9 ≤ x ∧ x ≤ 9) (hf : ∀ j, j < k → -9 ≤ f j ∧ f j ≤ 9) (hg : ∀ j, j < k → -9 ≤ g j ∧ g j ≤ 9) : Ct 4 (.ref 449) [v1, v2, v3] nw fun v n => E1_3 (fun t => n = t ++ nw) (fun t => Abv nw t) (fun t => FrR t v k fun j => f j - x * g j) := by
 obtain ⟨a, its, q, rfl, m1, z1, h1⟩ := h1
 obtain ⟨b, its2, q2, rfl, m2, z2, h2⟩ := h2
 refine code_vc1 (W := AnyW) (fun P => by k_is) (fun P => by k_is) rfl (by kernel_rfl) (by kernel_rfl) (hown := fun q_ => rfl) (v1 := some (v3)) (hv1 := rfl) ?_
 intro c o1 q_ hC d1 hL
 have hA := hC.toCAny
 have q1 : c.cl.lookup (Str.ofString "factor") = some (c.L + 1) := by rw [hC.clq]; rfl
 have l0 := le1 (o1 := o1) hL
 refine lc2 (b := false) (own := fun q_ => []) (fz := [(Str.ofString "factor", c.L + 1, v3)]) hA ⟨by obtain ⟨_, _, _, _, e⟩ := hC.en; rw [e]; with_unfolding_all rfl, rfl, by decide, fun q_ => rfl, fun q_ => ownOk_nil, fun q_ => by kernel_rfl, fun q_ => rfl⟩ (by decide) (by rw [hC.ns]; rfl) rfl ?_
 rw [hC.ns, hC.fr]
 refine ⟨a, b, its, its2, q, q2, [], _, _, rfl, rfl, l0.sub _ m1, l0.sub _ m2, comp0 (fun i ys tl => Upto i ys fun j v => FrI tl v (f j - x * g j)) (by lia) (hC.noK _) ⟨⟨o1, .head _, d1⟩, trivial⟩ Upto.zero ?_ ?_⟩
 · rintro i vs ys tl led C keep hi ⟨u, v, hu, hv, rfl⟩ hJ ab sub hk1 hcl hA'
   obtain ⟨u', e1, hI⟩ := h1 i (by exact mk2 ‹_› ‹_›)
   obtain rfl := Option.some.inj (hu.symm.trans e1)
   obtain ⟨v', e2, hI2⟩ := h2 i (by exact mk2 ‹_› ‹_›)
   obtain rfl := Option.some.inj (hv.symm.trans e2)
   have s1 : ∀ p ∈ nw, p ∈ led := fun p hp => sub p (jR _ (l0.sub p hp))
   have bf := hf i (by exact mk2 ‹_› ‹_›)
   have bg := hg i (by exact mk2 ‹_› ‹_›)
   have bm := mul81 hx bg
   refine (n_frtimes (h3.mono s1) (hI2.mono s1) (by exact ib ‹_›)).go hA' fun w n1 l1 hw => ?_
   refine (n_frless ((hI.mono s1).mono l1.sub) hw.fr (by exact ib ‹_›) (by exact ib ‹_›)).go hA' fun z n2 l2 hz => ?_
   replace hz := hz.le l1.sub
   obtain ⟨t, rfl, ab2⟩ := l1.trans l2
   exact ce0 t rfl ab2 (hJ.snoc (fun q_ q_ h => h.mono fun p hp => jR _ hp) (hz.new.mono fun p hp => jL _ hp))
 · intro D4 ys tl ab hJ
   rw [z1, z2, Nat.min_self] at hJ
   exact ⟨(D4, lst ys) :: tl ++ [(c.L + 1, o1)], by simp [cl1], Abv.mid (cs := [(c.L + 1, o1)]) ab (Abv.cons (fun p hp => Nat.lt_succ_of_lt (hL p hp)) Abv.nil), .of hJ (.head _) fun p hp => .tail _ (jL _ hp)⟩
end Mine
namespace Mine
open LCg
noncomputable def aug (k : Int) (i j : Nat) : Int := if i = 0 then (if j = 1 then k else if j = 3 then 0 else 1) else (if j = 1 ∨ j = 3 then 1 else 0)
noncomputable def aug2 (k : Int) (i j : Nat) : Int := if i = 0 then (if j = 0 ∨ j = 2 then 1 else if j = 1 then 0 else -k) else (if j = 1 ∨ j = 3 then 1 else 0)
noncomputable def St (k : Int) (a o : Nat) : NNI := if (a = 1 ∧ 1 ≤ o) ∨ 2 ≤ a then aug2 k else aug k
theorem St.step {k : Int} {a o i j : Nat} (ha : a < 2) (ho : o < 2) (hi : i < 2) (hj : j < 4) : St k a (o + 1) i j = if i = o ∧ o ≠ a ∧ St k a o o a ≠ 0 then St k a o o j - St k a o o a * St k a o a j else St k a o i j := by
 match a, o, i, j, ha, ho, hi, hj with
 | 0, 0, _, _, _, _, _, _ => exact (if_neg fun e => e.2.1 rfl).symm
 | 1, 1, _, _, _, _, _, _ => exact (if_neg fun e => e.2.1 rfl).symm
 | 0, 1, i, j, _, _, hi, hj => exact (if_neg fun e => e.2.2 rfl).symm
 | 1, 0, 1, _, _, _, _, hj => exact (if_neg fun e => nomatch e.1).symm
 | 1, 0, 0, j, _, _, _, hj =>
  by_cases hk : k = 0
  · subst hk
    refine Eq.trans ?_ (if_neg fun e => e.2.2 rfl).symm
    match j, hj with
    | 0, _ => rfl
    | 1, _ => rfl
    | 2, _ => rfl
    | 3, _ => rfl
  · refine Eq.trans ?_ (if_pos ⟨rfl, fun e => (nomatch e), hk⟩).symm
    match j, hj with
    | 0, _ => show (1 : Int) = 1 - k * 0; rw [Int.mul_zero]; rfl
    | 1, _ => show (0 : Int) = k - k * 1; rw [Int.mul_one, Int.sub_self]
    | 2, _ => show (1 : Int) = 1 - k * 0; rw [Int.mul_zero]; rfl
    | 3, _ => show -k = 0 - k * 1; rw [Int.mul_one, Int.zero_sub]
theorem St.bd {k : Int} {a o i j : Nat} (hk : -3 ≤ k ∧ k ≤ 3) : -9 ≤ St k a o i j ∧ St k a o i j ≤ 9 := by
 unfold St
 split
 · unfold aug2; repeat' split
   all_goals first | exact (by decide) | exact nb9 hk
 · unfold aug; repeat' split
   all_goals first | exact (by decide) | exact ib hk
theorem St.piv {k : Int} {a : Nat} (ha : a < 2) : St k a 0 a a = 1 := by
 have e1 := o2 ha
 rcases e1 with rfl | rfl <;> rfl
theorem St.next {k : Int} {a : Nat} (ha : a < 2) : St k a 2 = St k (a + 1) 0 := by
 have e1 := o2 ha
 rcases e1 with rfl | rfl <;> rfl
noncomputable def SvR (n : Led) (its : Array Value) (S : NNI) : Prop := its.size = 2 ∧ ∀ i, i < 2 → E1_2 (fun u => its[i]? = some u) (fun u => FrR n u 4 (S i))
theorem SvR.mono {n n' : Led} {its : Array Value} {S : NNI} (h : SvR n its S) (hs : ∀ p ∈ n, p ∈ n') : SvR n' its S := ⟨h.1, fun i hi => let ⟨u, e, k⟩ := h.2 i hi; ⟨u, e, k.mono hs⟩⟩
theorem FrR.congr {n : Led} {v : Value} {k : Nat} {f g : Nat → Int} (h : FrR n v k f) (e : ∀ j, j < k → f j = g j) : FrR n v k g := by
 obtain ⟨a, its, q, e0, m, z, h⟩ := h
 exact ⟨a, its, q, e0, m, z, fun j hj => let ⟨u, e1, h⟩ := h j hj; ⟨u, e1, e j hj ▸ h⟩⟩
theorem SvR.congr {n : Led} {its : Array Value} {S S' : NNI} (h : SvR n its S) (e : ∀ i j, i < 2 → j < 4 → S i j = S' i j) : SvR n its S' := ⟨h.1, fun i hi => let ⟨u, e1, k⟩ := h.2 i hi; ⟨u, e1, k.congr fun j hj => e i j hi hj⟩⟩
theorem SvR.set {n : Led} {its : Array Value} {S S' : NNI} {o : Nat} {v : Value} (h : SvR n its S) (hv : FrR n v 4 (S' o)) (e : ∀ i j, i < 2 → j < 4 → i ≠ o → S i j = S' i j) : SvR n (its.setIfInBounds o v) S' := by
 refine ⟨by rw [Array.size_setIfInBounds]; exact h.1, fun i hi => ?_⟩
 by_cases q : i = o
 · subst q
   exact ⟨v, Array.getElem?_setIfInBounds_self_of_lt (by rw [h.1]; exact hi), hv⟩
 · obtain ⟨u, e1, k⟩ := h.2 i hi
   exact ⟨u, by rw [Array.getElem?_setIfInBounds_ne (fun e => q e.symm)]; exact e1, k.congr fun j hj => e i j hi hj q⟩
inductive RangeS (E : VSP) (names : NKs) (body : List Stmt) (is : List Slot1) (c : Cx) (KR : VAP) (al : Al) (Kn : ALP) (v : Value) (n1 : Led) : Prop
 | pk (r : Addr) (t u w : Tok) (n : Nat) (mu news : Led) (J : LJ) : v = .ref r → (∀ p ∈ mu ++ news, p ∈ n1) → (r, rngO 0 n 1 t u w) ∈ news → n ≤ 1000 → Loop E names body is c KR n (fun i vs => ∃ t, vs = [.int i t]) mu news al Kn J → RangeS E names body is c KR al Kn v n1
theorem for_rangeS {lev : Nat} {c : Cx} {names : NKs} {cl : SAs} {KR : VAP} {E : VSP} {al : Al} {nw : Led} {Kn : ALP} {body : List Stmt} {ix : Slot1} {x : Str} {px pos : Pos} {iter : PySem.Expr} (hC : CIn lev names c cl) (hO : PassesOwn (model PG c.w) c.A c.env E) (hx : slotOf names x = some ix) (hs : ∀ x, foldedSetIterable iter c.env x = pure x)
 (h : vcE E glT names 60 false iter [] c al nw fun v n1 => RangeS E names body [ix] c KR al Kn v n1) :
 RawC E c KR (exec (.For (.Name x px) iter body [] pos) c.env) al nw Kn := by
 intro h1 tk1 st1
 refine For_turns (s := c.at h1 tk1) (hC.lo ▸ st1.1) (RawS.seq (hC.ev h) (fun v n1 h tk k st => ?_) h1 tk1 st1) hs hO
 obtain ⟨r, t, u, w, n, mu, news, J, rfl, sub, hm, hsz, Z⟩ := k
 replace st : c.st al (mu ++ news) h := ⟨st.1, fun p hp => st.2.1 p (sub p hp), st.2.2.1, fun p hp => by rw [hC.kp] at hp; cases hp⟩
 refine fsrc_range (s := c.at h tk) (n := n) J (st.2.1 _ (jR _ hm)).1 (rngS (Int.zero_add _) (z0 hsz)).1 (rngS (Int.zero_add _) (z0 hsz)).2 hC.hn hC.lo (hC.fm ▸ st.1) st.2.1 Z.mo rfl (hC.ns ▸ st.2.2.1) Z.h0 (fun s₂ hs => fturn1 hC hO hx (fun i v q_ e => by obtain ⟨t, rfl⟩ := e; exact ⟨t, by rw [Int.mul_one, Int.zero_add]⟩) Z.turn hs)
  fun s₂ hs h' tk' al' mu' tl F ha N ab hmu hJ => by
   obtain ⟨g, rfl⟩ := hs
   exact EndS.next (hC.stL F ha N) (Z.fin al' mu' tl ab hmu hJ)
theorem r_isN {c : Cx} {E : VSP} {al : Al} {nw : Led} {K : VLP} {x : Int} {t : Tok} (h : K (.bool false) nw) : RawS E c (compareOp .Is (.int x t) .none) al nw K := fun g tk st => wpAny_is_plain rfl ⟨g, tk, nw, rfl, st, h⟩
noncomputable def SolJ (mk : Option Value → Al) (D : Addr) (q : Nat) (bs : Led) (S : Nat → NNI) : LJ := fun o al mu tl => E2_3 (fun its x => mu = [(D, listOf its q)]) (fun its x => al = mk x) (fun its x => SvR (tl ++ bs) its (S o))
inductive SolP (k : Int) (nw : Led) (v : Value) (n : Led) : Prop
 | pk (T D its q told q2 : _) : v = .ref T → (T, tup [.ref D, told] q2) ∈ n → (D, listOf its q) ∈ n → SvR n its (aug2 k) → FrI n told 1 → SolP k nw v n
theorem n_solve {k : Int} {g : Addr} {its : Array Value} {q : Nat} {nw : Led} (hk : -3 ≤ k ∧ k ≤ 3) (hm : (g, listOf its q) ∈ nw) (hS : SvR nw its (aug k)) : CtN 5 (.ref 454) [.ref g] nw (SolP k nw) := by
 refine code_vc1 (W := AnyW) (fun P => by k_is) (fun P => by k_is) rfl (by kernel_rfl) (by kernel_rfl) (hown := fun q_ => rfl) (v1 := none) (hv1 := rfl) ?_
 intro c o1 q_ hC d1 hL
 have hA := hC.toCAny
 have q1 : c.cl.lookup (Str.ofString "pivot") = some (c.L + 1) := by rw [hC.clq]; rfl
 intro t1 t2 D hD
 have l1 : Le nw _ := (le1 (o1 := o1) hL).cons (o := tup [.int 1 t1, .int 1 t2] 0) hD
 refine r_len (l1.sub _ hm) (by rw [hS.1]; decide) fun t3 => ?_
 refine hS.1 ▸ ?_
 intro D2 hD2
 have l2 := l1.cons (o := tup [.ref D, .int ((2 : Nat) : Int) t3] 0) hD2
 refine unpI (.head _) rfl (vst2 ?_)
 refine r_listOf (l2.sub _ hm) (by rw [hS.1]; decide) fun D3 q3 hD3 => ?_
 have l3 := l2.cons (o := listOf its.toList.toArray q3) hD3
 refine vst1 ?_
 refine for_rangeS hC PassesOwn.never rfl (fun q_ => rfl) (r_rng1 fun D4 t4 u w hD4 => ?_)
 have hD34 : D3 < D4 := hD4 _ (.head _)
 have hLD : c.L + 1 < D3 := hD3 _ (.tail _ (.tail _ (.head _)))
 obtain ⟨bs, hbs⟩ : ∃ bs, bs = (D4, rngO 0 2 1 t4 u w) :: (D, tup [.int 1 t1, .int 1 t2] 0) :: nw := ⟨_, rfl⟩
 have sbs : ∀ p ∈ nw, p ∈ bs := fun p hp => by rw [hbs]; exact .tail _ (.tail _ hp)
 refine ⟨D4, t4, u, w, 2, [(c.L + 1, o1), (D3, listOf its.toList.toArray q3)], bs, fun a al mu tl => E7_5 (fun o v its told x1 x2 x3 => o.data = .cell v) (fun o v its told x1 x2 x3 => mu = [(c.L + 1, o), (D3, listOf its q3)]) (fun o v its told x1 x2 x3 => al = hC.alo [some (.ref D3), some told, some (.int 2 t3), x1, x2, none, x3]) (fun o v its told x1 x2 x3 => FrI (tl ++ bs) told 1) (fun o v its told x1 x2 x3 => SvR (tl ++ bs) its (St k a 0)), rfl, ?_, by rw [hbs]; exact .head _, by decide, ⟨?_, ⟨o1, _, _, _, _, _, _, d1, rfl, rfl, ⟨_, _, _, _, rfl, by rw [hbs]; exact .tail _ (.head _)⟩, hS.mono sbs⟩, ?_, ?_⟩⟩
 · intro p hp
   rw [hbs] at hp
   revert p; refine fmc ?_ fun p hp => ?_
   · exact .tail _ (.tail _ (.tail _ (.tail _ (.head _))))
   · revert p; refine fmc ?_ fun p hp => ?_
     · exact .tail _ (.head _)
     · revert p; refine fmc ?_ fun p hp => ?_
       · exact .head _
       · revert p; refine fmc ?_ fun p hp => ?_
         · exact .tail _ (.tail _ (.tail _ (.head _)))
         · exact .tail _ (.tail _ (.tail _ (.tail _ (.tail _ hp))))
 · intro p hp h
   have hx : p.1 = c.L + 1 ∨ p.1 = D3 := by
    rcases jX h with e | h
    · exact .inl e
    · exact .inr (jO h)
   have h5 : c.L + 1 < D := hD _ (.head _)
   have h6 : D < D3 := hD3 _ (.tail _ (.head _))
   rw [hbs] at hp
   rcases jX hp with rfl | hp
   · rcases hx with e | e
     · exact absurd e (Nat.ne_of_gt (Nat.lt_trans hLD hD34))
     · exact absurd e (Nat.ne_of_gt hD34)
   · rcases jX hp with rfl | hp
     · rcases hx with e | e
       · exact absurd e (Nat.ne_of_gt h5)
       · exact absurd e (Nat.ne_of_lt h6)
     · have := Nat.lt_succ_of_lt (hL p hp)
       rcases hx with e | e
       · exact absurd this (by rw [e]; exact Nat.lt_irrefl _)
       · exact absurd (Nat.lt_trans this hLD) (by rw [e]; exact Nat.lt_irrefl _)
 · rintro a vs al mu tl led ha ⟨t5, rfl⟩ ⟨o, v, its, told, x1, x2, x3, od, rfl, rfl, hT, hR⟩ ab hmu sub off
   have off1 : ∀ p ∈ led, p.1 ≠ c.L + 1 := fun p hp e => off p hp (by rw [e]; exact .head _)
   have off2 : ∀ p ∈ led, p.1 ≠ D3 := fun p hp e => off p hp (by rw [e]; exact .tail _ (.head _))
   replace hT := hT.mono sub
   have hRb := hR
   replace hR := hR.mono sub
   have s0 : ∀ p ∈ led, p ∈ [(c.L + 1, o), (D3, listOf its q3)] ++ led := fun p hp => .tail _ (.tail _ hp)
   have hR0 := hR.mono s0
   refine vst1 ((n_pivot (.tail _ (.head _)) hR.1 hR0.2 ha (by decide) (by exact nt ‹_›) (by decide) (by rw [St.piv ha]; decide)).goF trivial hC fun w n z1 => ?_)
   obtain ⟨e1, t6, e2⟩ := z1
   subst e1 e2
   refine vst1 (r_isN (iteF' (vnil (iteF (fun h => h rfl) (vnil ?_)))))
   obtain ⟨u1, f1, R1⟩ := hR.2 a ha
   obtain ⟨a1, its1, q4, rfl, m1, z1, R2⟩ := id R1
   obtain ⟨pv, f2, P1⟩ := R2 a (by exact nt ‹_›)
   rw [St.piv ha] at P1
   refine subL (.tail _ (.head _)) (by exact Int.natCast_nonneg _) (by exact zi ‹_›) (by simpa using f1) (subL (s0 _ m1) (by exact Int.natCast_nonneg _) (by exact zi ‹_›) (by simpa using f2) ⟨_, o, v, q1, .head _, od, fun o' od' => ?_⟩)
   have es : setAt ((c.L + 1, o) :: (D3, listOf its q3) :: List.append [] led) (c.L + 1) o' = [(c.L + 1, o'), (D3, listOf its q3)] ++ led := by
    show setAt ((c.L + 1, o) :: (D3, listOf its q3) :: led) _ _ = _
    rw [setAt_cons, setAt_ne (Nat.ne_of_gt hLD), setAt_id off1]; rfl
   refine es ▸ ?_
   have s1 : ∀ p ∈ led, p ∈ [(c.L + 1, o'), (D3, listOf its q3)] ++ led := fun p hp => .tail _ (.tail _ hp)
   refine ⟨_, o', _, q1, .head _, od', (n_frtimes (hT.mono s1) (P1.mono s1) (by decide)).go hA fun told2 n1 l1 hT2 => vst1 ?_⟩
   refine asgI hC rfl ?_
   obtain ⟨tl1, rfl, ab1⟩ := l1
   have T2 : FrI tl1 told2 1 := hT2.new
   have s2 : ∀ p ∈ [(c.L + 1, o'), (D3, listOf its q3)] ++ led, p ∈ tl1 ++ ([(c.L + 1, o'), (D3, listOf its q3)] ++ led) := fun p hp => jR _ hp
   have mc1 := s2 _ (.head _)
   have mD1 := s2 _ (.tail _ (.head _))
   refine lc1 (b := false) (own := fun q_ => []) (fz := [(Str.ofString "pivot", c.L + 1, pv)]) hA ⟨by obtain ⟨_, _, _, _, e⟩ := hC.en; rw [e]; with_unfolding_all rfl, rfl, by decide, fun q_ => rfl, fun q_ => ownOk_nil, fun q_ => by kernel_rfl, fun q_ => rfl⟩ ?_
   refine vcN hC.ns hC.fr ?_
   refine subL mD1 (by exact Int.natCast_nonneg _) (by exact zi ‹_›) (by simpa using f1) (src1L (mu := []) (s2 _ (s1 _ m1)) (comp0 (fun i ys tl2 => Upto i ys fun j v => FrI tl2 v (St k a 0 a j)) (by lia) (hC.noK _) ⟨⟨o', mc1, od'⟩, trivial⟩ Upto.zero ?_ ?_))
   · rintro i vs ys tl2 led2 C keep hi ⟨u, hu, rfl⟩ hJ ab2 sub2 hk1 hcl hA'
     obtain ⟨u', e1, hI⟩ := R2 i (by exact sz ‹_› ‹_›)
     obtain rfl := Option.some.inj (hu.symm.trans e1)
     have s3 : ∀ p ∈ led, p ∈ led2 := fun p hp => sub2 p (jR _ (s2 p (s1 p hp)))
     have bd := St.bd (k := k) (a := a) (o := 0) (i := a) (j := i) hk
     refine (n_frby (hI.mono s3) (P1.mono s3) (by exact ib ‹_›)).go hA' fun z n2 l2 hz => ?_
     obtain ⟨t, rfl, ab2⟩ := l2
     exact ce0 t rfl ab2 (hJ.snoc (fun q_ q_ h => h.mono fun p hp => jR _ hp) (hz.new.mono fun p hp => jL _ hp))
   intro D5 ys tl5 ab5 hJ5
   rw [z1] at hJ5
   have hR5 : FrR ((D5, lst ys) :: (tl5 ++ tl1)) (.ref D5) 4 (St k a 0 a) := .of hJ5 (.head _) fun p hp => .tail _ (jL _ hp)
   replace T2 : FrI ((D5, lst ys) :: (tl5 ++ tl1)) told2 1 := T2.mono fun p hp => .tail _ (jR _ hp)
   have abt : Abv ([(c.L + 1, o'), (D3, listOf its q3)] ++ led) ((D5, lst ys) :: (tl5 ++ tl1)) := ab5.mid ab1
   have en : (D5, lst ys) :: (tl5 ++ List.append tl1 ([(c.L + 1, o'), (D3, listOf its q3)] ++ led)) = ((D5, lst ys) :: (tl5 ++ tl1)) ++ ([(c.L + 1, o'), (D3, listOf its q3)] ++ led) := by simp
   refine en ▸ ?_
   generalize (D5, lst ys) :: (tl5 ++ tl1) = tt at hR5 T2 abt ⊢
   have mem3 : ∀ p ∈ tt ++ ((c.L + 1, o') :: led), p ∈ tt ++ ([(c.L + 1, o'), (D3, listOf its q3)] ++ led) := fun p hp => by
    revert p; refine fma (fun p hp => ?_) fun p hp => ?_
    · exact jL _ hp
    · revert p; refine fmc ?_ fun p hp => ?_
      · exact jR _ (.head _)
      · exact jR _ (.tail _ (.tail _ hp))
   have ne3 : ∀ p ∈ tt ++ ((c.L + 1, o') :: led), p.1 ≠ D3 := fun p hp => by
    revert p; refine fma (fun p hp => ?_) fun p hp => ?_
    · exact Nat.ne_of_gt (abt p hp (D3, listOf its q3) (.tail _ (.head _)))
    · revert p; refine fmc ?_ fun p hp => ?_
      · exact Nat.ne_of_lt hLD
      · exact off2 p hp
   refine setL' (jR _ (.tail _ (.head _))) (by exact Int.natCast_nonneg _) (by rw [hR.1]; lia) (by exact zi ‹_›) hC.kp ?_
   refine for_rangeS hC PassesOwn.never rfl (fun q_ => rfl) (r_rng1 fun D6 t7 u2 w2 hD6 => ?_)
   have h36 : D3 < D6 := hD6 _ (.head _)
   refine ⟨D6, t7, u2, w2, 2, [(D3, listOf (its.setIfInBounds a (.ref D5)) q3)], (D6, rngO 0 2 1 t7 u2 w2) :: (tt ++ ((c.L + 1, o') :: led)), SolJ (fun x => hC.alo [some (.ref D3), some told2, some (.int 2 t3), some (.int a t5), some (.int a t6), none, x]) D3 q3 (tt ++ (tl ++ bs)) (St k a), rfl, fun p hp => ?_, .head _, by decide, ⟨fun p hp h => ?_, ⟨_, x3, rfl, rfl, ((hRb.mono fun p hp => ?_).set (hR5.mono fun p hp => ?_) fun q_ q_ q_ q_ q_ => rfl)⟩, ?_, ?_⟩⟩
   · revert p; refine fmc ?_ fun p hp => ?_
     · exact .tail _ (.head _)
     · revert p; refine fmc ?_ fun p hp => ?_
       · exact .head _
       · exact .tail _ (putO_ne (mem3 p hp) (ne3 p hp))
   · have h : p.1 = D3 := jO h
     rcases jX hp with rfl | hp
     · exact absurd h (Nat.ne_of_gt h36)
     · exact ne3 p hp h
   · exact jR tt hp
   · exact jL (tl ++ bs) hp
   · rintro o vs al mu tl2 led2 ho ⟨t8, rfl⟩ ⟨its3, x4, rfl, rfl, hR3⟩ ab2 hmu2 sub2 off3
     have hR4 : SvR led2 its3 (St k a o) := hR3.mono fun p hp => by
      revert p; refine fma (fun p hp => ?_) fun p hp => ?_
      · exact sub2 p (jL _ hp)
      · revert p; refine fma (fun p hp => ?_) fun p hp => ?_
        · exact sub2 p (jR _ (.tail _ (jL _ hp)))
        · exact sub2 p (jR _ (.tail _ (jR _ (.tail _ (sub p hp)))))
     have off4 : ∀ p ∈ led2, p.1 ≠ D3 := fun p hp e => off3 p hp (by rw [e]; exact .head _)
     have s4 : ∀ p ∈ led2, p ∈ [(D3, listOf its3 q3)] ++ led2 := fun p hp => .tail _ hp
     have step := fun i j (hi : i < 2) (hj : j < 4) => St.step (k := k) ha ho hi hj
     have stay : ¬ (o ≠ a ∧ St k a o o a ≠ 0) → TEnd [D3] [(D3, listOf its3 q3)] led2 (SolJ (fun x => hC.alo [some (.ref D3), some told2, some (.int 2 t3), some (.int a t5), some (.int a t6), none, x]) D3 q3 (tt ++ (tl ++ bs)) (St k a)) o tl2 (hC.alo [some (.ref D3), some told2, some (.int 2 t3), some (.int a t5), some (.int a t6), none, some (.int o t8)]) ([(D3, listOf its3 q3)] ++ led2) := fun e =>
      ⟨_, [], fun p hp => hp, Abv.nil, rfl, its3, _, rfl, rfl, hR3.congr fun i j hi hj => by rw [step i j hi hj, if_neg fun q => e q.2]⟩
     refine vst1 (iteC (fun hoa => ?_) fun hoa => iteF' (vnil (stay fun e => hoa fun q => e.1 (Int.ofNat_inj.mp q))))
     obtain ⟨v1, g1, Q1⟩ := hR4.2 o ho
     obtain ⟨b1, its4, q5, rfl, m4, z4, Q2⟩ := id Q1
     obtain ⟨v2, g2, Q3⟩ := Q2 a (by exact nt ‹_›)
     obtain ⟨r2, t9, t10, q6, rfl, m5⟩ := id Q3
     refine subL (.head _) (by exact Int.natCast_nonneg _) (by exact zi ‹_›) (by simpa using g1) (subL (s4 _ m4) (by exact Int.natCast_nonneg _) (by exact zi ‹_›) (by simpa using g2) fun t11 => subT (s4 _ m5) (by decide) (by decide) rfl fun t12 => iteC (fun h0 => ?_) fun h0 => vnil (stay fun e => h0 e.2))
     obtain ⟨v5, g5, Q5⟩ := hR4.2 a ha
     obtain ⟨b5, its5, q7, rfl, m6, z6, Q6⟩ := id Q5
     refine asgI hC rfl (subL (.head _) (by exact Int.natCast_nonneg _) (by exact zi ‹_›) (by simpa using g1) (subL (.head _) (by exact Int.natCast_nonneg _) (by exact zi ‹_›) (by simpa using g5) (subL (.head _) (by exact Int.natCast_nonneg _) (by exact zi ‹_›) (by simpa using g1) (subL (s4 _ m4) (by exact Int.natCast_nonneg _) (by exact zi ‹_›) (by simpa using g2) ?_))))
     refine (n_clear (Q1.mono s4) (Q5.mono s4) (Q3.mono s4) (by decide) (St.bd hk) (fun j q_ => St.bd hk) fun j q_ => St.bd hk).goF trivial hC fun w n2 z2 => ?_
     obtain ⟨t9', e, ab9, hR9⟩ := z2
     subst e
     refine setL' (jR _ (.head _)) (by exact Int.natCast_nonneg _) (by rw [hR4.1]; lia) (by exact zi ‹_›) hC.kp (vnil ?_)
     refine ⟨[(D3, listOf (its3.setIfInBounds o w) q3)], t9', fun p hp => ?_, ab9, rfl, _, some (.int o t8), rfl, rfl, ?_⟩
     · revert p; refine fmc ?_ fun p hp => ?_
       · exact .head _
       · replace hp : p ∈ t9' ++ led2 := hp
         revert p; refine fma (fun p hp => ?_) fun p hp => ?_
         · exact putO_ne (jL _ hp) (Nat.ne_of_gt (ab9 p hp _ (.head _)))
         · exact putO_ne (jR _ (.tail _ hp)) (off4 p hp)
     · refine SvR.set (S := St k a o) (hR3.mono fun p hp => ?_) ((hR9.mono fun p hp => ?_).congr fun j hj => ?_) fun i j hi hj ne => ?_
       · rw [List.append_assoc]; exact jR _ hp
       · rw [List.append_assoc]; exact jL _ hp
       · rw [step o j ho hj, if_pos ⟨rfl, fun e => hoa (by rw [e]), h0⟩]
       · rw [step i j hi hj, if_neg fun e => ne e.1]
   · rintro al' mu' tl2 ab2 hmu2 ⟨its3, x4, rfl, rfl, hR3⟩
     refine ⟨[(c.L + 1, o'), (D3, listOf its3 q3)], tl2 ++ (D6, rngO 0 2 1 t7 u2 w2) :: tt, fun p hp => ?_, ?_, rfl, o', _, its3, told2, _, _, _, od', rfl, rfl, ?_, ?_⟩
     · revert p; refine fmc ?_ fun p hp => ?_
       · exact jR _ (jR _ (.tail _ (jR _ (.head _))))
       · revert p; refine fmc ?_ fun p hp => ?_
         · exact .head _
         · replace hp : p ∈ (tl2 ++ (D6, rngO 0 2 1 t7 u2 w2) :: tt) ++ led := hp
           rw [List.append_assoc] at hp
           refine jR _ ?_
           revert p; refine fma (fun p hp => ?_) fun p hp => ?_
           · exact jL _ hp
           · refine jR _ ?_
             revert p; refine fmc ?_ fun p hp => ?_
             · exact .head _
             · revert p; refine fma (fun p hp => ?_) fun p hp => ?_
               · exact .tail _ (jL _ hp)
               · exact .tail _ (jR _ (.tail _ hp))
     · have l6 : ∀ p ∈ [(c.L + 1, o), (D3, listOf its q3)] ++ led, p.1 < D6 := fun p hp => by
        revert p; refine fmc ?_ fun p hp => ?_
        · exact Nat.lt_trans hLD h36
        · revert p; refine fmc ?_ fun p hp => ?_
          · exact h36
          · exact hD6 p (putO_ne (jR _ (.tail _ (.tail _ hp))) (off2 p hp))
       intro z hz p hp
       revert z; refine fma (fun z hz => ?_) fun z hz => ?_
       · exact Nat.lt_trans (l6 p hp) (ab2 z hz _ (.head _))
       · revert z; refine fmc ?_ fun z hz => ?_
         · exact l6 p hp
         · revert p; refine fmc ?_ fun p hp => ?_
           · exact abt z hz (c.L + 1, o') (.head _)
           · exact abt z hz p (.tail _ hp)
     · refine T2.mono fun p hp => ?_
       rw [List.append_assoc, List.append_assoc]
       exact jR _ (.tail _ (jL _ hp))
     · refine (St.next ha) ▸ ?_
       refine hR3.mono fun p hp => ?_
       rw [List.append_assoc, List.append_assoc]
       revert p; refine fma (fun p hp => ?_) fun p hp => ?_
       · exact jL _ hp
       · exact jR _ (.tail _ hp)
 · rintro al' mu' tl ab hmu ⟨o, v, its, told, x1, x2, x3, od, rfl, rfl, hT, hR⟩ D7 hD7
   refine ⟨⟨(D7, tup [.ref D3, told] 0) :: (c.L + 1, o) :: (D3, listOf its q3) :: (tl ++ [(D4, rngO 0 2 1 t4 u w), (D, tup [.int 1 t1, .int 1 t2] 0)]), by rw [hbs]; simp, ?_⟩, D7, D3, its, q3, told, 0, rfl, .head _, .tail _ (.tail _ (.head _)), hR.mono fun p hp => .tail _ (.tail _ (.tail _ hp)), hT.mono fun p hp => .tail _ (.tail _ (.tail _ hp))⟩
   refine Abv.cons (fun p hp => hD7 p (.tail _ (.tail _ (show p ∈ tl ++ bs from jR _ (sbs p hp))))) (Abv.cons (fun p hp => Nat.lt_succ_of_lt (hL p hp)) (Abv.cons (fun p hp => hD3 p (l2.sub p hp)) fun z hz p hp => ?_))
   revert z; refine fma (fun z hz => ?_) fun z hz => ?_
   · exact ab z hz p (sbs p hp)
   · revert z; refine fmc ?_ fun z hz => ?_
     · exact hD4 p (l3.sub p hp)
     · rw [jO hz]
       exact hD p (.tail _ hp)
end Mine
namespace Mine
open LCg
theorem FrI.mk {n : Led} {x : Int} {r : Addr} {t1 t2 : Tok} {q : Nat} (m : (r, tup [.int x t1, .int 1 t2] q) ∈ n) : FrI n (.ref r) x := ⟨r, t1, t2, q, rfl, m⟩
theorem r_addL {c : Cx} {E : VSP} {al : Al} {nw : Led} {K : VLP} {a b : Addr} {its its2 : Array Value} {q q2 : Nat} (h1 : (a, listOf its q) ∈ nw) (h2 : (b, listOf its2 q2) ∈ nw) (hz : its.size + its2.size ≤ 1000) (h : ∀ D, (∀ p ∈ nw, p.1 < D) → K (.ref D) ((D, listOf (its.toList ++ its2.toList).toArray 0) :: nw)) : RawS E c (binaryOp .Add (.ref a) (.ref b)) al nw K := fun g tk st =>
 kmk_add_lit (s := c.at g tk) st.1 st.2.1 (st.2.1.isList h1) (st.2.1.isList h2) rfl (fun D h' F N lt => ⟨h', tk, _, rfl, st_cons st F N, h D lt⟩) (szl (by rw [Array.length_toList, Array.length_toList]; exact hz))
inductive FrG (n : Led) (v : Value) (r k : Nat) (f : NNI) : Prop
 | pk (a its q : _) : v = .ref a → (a, listOf its q) ∈ n → its.size = r → (∀ i, i < r → E1_2 (fun u => its[i]? = some u) (fun u => FrR n u k (f i))) → FrG n v r k f
theorem FrG.of {n n' : Led} {D r k : Nat} {ys : List Value} {f : NNI} (h : Upto r ys fun i v => FrR n v k (f i)) (hD : (D, lst ys) ∈ n') (hs : ∀ p ∈ n, p ∈ n') : FrG n' (.ref D) r k f :=
 ⟨D, ys.toArray, _, rfl, hD, by simpa using h.1, fun j hj => ⟨_, by simpa using List.getElem?_eq_getElem (h.1.symm ▸ hj), (h.2 j _ (List.getElem?_eq_getElem (h.1.symm ▸ hj))).mono hs⟩⟩
theorem n_square {ok : Addr → Prop} {o : Option Bool} {x : Addr} {r : Nat} {f : NNI} {nw : Led} (hG : GridF ok o nw x r r f) (hr : 1 ≤ r ∧ r ≤ 9) (hf : ∀ i j, -999 ≤ f i j ∧ f i j ≤ 999) : Ct 2 (.ref 459) [.ref x] nw fun v n => E1_3 (fun t => n = t ++ nw) (fun t => Abv nw t) (fun t => FrG t v r r f) := by
 obtain ⟨vs, q, m1, e1, h1⟩ := hG.at
 refine code_vc (fun P => by k_is) (fun P => by k_is) rfl (by kernel_rfl) (by kernel_rfl) ?_
 intro c hC
 have hA := hC.toCAny
 refine shapeK (n_shape hG ⟨hr.1, by exact nr ‹_›⟩ (by exact nr ‹_›)) hA fun s t1 t2 j n1 l1 hm1 hs => ?_
 refine unpI hm1 rfl (vst2 (iteF (fun h => h rfl) fun t3 => iteF (by lia) (vnil ?_)))
 refine lc1 (b := false) (own := fun q_ => []) (fz := []) hA ⟨by obtain ⟨_, _, _, _, e⟩ := hC.en; rw [e]; with_unfolding_all rfl, rfl, by decide, fun q_ => rfl, fun q_ => ownOk_nil, fun q_ => by kernel_rfl, fun q_ => rfl⟩ ?_
 refine vcN hC.ns hC.fr ?_
 refine src1L (mu := []) (l1.sub _ m1) (comp0 (fun i ys tl => Upto i ys fun i v => FrR tl v r (f i)) (by exact nsr ‹_› ‹_›) (hC.noK _) trivial Upto.zero ?_ ?_)
 · rintro i vs' ys tl led C keep hi ⟨v, hv, rfl⟩ hJ ab sub hk1 hcl hA'
   obtain ⟨a, e2, hR⟩ := h1 i (e1 ▸ hi)
   obtain rfl := Option.some.inj (hv.symm.trans e2)
   obtain ⟨us, q2, m2, e3, h2⟩ := hR.at
   have sl : ∀ p ∈ nw, p ∈ led := fun p hp => sub p (jR _ (l1.sub p hp))
   refine lc1 (b := false) (own := fun q_ => []) (fz := []) hA' ⟨by obtain ⟨_, _, _, _, e⟩ := hC.en; show closureFor _ (compEnvC _ _ _ _) = _; rw [e]; with_unfolding_all rfl, rfl, by decide, fun q_ => rfl, fun q_ => ownOk_nil, fun q_ => by kernel_rfl, fun q_ => rfl⟩ ?_
   refine src1L (mu := []) (sl _ m2) (comp0 (fun j ys tl => Upto j ys fun j v => FrI tl v (f i j)) (by exact nsr ‹_› ‹_›) hk1 trivial Upto.zero ?_ ?_)
   · rintro j vs2 ys2 tl2 led2 C2 keep2 hj ⟨v, hv, rfl⟩ hJ2 ab2 sub2 hk2 hcl2 hA2
     obtain ⟨z, e4, bb, q_, hN⟩ := h2 j (e3 ▸ hj)
     obtain rfl := Option.some.inj (hv.symm.trans e4)
     refine (n_frof (hN.mono fun p hp => sub2 p (jR _ (sl p hp))) (hf i j)).go hA2 fun w n2 l2 hz => ?_
     obtain ⟨t, rfl, ab2⟩ := l2
     exact ce0 t rfl ab2 (hJ2.snoc (fun q_ q_ h => h.mono fun p hp => jR _ hp) (hz.new.mono fun p hp => jL _ hp))
   · intro D3 ys2 tl2 ab2 hJ2
     rw [e3] at hJ2
     exact ce0 ((D3, lst ys2) :: tl2) rfl ab2 (hJ.snoc (fun q_ q_ h => h.mono fun p hp => jR _ hp) (.of hJ2 (.head _) fun p hp => .tail _ (jL _ hp)))
 · intro D4 ys tl ab hJ
   rw [e1] at hJ
   obtain ⟨t1, rfl, ab1⟩ := l1
   exact ⟨(D4, lst ys) :: tl ++ t1, by simp, ab.mid ab1, .of hJ (.head _) fun p hp => .tail _ (jL _ hp)⟩
noncomputable def sq (k : Int) (i j : Nat) : Int := if i = 0 then (if j = 0 then 1 else k) else (if j = 0 then 0 else 1)
noncomputable def sqI (k : Int) (i j : Nat) : Int := if i = 0 then (if j = 0 then 1 else -k) else (if j = 0 then 0 else 1)
theorem aug_l {k : Int} {i j : Nat} (hi : i < 2) (hj : j < 2) : aug k i j = sq k i j := by
 have e3 := o2 hi
 have e4 := o2 hj
 rcases e3 with rfl | rfl <;> rcases e4 with rfl | rfl <;> rfl
theorem aug_r {k : Int} {i j : Nat} (hi : i < 2) (hj : j < 2) : aug k i (2 + j) = if i = j then 1 else 0 := by
 have e3 := o2 hi
 have e4 := o2 hj
 rcases e3 with rfl | rfl <;> rcases e4 with rfl | rfl <;> rfl
theorem aug2_r {k : Int} {i j : Nat} (hi : i < 2) (hj : j < 2) : aug2 k i (2 + j) = sqI k i j := by
 have e3 := o2 hi
 have e4 := o2 hj
 rcases e3 with rfl | rfl <;> rcases e4 with rfl | rfl <;> rfl
theorem sq_b {k : Int} {i j : Nat} (hk : -3 ≤ k ∧ k ≤ 3) : -999 ≤ sq k i j ∧ sq k i j ≤ 999 := by
 unfold sq; repeat' split
 all_goals first | exact (by decide) | exact ib hk
theorem sqI_b {k : Int} {i j : Nat} (hk : -3 ≤ k ∧ k ≤ 3) : -9 ≤ sqI k i j ∧ sqI k i j ≤ 9 := by
 unfold sqI; repeat' split
 all_goals first | exact (by decide) | exact nb9 hk
inductive InvP (k : Int) (nw : Led) (v : Value) (n : Led) : Prop
 | pk (T g d q : _) : v = .ref T → (T, tup [.ref g, d] q) ∈ n → GridF (Fre nw) (some true) n g 2 2 (sqI k) → NumF nw n true d 1 → InvP k nw v n
theorem n_inv {ok : Addr → Prop} {o : Option Bool} {x : Addr} {k : Int} {t : Tok} {nw : Led} (hk : -3 ≤ k ∧ k ≤ 3) (hG : GridF ok o nw x 2 2 (sq k)) : CtN 6 (.ref 464) [.ref x, .int 9 t] nw (InvP k nw) := by
 refine code_vc2 (W := AnyW) (fun P => by k_is) (fun P => by k_is) rfl (by kernel_rfl) (by kernel_rfl) (hown := fun q_ => rfl) (v1 := some (.int 9 t)) (hv1 := rfl) (v2 := none) (hv2 := rfl) ?_
 intro c o1 o2 q_ hC d1 d2 hL
 have hA := hC.toCAny
 have q1 : c.cl.lookup (Str.ofString "digits") = some (c.L + 1) := by rw [hC.clq]; rfl
 have q2 : c.cl.lookup (Str.ofString "size") = some (c.L + 1 + 1) := by rw [hC.clq]; rfl
 have l0 := le2 (o1 := o1) (o2 := o2) hL
 refine (n_square (hG.mono l0.sub) (by decide) fun i j => sq_b hk).goF trivial hC fun v n1 ⟨tt, e, abt, a, its, q, e2, m1, z1, h1⟩ => vst1 ?_
 subst e e2
 have l1 : Le (cl2 c.L o1 o2 nw) (tt ++ cl2 c.L o1 o2 nw) := ⟨tt, rfl, abt⟩
 refine r_len (jL _ m1) (by rw [z1]; decide) fun t1 => ?_
 refine z1 ▸ ?_
 refine ⟨_, o2, _, q2, l1.sub _ (.head _), d2, fun o2' d2' => ?_⟩
 have l2 := t22 (o' := o2') hL l1
 have st : ∀ p ∈ tt, p ∈ setAt (tt ++ cl2 c.L o1 o2 nw) (c.L + 1 + 1) o2' := fun p hp => mem_setAt (jL _ hp) (Nat.ne_of_gt (abt p hp _ (.head _)))
 generalize setAt (tt ++ cl2 c.L o1 o2 nw) (c.L + 1 + 1) o2' = n2 at l2 st ⊢
 have l02 := (le2 (o1 := o1) (o2 := o2') hL).trans l2
 refine lc2A (b := false) (own := fun q_ => []) (fz := []) hA hC ⟨by obtain ⟨_, _, _, _, e⟩ := hC.en; rw [e]; with_unfolding_all rfl, rfl, by decide, fun q_ => rfl, fun q_ => ownOk_nil, fun q_ => by kernel_rfl, fun q_ => rfl⟩ (by decide) (by rw [hC.ns]; rfl) rfl rfl (by decide +kernel) (by obtain ⟨_, _, _, _, e⟩ := hC.en; rw [e]; rfl) ?_
 rw [hC.ns, hC.fr]
 refine ⟨_, o2', _, q2, l2.sub _ (.head _), d2', (n_unit (by decide)).go hA fun v n3 l3 z2 => ?_⟩
 obtain ⟨g, e, hU⟩ := z2
 subst e
 obtain ⟨us, q3, m3, z3, h3⟩ := hU.at
 have s3 : ∀ p ∈ tt, p ∈ n3 := fun p hp => l3.sub p (st p hp)
 refine ⟨a, g, its, us, q, q3, [], n3, _, rfl, rfl, s3 _ m1, m3, comp0 (fun i ys tl => Upto i ys fun i v => FrR (tl ++ tt) v 4 (aug k i)) (by lia) (hC.noK _) trivial Upto.zero ?_ ?_⟩
 · rintro i vs ys tl led C keep hi ⟨u, v, hu, hv, rfl⟩ hJ ab sub hk1 hcl hA'
   replace hi : i < 2 := by rw [z1, z3] at hi; exact hi
   obtain ⟨u', e3, r1, its1, q5, rfl, m5, z5, h5⟩ := h1 i hi
   obtain rfl := Option.some.inj (hu.symm.trans e3)
   obtain ⟨r2, e4, hR⟩ := h3 i hi
   obtain rfl := Option.some.inj (hv.symm.trans e4)
   obtain ⟨its2, q6, m6, z6, h6⟩ := hR.at
   have sl : ∀ p ∈ n3, p ∈ led := fun p hp => sub p (jR _ hp)
   refine lc1 (b := false) (own := fun q_ => []) (fz := []) hA' ⟨by obtain ⟨_, _, _, _, e⟩ := hC.en; show closureFor _ (compEnvC _ _ _ _) = _; rw [e]; with_unfolding_all rfl, rfl, by decide, fun q_ => rfl, fun q_ => ownOk_nil, fun q_ => by kernel_rfl, fun q_ => rfl⟩ ?_
   refine src1L (mu := []) (sl _ m6) (comp0 (fun j ys tl => Upto j ys fun j v => FrI tl v (aug k i (2 + j))) (by lia) hk1 trivial Upto.zero ?_ ?_)
   · rintro j vs2 ys2 tl2 led2 C2 keep2 hj ⟨v, hv, rfl⟩ hJ2 ab2 sub2 hk2 hcl2 hA2 t5 D hD
     rw [z6] at hj
     obtain ⟨z, e5, hN⟩ := h6 j hj
     obtain rfl := Option.some.inj (hv.symm.trans e5)
     obtain ⟨t6, rfl⟩ := hN.int
     exact ce0 [(D, _)] rfl (Abv.cons hD Abv.nil) (hJ2.snoc (fun q_ q_ h => h.mono fun p hp => .tail _ hp) (by rw [aug_r hi hj]; exact .mk (.head _)))
   · intro D3 ys2 tl2 ab2 hJ2
     rw [z6] at hJ2
     have l4 : Le led ((D3, lst ys2) :: (tl2 ++ led)) := ⟨(D3, lst ys2) :: tl2, rfl, ab2⟩
     refine r_addL (l4.sub _ (sl _ (s3 _ m5))) (.head _) (by rw [z5, List.size_toArray, hJ2.1]; decide) fun D4 hD4 => ?_
     refine ce0 ((D4, _) :: (D3, lst ys2) :: tl2) rfl (Abv.cons (fun p hp => hD4 p (l4.sub p hp)) ab2) (hJ.snoc (fun q_ q_ h => h.mono fun p hp => ?_) ⟨D4, _, 0, rfl, .head _, by simp [z5, hJ2.1], fun j hj => ?_⟩)
     · revert p; refine fma (fun p hp => ?_) fun p hp => ?_
       · exact jL _ (jR _ hp)
       · exact jR _ hp
     · by_cases h : j < 2
       · obtain ⟨u, e5, hu⟩ := h5 j h
         refine (aug_l hi h) ▸ ?_
         exact ⟨u, by rw [List.getElem?_toArray, List.getElem?_append_left (by rw [Array.length_toList, z5]; exact h), Array.getElem?_toList]; exact e5, hu.mono fun p hp => jR _ hp⟩
       · obtain ⟨j', rfl⟩ : ∃ j', j = 2 + j' := ⟨j - 2, by lia⟩
         have hj' : j' < ys2.length := by rw [hJ2.1]; lia
         refine ⟨ys2[j'], by rw [List.getElem?_toArray, List.getElem?_append_right (by rw [Array.length_toList, z5]; lia), Array.length_toList, z5, Nat.add_sub_cancel_left]; exact List.getElem?_eq_getElem hj', (hJ2.2 j' _ (List.getElem?_eq_getElem hj')).mono fun p hp => jL _ (jL _ (.tail _ (.tail _ hp)))⟩
 · intro D4 ys tl ab hJ
   rw [z1, z3] at hJ
   have l04 := l02.trans (l3.trans ⟨(D4, lst ys) :: tl, rfl, ab⟩)
   have l24 := l2.trans (l3.trans ⟨(D4, lst ys) :: tl, rfl, ab⟩)
   obtain ⟨a4, its4, q4, e4, m4, z4, h4⟩ := FrG.of (n' := (D4, lst ys) :: (tl ++ n3)) hJ (.head _) fun p hp => by
    revert p; refine fma (fun p hp => ?_) fun p hp => ?_
    · exact .tail _ (jL _ hp)
    · exact .tail _ (jR _ (s3 p hp))
   cases e4
   refine (n_solve hk m4 ⟨z4, h4⟩).go hA fun v n5 l5 z3 => ?_
   obtain ⟨T, D, its5, q5, told, q6, e, mT, mD, R, hT⟩ := z3
   subst e
   obtain ⟨rt, t7, t8, q7, rfl, mt⟩ := hT
   have l05 := l04.trans l5
   have l25 := l24.trans l5
   refine unpI mT rfl (vst2 fun t9 => subT mt (by decide) (by decide) rfl fun t10 => iteF (by decide) (vnil ?_))
   have mc1 := l25.sub (c.L + 1, o1) (.tail _ (.head _))
   have mc2 := l25.sub (c.L + 1 + 1, o2') (.head _)
   refine lc1A (b := false) (own := fun q_ => []) (fz := [(Str.ofString "size", c.L + 1 + 1, .int ((2 : Nat) : Int) t1), (Str.ofString "digits", c.L + 1, .int 9 t)]) hA hC ⟨by obtain ⟨_, _, _, _, e⟩ := hC.en; rw [e]; with_unfolding_all rfl, rfl, by decide, fun q_ => rfl, fun q_ => ownOk_nil, fun q_ => by kernel_rfl, fun q_ => rfl⟩ rfl (by decide +kernel) (by obtain ⟨_, _, _, _, e⟩ := hC.en; rw [e]; rfl) ?_
   refine vcN hC.ns hC.fr ?_
   refine src1L (mu := []) mD (comp0 (fun i ys tl => Upto i ys fun i v => E1_2 (fun a => v = .ref a) (fun a => RowF (Fre nw) (some true) tl a 2 (sqI k i))) (by rw [R.1]; decide) (hC.noK _) ⟨⟨o2', mc2, d2'⟩, ⟨o1, mc1, d1⟩, trivial⟩ Upto.zero ?_ ?_)
   · rintro i vs ys2 tl2 led C keep hi ⟨v, hv, rfl⟩ hJ5 ab5 sub hk1 hcl hA'
     rw [R.1] at hi
     obtain ⟨u', e6, r6, its6, q8, rfl, m6, z6, h6⟩ := R.2 i hi
     obtain rfl := Option.some.inj (hv.symm.trans e6)
     have sl : ∀ p ∈ n5, p ∈ led := fun p hp => sub p (jR _ hp)
     refine lc1 (b := false) (own := fun q_ => []) (fz := [(Str.ofString "digits", c.L + 1, .int 9 t)]) hA' ⟨by obtain ⟨_, _, _, _, e⟩ := hC.en; show closureFor _ (compEnvC _ _ _ _) = _; rw [e]; with_unfolding_all rfl, rfl, by decide, fun q_ => rfl, fun q_ => ownOk_nil, fun q_ => by kernel_rfl, fun q_ => rfl⟩ ?_
     refine r_slice hA' ?_
     refine ⟨r6, its6, q8, _, _, rfl, sl _ m6, by rw [z6]; decide, .int _ _, .none, fun D7 hD7 => ?_⟩
     have hp7 := pick_from (its := its6) (a := 2)
     have l7 := Le.one (o := listOf (slicePick its6 (some ((2 : Nat) : Int)) none none) 0) hD7
     refine src1L (mu := []) (.head _) (comp0 (fun j ys tl => Upto j ys fun j v => NumO (some true) tl v (sqI k i j)) (by rw [hp7.1, z6]; decide) (fun p hp => .tail _ (hk1 p hp)) ⟨⟨o1, .tail _ (sl _ mc1), d1⟩, trivial⟩ Upto.zero ?_ ?_)
     · rintro j vs2 ys3 tl3 led2 C2 keep2 hj ⟨v, hv, rfl⟩ hJ6 ab6 sub2 hk2 hcl2 hA2
       have hj : j < 2 := by rw [hp7.1, z6] at hj; exact hj
       obtain ⟨u, e7, hu⟩ := h6 (2 + j) (by lia)
       rw [hp7.2] at hv
       obtain rfl := Option.some.inj (hv.symm.trans e7)
       rw [aug2_r hi hj] at hu
       refine (n_dfr (hu.mono fun p hp => sub2 p (jR _ (.tail _ (sl p hp)))) (sqI_b hk)).go hA2 fun w n8 l8 hw => ?_
       obtain ⟨t, rfl, ab8⟩ := l8
       exact ce0 t rfl ab8 (hJ6.snoc (fun q_ q_ h => h.mono fun p hp => jR _ hp) (.of (hw.new.mono fun p hp => jL _ hp)))
     · intro D8 ys3 tl3 ab8 hJ6
       have hJ6 : Upto 2 ys3 fun j v => NumO (some true) tl3 v (sqI k i j) := by rw [hp7.1, z6] at hJ6; exact hJ6
       refine ce0 ((D8, lst ys3) :: tl3 ++ [(D7, _)]) (by simp) (Abv.mid (cs := [(D7, _)]) ab8 (Abv.cons hD7 Abv.nil)) (hJ5.snoc (fun q_ q_2 ⟨a, e, h⟩ => ⟨a, e, h.mono fun p hp => jR _ hp⟩) ⟨D8, rfl, ?_⟩)
       exact rowO hJ6 (.head _) (fun p hp => ab8 _ (.head _) p (.tail _ (sl p (l05.sub p hp)))) fun p hp => .tail _ (jL _ (jL _ hp))
   · intro D8 ys2 tl2 ab8 hJ5
     rw [R.1] at hJ5
     have l58 : Le n5 ((D8, lst ys2) :: (tl2 ++ n5)) := ⟨(D8, lst ys2) :: tl2, rfl, ab8⟩
     have hG8 : GridF (Fre nw) (some true) ((D8, lst ys2) :: (tl2 ++ n5)) D8 2 2 (sqI k) := gridO hJ5 (.head _) (fun p hp => ab8 _ (.head _) p (l05.sub p hp)) fun p hp => .tail _ (jL _ hp)
     refine ⟨_, o1, _, q1, l58.sub _ mc1, d1, (n_dfr (.mk (l58.sub _ mt)) (by decide)).go hA fun w n9 l9 hw D9 hD9 => ?_⟩
     have l09 := (l05.trans l58).trans l9
     refine ⟨l09.cons hD9, D9, D8, w, 0, rfl, .head _, hG8.mono fun p hp => .tail _ (l9.sub p hp), ?_⟩
     exact ⟨hw.1.mono fun p hp => .tail _ hp, fun r e z hz => hw.2 r e z ((l05.trans l58).sub z hz)⟩
theorem WSt.nam {k : WC} {ow : Lab} {n n' : Led} {nks nks' : List (Str × Value)} {S : List AR} {on' : Obj} (h : WSt k ow n nks S) (hs : ∀ p ∈ n, p.1 ≠ k.nd → p ∈ n') (hm : (k.nd, on') ∈ n') (hd : on'.IsDictOf (strKind PG k.w) nks') (hz : nks'.length ≤ 20) (ht : ∀ a vs q, (a, tup vs q) ∈ n' → (a, tup vs q) ∈ n) (hne : k.ad ≠ k.nd) : WSt k ow n' nks' S where
 cov a ha := by
  obtain ⟨p, hp, e⟩ := h.cov a ha
  by_cases q : p.1 = k.nd
  · exact ⟨_, hm, q.symm.trans e⟩
  · exact ⟨p, hs p hp q, e⟩
 tp a vs q hm := h.tp a vs q (ht a vs q hm)
 b1 := h.b1
 wld := h.wld.mono fun p hp => by
  obtain ⟨h1, h2⟩ := mem_fro.mp hp
  refine mem_fro.mpr ⟨hs p h1 fun e => ?_, h2⟩
  rw [e, h.ln] at h2
  cases h2
 tab := by
  obtain ⟨oa, h1, h2⟩ := h.tab
  exact ⟨oa, hs _ h1 hne, h2⟩
 nms := ⟨on', hm, hd⟩
 nkl := hz
 la := h.la
 ln := h.ln
 arr i A e := by
  obtain ⟨x, hx⟩ := h.arr i A e
  exact ⟨x, hx.keep (fun q_ q_ => rfl) fun p hp hl => hs p hp fun q => by rw [q, h.ln] at hl; exact hl.elim (fun e => nomatch e) n23⟩
 wok := h.wok
 ws := h.ws
 len := h.len
noncomputable def detS : Str := Str.ofString "DET"
noncomputable def DetQ (z : Value) (n : Led) : Prop := Num n true z 1
theorem n_rkinv {k : WC} {ow : Lab} {S : List AR} {A : AR} {word : Str} {tw t1 t2 : Tok} {wt : Addr} {wk : Nat} {kk : Int} {nw : Led} (hW : WSt k ow nw [] S) (hm : A ∈ S) (hwt : (wt, tup [.str (Str.ofString "INV") t1, .str A.word t2] wk) ∈ nw) (hk : -3 ≤ kk ∧ kk ≤ 3) (hr : A.r = 2) (hc : A.c = 2) (hf : A.f = sq kk) : CtW k.w 10 (.ref 553) [.ref k.wa, .str word tw, .ref wt, .none] nw (RkZ k ow nw (fun z => [(detS, z)]) DetQ S 2 2 (sqI kk)) := by
 refine code_vcG (fun P => by k_is) (fun P => by k_is) rfl (by kernel_rfl) (by kernel_rfl) ?_
 intro c hw hC
 have hA := hC.toCAny
 intro t5 ea eb hs
 refine r_idxT hs hwt (by decide) (by decide) rfl ?_
 refine r_reck hw hA (hW.wld.mono fro_sub) hC.kp fun y n1 l1 hy D1 hD1 => unpI (.head _) rfl (vst2 ?_)
 intro t6 t7 t8 D2 hD2
 have l2 := (l1.cons (o := tup [.str (Str.ofString "INV") t1, .ref y] 0) hD1).cons (o := tup [.str (Str.ofString "ZER") t6, .str (Str.ofString "CON") t7, .str (Str.ofString "IDN") t8] 0) hD2
 refine r_inT (.head _) strs3 (iteFb (by kernel_rfl) (vnil fun t9 => iteFb (by kernel_rfl) (vnil fun t10 => iteFb (by kernel_rfl) (vnil fun t11 => iteFb (by kernel_rfl) (vnil fun t12 => iteTb (by kernel_rfl) fun t13 => subT (l2.sub _ hwt) (by decide) (by decide) rfl ?_)))))
 refine namedK (n_named ((hW.le l2).rd) hm) hw hA fun x n3 l3 h3 => ?_
 rw [hr, hc, hf] at h3
 have l03 := l2.trans l3
 obtain ⟨td, wd⟩ := w_digits hA ((hW.le l03).wld.mono fro_sub)
 refine wd _ _ _ ((n_inv hk h3).go hA fun v n4 l4 z5 => ?_)
 obtain ⟨T, g, d, q, e, mT, hG, hd⟩ := z5
 subst e
 refine unpI mT rfl (vst2 ?_)
 have l04 := l03.trans l4
 have W4 := hW.le l04
 obtain ⟨on, mn, dn⟩ := W4.nms
 have hne : k.ad ≠ k.nd := fun e => by have h1 := W4.la; rw [e, W4.ln] at h1; cases h1
 refine asgI hC rfl (w_names hA (hw.symm ▸ W4.wld.mono fro_sub) _ _ _ ?_)
 refine setD' mn (hw.symm ▸ dn) (Nat.zero_le _) hC.kp fun o' d' => ?_
 rw [hw] at d'
 have W5 : WSt k ow (putO n4 k.nd o') [(detS, d)] S := by
  refine W4.nam (fun p hp h => putO_ne hp h) (.head _) d' (show (1 : Nat) ≤ 20 by decide) (fun a vs q h => ?_) hne
  rcases jX h with e | h
  · obtain ⟨es, ep, q_, e2, q_⟩ := d'
    rw [← (Prod.mk.inj e).2] at e2
    cases e2
  · exact (mem_oth.mp h).1
 have X5 : Ext ow n4 ow (putO n4 k.nd o') := by
  refine ⟨fun q_ q_ => rfl, fun p hp hl => putO_ne hp fun e => ?_, fun p hp => oth_cv hp⟩
  rw [e, W4.ln] at hl
  exact hl.elim (fun e => nomatch e) (by decide)
 exact ⟨g, ow, d, rfl, W5, (Ext.of l04.sub).trans X5, ((Mat.of (hW.le l03) l4 hG).any).ext X5, ((NumO.of hd.1).fro W4).num.mono X5.sub⟩
end Mine
namespace Mine
open LCg
theorem slice_anyL {prog : Program} {w : World} {A : Around} {E : VSP} {s : Shared} {h₀ : Heap} {L l : Addr} {m : SoV} {news : Led} {value slice : PySem.Expr} {its : Array Value} {vl vu : Value} {lo hi : Option Int} {Q : VSP}
 (F : Fr h₀ L s.heap m) (N : News h₀ L s.heap news) (hl : s.heap.IsList l its) (pl : IsPart vl lo) (pu : IsPart vu hi)
 (h : ∀ D h', Fr h₀ L h' m → News h₀ L h' ((D, listOf (slicePick its lo hi none) 0) :: news) → (∀ p ∈ news, p.1 < D) → Q (.ref D) { s with heap := h' })
 (hs : subscripted slice false (.ref l) (.ref s.heap.objs.size) = operate [.ref s.heap.objs.size, .ref l] (getItem (.ref l) (.ref s.heap.objs.size))) (hz : its.size ≤ 1000) :
 wpAny (model prog w) A (subscriptTail value slice (.ref l) (.ref s.heap.objs.size)) Q E { s with heap := s.heap.push { cls := .type "slice", data := .fields #[vl, vu, .none] } } := by
 refine tail_any (Heap.IsList.typeIs (s := { s with heap := s.heap.push { cls := .type "slice", data := .fields #[vl, vu, .none] } }) (hl.push _)) slot_list_getitem.lookup
  (wpAny_getItem_list_slice (hl.push _) (Heap.IsSliceOf.new ..) pl pu .none (by simp) ?_ (by rw [PySem.sizeLine_eq]; lia)) hs
 have N1 := News.push (F.push { cls := .type "slice", data := .fields #[vl, vu, .none] }) (N.grown fun q_ q_ e => Heap.get?_push_of_some _ e) { cls := .type "list", data := .seq (slicePick its lo hi none) }
 rw [Heap.size_push] at N1
 show Q (.ref (s.heap.push _).objs.size) _
 rw [Heap.size_push]
 exact h _ _ ((F.push _).push _) N1 fun p hp => Nat.lt_succ_of_lt (Heap.lt_size (N p hp).1)
theorem r_sliceG {lev : Nat} {c : Cx} {E : VSP} {al : Al} {nw : Led} {K : VLP} {e hi : PySem.Expr} {p pos : Pos} {its : Array Value} {z : Addr} (hC : CAny lev c) (hz : c.G.IsList z its) (hl : its.size ≤ 1000)
 (h : vcE E glT c.ns 60 false e c.fr c al nw fun v n1 => vcE E glT c.ns 60 false hi c.fr c al n1 fun vu n3 => E1_3 (fun b => v = .ref z) (fun b => IsPart vu b) (fun b => ∀ D, (∀ p ∈ n3, p.1 < D) → K (.ref D) ((D, listOf (slicePick its none b none) 0) :: n3))) :
 RawS E c (eval (.Subscript e (.Slice none (some hi) none p) pos) c.env) al nw K := by
 intro g tk st
 refine Subscript_ (RawS.seq ((vcE_snd hC.okx 60).1 e al nw _ h) (fun v n1 g tk k st => ?_) g tk st)
 refine wpAny_Slice (evalPart_none_step (evalPart_some_step (RawS.seq ((vcE_snd hC.okx 60).1 hi al n1 _ k) (fun vu n3 g tk k st => ?_) g tk st)))
 obtain ⟨b, rfl, pb, kk⟩ := k
 have hl' : (c.at g tk).heap.IsList z its := let ⟨o, ho, r⟩ := hz; ⟨o, st.1.keep _ _ ho, r⟩
 exact evalPart_none_step (slice_anyL (s := c.at g tk) st.1 st.2.1 hl' .none pb (fun D h' F N lt => ⟨h', tk, _, rfl, st_cons st F N, kk D lt⟩) rfl hl)
theorem n_tapeG {lev : Nat} {c : Cx} {E : VSP} {al : Al} {sl : Addr} {vs : List Value} {ns : List Int} {nw : Led} {K : VLP} (hC' : CAny lev c) (hlev : 1 ≤ lev) (hk : c.keep = []) (hsl : c.G.IsList sl vs.toArray) (hi : IntsAre vs ns) (hz : vs.length ≤ 1000) (hK : ∀ v n, Le nw n → TapeP nw v n → K v n) : RawS E c (call (.ref 592) [.ref sl]) al nw K := by
 have h50 := slice_ints_uptoW hi (y := 50) (by decide)
 have z50 : (slicePick vs.toArray none (some 50) none).size ≤ 50 := by
  rw [← Array.length_toList, h50.length, List.length_take]
  exact Nat.min_le_left _ _
 intro h0 tk st
 refine wpAny_call (code_in (own := fun q_ => []) (lev := 0) (K := K) (fun P => by k_is) (fun P => by k_is) (fun P s X => BindsTo.of_eq rfl) (by kernel_rfl) (by decide +kernel) (scopeN_of (by decide +kernel)) (by kernel_rfl) (fun q_ => rfl) (hC'.top.le hlev) (fun q_ q_ q_ q_ p hp => by rw [hk] at hp; cases hp) ?_ h0 tk st)
 intro c cells hC hw hG Y hL
 cases Y
 have hA := hC.toCAny
 have hsl' : c.G.IsList sl vs.toArray := let ⟨o, ho, r⟩ := hsl; ⟨o, hG _ _ ho, r⟩
 refine lc1A (b := false) (own := fun q_ => []) (fz := []) hA hC ⟨by obtain ⟨_, _, _, _, e⟩ := hC.en; rw [e]; with_unfolding_all rfl, rfl, by decide, fun q_ => rfl, fun q_ => ownOk_nil, fun q_ => by kernel_rfl, fun q_ => rfl⟩ rfl (by decide +kernel) (by obtain ⟨_, _, _, _, e⟩ := hC.en; rw [e]; rfl) ?_
 refine r_sliceG hA hsl' (by rw [List.size_toArray]; exact hz) ?_
 refine vcN hC.ns hC.fr ?_
 intro t1
 refine ⟨_, rfl, .int _ _, fun D hD => ?_⟩
 have l1 : Le nw ((D, listOf (slicePick vs.toArray none (some 50) none) 0) :: nw) := Le.one hD
 refine src1L (mu := []) (.head _) (comp0 (fun i ys tl => tl = [] ∧ Upto i ys fun q_ u => E2_1 (fun x t => u = Value.int x t)) (by exact nt ‹_›) (hC.noK _) trivial ⟨rfl, Upto.zero⟩ ?_ ?_)
 · rintro i vs' ys tl led C keep hi' ⟨v, hv, rfl⟩ ⟨rfl, hJ⟩ ab sub hk1 hcl hA'
   obtain ⟨x, t, rfl⟩ := IntsAre.at h50 i v (by rw [Array.getElem?_toList]; exact hv)
   exact r_abs1 fun b u q_ q_ => ce0 [] rfl Abv.nil ⟨rfl, hJ.snoc (fun q_ q_ h => h) ⟨_, _, rfl⟩⟩
 · rintro D2 ys tl ab ⟨rfl, hJ⟩
   have l2 : Le nw _ := l1.cons (o := lst ys) (D := D2) fun p hp => ab _ (.head _) p hp
   obtain ⟨ms, hms⟩ := IntsAre.of hJ.2
   have hys : ys.length ≤ 1000 := by rw [hJ.1]; lia
   refine r_sum hA (.head _) hms fun t2 t3 => ⟨by decide, fun t4 t5 D3 hD3 => ?_⟩
   exact hK _ _ (l2.cons hD3) ⟨D3, D2, ys.toArray, _, _, _, _, rfl, .head _, .tail _ (.head _), ⟨by rw [List.size_toArray]; exact hys, fun i u e => hJ.2 i u (by rw [List.getElem?_toArray] at e; exact e)⟩, fun p hp => hD3 p (l2.sub p hp), fun p hp => ab _ (.head _) p (l1.sub p hp), Nat.ne_of_lt (hD3 _ (.head _))⟩
noncomputable def lastFn : List Stmt → List Stmt × List (Str × NameKind)
 | [] => ([], [])
 | [s] => match s with
  | .FunctionDef _ _ b _ _ _ sc _ _ _ => (b, sc.names)
  | _ => ([], [])
 | _ :: s :: r => lastFn (s :: r)
noncomputable def lawB : List Stmt := (lastFn PG.main.body).1
noncomputable def lawN : NKs := (lastFn PG.main.body).2
end Mine
namespace Mine
open LCg
theorem isStr_inv {k : Value} {x : Str} (h : k.isStr x = true) : ∃ t, k = .str x t := by
 cases k with
 | str y t => exact ⟨t, by rw [eq_of_beq (show (y == x) = true from h)]⟩
 | _ => cases h
theorem isStr_ne {x y : Str} {t : Tok} (h : x ≠ y) : (Value.str x t).isStr y = false := beq_eq_false_iff_ne.mpr h
section
variable {x y : Str} {h : Int} {t : Tok} {v : Value}
theorem putL_self {es : List DictEntry} : E1_2 (fun e => (putL x h (.str x t) v es).find? (·.key.isStr x) = some e) (fun e => e.val = v) := by
 induction es with
 | nil => exact ⟨_, by rw [putL, List.find?_cons, show (Value.str x t).isStr x = true from beq_self_eq_true x], rfl⟩
 | cons e r ih =>
  unfold putL
  cases hk : e.key.isStr x with
  | true => exact ⟨_, by rw [if_pos rfl, List.find?_cons, hk], rfl⟩
  | false =>
   obtain ⟨e', h1, h2⟩ := ih
   exact ⟨e', by rw [if_neg (by decide), List.find?_cons, hk]; exact h1, h2⟩
theorem putL_other (hn : x ≠ y) {es : List DictEntry} : (putL x h (.str x t) v es).find? (·.key.isStr y) = es.find? (·.key.isStr y) := by
 induction es with
 | nil => rw [putL, List.find?_cons, isStr_ne hn]
 | cons e r ih =>
  unfold putL
  cases hk : e.key.isStr x with
  | true =>
   obtain ⟨t', he⟩ := isStr_inv hk
   rw [if_pos rfl, List.find?_cons, List.find?_cons]
   dsimp only
   rw [he, isStr_ne hn]
  | false => rw [if_neg (by decide), List.find?_cons, List.find?_cons, ih]
theorem putL_ref {es : List DictEntry} (he : es.any (·.refKey) = false) : (putL x h (.str x t) v es).any (·.refKey) = false := by
 induction es with
 | nil => rfl
 | cons e r ih =>
  rw [List.any_cons, Bool.or_eq_false_iff] at he
  unfold putL
  cases hk : e.key.isStr x with
  | true => rw [if_pos rfl, List.any_cons, he.2]; exact (Bool.or_false _).trans he.1
  | false => rw [if_neg (by decide), List.any_cons, he.1, ih he.2]; rfl
theorem putL_len {es : List DictEntry} : (putL x h (.str x t) v es).length ≤ es.length + 1 := by
 induction es with
 | nil => exact Nat.le_refl _
 | cons e r ih =>
  unfold putL
  cases e.key.isStr x with
  | true => exact Nat.le_succ _
  | false => exact Nat.succ_le_succ ih
end
noncomputable def EsOk (es : List DictEntry) (kv : List (Str × Value)) : Prop := es.any (·.refKey) = false ∧ ∀ p ∈ kv, getL p.1 es = some (some p.2)
theorem EsOk.tail {es : List DictEntry} {p : Str × Value} {kv : List (Str × Value)} (h : EsOk es (p :: kv)) : EsOk es kv := ⟨h.1, fun q hq => h.2 q (.tail _ hq)⟩
theorem EsOk.put {es : List DictEntry} {kv : List (Str × Value)} {x : Str} {h : Int} {t : Tok} {v : Value} (e : EsOk es kv) (hn : (kv.map (·.1)).contains x = false) : EsOk (putL x h (.str x t) v es) ((x, v) :: kv) := by
 refine ⟨putL_ref e.1, fun p hp => ?_⟩
 revert p; refine fmc ?_ fun p hp => ?_
 · obtain ⟨e', h1, h2⟩ := putL_self (x := x) (h := h) (t := t) (v := v) (es := es)
   unfold getL
   rw [h1]; exact congrArg (fun z => some (some z)) h2
 · have hne : x ≠ p.1 := fun e => by
    have : (kv.map (·.1)).contains x = true := List.contains_iff_mem.mpr (List.mem_map.mpr ⟨p, hp, e.symm⟩)
    rw [hn] at this; cases this
   have := e.2 p hp
   unfold getL at this ⊢
   rw [putL_other hne, putL_ref e.1]
   rw [e.1] at this; exact this
theorem EsOk.some {es : List DictEntry} {kv : List (Str × Value)} (e : EsOk es kv) (x : Str) : (getL x es).isSome = true := by
 unfold getL
 cases es.find? (·.key.isStr x) with
 | some => rfl
 | none => rw [e.1]; rfl
theorem setW {lev : Nat} {c : Cx} {E : VSP} {al : Al} {nw rest : Led} {Kn : ALP} {z C d : Addr} {es : List DictEntry} {n : Nat} {name : Str} {v : Value} {kv : List (Str × Value)} (hC : CAny lev c) (hS : SetOk (K39 c.w.params) C name) (m1 : (z, instObj C d) ∈ rest) (m2 : (d, dictOf es n) ∈ nw) (sub : ∀ p ∈ rest, p ∈ nw) (off : ∀ p ∈ rest, p.1 ≠ d) (hE : EsOk es kv) (hn : (kv.map (·.1)).contains name = false) {m : Nat} (hz : es.length ≤ m) (hm : m ≤ 900) (hk : c.keep = [])
 (h : ∀ es' n', EsOk es' ((name, v) :: kv) → es'.length ≤ m + 1 → Kn al ((d, dictOf es' n') :: rest)) : RawU E c (setAttr (.ref z) name v) al nw Kn :=
 setA' (fun tk => putL name (PyData.keyHash c.w.params name) (.str name tk) v es) (putN name es n) hC hS m1 m2 sub off (hE.some name) (fun q_ => Nat.le_trans putL_len (by lia)) (fun q_ => rfl) hk fun tk => h _ _ (hE.put hn) (Nat.le_trans putL_len (Nat.succ_le_succ hz))
theorem r_dict {lev : Nat} {c : Cx} {E : VSP} {al : Al} {nw : Led} {K : VLP} {pos : Pos} (hC : CAny lev c) (h : ∀ d o, (∀ p ∈ nw, p.1 < d) → (d == sysModules) = false → o.IsDictOf (strKind PG c.w) [] → K (.ref d) ((d, o) :: nw)) : RawS E c (eval (.Dict [] [] pos) c.env) al nw K := fun g tk st => by
 obtain ⟨loose, mean, mg, mb, q_, q_, q_, q_, q_, q_, q_, q_, q_, q_, q_, q_, q_, T, q_⟩ := hC.top.o
 exact newDict_K (s := c.at g tk) st.1 st.2.1 (Top.nolimit T) fun d h' o F' N' lt lo a b q_ q_ => ⟨h', tk, _, rfl, st_cons st F' N', h d o lt lo a⟩
theorem r_boolC {c : Cx} {E : VSP} {al : Al} {nw : Led} {K : VLP} {b : Bool} {k : Nat} {pos : Pos} (h : K (.bool b) nw) : RawS E c (eval (.Constant (.bool b) k pos) c.env) al nw K := fun g tk st => wpAny_Constant_bool ⟨g, tk, nw, rfl, st, h⟩
end Mine
namespace Mine
open LCg
theorem s583 {P : Params} {x : Str} (h : takerIn (K39 P) 583 x = some none) : SetOk (K39 P) 583 x := ⟨by k_is, by k_is, h, by k_is⟩
theorem mk583 {P : Params} : makesIn (K39 P) 583 = true ∧ findIn (K39 P) (.ref 583) "__init__" = some (some (.ref 580)) ∧ isFn (K39 P) (.ref 580) = true := ⟨by k_is, by k_is, by k_is⟩
structure InB (nw rest : Led) (z d : Addr) : Prop where
 inst : (z, instObj 583 d) ∈ rest
 sub : ∀ p ∈ nw, p ∈ rest
 off : ∀ p ∈ rest, p.1 ≠ d
 nt : ∀ a vs q, (a, tup vs q) ∈ rest → (a, tup vs q) ∈ nw
 fr : ∀ p ∈ rest, p ∈ nw ∨ Fre nw p.1
theorem InB.add {nw rest : Led} {z d x : Addr} {o o' : Obj} (h : InB nw rest z d) (hx : ∀ p ∈ (d, o') :: rest, p.1 < x) (ho : ∀ vs q, o ≠ tup vs q) : InB nw ((x, o) :: rest) z d where
 inst := .tail _ h.inst
 sub := fun p hp => .tail _ (h.sub p hp)
 off := fun p hp => by
  revert p; refine fmc ?_ fun p hp => ?_
  · exact Nat.ne_of_gt (hx _ (.head _))
  · exact h.off p hp
 nt := fun a vs q hm => by
  rcases jX hm with e | hm
  · exact absurd (Prod.mk.inj e).2.symm (ho _ _)
  · exact h.nt a vs q hm
 fr := fun p hp => by
  revert p; refine fmc ?_ fun p hp => ?_
  · exact .inr fun q hq => hx q (.tail _ (h.sub q hq))
  · exact h.fr p hp
theorem sub_1 {a b : Addr × Obj} {l : Led} : ∀ p ∈ a :: l, p ∈ a :: b :: l := fun p hp => by
 revert p; refine fmc ?_ fun p hp => ?_
 · exact .head _
 · exact .tail _ (.tail _ hp)
noncomputable def Tab0 (w : World) (nw rest : Led) (d a : Addr) : Prop := (E1_2 (fun o => (a, o) ∈ rest) (fun o => o.IsDictOf (strKind PG w) [])) ∧ (a == sysModules) = false ∧ Fre nw a
theorem Tab0.add {w : World} {nw rest : Led} {d a x : Addr} {o : Obj} (h : Tab0 w nw rest d a) : Tab0 w nw ((x, o) :: rest) d a := let ⟨⟨o, h1, h2⟩, h3⟩ := h; ⟨⟨o, .tail _ h1, h2⟩, h3⟩
noncomputable def WEs (ad nd kd : Addr) (t1 t2 t3 : Tok) : List (Str × Value) := [(Str.ofString "kinds", .ref kd), (Str.ofString "arrays", .ref ad), (Str.ofString "names", .ref nd), (Str.ofString "room", .int 400 t3), (Str.ofString "digits", .int 9 t2), (Str.ofString "bits", .int 16 t1)]
structure WNew (m : Nat) (w : World) (nw n : Led) (z : Addr) (b : Int) (dw : Addr) (rest : Led) (ad nd kd : Addr) : Prop where
 dict : E6_4 (fun es k t1 t2 t3 t4 => n = (dw, dictOf es k) :: rest) (fun es k t1 t2 t3 t4 => es.length ≤ m) (fun es k t1 t2 t3 t4 => EsOk es (WEs ad nd kd t1 t2 t3)) (fun es k t1 t2 t3 t4 => getL (Str.ofString "base") es = some (some (.int b t4)))
 inb : InB nw rest z dw
 fd : Fre nw dw
 fz : Fre nw z
 ta : Tab0 w nw rest dw ad
 tn : Tab0 w nw rest dw nd
 tk : Tab0 w nw rest dw kd
 ne : nd < ad ∧ ad < kd ∧ z < nd
noncomputable def WInP (w : World) (nw : Led) (z d : Addr) (v : Value) (n : Led) : Prop := v = .none ∧ E4_1 (fun rest ad nd kd => WNew 28 w nw n z 0 d rest ad nd kd)
inductive WIs (w : World) (nw : Led) (z d : Addr) (ts : List Addr) (kv : List (Str × Value)) (m : Nat) (n : Led) : Prop
 | pk (es : List DictEntry) (q : Nat) (rest : Led) : n = (d, dictOf es q) :: rest → InB nw rest z d → (∀ a ∈ ts, Tab0 w nw rest d a) → (ts ++ [z]).Pairwise (fun a b => b < a) → EsOk es kv → es.length ≤ m → WIs w nw z d ts kv m n
section
variable {lev : Nat} {c : Cx} {E : VSP} {al : Al} {nw n : Led} {Kn : ALP} {z d x : Addr} {ts : List Addr} {kv : List (Str × Value)} {m : Nat} {name : Str} {v : Value} {o : Obj}
theorem wi_put (W : WIs c.w nw z d ts kv m n) (hA : CAny lev c) (hk : c.keep = []) (h : takerIn (K39 c.w.params) 583 name = some none) (hn : ((kv.map (·.1)).contains name || !Nat.ble m 900) = false) (k : ∀ n', WIs c.w nw z d ts ((name, v) :: kv) (m + 1) n' → Kn al n') : RawU E c (setAttr (.ref z) name v) al n Kn := by
 obtain ⟨es, q, rest, rfl, B, T, o, e, l⟩ := W
 have hn := Bool.or_eq_false_iff.mp hn
 exact setW hA (s583 h) B.inst (.head _) (fun p hp => .tail _ hp) B.off e hn.1 l (Nat.le_of_ble_eq_true (Eq.mp (Bool.not_eq_false' _) hn.2)) hk fun es' n' e' l' => k _ ⟨es', n', rest, rfl, B, T, o, e', l'⟩
theorem wi_drop (W : WIs c.w nw z d ts kv m n) (hA : CAny lev c) (hk : c.keep = []) (h : takerIn (K39 c.w.params) 583 name = some none) (hn : ((kv.map (·.1)).contains name || !Nat.ble m 900) = false) (k : ∀ n', WIs c.w nw z d ts kv (m + 1) n' → Kn al n') : RawU E c (setAttr (.ref z) name v) al n Kn :=
 wi_put W hA hk h hn fun n' ⟨es, q, rest, a, B, T, o, e, l⟩ => k n' ⟨es, q, rest, a, B, T, o, e.tail, l⟩
theorem wi_new (W : WIs c.w nw z d ts kv m n) (hx : ∀ p ∈ n, p.1 < x) (ho : ∀ vs q, o ≠ tup vs q) (hA : CAny lev c) (hk : c.keep = []) (h : takerIn (K39 c.w.params) 583 name = some none) (hn : ((kv.map (·.1)).contains name || !Nat.ble m 900) = false) (k : ∀ n', WIs c.w nw z d ts kv (m + 1) n' → Kn al n') : RawU E c (setAttr (.ref z) name (.ref x)) al ((x, o) :: n) Kn := by
 obtain ⟨es, q, rest, rfl, B, T, o, e, l⟩ := W
 have hn := Bool.or_eq_false_iff.mp hn
 have B2 := B.add hx ho
 exact setW hA (s583 h) B2.inst (.tail _ (.head _)) sub_1 B2.off e hn.1 l (Nat.le_of_ble_eq_true (Eq.mp (Bool.not_eq_false' _) hn.2)) hk fun es' n' e' l' => k _ ⟨es', n', _, rfl, B2, fun a ha => (T a ha).add, o, e'.tail, l'⟩
theorem wi_tab (W : WIs c.w nw z d ts kv m n) (hx : ∀ p ∈ n, p.1 < x) (hs : (x == sysModules) = false) (ho : o.IsDictOf (strKind PG c.w) []) (hA : CAny lev c) (hk : c.keep = []) (h : takerIn (K39 c.w.params) 583 name = some none) (hn : ((kv.map (·.1)).contains name || !Nat.ble m 900) = false) (k : ∀ n', WIs c.w nw z d (x :: ts) ((name, .ref x) :: kv) (m + 1) n' → Kn al n') : RawU E c (setAttr (.ref z) name (.ref x)) al ((x, o) :: n) Kn := by
 obtain ⟨es, q, rest, rfl, B, T, od, e, l⟩ := W
 have hn := Bool.or_eq_false_iff.mp hn
 have B2 := B.add hx fun vs q e => dict_ne_tup ho e
 refine setW hA (s583 h) B2.inst (.tail _ (.head _)) sub_1 B2.off e hn.1 l (Nat.le_of_ble_eq_true (Eq.mp (Bool.not_eq_false' _) hn.2)) hk fun es' n' e' l' => k _ ⟨es', n', _, rfl, B2, fmc ⟨⟨o, .head _, ho⟩, hs, fun p hp => hx p (.tail _ (B.sub p hp))⟩ fun a ha => (T a ha).add, .cons ?_ od, e', l'⟩
 exact fma (fun a ha => by
  obtain ⟨⟨q_, ma, q_⟩, q_⟩ := T a ha
  exact hx _ (.tail _ ma)) (fmc (hx _ (.tail _ B.inst)) fun q_ h => nomatch h)
end
theorem n_winit {w : World} {z d : Addr} {t1 t2 t3 t4 t5 : Tok} {nw : Led} (hd : ∀ p ∈ nw, p.1 < d) (hz : d < z) : CtW w 2 (.ref 580) [.ref z, .int 16 t1, .int 9 t2, .int 100 t3, .int 10 t4, .int 400 t5] ((z, instObj 583 d) :: (d, dictOf [] 0) :: nw) (WInP w nw z d) := by
 have B0 : InB nw ((z, instObj 583 d) :: nw) z d := by
  refine ⟨.head _, fun p hp => .tail _ hp, fun p hp => ?_, fun a vs q hm => ?_, fun p hp => ?_⟩
  · revert p; refine fmc ?_ fun p hp => ?_
    · exact Nat.ne_of_gt hz
    · exact Nat.ne_of_lt (hd p hp)
  · rcases jX hm with e | hm
    · cases congrArg Obj.cls (Prod.mk.inj e).2
    · exact hm
  · revert p; refine fmc ?_ fun p hp => ?_
    · exact .inr fun q hq => Nat.lt_trans (hd q hq) hz
    · exact .inl hp
 refine code_vcGD (fun P => by k_is) (fun P => by k_is) (fun P s X => BindsTo.of_defaults rfl (X _ _ (by k_is)) rfl rfl rfl) (by kernel_rfl) (by kernel_rfl) ?_
 intro c hw hC
 have hA := hC.toCAny
 subst hw
 have hK := hC.kp
 refine asgA hC rfl (setW hA (s583 (by k_is)) B0.inst (.tail _ (.head _)) sub_1 B0.off (⟨rfl, fun q_ h => nomatch h⟩ : EsOk [] []) (by kernel_rfl) (Nat.le_refl 0) (by decide) hK fun es1 n1 e1 l1 => ?_)
 have W : WIs c.w nw z d [] [(Str.ofString "bits", .int 16 t1)] 1 ((d, dictOf es1 n1) :: (z, instObj 583 d) :: nw) := ⟨es1, n1, _, rfl, B0, (fun q_ h => nomatch h), List.pairwise_singleton .., e1, l1⟩
 generalize (d, dictOf es1 n1) :: (z, instObj 583 d) :: nw = n at W ⊢
 refine asgA hC rfl (wi_put W hA hK (by k_is) (by kernel_rfl) fun n W => ?_)
 refine asgA hC rfl (wi_drop W hA hK (by k_is) (by kernel_rfl) fun n W => ?_)
 refine asgA hC rfl (wi_drop W hA hK (by k_is) (by kernel_rfl) fun n W => ?_)
 refine asgA hC rfl (wi_put W hA hK (by k_is) (by kernel_rfl) fun n W => ?_)
 refine asgA hC rfl (r_dict hA fun x o hx hs ho => wi_tab W hx hs ho hA hK (by k_is) (by kernel_rfl) fun n W => ?_)
 refine asgA hC rfl (r_dict hA fun x o hx hs ho => wi_tab W hx hs ho hA hK (by k_is) (by kernel_rfl) fun n W => ?_)
 refine asgA hC rfl (r_dict hA fun x o hx hs ho => wi_tab W hx hs ho hA hK (by k_is) (by kernel_rfl) fun n W => ?_)
 refine asgA hC rfl (r_dict hA fun x o hx hs ho => wi_new W hx (fun vs q e => dict_ne_tup ho e) hA hK (by k_is) (by kernel_rfl) fun n W => ?_)
 refine asgA hC rfl (fun x hx => wi_new W hx (list_nt (its := [].toArray) (q := 0)) hA hK (by k_is) (by kernel_rfl) fun n W => ?_)
 refine asgA hC rfl (fun tb2 => wi_drop W hA hK (by k_is) (by kernel_rfl) fun n W => ?_)
 refine asgA hC rfl (fun x hx => wi_new W hx (list_nt (its := [].toArray) (q := 0)) hA hK (by k_is) (by kernel_rfl) fun n W => ?_)
 refine asgA hC rfl (r_dict hA fun x o hx hs ho => wi_new W hx (fun vs q e => dict_ne_tup ho e) hA hK (by k_is) (by kernel_rfl) fun n W => ?_)
 refine asgA hC rfl (r_dict hA fun x o hx hs ho => wi_new W hx (fun vs q e => dict_ne_tup ho e) hA hK (by k_is) (by kernel_rfl) fun n W => ?_)
 refine asgA hC rfl (r_dict hA fun x o hx hs ho => wi_new W hx (fun vs q e => dict_ne_tup ho e) hA hK (by k_is) (by kernel_rfl) fun n W => ?_)
 refine asgA hC rfl (fun x hx => wi_new W hx (list_nt (its := [].toArray) (q := 0)) hA hK (by k_is) (by kernel_rfl) fun n W => ?_)
 refine asgA hC rfl (fun tb2 => wi_drop W hA hK (by k_is) (by kernel_rfl) fun n W => ?_)
 refine asgA hC rfl (fun tb => wi_put W hA hK (by k_is) (by kernel_rfl) fun n W => ?_)
 refine asgA hC rfl (fun tb2 => wi_drop W hA hK (by k_is) (by kernel_rfl) fun n W => ?_)
 refine asgA hC rfl (fun tb2 => wi_drop W hA hK (by k_is) (by kernel_rfl) fun n W => ?_)
 refine asgA hC rfl (fun tb2 => wi_drop W hA hK (by k_is) (by kernel_rfl) fun n W => ?_)
 refine asgA hC rfl (fun tb2 => wi_drop W hA hK (by k_is) (by kernel_rfl) fun n W => ?_)
 refine asgA hC rfl (r_boolC (wi_drop W hA hK (by k_is) (by kernel_rfl) fun n W => ?_))
 refine asgA hC rfl (fun tb2 => wi_drop W hA hK (by k_is) (by kernel_rfl) fun n W => ?_)
 refine asgA hC rfl (fun tb2 => wi_drop W hA hK (by k_is) (by kernel_rfl) fun n W => ?_)
 refine asgA hC rfl (r_boolC (wi_drop W hA hK (by k_is) (by kernel_rfl) fun n W => ?_))
 refine asgA hC rfl (fun x hx => wi_new W hx (list_nt (its := [].toArray) (q := 0)) hA hK (by k_is) (by kernel_rfl) fun n W => ?_)
 refine asgA hC rfl (fun x hx => wi_new W hx (list_nt (its := [].toArray) (q := 0)) hA hK (by k_is) (by kernel_rfl) fun n W => ?_)
 obtain ⟨es, q, rest, rfl, B, T, o, e, l⟩ := W
 have o := List.pairwise_cons.mp o
 have o2 := List.pairwise_cons.mp o.2
 exact vnil ⟨rfl, rest, _, _, _, ⟨es, q, t1, t2, t5, tb, rfl, l, e.tail, e.2 _ (.head _)⟩, B, hd, fun p hp => Nat.lt_trans (hd p hp) hz, T _ (.tail _ (.head _)), T _ (.tail _ (.tail _ (.head _))), T _ (.head _), o2.1 _ (.head _), o.1 _ (.head _), (List.pairwise_cons.mp o2.2).1 _ (.head _)⟩
end Mine
namespace Mine
open LCg
theorem r_notinT {c : Cx} {E : VSP} {al : Al} {nw : Led} {K : VLP} {D : Addr} {vs : List Value} {q : Nat} {x : Int} {t : Tok} {ns : List Int} (hm : (D, tup vs q) ∈ nw) (hi : IntsAre vs ns) (h : K (.bool (!ns.any (· == x))) nw) : RawS E c (compareOp .NotIn (.int x t) (.ref D)) al nw K := fun g tk st =>
 PyProof.Rows.notin_tuple_ints (s := c.at g tk) (st.2.1.isTup hm) hi ⟨g, tk, nw, rfl, st, h⟩
theorem r_lenD {c : Cx} {E : VSP} {al : Al} {nw : Led} {K : VLP} {d : Addr} {o : Obj} {kvs : List (Str × Value)} (hm : (d, o) ∈ nw) (hd : o.IsDictOf (strKind PG c.w) kvs) (hy : (d == sysModules) = false) (hz : kvs.length ≤ 1000) (h : ∀ t, K (.int kvs.length t) nw) : RawS E c (call (.builtin "len") [.ref d]) al nw K := fun g tk st =>
 call_len_dict (s := c.at g tk) hy (Heap.dictOf_iff.mpr ⟨o, (st.2.1 _ hm).1, hd⟩) (by lia) ⟨g, tk + 1 + 1, nw, rfl, st, h _⟩
theorem WNew.wld {m : Nat} {w : World} {nw n rest : Led} {z dw ad nd kd : Addr} {b : Int} (h : WNew m w nw n z b dw rest ad nd kd) : WorldIn PG w n z b ad nd := by
 obtain ⟨es, k, t1, t2, t3, t4, rfl, hz, hE, hb⟩ := h.dict
 obtain ⟨⟨ok, mk, dk⟩, sk, q_⟩ := h.tk
 obtain ⟨q_, sa, q_⟩ := h.ta
 exact ⟨dw, es, k, t1, t2, t3, t4, kd, ok, .tail _ h.inb.inst, .head _, hE.2 _ (.tail _ (.tail _ (.tail _ (.tail _ (.tail _ (.head _)))))), hE.2 _ (.tail _ (.tail _ (.tail _ (.tail _ (.head _))))), hE.2 _ (.tail _ (.tail _ (.tail _ (.head _)))), hb, hE.2 _ (.tail _ (.head _)), hE.2 _ (.tail _ (.tail _ (.head _))), hE.2 _ (.head _), .tail _ mk, dk, sa, sk⟩
noncomputable def OptP (w : World) (nw : Led) (z : Addr) (b : Int) (dw : Addr) (rest : Led) (ad nd kd : Addr) (v : Value) (n : Led) : Prop := v = .none ∧ WNew 29 w nw n z b dw rest ad nd kd
theorem n_optb {w : World} {nw n rest : Led} {z dw ad nd kd : Addr} {b : Nat} {t : Tok} (h : WNew 28 w nw n z 0 dw rest ad nd kd) (hb : b ≤ 1) : CtW w 1 (.ref 311) [.ref z, .int b t] n (OptP w nw z b dw rest ad nd kd) := by
 have hW := h.wld
 obtain ⟨⟨oa, ma, da⟩, sa, q_⟩ := h.ta
 obtain ⟨es, k, t1, t2, t3, t4, rfl, hz, hE, hb0⟩ := h.dict
 have hq : (!([0, 1] : List Int).any (· == (b : Int))) = false := by
  match b, hb with
  | 0, _ => rfl
  | 1, _ => rfl
 refine code_vcG (fun P => by k_is) (fun P => by k_is) rfl (by kernel_rfl) (by kernel_rfl) ?_
 intro c hw hC
 have hA := hC.toCAny
 subst hw
 intro t5 t6 D hD
 refine r_notinT (ns := [0, 1]) (.head _) (.cons _ _ (.cons _ _ .nil)) (iteFb hq (vnil ?_))
 refine w_arrays hA (hW.mono fun p hp => .tail _ hp) _ _ _ (r_lenD (.tail _ (.tail _ ma)) da sa (Nat.zero_le _) fun t7 t8 => iteF (show ¬ ((0 : Nat) : Int) > 0 by decide) (vnil ?_))
 have sb : ∀ p ∈ rest, p ∈ (D, tup [.int 0 t5, .int 1 t6] 0) :: (dw, dictOf es k) :: rest := fun p hp => .tail _ (.tail _ hp)
 refine asgA hC rfl (setW hA (s583 (by k_is)) h.inb.inst (.tail _ (.head _)) sb h.inb.off hE (by kernel_rfl) hz (by decide) hC.kp fun es' n' hE' hz' => vnil ⟨rfl, ?_⟩)
 exact ⟨⟨es', n', t1, t2, t3, t, rfl, hz', hE'.tail, hE'.2 _ (.head _)⟩, h.inb, h.fd, h.fz, h.ta, h.tn, h.tk, h.ne⟩
noncomputable def ow0 (ad nd : Addr) (mu : List Addr) : Lab := fun a => if a = ad then 1 else if a = nd then 2 else if a ∈ mu then 50 else 0
set_option tactic.hygienic true in
theorem WNew.start {m : Nat} {w : World} {nw n rest : Led} {z dw ad nd kd : Addr} {b : Nat} {mu : List Addr} (dec : Bool) (h : WNew m w nw n z b dw rest ad nd kd) (hb : b ≤ 1) (hm : ∀ a ∈ mu, ∃ p ∈ nw, p.1 = a) (ht : ∀ a vs q, (a, tup vs q) ∈ nw → a ∉ mu) : WSt ⟨w, z, ad, nd, dec, b⟩ (ow0 ad nd mu) n [] [] := by
 obtain ⟨es, k, t1, t2, t3, t4, rfl, hz, hE, hb0⟩ := h.dict
 obtain ⟨⟨oa, ma, da⟩, sa, fa⟩ := h.ta
 obtain ⟨⟨on, mn, dn⟩, sn, fn⟩ := h.tn
 obtain ⟨⟨ok, mk, dk⟩, sk, fk⟩ := h.tk
 obtain ⟨n1, n2, n3⟩ := h.ne
 have nmu : ∀ {a : Addr}, Fre nw a → a ∉ mu := fun {a} ha hm' => by
  obtain ⟨p, hp, e⟩ := hm a hm'
  exact absurd (ha p hp) (by rw [e]; exact Nat.lt_irrefl _)
 have l0 : ∀ {a : Addr}, a ≠ ad → a ≠ nd → a ∉ mu → ow0 ad nd mu a = 0 := fun h1 h2 h3 => by unfold ow0; rw [if_neg h1, if_neg h2, if_neg h3]
 have fz : ∀ {p : Addr × Obj}, p ∈ (dw, dictOf es k) :: rest → p.1 ≠ ad → p.1 ≠ nd → p.1 ∉ mu → p ∈ fro (ow0 ad nd mu) ((dw, dictOf es k) :: rest) := fun hp h1 h2 h3 => mem_fro.mpr ⟨hp, l0 h1 h2 h3⟩
 have da' := h.inb.off _ ma
 have dn' := h.inb.off _ mn
 have hz0 := h.fz
 exact {
  cov := fun a ha => by
   unfold ow0 at ha
   split at ha
   · rename_i e; exact ⟨_, .tail _ ma, e.symm⟩
   split at ha
   · rename_i e; exact ⟨_, .tail _ mn, e.symm⟩
   split at ha
   · rename_i e
     obtain ⟨p, hp, e2⟩ := hm a e
     exact ⟨p, .tail _ (h.inb.sub p hp), e2⟩
   · exact absurd rfl ha
  tp := fun a vs q hmm => by
   rcases jX hmm with e | hmm
   · exact absurd (Prod.mk.inj e).2.symm (dict_nt _ _)
   · have m := h.inb.nt a vs q hmm
     exact l0 (Nat.ne_of_lt (fa _ m)) (Nat.ne_of_lt (fn _ m)) (ht a vs q m)
  b1 := hb
  wld := ⟨dw, es, k, t1, t2, t3, t4, kd, ok, fz (.tail _ h.inb.inst) (Nat.ne_of_lt (Nat.lt_trans n3 n1)) (Nat.ne_of_lt n3) (nmu hz0), fz (.head _) (Ne.symm da') (Ne.symm dn') (nmu h.fd), hE.2 _ (.tail _ (.tail _ (.tail _ (.tail _ (.tail _ (.head _)))))), hE.2 _ (.tail _ (.tail _ (.tail _ (.tail _ (.head _))))), hE.2 _ (.tail _ (.tail _ (.tail _ (.head _)))), hb0, hE.2 _ (.tail _ (.head _)), hE.2 _ (.tail _ (.tail _ (.head _))), hE.2 _ (.head _), fz (.tail _ mk) (Nat.ne_of_gt n2) (Nat.ne_of_gt (Nat.lt_trans n1 n2)) (nmu fk), dk, sa, sk⟩
  tab := ⟨oa, .tail _ ma, da⟩
  nms := ⟨on, .tail _ mn, dn⟩
  nkl := Nat.zero_le _
  la := if_pos rfl
  ln := by unfold ow0; rw [if_neg (Nat.ne_of_lt n1), if_pos rfl]
  arr := fun i A e => by cases e
  wok := fun A hA => nomatch hA
  ws := List.nodup_nil
  len := Nat.zero_le _ }
theorem WSt.alter {k : WC} {ow : Lab} {n n' : Led} {nks : List (Str × Value)} {S : List AR} (h : WSt k ow n nks S) (hs : ∀ p ∈ n, ow p.1 < 50 → p ∈ n') (hc : ∀ p ∈ n, ∃ q ∈ n', q.1 = p.1) (ht : ∀ a vs q, (a, tup vs q) ∈ n' → ow a = 0) : WSt k ow n' nks S where
 cov a ha := by
  obtain ⟨p, hp, e⟩ := h.cov a ha
  rw [← e]; exact hc p hp
 tp := ht
 b1 := h.b1
 wld := h.wld.mono fun p hp => by
  obtain ⟨h1, h2⟩ := mem_fro.mp hp
  exact mem_fro.mpr ⟨hs p h1 (by rw [h2]; decide), h2⟩
 tab := by
  obtain ⟨oa, h1, h2⟩ := h.tab
  exact ⟨oa, hs _ h1 (by show ow k.ad < 50; rw [h.la]; decide), h2⟩
 nms := by
  obtain ⟨oa, h1, h2⟩ := h.nms
  exact ⟨oa, hs _ h1 (by show ow k.nd < 50; rw [h.ln]; decide), h2⟩
 nkl := h.nkl
 la := h.la
 ln := h.ln
 arr i A e := by
  obtain ⟨x, hx⟩ := h.arr i A e
  exact ⟨x, hx.keep (fun q_ q_ => rfl) fun p hp hl => hs p hp (ownS hl (List.getElem?_eq_some_iff.mp e).1 h.len)⟩
 wok := h.wok
 ws := h.ws
 len := h.len
end Mine
namespace Mine
open LCg
section
variable {prog : Program} {w : World} {A : Around} {h h₀ : Heap} {L f : Addr} {qual : Str} {cd : Value} {names : NKs} {mo : List (Str × Const)} {cl : SAs} {x : Str} {pos : Pos} {a : Addr} {o : Obj} {v : Value} {k : Nat} {news : Led}
theorem Pu.xF (N : News h₀ L h news) (hs : ScopeN names) (hx : (x, NameKind.free) ∈ names) (hc : cl.lookup x = some a) (hm : (a, o) ∈ news) (hd : o.data = .cell (some v)) (hn : (x == ("__classdict__" : Str)) = false) : Pu prog w A (envX qual (sc names mo) L f cd cl) h (.Name x pos) k v k :=
 ⟨fun q_ q_ q_ q_ q_ hq => wpAny_Name (wpAny_loadName_free rfl (lookup_of hs.1 hx) hc ⟨o, N.get hm, hd⟩ hq hn) (hs.2 _ hx)⟩
end
noncomputable abbrev cxL (w : World) (A : Around) (G : Heap) (L f : Addr) (qual : Str) (cd : Value) (names : NKs) (mo : List (Str × Const)) (fz : List (Str × Addr × Value)) (kp : Led) (gs : Array GenState) (d : Drawn) (os : OsState) : Cx :=
 { w := w, A := A, env := envX qual (sc names mo) L f cd (clz fz), G := G, L := L, fm := fun q_ q_ => none, ns := names, cl := [], fr := frz fz, keep := kp, gs := gs, d := d, os := os }
theorem cxL_ok {w : World} {A : Around} {G : Heap} {L f : Addr} {qual : Str} {cd : Value} {names : NKs} {mo : List (Str × Const)} {fz : List (Str × Addr × Value)} {kp : Led} {gs : Array GenState} {d : Drawn} {os : OsState} {loose : List Str} {mean : ExcName → Option Value} {mg mb : SoV}
 (X : (K39 w.params).In G) (T : Top topProg loose mean mg mb G) (hs : ScopeN names) (hd : noDb names = true) (hl : (names.all fun y => y.2 == .free || y.2 == .globalImplicit) = true) (hh : A.handled = none) (hf : CellsIn fz kp) : CxOk glT (cxL w A G L f qual cd names mo fz kp gs d os) where
 X := X
 kp := glT_kp
 loc := fun st hf' hv => by
  have := List.all_eq_true.mp hl _ (findN_at hf').2.1
  cases this
 cel := fun st hf hc hm hd => nomatch hc
 fre := fun {al nw h i x v pos k} st hf' hv => by
  have hx := (findN_at hf').2.1
  obtain ⟨a, o, h1, h2, h3⟩ := hf.at hv
  exact Pu.xF st.2.1 hs hx h1 (st.2.2.2 _ h2) h3 (noDb_at hd hx).2
 glo := fun st hf hg => by
  rcases glT_ok (P := w.params) hg with h | ⟨h1, h2, h3⟩
  · exact Pu.xG st.1 X T hs (findN_at hf).2.1 h
  · exact Pu.xB st.1 X T hs (findN_at hf).2.1 h1 h2 h3
 hn := hh
structure LamIn (nw : Led) (f : Addr) (qual : Str) (body : PySem.Expr) (names : NKs) (mo : List (Str × Const)) (cl : SAs) : Prop where
 o : E6_4 (fun pm c' ctv oc vs t => (f, kla_obj "<lambda>" qual ⟨[], [], none, [], [], none, []⟩ body (sc names mo) cl pm c' ctv) ∈ nw) (fun pm c' ctv oc vs t => (c', oc) ∈ nw) (fun pm c' ctv oc vs t => oc.data = .fields vs) (fun pm c' ctv oc vs t => vs[1]? = some (.str qual t))
theorem lam_R {W : World → Prop} {lev : Nat} {nw : Led} {f : Addr} {qual : Str} {body : PySem.Expr} {names : NKs} {mo : List (Str × Const)} {fz : List (Str × Addr × Value)} (hL : LamIn nw f qual body names mo (clz fz)) (hfz : CellsIn fz nw) (hs : ScopeN names) (hd : noDb names = true) (hl : (names.all fun y => y.2 == .free || y.2 == .globalImplicit) = true)
 (h : ∀ c A₀ base outer, W c.w → CFr lev c A₀ base outer → CAny lev c → vcE (EBS c base outer nw) glT names 60 false body (frz fz) c (alE names) nw (fun q_ q_ => False)) : CtR W (lev + 1) (.ref f) [] nw := by
 obtain ⟨pm, c', ctv, oc, vs, t, m1, m2, hd1, hd2⟩ := hL
 refine ⟨fun c al0 A₀ base outer hW hF h0 tk st => ?_⟩
 obtain ⟨⟨loose, mean, mg, mb, dp, un, gd, cn, cs, a, ccd, cl, h1, he, h2, h3, h4, h5, h6⟩, hA, X⟩ := hF
 refine h1 ▸ ?_
 refine kla_code (binds := []) h2 st.1 X st.2.1 h3 rfl rfl h4 m1 (codeRec_news st.2.1 m2 hd1 hd2) (lv0 h5) rfl (fun q_ hy => nomatch hy) ?_ rfl rfl rfl (fun y hy e => by
  have := List.all_eq_true.mp hl _ hy
  rw [e] at this; cases this)
 intro g L' h₁ FG F' N' B' X' T'
 have ok : CxOk glT (cxL c.w (Around.deeper (ktrTop dp un gd cn cs c.L a ccd cl outer) (envX qual (sc names mo) L' f (.ref c') (clz fz))) g L' f qual (.ref c') names mo fz nw c.gs c.d c.os) := cxL_ok X' T' hs hd hl rfl hfz
 have hC : CAny lev (cxL c.w (Around.deeper (ktrTop dp un gd cn cs c.L a ccd cl outer) (envX qual (sc names mo) L' f (.ref c') (clz fz))) g L' f qual (.ref c') names mo fz nw c.gs c.d c.os) :=
  { top := ⟨⟨loose, mean, mg, mb, dp + 1, un + 3, gd, qual, sc names mo, f, .ref c', clz fz, _, _, base, rfl, B', T', rfl, lv1 h5, lv3 h6⟩, X'⟩, gl := rfl, bu := rfl, hn := rfl, okx := ok }
 have hF' : CFr lev (cxL c.w (Around.deeper (ktrTop dp un gd cn cs c.L a ccd cl outer) (envX qual (sc names mo) L' f (.ref c') (clz fz))) g L' f qual (.ref c') names mo fz nw c.gs c.d c.os) (ktrTop dp un gd cn cs c.L a ccd cl outer) base (envX cn cs c.L a ccd cl :: outer) :=
  ⟨⟨loose, mean, mg, mb, dp + 1, un + 3, gd, qual, sc names mo, f, .ref c', clz fz, rfl, rfl, B', T', rfl, lv1 h5, lv3 h6⟩, rfl, X'⟩
 have v := h _ _ _ _ (by exact hW) hF' hC
 refine wpAny_mono ((vcE_snd ok 60).1 body (alE names) nw _ v h₁ _ ⟨F', N', by simp [alE], fun p hp => hp⟩) (fun v s' hv => ?_) fun e s' he' => ?_
 · obtain ⟨q_, q_, q_, q_, q_, k⟩ := hv
   exact k.elim
 · obtain ⟨ea, dx, od, nws, h2', tk2, rfl, rfl, m3, cd, sub, rdy⟩ := he'
   exact rdy _ _ fun h'' R U => ⟨ea, dx, od, nws, g, _, h'', tk2, rfl, rfl, he ▸ R, m3, cd, sub, FG, U⟩
theorem r_lam {lev : Nat} {c : Cx} {E : VSP} {names names' : NKs} {mo' : List (Str × Const)} {cl clos : SAs} {al : Al} {nw : Led} {K : VLP} {body : PySem.Expr} {pos : Pos} {ca P : Addr} {ts : List (Pos × Addr)} {q : Str} (hC : CIn lev names c cl)
 (hcd : E3_2 (fun q1 f1 mo => c.env = envX q1 (sc names mo) c.L f1 (.ref ca) cl) (fun q1 f1 mo => q1 ++ ".<locals>." = q)) (C : CodeHd c.G ca P) (hm : (P, tabObj (triples ts).toArray) ∈ nw) (ht : TriplesOk (triples ts)) (hn : ∀ q ∈ ts, ¬ (q.1.line = pos.line ∧ q.1.col = pos.col)) (hcl : closureFor (sc names' mo') c.env = pure clos)
 (h : ∀ f o c' oc, (∀ p ∈ nw, p.1 < c') → c' < f → (∀ n, (f, o) ∈ n → (c', oc) ∈ n → LamIn n f (q ++ "<lambda>") body names' mo' clos) → K (.ref f) ((f, o) :: (c', oc) :: setAt nw P (tabObj (triples (ts ++ [(pos, c')])).toArray))) :
 RawS E c (eval (.Lambda ⟨[], [], none, [], [], none, []⟩ body (sc names' mo') pos) c.env) al nw K := fun g tk st => by
 obtain ⟨q1, f1, mo, he, rfl⟩ := hcd
 obtain ⟨loose, mean, mg, mb, q_, q_, q_, q_, q_, q_, q_, q_, q_, q_, q_, q_, q_, T, q_⟩ := hC.top.o
 rw [he] at hcl ⊢
 have N0 : News c.G c.L (c.at g tk).heap ((P, tabObj (triples ts).toArray) :: oth nw P) := fun p hp => by
  revert p; refine fmc ?_ fun p hp => ?_
  · exact st.2.1 _ hm
  · exact st.2.1 _ (mem_oth.mp hp).1
 refine kla_eval (s := c.at g tk) rfl (kla_nest st.1 N0 T C rfl (.head fun p hp => (mem_oth.mp hp).2) ht (by simpa using codeAmong_triples pos ts hn) hcl fun f c' oc vs t ctv h' tk' F N d1 d2 l1 l2 => ?_)
 have lt : ∀ p ∈ nw, p.1 < c' := fun p hp => by
  by_cases e : p.1 = P
  · rw [e]; exact l1 _ (.head _)
  · exact l1 _ (.tail _ (mem_oth.mpr ⟨hp, e⟩))
 refine ⟨h', tk', _, rfl, ⟨F, fun p hp => ?_, st.2.2.1, fun p hp => ?_⟩, h f _ c' oc lt l2 fun n m1 m2 => ⟨⟨(mg "__name__").getD .none, c', ctv, oc, vs, t, m1, m2, d1, d2⟩⟩⟩
 · revert p; refine fmc ?_ fun p hp => ?_
   · exact N _ (.head _)
   · revert p; refine fmc ?_ fun p hp => ?_
     · exact N _ (.tail _ (.head _))
     · refine N _ (.tail _ (.tail _ ?_))
       obtain ⟨r, hr, e⟩ := List.mem_map.mp hp
       have e2 : (triples ts).toArray ++ #[rawInt pos.line, rawInt pos.col, .ref c'] = (triples (ts ++ [(pos, c')])).toArray := by rw [triples_append]; simp
       refine e2 ▸ ?_
       by_cases q : r.1 = P
       · rw [if_pos q] at e; rw [← e]; exact .head _
       · rw [if_neg q] at e; rw [← e]; exact .tail _ (mem_oth.mpr ⟨hr, q⟩)
 · rw [hC.kp] at hp; cases hp
inductive FnO (nw : Led) (f : Addr) : Prop
 | pk (oc od fd sl : _) : (f, (⟨oc, od, .func fd, sl⟩ : Obj)) ∈ nw → FnO nw f
theorem LamIn.fn {nw : Led} {f : Addr} {qual : Str} {body : PySem.Expr} {names : NKs} {mo : List (Str × Const)} {cl : SAs} (h : LamIn nw f qual body names mo cl) : FnO nw f := by
 obtain ⟨q_, q_, q_, q_, q_, q_, m1, q_⟩ := h
 exact ⟨_, _, _, _, m1⟩
theorem r_call0 {c : Cx} {E : VSP} {al : Al} {nw : Led} {K K' : VLP} {x : Str} {p pos : Pos} {f : Addr} (hv : RawS E c (eval (.Name x p) c.env) al nw (fun v n => v = .ref f ∧ n = nw)) (hf : FnO nw f) (h : RawS E c (call (.ref f) []) al nw K) :
 RawS E c (eval (.Call (.Name x p) [] [] pos) c.env) al nw K := fun g tk st => by
 obtain ⟨oc, od, fd, sl, hm⟩ := hf
 refine Call_Name0 (hv.at (fun u n g' tk' y1 st' => ?_) st)
 obtain ⟨e1, e2⟩ := y1
 subst e1 e2
 exact callWith_of (P := FnAt f) rfl keeps_F (evalArgs_nil3 ⟨⟨oc, od, fd, sl, (st'.2.1 _ hm).1⟩, h g' tk' st'⟩)
theorem k34g {P : Params} : findIn (K39 P) (.ref 34) "__getattribute__" = some (some (.builtin "BaseException.__getattribute__")) := by kernel_rfl
theorem k34h {P : Params} : findIn (K39 P) (.ref 34) "__getattr__" = some none := by kernel_rfl
theorem k34c {P : Params} : findIn (K39 P) (.ref 34) "code" = some none := by kernel_rfl
theorem kBE {P : Params} : nsIn (K39 P) mainGlobals "BasicError" = some (some (.ref 34)) := by k_is
section
variable {prog : Program} {w : World} {A₀ : Around} {E : VSP} {s' : Shared} {h₀ h : Heap} {outer : List Env} {L a e dx : Addr} {m : SoV} {name : Str} {scope : Scope} {cd : Value}
 {n : Str} {b₀ : Stmt} {suite : List Stmt} {pos np : Pos} {rest : List ExceptHandler} {Q : Flow → Shared → Prop} {news : Led} {KF : Frag} {C : Addr}
 {p : Program} {loose : List Str} {mg mb : SoV} {x : Str}
 {nm q : Str} {N : Addr} {bs bm : List Value} {hdct : Bool} {sn : List Str} {sub : List Value} {ab : Bool} {col : Option Bool} {dd : Option Addr} {k0 k1 k2 k3 k5 : Option Value} {newId : String}
theorem caught_Q {Lc : Addr} {mc : SoV} (hst : A₀.frames = some outer) (hc : s'.heap.Ns Lc mc) (hc0 : h₀.get? Lc = none) (hcL : Lc ≠ L) (F : Fr h₀ L h m) (hsm : h.UpToSlots s'.heap) (R : RaisedP h₀ (envOf name scope L a cd :: outer) e (ExcP C dx) news s'.heap)
 (X : KF.In h₀) (T : TopRead p loose mg mb h₀) (ex : nsIn KF mainGlobals x = some (some (.ref C))) (hC : KF.lookup C = some (excClassObj nm q C N bs bm hdct sn sub ab col dd k0 k1 k2 k3 k5 newId)) (hbase : bm.contains (.type "BaseException") = true)
 (k : ∀ h' tk oe vs oC, Fr h₀ L h' (fun y => if y = n then some (.ref e) else m y) → NsObj oC mc → News h₀ L h' ((Lc, oC) :: (e, oe) :: news) → ExcP C dx oe → oe.data = .fields vs →
  wpAny (model prog w) ((A₀.deeper (envOf name scope L a cd)).mark (some (.ref e))) (execs (b₀ :: suite) (envOf name scope L a cd))
   (fun f s₄ => wpAny (model prog w) (A₀.deeper (envOf name scope L a cd)) (do bindName (envOf name scope L a cd) n .none; unbindBehindTheSuite (envOf name scope L a cd) n pos) (fun q_ s₅ => Q f s₅) E s₄)
   (AsSuiteRaised (model prog w) ((A₀.deeper (envOf name scope L a cd)).mark (some (.ref e))) (envOf name scope L a cd) n pos (notedBy (model prog w) ((A₀.deeper (envOf name scope L a cd)).mark (some (.ref e))) (envOf name scope L a cd) (cameBackBy (model prog w) (A₀.deeper (envOf name scope L a cd)) (envOf name scope L a cd) E)))
   { s' with heap := h', toks := tk })
 (hk : scope.kind = .function) (hlo : (envOf name scope L a cd).kindOf n = some .local) (hx : (envOf name scope L a cd).kindOf x = some .globalImplicit) (hd : (x == ("__debug__" : Str)) = false) :
 wpAny (model prog w) (A₀.deeper (envOf name scope L a cd)) (noteFrame (.ref e) (envOf name scope L a cd))
  (fun q_ s₂ => wpAny (model prog w) (A₀.deeper (envOf name scope L a cd)) (setFlight (.ref e) none) (fun q_ s₃ =>
   wpAny (model prog w) (A₀.deeper (envOf name scope L a cd)) (handleBy (.ref e) (envOf name scope L a cd) (.ExceptHandler (some (.Name x np)) (some n) (b₀ :: suite) pos :: rest)) Q E s₃) E s₂) E s' := by
 obtain ⟨B, hB, hl, hfl⟩ := R
 have hL : B.get? L = none := by
  obtain ⟨q_, ⟨L', q_, hf, hn', q_⟩, q_⟩ := hfl.2.2.1
  obtain rfl : L = L' := Option.some.inj hf
  exact hn'
 refine looksOnP ExcP.map (Around.frames_deeper hst) rfl hfl fun h₄ hheld₄ hsm₄ => ?_
 refine landsP hheld₄ fun h₅ hheld hsm₅' => ?_
 have hsm₅ := hsm₄.trans hsm₅'
 have hheld' := flyP_base hB hheld
 have F₅ := F.of_stays hheld'.1 (hsm.trans hsm₅)
 obtain ⟨oe₁, q_, q_, q_, q_, hob, ⟨hobc, q_⟩, q_⟩ := hheld'.2.2.2
 refine wpAny_handleBy_cons (codeAny_handlers_test (name_K F₅ X T ex ?_ hk hx hd)) (by intro q; cases q)
 refine wpAny_excMatches_sub_self ((X.keeps F₅.keep) _ _ hC) hob hobc hbase (codeAny_handlers_suite_as ?_)
 refine landsP hheld fun h₆ hfl₆ hsm₆ => ?_
 have hfl₆' := flyP_base hB hfl₆
 have F₆ := F.of_stays hfl₆'.1 ((hsm.trans hsm₅).trans hsm₆)
 obtain ⟨oe, vs, T', oT, ts, hoe, hep, hed, q_⟩ := hfl₆'.2.2.2
 obtain ⟨oC, hoC, hNC⟩ := ns_obj (((hsm₅).trans hsm₆).ns hc)
 have hN : News h₀ L h₆ ((Lc, oC) :: (e, oe) :: news) := fun q hq => by
  revert q; refine fmc ?_ fun q hq => ?_
  · exact ⟨hoC, hcL, hc0⟩
  revert q; refine fmc ?_ fun q hq => ?_
  · refine ⟨hoe, fun z => ?_, hfl₆'.2.1⟩
    obtain ⟨oL, q_, q_, hoL, hdL, q_⟩ := F₆.ns
    dsimp only at z
    rw [z] at hoe
    rw [hoe] at hoL; cases hoL
    rw [hed] at hdL; cases hdL
  · exact ⟨hfl₆.1 _ _ (hl q hq).1, (fun z => by have := (hl q hq).1; rw [z, hL] at this; cases this), (hl q hq).2⟩
 exact stN F₆ hN (fun h₇ F₇ N₇ => k h₇ _ oe vs oC F₇ hNC N₇ hep hed) hk hlo
end
theorem n_lawcode {W : World → Prop} {lev l : Nat} {c : Cx} {E : VSP} {A₀ : Around} {al : Al} {f : Addr} {nw : Led} {K : VLP} (hw : W c.w) (hF : CFr (l + 1) c A₀ c.G []) (hkp : c.keep = []) (hR : CtR W l (.ref f) [] nw) (hf : FnO nw f) (h : ∀ t, K (.str BSs t) nw) : RawS E c (call (.ref 606) [.ref f]) al nw K := fun h0 tk st => by
 refine wpAny_call ?_
 obtain ⟨⟨loose, mean, mg, mb, dp, un, gd, cn, cs, a, ccd, cl, h1, he, h2, h3, h4, h5, h6⟩, hA, X⟩ := hF
 refine h1 ▸ ?_
 obtain ⟨FG, BG, stG, q_⟩ := groundX (s := c.at h0 tk) (A := ktrTop dp un gd cn cs c.L a ccd cl []) (env := envX cn cs c.L a ccd cl) (R := fun q_ q_ => True) h2 st.1 st.2.1 rfl rfl h4
 refine codeAny_call_def (binds := [(Str.ofString "deed", .ref f)]) (lv0 h5) ((X.keeps st.1.keep) 606 _ (by k_is)) rfl (h3.nolimit.keeps st.1.keep) (codeRec_of (X.keeps st.1.keep) (by k_is)) rfl (BindsTo.of_eq rfl) (by decide +kernel) (fun y hy => by rcases jO hy with rfl; rfl) ?_
 intro h₁ hns hk₁
 have hLs : c.L < h0.objs.size := st.1.ns.lt
 have F' : Fr (hideAll h0 (nw.map (·.1))) h0.objs.size h₁ _ := ⟨hns, fun b o e => hk₁ b o (of_hideAll _ e), Nat.le_of_eq (hideAll_size _ _)⟩
 have N' : News (hideAll h0 (nw.map (·.1))) h0.objs.size h₁ nw := fun p hp => ⟨hk₁ _ _ (st.2.1 p hp).1, Nat.ne_of_lt (Heap.lt_size (st.2.1 p hp).1), hideAll_none _ (List.mem_map_of_mem hp)⟩
 refine wpAny_execs_cons (wpAny_Try_except (wpAny_execs_cons (wpAny_Expr ?_)))
 let cx : Cx := { w := c.w, A := Around.deeper (ktrTop dp un gd cn cs c.L a ccd cl []) (envX (Str.ofString "_law_code") (sc [(Str.ofString "deed", .local), (Str.ofString "caught", .local), (Str.ofString "BasicError", .globalImplicit)] []) h0.objs.size 606 (.ref 605) []), env := envX (Str.ofString "_law_code") (sc [(Str.ofString "deed", .local), (Str.ofString "caught", .local), (Str.ofString "BasicError", .globalImplicit)] []) h0.objs.size 606 (.ref 605) [], G := hideAll h0 (nw.map (·.1)), L := h0.objs.size, fm := fun q_ x => ([(Str.ofString "deed", Value.ref f)] : List (Str × Value)).reverse.lookup x, ns := [], cl := [], fr := [], keep := [], gs := c.gs, d := c.d, os := c.os }
 have hF' : CFr l cx (ktrTop dp un gd cn cs c.L a ccd cl []) c.G [envX cn cs c.L a ccd cl] :=
  ⟨⟨loose, mean, mg, mb, dp + 1, un + 3, gd, _, _, _, _, _, rfl, rfl, BG, h3.keeps stG, rfl, lv1 h5, lv3 h6⟩, rfl, X.keeps stG⟩
 have stx : cx.st [] nw h₁ := ⟨F', N', rfl, fun p hp => nomatch hp⟩
 refine wpAny_mono (r_call0 (c := cx) (E := fun e s' => RzP cx c.G [envX cn cs c.L a ccd cl] nw (.error e) s') (K := fun q_ q_ => False) (K' := fun q_ q_ => False)
  (fun g tk st => wpAny_Name (wpAny_loadName_local rfl rfl st.1.ns rfl ⟨g, tk, nw, rfl, st, rfl, rfl⟩) (by decide)) hf
  (fun g' tk' st' => wpAny_call (codeAny_mono (hR.o cx [] _ c.G _ hw hF' g' tk' st') fun r s' hr => by
   obtain ⟨ea, dx, od, nws, g₂, m', h', tk', rfl, rfl, r1, r2, r3, r4, r5, r6⟩ := hr
   exact ⟨ea, dx, od, nws, g₂, m', h', tk', rfl, rfl, r1, r2, r3, r4, r5, r6⟩)) h₁ (tk + 1) stx) (fun v s' hv => ?_) fun e s' he' => ?_
 · obtain ⟨q_, q_, q_, q_, q_, k⟩ := hv
   exact k.elim
 obtain ⟨ea, dx, od, nws, g₂, m', h', tk', e1, rfl, R, m1, ⟨mm, t, cd1, cd2⟩, sub, F2, U⟩ := he'
 cases e1
 refine caught_Q (outer := [envX cn cs c.L a ccd cl]) (scope := sc [(Str.ofString "deed", .local), (Str.ofString "caught", .local), (Str.ofString "BasicError", .globalImplicit)] []) (h := g₂) (m := m') (mc := c.fm al) rfl (U.ns (FG.ns.keeps F2.keep)) (Heap.get?_none_of_le st.1.above) (Nat.ne_of_lt hLs) ⟨F2.ns, fun b o e => F2.keep b o (stG b o e), Nat.le_trans st.1.above (Nat.le_of_lt hLs)⟩ U R X (topRead_of h3) kBE k34 rfl ?_ rfl rfl rfl (by decide)
 intro h'' tk2 oe vs oC F4 hNC N4 px pd
 have X4 := X.keeps F4.keep
 refine wpAny_execs_cons (wpAny_Return_some (Attribute_any_ (wpAny_Name (wpAny_loadName_local rfl rfl F4.ns rfl ?_) (by decide)) rfl))
 refine code_attr (mN := fun q_ => none) PySem.F.attrBase_Exception .base (X4 _ _ k34) (looks_findIn X4 k34g) (looks_findIn X4 k34h) (looks_findIn X4 k34c) (N4 _ (.tail _ (.head _))).1 px.1 px.2 pd (cd1.ns (N4 _ (.tail _ (.tail _ m1))).1) cd2 rfl ?_
 refine name_goes_keeps F4 N4 fun h5 v5 F5 N5 => ?_
 exact ⟨h5, _, nw, rfl, ⟨⟨hNC.ns (N5 _ (.head _)).1, F5.keep, st.1.above⟩, fun p hp => ⟨(N5 p (.tail _ (.tail _ (sub p hp)))).1, (st.2.1 p hp).2⟩, st.2.2.1, fun p hp => by rw [hkp] at hp; cases hp⟩, h t⟩
end Mine
namespace Mine
open LCg
structure Alt (ow : Lab) (x : Addr) (n n' : Led) : Prop where
 kp : ∀ p ∈ n, p.1 ≠ x → p ∈ n'
 cv : ∃ q ∈ n', q.1 = x
 tp : ∀ a vs q, (a, tup vs q) ∈ n' → ow a = 0
section
variable {k : WC} {ow ow' : Lab} {x : Addr} {n n' : Led} {nks nks' : List (Str × Value)} {S S' : List AR}
theorem Alt.fro (A : Alt ow x n n') (hx : 50 ≤ ow x) : ∀ p ∈ fro ow n, p ∈ fro ow n' := fun p hp => by
 obtain ⟨h1, h2⟩ := mem_fro.mp hp
 exact mem_fro.mpr ⟨A.kp p h1 fun e => own50 h2 (e ▸ hx), h2⟩
theorem WSt.at (h : WSt k ow n nks S) (A : Alt ow x n n') (hx : 50 ≤ ow x) : WSt k ow n' nks S :=
 h.alter (fun p hp hl => A.kp p hp fun e => absurd (e ▸ hl) (Nat.not_lt.mpr hx)) (fun p hp => by
  by_cases e : p.1 = x
  · rw [e]; exact A.cv
  · exact ⟨p, A.kp p hp e, rfl⟩) A.tp
theorem WSt.putO (h : WSt k ow n nks S) {o' : Obj} (hx : ∃ p ∈ n, p.1 = x) (ho : ∀ vs q, o' ≠ tup vs q) : Alt ow x n (putO n x o') :=
 ⟨fun p hp e => putO_ne hp e, ⟨_, .head _, rfl⟩, fun a vs q hm => by
  rcases jX hm with e | hm
  · exact absurd (Prod.mk.inj e).2.symm (ho _ _)
  · exact h.tp a vs q (mem_oth.mp hm).1⟩
theorem WSt.setAt (h : WSt k ow n nks S) {o o' : Obj} (hx : (x, o) ∈ n) (ho : ∀ vs q, o' ≠ tup vs q) : Alt ow x n (setAt n x o') :=
 ⟨fun p hp e => mem_setAt hp e, ⟨_, self_setAt hx, rfl⟩, fun a vs q hm => by
  obtain ⟨p, hp, e⟩ := List.mem_map.mp hm
  by_cases q : p.1 = x
  · rw [if_pos q] at e; exact absurd (Prod.mk.inj e).2 (ho _ _)
  · rw [if_neg q] at e; rw [e] at hp; exact h.tp _ _ _ hp⟩
end
theorem cellNt {o : Obj} {u : Option Value} (h : o.data = .cell u) : ∀ vs q, o ≠ tup vs q := fun vs q e => by
 rw [e] at h
 cases h
theorem nA {L T i : Nat} (h : L + 8 < T) (hi : i < 8) : L + 1 + i ≠ T := by lia
theorem nB {L i : Nat} (h : 635 < L) : L + 1 + i ≠ 635 := by lia
theorem nC {L i j : Nat} (h : j ≠ i) : L + 1 + j ≠ L + 1 + i := by lia
theorem nD {L T : Nat} (h : L + 8 < T ∧ 635 < L) : 635 ≠ T := by lia
theorem nE {a : Nat} (h : a = 0) (h2 : 50 ≤ a) : False := by lia
structure Tp where
 T : Addr
 nm : Addr
 us : Array Value
 q : Nat
 s : Int
 ts : Tok
structure LawS (L : Addr) (k : WC) (t : Tp) (m : Nat) (tb : List (Pos × Addr)) (ce : Nat → Option Value) (nks : List (Str × Value)) (S : List AR) (ow : Lab) (n : Led) : Prop where
 w : WSt k ow n nks S
 tape : ∃ tt, (t.T, TapeO t.nm t.s t.ts m tt) ∈ n
 lt : 50 ≤ ow t.T
 nums : (t.nm, listOf t.us t.q) ∈ n ∧ ow t.nm = 0
 itz : Ints t.us
 tab : (635, tabObj (triples tb).toArray) ∈ n
 l635 : 50 ≤ ow 635
 cel : ∀ i, i < 8 → E1_3 (fun o => (L + 1 + i, o) ∈ n) (fun o => o.data = .cell (ce i)) (fun o => 50 ≤ ow (L + 1 + i))
 ne : L + 8 < t.T ∧ 635 < L
noncomputable def upd (ce : Nat → Option Value) (i : Nat) (v : Value) : Nat → Option Value := fun j => if j = i then some v else ce j
section
variable {k : WC} {t : Tp} {m : Nat} {tb : List (Pos × Addr)} {L : Addr} {ce : Nat → Option Value} {ow ow' : Lab} {x : Addr} {n n' : Led} {nks nks' : List (Str × Value)} {S S' : List AR}
theorem LawS.ext (h : LawS L k t m tb ce nks S ow n) (W : WSt k ow' n' nks' S') (X : Ext ow n ow' n') : LawS L k t m tb ce nks' S' ow' n' where
 w := W
 tape := let ⟨tt, hm⟩ := h.tape; ⟨tt, X.kp _ hm (.inr h.lt)⟩
 lt := by obtain ⟨tt, hm⟩ := h.tape; rw [X.same _ hm]; exact h.lt
 nums := ⟨X.kp _ h.nums.1 (.inl h.nums.2), (X.same _ h.nums.1).trans h.nums.2⟩
 itz := h.itz
 tab := X.kp _ h.tab (.inr h.l635)
 l635 := by rw [X.same _ h.tab]; exact h.l635
 cel i hi := by
  obtain ⟨o, h1, h2, h3⟩ := h.cel i hi
  exact ⟨o, X.kp _ h1 (.inr h3), h2, by rw [X.same _ h1]; exact h3⟩
 ne := h.ne
theorem LawS.le (h : LawS L k t m tb ce nks S ow n) (hl : Le n n') : LawS L k t m tb ce nks S ow n' := h.ext (h.w.le hl) (.of hl.sub)
theorem LawS.nmT (h : LawS L k t m tb ce nks S ow n) : t.nm ≠ t.T := fun e => by
 have h1 := h.nums.2
 have h2 := h.lt
 rw [← e, h1] at h2
 exact absurd h2 (by decide)
theorem LawS.moved (h : LawS L k t m tb ce nks S ow n) {m' : Nat} {tt : Tok} (A : Alt ow t.T n n') (hT : (t.T, TapeO t.nm t.s t.ts m' tt) ∈ n') : LawS L k t m' tb ce nks S ow n' where
 w := h.w.at A h.lt
 tape := ⟨tt, hT⟩
 lt := h.lt
 nums := ⟨A.kp _ h.nums.1 h.nmT, h.nums.2⟩
 itz := h.itz
 tab := A.kp _ h.tab (nD h.ne)
 l635 := h.l635
 cel i hi := by
  obtain ⟨o, h1, h2, h3⟩ := h.cel i hi
  exact ⟨o, A.kp _ h1 (nA h.ne.1 hi), h2, h3⟩
 ne := h.ne
theorem LawS.cell (h : LawS L k t m tb ce nks S ow n) {i : Nat} {v : Value} {o' : Obj} (hi : i < 8) (A : Alt ow (L + 1 + i) n n') (hm : (L + 1 + i, o') ∈ n') (hd : o'.data = .cell (some v)) : LawS L k t m tb (upd ce i v) nks S ow n' where
 w := h.w.at A (let ⟨_, _, _, r⟩ := h.cel i hi; r)
 tape := let ⟨tt, hm⟩ := h.tape; ⟨tt, A.kp _ hm (nA h.ne.1 hi).symm⟩
 lt := h.lt
 nums := ⟨A.kp _ h.nums.1 fun e => nE h.nums.2 (by rw [show t.nm = L + 1 + i from e]; exact (let ⟨_, _, _, r⟩ := h.cel i hi; r)), h.nums.2⟩
 itz := h.itz
 tab := A.kp _ h.tab (nB h.ne.2).symm
 l635 := h.l635
 cel j hj := by
  obtain ⟨o, h1, h2, h3⟩ := h.cel j hj
  by_cases q : j = i
  · subst q
    exact ⟨o', hm, by rw [hd]; unfold upd; rw [if_pos rfl], h3⟩
  · exact ⟨o, A.kp _ h1 (nC q), by rw [h2]; unfold upd; rw [if_neg q], h3⟩
 ne := h.ne
theorem LawS.get (h : LawS L k t m tb ce nks S ow n) (i : Nat) (v : Value) (hi : i < 8) (hv : ce i = some v) : E1_2 (fun o => (L + 1 + i, o) ∈ n) (fun o => o.data = .cell (some v)) := by
 obtain ⟨o, h1, h2, q_⟩ := h.cel i hi
 exact ⟨o, h1, hv ▸ h2⟩
theorem LawS.wr {c : Cx} {y : Str} {al : Al} {Kn : ALP} {v : Value} (h : LawS L k t m tb ce nks S ow n) (i : Nat) (hi : i < 8) (hl : c.cl.lookup y = some (L + 1 + i)) (hk : ∀ n', Alt ow (L + 1 + i) n n' → LawS L k t m tb (upd ce i v) nks S ow n' → Kn al n') : vSt (.inr y) c v al n Kn := by
 obtain ⟨o, h1, h2, q_⟩ := h.cel i hi
 refine ⟨_, o, _, hl, h1, h2, fun o' d' => ?_⟩
 have A := h.w.setAt h1 (cellNt d')
 exact hk _ A (h.cell hi A (self_setAt h1) d')
variable {lev : Nat} {c : Cx} {E : VSP} {al : Al} {K : VLP} {many : Int} {tm : Tok}
theorem r_draw (hC : CAny lev c) (hl : 1 ≤ lev) (hk : c.keep = []) (h : LawS L k t m tb ce nks S ow n) (hm : m ≤ 100) (h0 : 0 < many) (hK : ∀ v u n', 0 ≤ v → v < many → Alt ow t.T n n' → LawS L k t (m + 1) tb ce nks S ow n' → K (.int v u) n') : RawS E c (call (.ref 599) [.ref t.T, .int many tm]) al n K := by
 obtain ⟨tt, hT⟩ := h.tape
 refine ((n_next hT h.nums.1 h.nmT h.itz hm h0).o c al E trivial (hC.top.le hl) (fun q_ q_ q_ q_ p hp => by rw [hk] at hp; cases hp)).mono fun v n' z1 => ?_
 obtain ⟨x, u, tt', e, hx, en⟩ := z1
 subst e en
 have A := h.w.putO (x := t.T) (o' := TapeO t.nm t.s t.ts (m + 1) tt') ⟨_, hT, rfl⟩ fun q_ q_ => listNt
 exact hK x u _ hx.1 hx.2 A (h.moved A (.head _))
theorem r_grid {r w : Nat} {t1 t2 : Tok} (hC : CAny lev c) (hl : 2 ≤ lev) (hk : c.keep = []) (h : LawS L k t m tb ce nks S ow n) (hm : m + r * w ≤ 90) (hr : r ≤ 3) (hw : w ≤ 3) (hK : ∀ x f n', Alt ow t.T n n' → LawS L k t (m + r * w) tb ce nks S ow n' → Mat ow (some false) n' x r w f → (∀ i j, i < r → j < w → -4 ≤ f i j ∧ f i j ≤ 6) → K (.ref x) n') : RawS E c (call (.ref 616) [.ref t.T, .int r t1, .int w t2]) al n K := by
 obtain ⟨tt, hT⟩ := h.tape
 refine ((n_grid hT h.nums.1 h.nmT h.itz hm hr hw).o c al E trivial (hC.top.le hl) (fun q_ q_ q_ q_ p hp => by rw [hk] at hp; cases hp)).mono fun v n' hP => ?_
 obtain ⟨x, f, e, hG, hf⟩ := hP.g
 subst e
 obtain ⟨tt', hT'⟩ := hP.tape
 have A : Alt ow t.T n n' := ⟨hP.kp, ⟨_, hT', rfl⟩, fun a vs q hm => by
  rcases hP.fr _ hm with ⟨q_, e⟩ | hm | hf
  · exact absurd rfl (e vs q)
  · exact h.w.tp a vs q hm
  · exact h.w.fresh hf⟩
 have h' := h.moved A hT'
 refine hK x f n' A h' ?_ hf
 obtain ⟨z, vs, q, hm, hz, hv⟩ := hG.okm fun a ha => h.w.fresh ha
 refine ⟨z, vs, q, mem_fro.mpr ⟨hm, z⟩, hz, fun i v e => ?_⟩
 obtain ⟨a, e1, R⟩ := hv i v e
 exact ⟨a, e1, R.fro h'.w⟩
end
theorem c_unpL {lev : Nat} {c : Cx} {names : NKs} {cl : SAs} {KR : VAP} {E : VSP} {al : Al} {nw : Led} {Kn : ALP} {ts : List PySem.Expr} {ss : List Slot1} {k : Nat} {tp q : Pos} {e : PySem.Expr} (hC : CIn lev names c cl) (ht : tgtS names ts = some ss)
 (hsw : swapsWithSole [.Tuple ts k tp] e q.line c.env = pure false) (hn : swappedStores [.Tuple ts k tp] e c.env = pure none) (he : RawS E c (eval e c.env) al nw fun v n => E3_4 (fun T xs q => v = .ref T) (fun T xs q => (T, listOf xs.toArray q) ∈ n) (fun T xs q => xs.length = ss.length) (fun T xs q => vSts ss c xs al n Kn)) : RawC E c KR (exec (.Assign [.Tuple ts k tp] e q) c.env) al nw Kn := by
 intro h tk st
 refine Assign_Tuple (RawS.seq he (fun v n h tk k st => ?_) h tk st) hsw hn
 obtain ⟨T, xs, qn, rfl, hm, hl, k⟩ := k
 have L := tgtS_len (env := c.env) (hC.ns.symm ▸ ht)
 exact kun_list (s := c.at h tk) st.1 st.2.1 (st.2.1.isList hm) hC.hn (by rw [L.1, ← hl]; simp) L.2 fun h₂ F N => sts_snd hC.ok (hC.ns.symm ▸ ht) hl ⟨F, N, st.2.2⟩ k fun al' nw' h' tk' st' k' => EndS.next st' k'
end Mine
namespace Mine
open LCg
theorem setAt_adr {nw : Led} {a : Addr} {o : Obj} {p : Addr × Obj} (h : p ∈ setAt nw a o) : ∃ q ∈ nw, q.1 = p.1 ∧ (p = q ∨ (q.1 = a ∧ p.2 = o)) := by
 obtain ⟨q, hq, e⟩ := List.mem_map.mp h
 by_cases c : q.1 = a
 · rw [if_pos c] at e; subst e; exact ⟨q, hq, c, .inr ⟨c, rfl⟩⟩
 · rw [if_neg c] at e; subst e; exact ⟨q, hq, rfl, .inl rfl⟩
theorem setAt_putO {nw : Led} {a : Addr} {o : Obj} : ∀ p ∈ setAt nw a o, p ∈ putO nw a o := fun p hp => by
 obtain ⟨q, hq, e⟩ := List.mem_map.mp hp
 by_cases c : q.1 = a
 · rw [if_pos c] at e; rw [← e]; exact .head _
 · rw [if_neg c] at e; rw [← e]; exact putO_ne hq c
theorem setAt_mono {nw n : Led} {a : Addr} {o : Obj} (h : ∀ p ∈ nw, p ∈ n) : ∀ p ∈ setAt nw a o, p ∈ setAt n a o := fun p hp => by
 obtain ⟨q, hq, e⟩ := List.mem_map.mp hp
 exact List.mem_map.mpr ⟨q, h q hq, e⟩
theorem fre_setAt {nw : Led} {a x : Addr} {o : Obj} (h : Fre nw x) : Fre (setAt nw a o) x := fun p hp => by
 obtain ⟨q, hq, e, q_⟩ := setAt_adr hp
 rw [← e]; exact h q hq
theorem WNew.setAt {m : Nat} {w : World} {nw n rest : Led} {z dw ad nd kd a : Addr} {b : Int} {o' : Obj} (h : WNew m w nw n z b dw rest ad nd kd) (ha : ∃ p ∈ nw, p.1 = a) (ho : ∀ vs q, o' ≠ tup vs q) : WNew m w (setAt nw a o') (setAt n a o') z b dw (setAt rest a o') ad nd kd := by
 have ne : ∀ {x : Addr}, Fre nw x → x ≠ a := fun {x} hx e => by
  obtain ⟨p, hp, e2⟩ := ha
  exact absurd (hx p hp) (by rw [e2, e]; exact Nat.lt_irrefl _)
 have tb : ∀ {x : Addr}, Tab0 w nw rest dw x → Tab0 w (Mine.setAt nw a o') (Mine.setAt rest a o') dw x := fun ⟨⟨o, h1, h2⟩, h3, h4⟩ => ⟨⟨o, mem_setAt h1 (ne h4), h2⟩, h3, fre_setAt h4⟩
 obtain ⟨es, q, t1, t2, t3, t4, e, r1, r2, r3⟩ := h.dict
 exact {
  dict := ⟨es, q, t1, t2, t3, t4, by rw [e, setAt_ne (ne h.fd)], r1, r2, r3⟩
  inb := {
   inst := mem_setAt h.inb.inst (ne h.fz)
   sub := setAt_mono h.inb.sub
   off := fun p hp => by
    obtain ⟨r, hr, e, q_⟩ := setAt_adr hp
    rw [← e]; exact h.inb.off r hr
   nt := fun x vs q hm => by
    obtain ⟨r, hr, e, e2 | ⟨q_, e2⟩⟩ := setAt_adr hm
    · subst e2
      refine mem_setAt (h.inb.nt _ _ _ hr) fun e3 => ?_
      obtain ⟨s, hs, e4⟩ := List.mem_map.mp hm
      by_cases c : s.1 = a
      · rw [if_pos c] at e4; exact absurd (Prod.mk.inj e4).2 (ho _ _)
      · rw [if_neg c] at e4; rw [e4] at c; exact c e3
    · exact absurd e2.symm (ho _ _)
   fr := fun p hp => by
    obtain ⟨r, hr, e⟩ := List.mem_map.mp hp
    rcases h.inb.fr r hr with h1 | h1
    · exact .inl (List.mem_map.mpr ⟨r, h1, e⟩)
    · rw [if_neg (ne h1)] at e
      rw [← e]; exact .inr (fre_setAt h1) }
  fd := fre_setAt h.fd
  fz := fre_setAt h.fz
  ta := tb h.ta
  tn := tb h.tn
  tk := tb h.tk
  ne := h.ne }
noncomputable def lawCl (L : Addr) : SAs := [(Str.ofString "world", L + 8), (Str.ofString "wide", L + 7), (Str.ofString "sign", L + 6), (Str.ofString "many", L + 5), (Str.ofString "c", L + 4), (Str.ofString "a", L + 3), (Str.ofString "twice", L + 2), (Str.ofString "tape", L + 1)]
end Mine
namespace Mine
open LCg
def sgn (dec : Bool) : Str := if dec then Str.ofString "" else Str.ofString "%"
theorem n_kept {dec : Bool} {ok : Addr → Prop} {x : Addr} {r k : Nat} {f : NNI} {t : Tok} {nw : Led} (hG : GridF ok (some false) nw x r k f) (hr : r ≤ 9) (hk : k ≤ 9) (hf : ∀ i j, i < r → j < k → -999 ≤ f i j ∧ f i j ≤ 999) : CtN 1 (.ref 611) [.ref x, .str (sgn dec) t] nw (RowsG nw (some dec) r k f) := by
 cases dec with
 | false => exact n_keptI hG hr hk
 | true => exact n_keptD hG hr hk hf
inductive PairP (nw : Led) (g : Addr) (dec : Bool) (v : Value) (n : Led) : Prop
 | pk (D u : _) : v = .ref D → Le nw n → (D, tup [.ref g, u] 0) ∈ n → Num n dec u 0 → PairP nw g dec v n
noncomputable def IsP (v : Value) (_ : Led) : Prop := v = .bool true
noncomputable def ZeroJ (nw : Led) (dec : Bool) (i : Nat) (ys : List Value) (tl : Led) : Prop := Upto i ys fun q_ v => Num nw dec v 0
theorem zeros_dat {n : Led} {dec : Bool} {vs : List Value} {k : Nat} (hl : vs.length = k) (h : ∀ (i : Nat) v, vs[i]? = some v → Num n dec v 0) : DatAll n vs ((List.range k).map fun q_ => numD dec 0) := datAll_map hl fun i v e => (h i v e).dat
theorem rep_list {v : Value} {k : Nat} : (List.replicate k [v]).flatten = List.replicate k v := by
 induction k with
 | zero => rfl
 | succ k ih => rw [List.replicate_succ, List.flatten_cons, ih, List.replicate_succ]; rfl
theorem n_lawis {k : WC} {S : List AR} {A : AR} {ok : Addr → Prop} {y : Addr} {f : NNI} {tw ts : Tok} {nw : Led} (hW : WRd k nw S) (hm : A ∈ S) (hG : GridF ok (some false) nw y A.r A.c f) (hr : A.r ≤ 9) (hk : A.c ≤ 9) (he : ∀ i j, i < A.r → j < A.c → A.f i j = f i j) (hf : ∀ i j, i < A.r → j < A.c → -999 ≤ f i j ∧ f i j ≤ 999) :
 CtNW k.w 6 (.ref 626) [.ref k.wa, .str A.word tw, .ref y, .str (sgn k.dec) ts] nw IsP := by
 obtain ⟨oa, ma, da⟩ := hW.tab
 have hv := tab_at hW.ws hm
 have hI := hW.arr A hm
 obtain ⟨gda, il, hl, gt, gn, ki, room, its, G⟩ := id hI
 obtain ⟨th1, th2, kh, hh⟩ := G.highs
 have r1 := G.rb.1
 have c1 := G.kb.1
 have b1 := G.b1
 obtain ⟨vs, q, my, zy, hy⟩ := hG.at
 obtain ⟨a0, e0, hR0⟩ := hy 0 (by lia)
 obtain ⟨us, q0, m0, z0, q_⟩ := hR0.at
 have hq : (sgn k.dec == Str.ofString "%") = !k.dec := by cases k.dec <;> kernel_rfl
 refine code_vc2 (W := (· = _)) (fun P => by k_is) (fun P => by k_is) rfl (by kernel_rfl) (by kernel_rfl) (hown := fun q_ => rfl) (v1 := some (.ref k.wa)) (hv1 := rfl) (v2 := some (.str A.word tw)) (hv2 := rfl) ?_
 intro c o1 o2 hw hC d1 d2 hL
 have hA := hC.toCAny
 have q1 : c.cl.lookup (Str.ofString "world") = some (c.L + 1) := by rw [hC.clq]; rfl
 have q2 : c.cl.lookup (Str.ofString "word") = some (c.L + 1 + 1) := by rw [hC.clq]; rfl
 have l0 := le2 (o1 := o1) (o2 := o2) hL
 have hw0 := hW.wld.mono l0.sub
 rw [← hw] at da
 refine vcE_post (P := PairP (cl2 c.L o1 o2 nw) A.g k.dec) (fun v n h => ?_) fun H => ?_
 rotate_left
 · refine ⟨_, o1, _, q1, m21, d1, w_arrays hA hw0 _ _ _ ⟨_, o2, _, q2, m22, d2, subD (l0.sub _ ma) da hv ?_⟩⟩
   intro t1
   refine ⟨fun e => ?_, fun e => ?_⟩
   · have hd : k.dec = false := by rw [hq] at e; cases h : k.dec <;> rw [h] at e <;> first | rfl | cases e
     exact fun t2 D hD => H _ _ ⟨D, _, rfl, .one hD, .head _, hd ▸ .i _ _⟩
   · have hd : k.dec = true := by rw [hq] at e; cases h : k.dec <;> rw [h] at e <;> first | rfl | cases e
     exact fun t2 t3 D2 hD2 D hD => H _ _ ⟨D, _, rfl, (Le.one hD2).cons hD, .head _, hd ▸ Num.d (n := 0) (.tail _ (.head _))⟩
 obtain ⟨D, u, rfl, l1, mD, hN⟩ := h
 have l01 := l0.trans l1
 refine unpI mD rfl (vst2 ?_)
 refine g_highs hA (G.mono l01.sub) (r_len (l01.sub _ my) (by exact ns ‹_› ‹_›) fun t2 => ?_)
 intro t3
 refine subL (l01.sub _ my) (by decide) (by decide) e0 (r_len (l01.sub _ m0) (by exact ns ‹_› ‹_›) fun t4 D2 hD2 => ?_)
 refine zy ▸ z0 ▸ ?_
 have l2 := l01.cons (o := listOf [.int A.r t2, .int A.c t4].toArray 0) hD2
 refine r_neD hA (by decide) (.list (.tail _ (l01.sub _ hh)) (.cons (.int _ _) (.cons (.int _ _) .nil))) (.list (.head _) (.cons (.int _ _) (.cons (.int _ _) .nil))) rfl rfl (q := true) ⟨fun q_ => rfl, fun q_ => rfl⟩ (iteF' ?_)
 refine (n_rows (hI.mono l2.sub)).go hA fun v n2 l3 z1 => ?_
 obtain ⟨x2, e, hx2⟩ := z1
 subst e
 refine (n_kept (hG.mono (l2.trans l3).sub) hr hk hf).go hA fun v n3 l4 z2 => ?_
 obtain ⟨x3, e, hx3⟩ := z2
 subst e
 refine r_neD hA (by decide) (hx2.mono l4.sub).dat hx3.dat gridD_ok gridD_ok (q := true) ⟨fun q_ => gridD_eq he, fun q_ => rfl⟩ (iteF' (vnil ?_))
 have l5 := (l2.trans l3).trans l4
 have l6 : Le (cl2 c.L o1 o2 nw) n3 := ((l1.cons (o := listOf [.int A.r t2, .int A.c t4].toArray 0) hD2).trans l3).trans l4
 obtain ⟨tb, wb⟩ := w_base hA (hW.wld.mono l5.sub)
 refine ⟨_, o1, _, q1, l6.sub _ m21, d1, wb _ _ _ fun t5 => iteC (fun q_ => ⟨l5, rfl⟩) fun hb => ?_⟩
 have hb0 : k.b = 0 := by lia
 refine lc1 (b := false) (own := fun q_ => []) (fz := [(Str.ofString "world", c.L + 1, .ref k.wa), (Str.ofString "word", c.L + 1 + 1, .str A.word tw)]) hA ⟨by obtain ⟨_, _, _, _, e⟩ := hC.en; rw [e]; with_unfolding_all rfl, rfl, by decide, fun q_ => rfl, fun q_ => ownOk_nil, fun q_ => by kernel_rfl, fun q_ => rfl⟩ ?_
 refine vcN hC.ns hC.fr ?_
 intro t6
 refine subL (l5.sub _ my) (by decide) (by decide) e0 (r_len (l5.sub _ m0) (by exact ns ‹_› ‹_›) fun t7 t8 t9 => ?_)
 have hz : ((us.size : Int) + 1) = ((A.c + 1 : Nat) : Int) := by rw [z0]; rfl
 refine hz ▸ ?_
 refine r_rng1 fun D3 tA tB tC hD3 => ?_
 have l7 := l5.cons (o := rngO 0 ((A.c + 1 : Nat) : Int) 1 tA tB tC) hD3
 have m1 := jC (D3, rngO 0 ((A.c + 1 : Nat) : Int) 1 tA tB tC) (l6.sub _ m21)
 have m2 := jC (D3, rngO 0 ((A.c + 1 : Nat) : Int) 1 tA tB tC) (l6.sub _ m22)
 have m3 : (D3, rngO 0 ((A.c + 1 : Nat) : Int) 1 tA tB tC) ∈ (D3, rngO 0 ((A.c + 1 : Nat) : Int) 1 tA tB tC) :: n3 := .head _
 have hN4 : Num ((D3, rngO 0 ((A.c + 1 : Nat) : Int) 1 tA tB tC) :: n3) k.dec u 0 := hN.mono fun p hp => .tail _ (l4.sub _ (l3.sub _ (.tail _ hp)))
 generalize (D3, rngO 0 ((A.c + 1 : Nat) : Int) 1 tA tB tC) :: n3 = n4 at l7 m1 m2 m3 hN4 ⊢
 refine src1R (mu := []) (news := n4) (n := A.c + 1) m3 (by lia) (comp0 (ZeroJ n4 k.dec) (by lia) (hC.noK _) ⟨⟨o1, m1, d1⟩, ⟨o2, m2, d2⟩, trivial⟩ Upto.zero ?_ ?_)
 · rintro i vs' ys tl led C keep hi ⟨t10, rfl⟩ hJ ab sub hk1 hcl hA' t11 D5 hD5
   have s5 : ∀ p ∈ n4, p ∈ led := fun p hp => sub p (jR _ hp)
   refine (n_getitem (hW.mono l7.sub) (fun p hp => .tail _ (s5 p hp)) hm hb0 (by lia) (.head _)).goW hw hA' fun v n5 l8 hN => ?_
   obtain ⟨t, rfl, ab8⟩ := l8
   refine ce0 (t ++ [(D5, listOf [.int 0 t11, .int i t10].toArray 0)]) (by simp) (fun p hp q hq => ?_) (hJ.snoc (fun q_ q_ h => h) hN)
   revert p; refine fma (fun p hp => ?_) fun p hp => ?_
   · exact ab8 p hp q (.tail _ hq)
   · rw [jO hp]; exact hD5 q hq
 · intro D6 ys tl ab hJ
   have l8 : Le n4 ((D6, lst ys) :: (tl ++ n4)) := ⟨(D6, lst ys) :: tl, rfl, ab⟩
   have hJ' : DatIn ((D6, lst ys) :: (tl ++ n4)) (.ref D6) (.list ((List.range (A.c + 1)).map fun q_ => numD k.dec 0)) := .list (vs := ys) (.head _) (zeros_dat hJ.1 fun i v e => (hJ.2 i v e).mono l8.sub)
   have l9 := l7.trans l8
   have hN6 : Num ((D6, lst ys) :: (tl ++ n4)) k.dec u 0 := hN4.mono l8.sub
   generalize (D6, lst ys) :: (tl ++ n4) = n6 at l9 hJ' hN6 ⊢
   intro D7 hD7 t12
   have l10 := l9.cons (o := listOf [u].toArray 0) hD7
   refine subL (l10.sub _ my) (by decide) (by decide) e0 (r_len (l10.sub _ m0) (by exact ns ‹_› ‹_›) fun t13 t14 t15 => ?_)
   refine hz ▸ ?_
   refine r_mulL (.head _) (by exact Int.natCast_nonneg _) (by rw [Int.toNat_natCast]; show 1 * _ ≤ 256; lia) (by lia) fun D8 hD8 => ?_
   rw [Int.toNat_natCast, rep_list]
   refine r_eqD hA (by decide) (hJ'.mono fun p hp => .tail _ (.tail _ hp)) (.list (.head _) (zeros_dat (k := A.c + 1) List.length_replicate fun i v e => ?_)) (rowD_ok (f := fun q_ => 0)) (rowD_ok (f := fun q_ => 0)) (q := true) ⟨fun q_ => rfl, fun q_ => rfl⟩ ⟨l10.cons hD8, rfl⟩
   rw [List.getElem?_replicate] at e
   split at e
   · cases e
     exact hN6.mono fun p hp => .tail _ (.tail _ hp)
   · cases e
end Mine
namespace Mine
open LCg
theorem hcl {c : Cx} {lev : Nat} (hC : CIn lev lawN c (lawCl c.L)) (y : Str) (i : Nat) (h : ∀ L, (lawCl L).lookup y = some (L + 1 + i)) : c.cl.lookup y = some (c.L + 1 + i) := by rw [hC.clq]; exact h _
noncomputable def CelS (L : Addr) (n : Led) (ce : Nat → Option Value) : Prop := ∀ i, i < 8 → E1_2 (fun o => (L + 1 + i, o) ∈ n) (fun o => o.data = .cell (ce i))
section
variable {L : Addr} {n n' : Led} {ce : Nat → Option Value}
theorem CelS.mono (h : CelS L n ce) (hs : ∀ p ∈ n, p ∈ n') : CelS L n' ce := fun i hi => let ⟨o, h1, h2⟩ := h i hi; ⟨o, hs _ h1, h2⟩
theorem CelS.set (h : CelS L n ce) {x : Addr} {o' : Obj} (hx : ∀ i, i < 8 → L + 1 + i ≠ x) : CelS L (setAt n x o') ce := fun i hi => let ⟨o, h1, h2⟩ := h i hi; ⟨o, mem_setAt h1 (hx i hi), h2⟩
theorem CelS.wr (h : CelS L n ce) {i : Nat} (hi : i < 8) {o' : Obj} {v : Value} (hd : o'.data = .cell (some v)) : CelS L (setAt n (L + 1 + i) o') (upd ce i v) := fun j hj => by
 obtain ⟨o, h1, h2⟩ := h j hj
 by_cases q : j = i
 · subst q; exact ⟨o', self_setAt h1, by rw [hd]; unfold upd; rw [if_pos rfl]⟩
 · exact ⟨o, mem_setAt h1 (nC q), by rw [h2]; unfold upd; rw [if_neg q]⟩
theorem CelS.st {c : Cx} {y : Str} {al : Al} {Kn : ALP} {v : Value} (h : CelS L n ce) (i : Nat) (hi : i < 8) (hl : c.cl.lookup y = some (L + 1 + i)) (hk : ∀ o', o'.data = .cell (some v) → Kn al (setAt n (L + 1 + i) o')) : vSt (.inr y) c v al n Kn := by
 obtain ⟨o, h1, h2⟩ := h i hi
 exact ⟨_, o, _, hl, h1, h2, hk⟩
theorem CelS.get (h : CelS L n ce) (i : Nat) (v : Value) (hi : i < 8) (hv : ce i = some v) : E1_2 (fun o => (L + 1 + i, o) ∈ n) (fun o => o.data = .cell (some v)) := by
 obtain ⟨o, h1, h2⟩ := h i hi
 exact ⟨o, h1, hv ▸ h2⟩
end
noncomputable def NoTup (n : Led) : Prop := ∀ p ∈ n, ∀ vs q, p.2 ≠ tup vs q
theorem NoTup.set {n : Led} {x : Addr} {o' : Obj} (h : NoTup n) (ho : ∀ vs q, o' ≠ tup vs q) : NoTup (setAt n x o') := fun p hp => by
 obtain ⟨q, hq, q_, e | ⟨q_, e⟩⟩ := setAt_adr hp
 · rw [e]; exact h q hq
 · rw [e]; exact ho
noncomputable def ceA (T z : Addr) (dec : Bool) (tg : Tok) : Nat → Option Value := upd (upd (upd (fun q_ => none) 0 (.ref T)) 7 (.ref z)) 5 (.str (sgn dec) tg)
noncomputable def muA (L T : Addr) : List Addr := T :: 635 :: (List.range 8).map (L + 1 + ·)
theorem lawA {c : Cx} {KR : VAP} {Kn : ALP} {sl : Addr} {vs : List Value} {ns : List Int} {nw0 : Led} (hC : CIn 16 lawN c (lawCl c.L)) (hsl : c.G.IsList sl vs.toArray) (hi : IntsAre vs ns) (hz : vs.length ≤ 1000) (hL : 635 < c.L) (c0 : CelS c.L nw0 fun q_ => none) (t0 : (635, tabObj #[]) ∈ nw0) (n0 : NoTup nw0)
 (H : ∀ (k : WC) t tg ow n, k.w = c.w → k.b ≤ 1 → LawS c.L k t 2 [] (ceA t.T k.wa k.dec tg) [] [] ow n → vcS NoE glT lawN 57 (lawB.drop 3) [] c KR (hC.alo [some (.ref sl)]) n Kn) :
 vcS NoE glT lawN 60 lawB [] c KR (hC.alo [some (.ref sl)]) nw0 Kn := by
 have hA := hC.toCAny
 refine n_tapeG hA (by decide) hC.kp hsl hi hz fun v n1 l1 z1 => ?_
 obtain ⟨T, nm, us, q, s, ts, tt, e, mT, mn, hu, fT, fn, ne⟩ := z1
 subst e
 have cT : ∀ i, i < 8 → c.L + 1 + i ≠ T := fun i hi => let ⟨_, h1, _⟩ := c0 i hi; Nat.ne_of_lt (fT _ h1)
 have cn : ∀ i, i < 8 → c.L + 1 + i ≠ nm := fun i hi => let ⟨_, h1, _⟩ := c0 i hi; Nat.ne_of_lt (fn _ h1)
 have hT8 : c.L + 8 < T := let ⟨_, h1, _⟩ := c0 7 (by decide); fT _ h1
 refine (c0.mono l1.sub).st 0 (by decide) (hcl hC _ 0 fun q_ => rfl) fun o1 d1 => ?_
 intro t1 t2 t3 t4 t5
 have c1 := c0.wr (i := 0) (by decide) d1
 have n1' : NoTup (setAt nw0 (c.L + 1 + 0) o1) := n0.set (cellNt d1)
 have t1' := mem_setAt (a := c.L + 1 + 0) (o := o1) t0 (nB hL).symm
 have s1 : ∀ p ∈ (T, TapeO nm s ts 0 tt) :: (nm, listOf us q) :: setAt nw0 (c.L + 1 + 0) o1, p ∈ setAt n1 (c.L + 1 + 0) o1 := fun p hp => by
  revert p; refine fmc ?_ fun p hp => ?_
  · exact mem_setAt mT (cT 0 (by decide)).symm
  · revert p; refine fmc ?_ fun p hp => ?_
    · exact mem_setAt mn (cn 0 (by decide)).symm
    · exact setAt_mono l1.sub p hp
 obtain ⟨ba, hba⟩ : ∃ ba, ba = (T, TapeO nm s ts 0 tt) :: (nm, listOf us q) :: setAt nw0 (c.L + 1 + 0) o1 := ⟨_, rfl⟩
 rw [← hba] at s1
 have bT : (T, TapeO nm s ts 0 tt) ∈ ba := by rw [hba]; exact .head _
 have bn : (nm, listOf us q) ∈ ba := by rw [hba]; exact .tail _ (.head _)
 have b6 : (635, tabObj #[]) ∈ ba := by rw [hba]; exact .tail _ (.tail _ t1')
 have bc : CelS c.L ba (upd (fun q_ => none) 0 (.ref T)) := c1.mono fun p hp => by rw [hba]; exact .tail _ (.tail _ hp)
 have bN : NoTup ba := fun p hp => by
  rw [hba] at hp
  revert p; refine fmc ?_ fun p hp => ?_
  · exact fun q_ q_ => listNt
  · revert p; refine fmc ?_ fun p hp => ?_
    · exact fun q_ q_ => listNt
    · exact n1' p hp
 refine RawS.sub (nw' := ba) ?_ s1 (hC.noK _)
 refine r_cls (W := (· = c.w)) (l := 2) rfl hA mk583.1 mk583.2.1 mk583.2.2 (by decide) hC.kp fun z d hd hz => ⟨_, n_winit hd hz, fun v n2 ⟨e, rest, ad, nd, kd, hW⟩ => ⟨e, ?_⟩⟩
 have sub2 : ∀ p ∈ ba, p ∈ n2 := fun p hp => by
  obtain ⟨q_, q_, q_, q_, q_, q_, e, q_⟩ := hW.dict
  rw [e]; exact .tail _ (hW.inb.sub p hp)
 have b2 := bc.mono sub2
 intro t6 t7 D1 hD1
 obtain ⟨ot, ht1, ht2⟩ := b2.get 0 (.ref T) (by decide) rfl
 refine ⟨_, ot, _, hcl hC _ 0 fun q_ => rfl, .tail _ ht1, ht2, fun t8 => ?_⟩
 refine (n_next (.tail _ (sub2 _ bT)) (.tail _ (sub2 _ bn)) ne hu (by decide) (by decide)).goF trivial hC fun v n3 z2 => ?_
 obtain ⟨x, u, tt2, e, hx, en⟩ := z2
 subst e
 obtain ⟨dec, tg, hg⟩ : E2_1 (fun dec tg => ([.str (Str.ofString "%") t6, .str (Str.ofString "") t7] : List Value).toArray[x.toNat]? = some (.str (sgn dec) tg)) := by
  rcases (by lia : x = 0 ∨ x = 1) with rfl | rfl
  · exact ⟨false, t6, rfl⟩
  · exact ⟨true, t7, rfl⟩
 refine subL (by rw [en]; exact putO_ne (.head _) (Nat.ne_of_gt (hD1 _ (sub2 _ bT)))) hx.1 (by exact ir ‹_›) hg fun D2 hD2 => unpI (.head _) rfl ?_
 have m3 : ∀ p ∈ setAt n2 T (TapeO nm s ts 1 tt2), p ∈ (D2, tup [.ref z, .str (sgn dec) tg] 0) :: n3 := fun p hp => by
  rw [en]; exact .tail _ (setAt_putO p (setAt_mono (fun p hp => .tail _ hp) p hp))
 have b3 := (b2.set (o' := TapeO nm s ts 1 tt2) cT).mono m3
 refine b3.st 7 (by decide) (hcl hC _ 7 fun q_ => rfl) fun o8 d8 => (b3.wr (i := 7) (by decide) d8).st 5 (by decide) (hcl hC _ 5 fun q_ => rfl) fun o6 d6 => ?_
 have b4 := (b3.wr (i := 7) (by decide) d8).wr (i := 5) (by decide) d6
 have m4 := setAt_mono (a := c.L + 1 + 5) (o := o6) (setAt_mono (a := c.L + 1 + 7) (o := o8) m3)
 have bT1 : (T, TapeO nm s ts 1 tt2) ∈ setAt (setAt (setAt ba T (TapeO nm s ts 1 tt2)) (c.L + 1 + 7) o8) (c.L + 1 + 5) o6 := mem_setAt (mem_setAt (self_setAt bT) (cT 7 (by decide)).symm) (cT 5 (by decide)).symm
 have bn1 := mem_setAt (a := c.L + 1 + 5) (o := o6) (mem_setAt (a := c.L + 1 + 7) (o := o8) (mem_setAt (o := TapeO nm s ts 1 tt2) bn ne) (cn 7 (by decide)).symm) (cn 5 (by decide)).symm
 have c7 := bc.set (o' := TapeO nm s ts 1 tt2) cT
 have c5 := c7.wr (i := 7) (by decide) d8
 have hW4 := ((hW.setAt (o' := TapeO nm s ts 1 tt2) ⟨_, bT, rfl⟩ fun q_ q_ => listNt).setAt (a := c.L + 1 + 7) (let ⟨_, h, _⟩ := c7 7 (by decide); ⟨_, h, rfl⟩) (cellNt d8)).setAt (a := c.L + 1 + 5) (let ⟨_, h, _⟩ := c5 5 (by decide); ⟨_, h, rfl⟩) (cellNt d6)
 have s4 := setAt_mono (a := c.L + 1 + 5) (o := o6) (setAt_mono (a := c.L + 1 + 7) (o := o8) (setAt_mono (a := T) (o := TapeO nm s ts 1 tt2) sub2))
 obtain ⟨ow, hw1, hw2⟩ := b4.get 7 (.ref z) (by decide) rfl
 obtain ⟨ot', ht1', ht2'⟩ := b4.get 0 (.ref T) (by decide) rfl
 refine ⟨_, ow, _, hcl hC _ 7 fun q_ => rfl, hw1, hw2, ⟨_, ot', _, hcl hC _ 0 fun q_ => rfl, ht1', ht2', fun t9 => ?_⟩⟩
 refine (n_next (m4 _ (s4 _ bT1)) (m4 _ (s4 _ bn1)) ne hu (by decide) (by decide)).goF trivial hC fun v n5 z3 => ?_
 obtain ⟨y, u2, tt3, e, hy, en5⟩ := z3
 subst e
 obtain ⟨b, rfl⟩ := Int.eq_ofNat_of_zero_le hy.1
 have hb : b ≤ 1 := by lia
 have hW5 := hW4.setAt (o' := TapeO nm s ts 2 tt3) ⟨_, bT1, rfl⟩ fun q_ q_ => listNt
 refine RawS.sub (nw' := setAt (setAt (setAt (setAt n2 T (TapeO nm s ts 1 tt2)) (c.L + 1 + 7) o8) (c.L + 1 + 5) o6) T (TapeO nm s ts 2 tt3)) ?_ (fun p hp => by rw [en5]; exact setAt_putO p (setAt_mono m4 p hp)) (hC.noK _)
 refine (n_optb hW5 hb).goF rfl hC fun v n6 z4 => ?_
 obtain ⟨q_, hW6⟩ := z4
 have c6 : CelS c.L _ (ceA T z dec tg) := (c5.wr (i := 5) (by decide) d6).set (o' := TapeO nm s ts 2 tt3) cT
 have T6 := self_setAt (o' := TapeO nm s ts 2 tt3) bT1
 have N6 := mem_setAt (a := T) (o := TapeO nm s ts 2 tt3) bn1 ne
 have x6 := mem_setAt (a := T) (o := TapeO nm s ts 2 tt3) (mem_setAt (a := c.L + 1 + 5) (o := o6) (mem_setAt (a := c.L + 1 + 7) (o := o8) (mem_setAt (a := T) (o := TapeO nm s ts 1 tt2) b6 (nD ⟨hT8, hL⟩)) (nB hL).symm) (nB hL).symm) (nD ⟨hT8, hL⟩)
 have y6 : NoTup _ := (((bN.set (x := T) (o' := TapeO nm s ts 1 tt2) fun q_ q_ => listNt).set (x := c.L + 1 + 7) (cellNt d8)).set (x := c.L + 1 + 5) (cellNt d6)).set (x := T) (o' := TapeO nm s ts 2 tt3) fun q_ q_ => listNt
 generalize setAt (setAt (setAt (setAt ba T (TapeO nm s ts 1 tt2)) (c.L + 1 + 7) o8) (c.L + 1 + 5) o6) T (TapeO nm s ts 2 tt3) = b9 at hW6 c6 T6 N6 x6 y6
 have sub6 : ∀ p ∈ b9, p ∈ n6 := fun p hp => by
  obtain ⟨q_, q_, q_, q_, q_, q_, e, q_⟩ := hW6.dict
  rw [e]; exact .tail _ (hW6.inb.sub p hp)
 have hm : ∀ a ∈ muA c.L T, ∃ p ∈ b9, p.1 = a := fun a ha => by
  revert a; refine fmc ?_ fun a ha => ?_
  · exact ⟨_, T6, rfl⟩
  · revert a; refine fmc ?_ fun a ha => ?_
    · exact ⟨_, x6, rfl⟩
    · obtain ⟨i, hi, rfl⟩ := List.mem_map.mp ha
      obtain ⟨o, h1, q_⟩ := c6 i (List.mem_range.mp hi)
      exact ⟨_, h1, rfl⟩
 have lb : ∀ a ∈ muA c.L T, ow0 ad nd (muA c.L T) a = 50 := fun a ha => by
  obtain ⟨p, hp, e⟩ := hm a ha
  unfold ow0
  rw [if_neg (Nat.ne_of_lt (e ▸ hW6.ta.2.2 p hp)), if_neg (Nat.ne_of_lt (e ▸ hW6.tn.2.2 p hp)), if_pos ha]
 have mi : ∀ i, i < 8 → c.L + 1 + i ∈ muA c.L T := fun i hi => .tail _ (.tail _ (List.mem_map.mpr ⟨i, List.mem_range.mpr hi, rfl⟩))
 refine H ⟨c.w, z, ad, nd, dec, b⟩ ⟨T, nm, us, q, s, ts⟩ tg (ow0 ad nd (muA c.L T)) n6 rfl hb ⟨hW6.start dec hb hm fun a vs q h => absurd rfl (y6 _ h vs q), ⟨_, sub6 _ T6⟩, ?_, ⟨sub6 _ N6, ?_⟩, hu, sub6 _ x6, ?_, fun i hi => ?_, hT8, hL⟩
 · show 50 ≤ ow0 _ _ _ T
   rw [lb _ (.head _)]; decide
 · show ow0 _ _ _ nm = 0
   unfold ow0
   rw [if_neg (Nat.ne_of_lt (hW6.ta.2.2 _ N6)), if_neg (Nat.ne_of_lt (hW6.tn.2.2 _ N6)), if_neg fun h => ?_]
   rcases jX h with e | h
   · exact ne e
   · rcases jX h with e | h
     · exact absurd (fn _ t0) (by rw [e]; exact Nat.lt_irrefl _)
     · obtain ⟨i, hi, e⟩ := List.mem_map.mp h
       exact cn i (List.mem_range.mp hi) e
 · rw [lb _ (.tail _ (.head _))]; decide
 · obtain ⟨o, h1, h2⟩ := c6 i hi
   exact ⟨o, sub6 _ h1, h2, by rw [lb _ (mi i hi)]; decide⟩
end Mine
namespace Mine
open LCg
theorem rngNt {a b d : Int} {t u v : Tok} {vs : List Value} {q : Nat} : rngO a b d t u v ≠ tup vs q := fun e => by
 have h := congrArg Obj.cls e
 injection h with h
 exact absurd h (by decide)
theorem vsI {c : Cx} {ss : List Slot1} {vs : List Value} {al : Al} {n : Led} {Kn : ALP} {i : Nat} {v : Value} (h : vSts ss c vs (alSet al i v) n Kn) : vSts (.inl i :: ss) c (v :: vs) al n Kn := h
theorem LawS.wrs {L : Addr} {k : WC} {t : Tp} {m : Nat} {tb : List (Pos × Addr)} {ce : Nat → Option Value} {ow : Lab} {n : Led} {nks : List (Str × Value)} {S : List AR} {c : Cx} {y : Str} {ss : List Slot1} {vs : List Value} {al : Al} {Kn : ALP} {v : Value} (h : LawS L k t m tb ce nks S ow n) (i : Nat) (hi : i < 8) (hl : c.cl.lookup y = some (L + 1 + i)) (hk : ∀ n', Alt ow (L + 1 + i) n n' → LawS L k t m tb (upd ce i v) nks S ow n' → vSts ss c vs al n' Kn) : vSts (.inr y :: ss) c (v :: vs) al n Kn := h.wr i hi hl hk
noncomputable def Draws (t : Tp) (m : Nat) (many : Int) (j : Nat) (ys : List Value) (mu tl : Led) : Prop := (∃ tt, mu = [(t.T, TapeO t.nm t.s t.ts (m + j) tt)]) ∧ tl = [] ∧ Upto j ys fun q_ v => E2_2 (fun x u => v = Value.int (1 + x) u) (fun x u => 0 ≤ x ∧ x < many)
theorem three {ys : List Value} (h : Upto 3 ys fun q_ v => E2_2 (fun x u => v = Value.int (1 + x) u) (fun x u => 0 ≤ x ∧ x < 3)) : E6_4 (fun (r i w : Nat) (u1 u2 u3 : Tok) => ys = [.int r u1, .int i u2, .int w u3]) (fun (r i w : Nat) (u1 u2 u3 : Tok) => (1 ≤ r ∧ r ≤ 3)) (fun (r i w : Nat) (u1 u2 u3 : Tok) => (1 ≤ i ∧ i ≤ 3)) (fun (r i w : Nat) (u1 u2 u3 : Tok) => 1 ≤ w ∧ w ≤ 3) := by
 cases ys with
 | nil => exact nomatch h.1
 | cons a ys =>
  obtain ⟨b, d, rfl⟩ := len2 (Nat.succ.inj h.1)
  have nat : ∀ v, (E2_2 (fun x u => v = Value.int (1 + x) u) (fun x u => 0 ≤ x ∧ x < 3)) → E2_2 (fun (r : Nat) (u : Tok) => v = .int r u) (fun (r : Nat) (u : Tok) => 1 ≤ r ∧ r ≤ 3) := fun v y1 => by
   obtain ⟨x, u, e, h0, h3⟩ := y1
   obtain ⟨r, rfl⟩ := Int.eq_ofNat_of_zero_le h0
   exact ⟨r + 1, u, by rw [e, Int.add_comm]; rfl, Nat.le_add_left .., Int.ofNat_lt.mp h3⟩
  obtain ⟨r, u1, rfl, h1⟩ := nat _ (h.2 0 a rfl)
  obtain ⟨i, u2, rfl, h2⟩ := nat _ (h.2 1 b rfl)
  obtain ⟨w, u3, rfl, h3⟩ := nat _ (h.2 2 d rfl)
  exact ⟨r, i, w, u1, u2, u3, rfl, h1, h2, h3⟩
theorem lawB4 {c : Cx} {KR : VAP} {Kn : ALP} {sl : Addr} {k : WC} {t : Tp} {tg : Tok} {ow : Lab} {n : Led} (hC : CIn 16 lawN c (lawCl c.L)) (hS : LawS c.L k t 2 [] (ceA t.T k.wa k.dec tg) [] [] ow n)
 (H : ∀ r i w t1 t2 t3 n', 1 ≤ r ∧ r ≤ 3 → 1 ≤ i ∧ i ≤ 3 → 1 ≤ w ∧ w ≤ 3 → LawS c.L k t 5 [] (upd (upd (ceA t.T k.wa k.dec tg) 4 (.int (r : Nat) t1)) 6 (.int (w : Nat) t3)) [] [] ow n' → vcS NoE glT lawN 56 (lawB.drop 4) [] c KR (hC.alo [some (.ref sl), none, some (.int (i : Nat) t2)]) n' Kn) :
 vcS NoE glT lawN 57 (lawB.drop 3) [] c KR (hC.alo [some (.ref sl)]) n Kn := by
 have hA := hC.toCAny
 obtain ⟨tt, hT⟩ := hS.tape
 obtain ⟨ot, ht1, ht2⟩ := hS.get 0 (.ref t.T) (by decide) rfl
 refine c_unpL hC rfl rfl rfl ?_
 refine lc1M (b := false) (own := fun q_ => []) (fz := [(Str.ofString "tape", c.L + 1 + 0, .ref t.T)]) hA ⟨by obtain ⟨_, _, _, _, e⟩ := hC.en; rw [e]; with_unfolding_all rfl, rfl, by decide, fun q_ => rfl, fun q_ => ownOk_nil, fun q_ => by kernel_rfl, fun q_ => rfl⟩ ?_
 refine vcN hC.ns hC.fr ?_
 intro t1
 refine r_rng1 fun D t2 u w hD => ?_
 have co : (c.L + 1 + 0, ot) ∈ oth n t.T := mem_oth.mpr ⟨ht1, nA hS.ne.1 (by decide)⟩
 have no : (t.nm, listOf t.us t.q) ∈ oth n t.T := mem_oth.mpr ⟨hS.nums.1, hS.nmT⟩
 have hall : ∀ p ∈ [(t.T, TapeO t.nm t.s t.ts 2 tt)] ++ ((D, rngO 0 3 1 t2 u w) :: oth n t.T), p ∈ (D, rngO 0 3 1 t2 u w) :: n := fun p hp => by
  revert p; refine fmc ?_ fun p hp => ?_
  · exact .tail _ hT
  revert p; refine fmc ?_ fun p hp => ?_
  · exact .head _
  · exact .tail _ (mem_oth.mp hp).1
 refine ⟨_, hall, hC.noK _, src1R (J := Draws t 2 3) (n := 3) (.head _) (by decide) ⟨by decide, fun p hp h => ?_, hC.noK _, ⟨⟨ot, .tail _ co, ht2⟩, trivial⟩, ⟨⟨tt, rfl⟩, rfl, Upto.zero⟩, ?_, ?_⟩⟩
 · rcases jX hp with rfl | hp
   · exact Nat.ne_of_gt (hD _ hT) (jO h)
   · exact (mem_oth.mp hp).2 (jO h)
 · rintro j vs ys mu tl led C keep hj ⟨t5, rfl⟩ ⟨⟨tt2, rfl⟩, rfl, hJ⟩ ab hmu sub off hk1 hcl1 hA' t6
   have off3 : ∀ p ∈ led, p.1 ≠ t.T := fun p hp e => off p hp (by rw [e]; exact .head _)
   intro t7
   refine RawS.mono ((n_next (.head _) (.tail _ (sub _ (.tail _ no))) hS.nmT hS.itz (by lia) (by decide)).o _ _ _ trivial (hA'.top.le (by decide)) fun q_ v n y2 p hp => by obtain ⟨_, _, _, _, _, e⟩ := y2; rw [e]; exact putO_ne (.tail _ (hk1 p hp)) (off3 p (hk1 p hp))) fun v n z1 => ?_
   obtain ⟨x, t8, tt3, e, hx, e2⟩ := z1
   subst e
   have e2 := e2.trans (putO_head off3)
   refine e2 ▸ ?_
   exact fun t9 => ⟨[_], [], rfl, Abv.nil, rfl, ⟨tt3, rfl⟩, rfl, hJ.snoc (fun q_ q_ h => h) ⟨x, t9, rfl, hx⟩⟩
 · rintro D2 ys mu tl ab hmo hD2 hm2 ⟨⟨tt2, rfl⟩, rfl, hJ⟩
   obtain ⟨r, i, w', u1, u2, u3, rfl, hr, hi, hw⟩ := three hJ
   have A : Alt ow t.T n ((t.T, TapeO t.nm t.s t.ts 5 tt2) :: (D2, lst [.int (r : Nat) u1, .int (i : Nat) u2, .int (w' : Nat) u3]) :: (D, rngO 0 3 1 t2 u w) :: oth n t.T) := ⟨fun p hp e => .tail _ (.tail _ (.tail _ (mem_oth.mpr ⟨hp, e⟩))), ⟨_, .head _, rfl⟩, fun a vs q hm => by
    rcases jX hm with e | hm
    · exact absurd (Prod.mk.inj e).2.symm listNt
    · rcases jX hm with e | hm
      · exact absurd (Prod.mk.inj e).2.symm listNt
      · rcases jX hm with e | hm
        · exact absurd (Prod.mk.inj e).2.symm rngNt
        · exact hS.w.tp _ _ _ (mem_oth.mp hm).1⟩
   have hS1 := hS.moved A (.head _)
   refine ⟨D2, _, _, rfl, .tail _ (.head _), rfl, hS1.wrs 4 (by decide) (hcl hC _ 4 fun q_ => rfl) fun n2 A2 hS2 => vsI (hS2.wrs 6 (by decide) (hcl hC _ 6 fun q_ => rfl) fun n3 A3 hS3 => ?_)⟩
   exact H r i w' _ _ _ n3 hr hi hw hS3
end Mine
namespace Mine
open LCg
theorem r_addS {c : Cx} {E : VSP} {al : Al} {nw : Led} {K : VLP} {x y : Str} {t u : Tok} (hz : x.length + y.length ≤ 1000) (h : ∀ t, K (.str (x ++ y) t) nw) : RawS E c (binaryOp .Add (.str x t) (.str y u)) al nw K := fun g tk st =>
 KXadd.add (s := c.at g tk) (Nat.le_refl _) (Nat.le_refl _) (by exact nt ‹_›) fun t' k q_ => ⟨g, k, nw, rfl, st, h t'⟩
def awd (x : Str) (dec : Bool) : Str := x ++ sgn dec
noncomputable def wA : Str := Str.ofString "A"
noncomputable def wB : Str := Str.ofString "B"
noncomputable def wC : Str := Str.ofString "C"
noncomputable def wD : Str := Str.ofString "D"
theorem sgn_len (dec : Bool) : (sgn dec).length ≤ 1 := by cases dec <;> decide +kernel
noncomputable def ceB (ce : Nat → Option Value) (dec : Bool) (t1 t2 : Tok) : Nat → Option Value := upd (upd ce 2 (.str (awd wA dec) t1)) 3 (.str (awd wC dec) t2)
theorem lawB5 {c : Cx} {KR : VAP} {Kn : ALP} {x0 x1 x2 : Option Value} {k : WC} {t : Tp} {m : Nat} {ce : Nat → Option Value} {tg : Tok} {ow : Lab} {n : Led} (hC : CIn 16 lawN c (lawCl c.L)) (hS : LawS c.L k t m [] ce [] [] ow n) (hs : ce 5 = some (.str (sgn k.dec) tg))
 (H : ∀ t1 t2 t3 t4 n', LawS c.L k t m [] (ceB ce k.dec t1 t3) [] [] ow n' → vcS NoE glT lawN 55 (lawB.drop 5) [] c KR (hC.alo [x0, x1, x2, some (.str (awd wB k.dec) t2), some (.str (awd wD k.dec) t4)]) n' Kn) :
 vcS NoE glT lawN 56 (lawB.drop 4) [] c KR (hC.alo [x0, x1, x2]) n Kn := by
 obtain ⟨os, hs1, hs2⟩ := hS.get 5 _ (by decide) hs
 have hz : ∀ x : Str, x.length ≤ 1 → x.length + (sgn k.dec).length ≤ 1000 := fun x hx => ad2 (nt (sgn_len k.dec)) hx
 have hc := hcl hC (Str.ofString "sign") 5 fun q_ => rfl
 refine fun t1 => ⟨_, os, _, hc, hs1, hs2, r_addS (hz _ (by decide +kernel)) fun u1 t2 => ⟨_, os, _, hc, hs1, hs2, r_addS (hz _ (by decide +kernel)) fun u2 t3 => ⟨_, os, _, hc, hs1, hs2, r_addS (hz _ (by decide +kernel)) fun u3 t4 => ⟨_, os, _, hc, hs1, hs2, r_addS (hz _ (by decide +kernel)) fun u4 D hD => ?_⟩⟩⟩⟩
 refine unpL (.head _) rfl ((hS.le (.one hD)).wrs 2 (by decide) (hcl hC _ 2 fun q_ => rfl) fun n2 q_ hS2 => vsI (hS2.wrs 3 (by decide) (hcl hC _ 3 fun q_ => rfl) fun n3 q_ hS3 => vsI ?_))
 exact H _ _ _ _ n3 hS3
theorem lawB6 {c : Cx} {KR : VAP} {Kn : ALP} {x0 x1 x3 x4 : Option Value} {k : WC} {t : Tp} {r i w : Nat} {t1 t2 t3 : Tok} {ce : Nat → Option Value} {ow : Lab} {n : Led} (hC : CIn 16 lawN c (lawCl c.L)) (hS : LawS c.L k t 5 [] ce [] [] ow n) (hr : 1 ≤ r ∧ r ≤ 3) (hi : 1 ≤ i ∧ i ≤ 3) (hw : 1 ≤ w ∧ w ≤ 3)
 (h0 : ce 0 = some (.ref t.T)) (h4 : ce 4 = some (.int (r : Nat) t1)) (h6 : ce 6 = some (.int (w : Nat) t3))
 (H : ∀ x y f g n', LawS c.L k t (5 + r * i + i * w) [] ce [] [] ow n' → Mat ow (some false) n' x r i f → Mat ow (some false) n' y i w g → (∀ p q, p < r → q < i → -4 ≤ f p q ∧ f p q ≤ 6) → (∀ p q, p < i → q < w → -4 ≤ g p q ∧ g p q ≤ 6) → vcS NoE glT lawN 54 (lawB.drop 6) [] c KR (hC.alo [x0, x1, some (.int (i : Nat) t2), x3, x4, some (.ref x), some (.ref y)]) n' Kn) :
 vcS NoE glT lawN 55 (lawB.drop 5) [] c KR (hC.alo [x0, x1, some (.int (i : Nat) t2), x3, x4]) n Kn := by
 have hA := hC.toCAny
 have b1 : r * i ≤ 9 := Nat.mul_le_mul hr.2 hi.2
 have b2 : i * w ≤ 9 := Nat.mul_le_mul hi.2 hw.2
 obtain ⟨o0, m0, d0⟩ := hS.get 0 _ (by decide) h0
 obtain ⟨o4, m4, d4⟩ := hS.get 4 _ (by decide) h4
 refine ⟨_, o0, _, hcl hC _ 0 fun q_ => rfl, m0, d0, ⟨_, o4, _, hcl hC _ 4 fun q_ => rfl, m4, d4, r_grid hA (by decide) hC.kp hS (tp5 b1) hr.2 hi.2 fun x f n1 A1 S1 M1 F1 => ?_⟩⟩
 obtain ⟨o0, m0, d0⟩ := S1.get 0 _ (by decide) h0
 obtain ⟨o6, m6, d6⟩ := S1.get 6 _ (by decide) h6
 refine ⟨_, o0, _, hcl hC _ 0 fun q_ => rfl, m0, d0, ⟨_, o6, _, hcl hC _ 6 fun q_ => rfl, m6, d6, r_grid hA (by decide) hC.kp S1 (tp100 b1 b2) hi.2 hw.2 fun y g n2 A2 S2 M2 F2 D hD => ?_⟩⟩
 exact unpI (.head _) rfl (vst2 (H x y f g _ (S2.le (.one hD)) ((M1.mono (A2.fro S1.lt)).mono (fro_mono fun p hp => .tail _ hp)) (M2.mono (fro_mono fun p hp => .tail _ hp)) F1 F2))
end Mine
namespace Mine
open LCg
section
variable {prog : Program} {w : World} {A : Around} {E : VSP} {s : Shared} {h₀ : Heap} {L : Addr} {env : Env} {m : SoV} {mus : List Addr} {mu news : Led} {ax : Addr} {vs : List Value} {k : Nat}
theorem tup_it (F : Fr h₀ L s.heap m) (N : News h₀ L s.heap (mu ++ news)) (hm : (ax, tup vs k) ∈ news) (mo : ∀ p ∈ news, p.1 ∉ mus) (hmu : mu.map (·.1) = mus) :
 L ∉ [s.heap.objs.size, ax] ∧ (∀ b ∈ [s.heap.objs.size, ax], h₀.get? b = none) ∧ (∀ b ∈ [s.heap.objs.size, ax], b ∉ mus) ∧ OffW [s.heap.objs.size] (mu ++ news) ∧ ax ≠ s.heap.objs.size ∧ s.heap.IsTuple ax vs.toArray := by
 have Nx := N _ (jR _ hm)
 have hlt : ax < s.heap.objs.size := Heap.lt_size Nx.1
 have nlt : ∀ p ∈ mu ++ news, p.1 < s.heap.objs.size := fun p hp => Heap.lt_size (N p hp).1
 refine ⟨fun hm' => ?_, fun b hb => ?_, fun b hb hx => ?_, fun p hp hx => Nat.ne_of_lt (nlt p hp) (jO hx), Nat.ne_of_lt hlt, N.isTup (jR _ hm)⟩
 · rcases jX hm' with e | hm'
   · exact Nat.ne_of_lt F.ns.lt e
   · exact Nx.2.1 (jO hm').symm
 · revert b; refine fmc ?_ fun b hb => ?_
   · exact next_is_new F
   · rw [jO hb]; exact Nx.2.2
 · rcases jX hb with rfl | hb
   · rw [← hmu] at hx
     obtain ⟨p, hp, e⟩ := List.mem_map.mp hx
     exact Nat.ne_of_lt (nlt p (jL _ hp)) e
   · rw [jO hb] at hx; exact mo _ hm hx
theorem tup_st {i : Nat} {h : Heap} {I : Addr} (st : h.IsTupleIter I ax i ∧ h.IsTuple ax vs.toArray) : ∀ b ∈ [I, ax], ∃ o, h.get? b = some o := by
 obtain ⟨⟨o, e, q_⟩, ⟨o', e', q_⟩⟩ := st
 intro b hb
 revert b; refine fmc ?_ fun b hb => ?_
 · exact ⟨o, e⟩
 · rw [jO hb]; exact ⟨o', e'⟩
end
section
variable {lev : Nat} {c : Cx} {names : NKs} {cl : SAs} {KR : VAP} {E : VSP} {al : Al} {nw : Led} {Kn : ALP} {body : List Stmt} {iter : PySem.Expr} {ts : List PySem.Expr} {is : List Slot1} {k9 : Nat} {tp pos px : Pos} {x : Str}
noncomputable def UnrV (c : Cx) (KR : VAP) (E : VSP) (names : NKs) (body : List Stmt) (is : List Slot1) (I : Addr) (kp : Addr × Obj) : List Value → Al → Led → (ALP) → Prop
 | [], al, n, Kn => Kn al n
 | v :: r, al, n, Kn => E3_4 (fun T us q => v = .ref T) (fun T us q => (T, tup us q) ∈ n) (fun T us q => us.length = is.length) (fun T us q => ∀ oI : Obj, oI.cls = .type "tuple_iterator" → vSts is c us al ((I, oI) :: n) fun al1 n1 => vcS E glT names 60 body [] c KR al1 n1 fun al2 n2 => E1_4 (fun n' => (I, oI) ∈ n2) (fun n' => (∀ p ∈ n', p ∈ n2 ∧ p.1 ≠ I)) (fun n' => kp ∈ n') (fun n' => UnrV c KR E names body is I kp r al2 n' Kn))
theorem unr_snd (hC : CIn lev names c cl) (hx : tgtS names ts = some is) {I : Addr} {kp : Addr × Obj} {s : Shared} (hs : E2_1 (fun h tk => s = c.at h tk)) : ∀ {vs : List Value} {al : Al} {n : Led}, al.map (·.1) = names.map (·.1) → UnrV c KR E names body is I kp vs al n Kn → ItemsRest PG c.w c.A E c.G c.env (.Tuple ts k9 tp) body (EndS c KR Kn) s [(I, "tuple_iterator")] [kp] (vs.map .val) (frm al) n
 | [], al, n, ha, h => by
  obtain ⟨h0, tk0, rfl⟩ := hs
  exact .zero fun h' tk F N => EndS.next (hC.stL (hC.lo ▸ F) ha (hC.lo ▸ N)) h
 | v :: r, al, n, ha, h => by
  obtain ⟨T, us, q, rfl, hT, hl, hk⟩ := h
  refine ItemsRest.val fun h' tk F => .cons fun oI hI => .nil fun N => ?_
  rw [hC.lo] at F N
  have L := tgtS_len (env := c.env) (hC.ns.symm ▸ hx)
  obtain ⟨h0, tk0, rfl⟩ := id hs
  refine assign_Tuple_tuple hC.ok.hn (N.isTup (.tail _ hT)) (by rw [L.1, ← hl]; simp) L.2 fun h₂ he => ?_
  have st := hC.stL F ha N
  refine sts_snd (tk := tk) hC.ok (hC.ns.symm ▸ hx) hl ⟨st.1.extBut he (Nat.le_refl _), st.2.1.extBut he (Nat.le_refl _), st.2.2⟩ (hk oI hI) fun al1 n1 h3 tk3 st3 k3 => ?_
  refine wpAny_mono (hC.run k3 h3 tk3 st3) (fun f s4 y1 => ?_) fun q_ q_ e => e
  obtain ⟨h4, tk4, al4, n4, e, st4, k4⟩ := y1
  subst e
  cases f with
  | ret v => exact ⟨h4, tk4, al4, n4, rfl, st4, k4⟩
  | brk => exact k4.elim
  | cont => exact k4.elim
  | next =>
   obtain ⟨n', m1, hs', mk, hr⟩ := k4
   refine ⟨h4, tk4, frm al4, n', rfl, by rw [hC.lo]; exact hC.fm ▸ st4.1, fun p hp => ?_, fun p hp z hz => ?_, ⟨mk, trivial⟩, unr_snd hC hx hs (hC.ns ▸ st4.2.2.1) hr⟩
   · refine hC.lo ▸ ?_
     revert p; refine fmc ?_ fun p hp => ?_
     · exact st4.2.1 _ m1
     · exact st4.2.1 _ (hs' p hp).1
   · rw [jO hz]; exact (hs' p hp).2
theorem for_tup (hC : CIn lev names c cl) (hO : PassesOwn (model PG c.w) c.A c.env E) (hx : tgtS names ts = some is) (hs : ∀ x, foldedSetIterable iter c.env x = pure x)
 (h : vcE E glT names 60 false iter [] c al nw fun v n1 => E3_3 (fun (ax : Addr) (vs : List Value) (k : Nat) => v = .ref ax) (fun (ax : Addr) (vs : List Value) (k : Nat) => (ax, tup vs k) ∈ n1) (fun (ax : Addr) (vs : List Value) (k : Nat) => ∀ I, (∀ p ∈ n1, p.1 < I) → UnrV c KR E names body is I (ax, tup vs k) vs al n1 Kn)) :
 RawC E c KR (exec (.For (.Tuple ts k9 tp) iter body [] pos) c.env) al nw Kn := by
 intro h1 tk1 st1
 refine For_turns (s := c.at h1 tk1) (hC.lo ▸ st1.1) (RawS.seq (hC.ev h) (fun v n1 h tk k st => ?_) h1 tk1 st1) hs hO
 obtain ⟨ax, vs, k, rfl, hm, H⟩ := k
 refine iter_tupTurns (s := c.at h tk) (m₀ := frm al) hC.hn (by rw [hC.lo]; exact hC.fm ▸ st.1) (by rw [hC.lo]; exact st.2.1) hm rfl rfl fun I hI => ?_
 exact unr_snd hC hx ⟨h, tk, rfl⟩ (hC.ns ▸ st.2.2.1) (H I hI)
end
inductive SrcT (lev : Nat) (scope : Scope) (own : Addr → SAs) (tg : List (Str × Bool)) (elt : PySem.Expr) (c : Cx) (al : Al) (fz : List (Str × Addr × Value)) (K : VLP) (v : Value) (n1 : Led) : Prop
 | pk (ax : Addr) (vs : List Value) (k : Nat) (mu news : Led) (J : CJ) : v = .ref ax → n1 = mu ++ news → (ax, tup vs k) ∈ news → CompV lev scope own tg elt c al fz vs.length (fun i us => E1_2 (fun v => vs[i]? = some v) (fun v => us = [v])) mu news K J → SrcT lev scope own tg elt c al fz K v n1
section
variable {lev : Nat} {c : Cx} {scope : Scope} {own : Addr → SAs} {fz : List (Str × Addr × Value)} {elt iter : PySem.Expr} {E : VSP} {al : Al} {nw : Led} {x : Str} {px pos : Pos} {b : Bool} {K : VLP}
theorem srcT {Fin : Shared → Nat → CJ → List Addr → Led → Prop} {v : Value} {n1 : Led} {h : Heap} {tk : Nat} (hC : CAny lev c) (S : CompS scope own [(x, b)] iter c fz) (k : SrcT lev scope own [(x, b)] elt c al fz K v n1) (st : c.st al n1 h)
 (hF : ∀ s n J mu news vals, (∃ g, s = { c.at h tk with heap := g }) → CompV lev scope own [(x, b)] elt c al fz n vals mu news K J → Fin s n J (mu.map (·.1)) news) :
 wpAny (model PG c.w) c.A (pyIter v) (CompAt PG c.w c.A c.G c.L (c.fm al) c.env elt (.Name x px) scope (clz fz) own (fun q_ q_ => True) (fun v q_ m cm => (if b then cm x else m x) = some v) Fin) E (c.at h tk) := by
 obtain ⟨ax, vs, k, mu, news, J, rfl, rfl, hm, V⟩ := k
 have T := tup_it (s := c.at h tk) (mus := mu.map (·.1)) st.1 st.2.1 hm V.mo rfl
 refine wpAny_pyIter_tuple (s := c.at h tk) T.2.2.2.2.2 ?_
 have up : ∀ b o, h.get? b = some o → (h.push { cls := .type "tuple_iterator", data := .fields #[.ref ax, .int 0 0] }).get? b = some o := fun b o e => Heap.get?_push_of_some _ e
 have W := Walks.tuple (prog := PG) (w := c.w) (A := c.A) hC.hn h.objs.size ax T.2.2.2.2.1 vs.toArray
 have e : vs.toArray.size = vs.length := List.size_toArray ..
 refine ⟨h.objs.size, _, _, _, _, _, _, news, mu, (mu.map fun p : Addr × Obj => p.1), J, rfl, KTurns.ofWalks W (target := .Name x px) (fun i v s Q' E' st hQ => wpAny_pure hQ), W.self, szl (by rw [e]; exact V.sz), (fun q_ q_ q_ q_ => trivial), T.1, T.2.1, (fun i h st => tup_st st), T.2.2.1, T.2.2.2.1, V.mo, rfl, ⟨⟨_, Heap.get?_push_size _ rfl, rfl, rfl⟩, T.2.2.2.2.2.at fun o e => up _ _ e⟩, st.1.keeps up, st.2.1.grown up, V.h0, ?_, ?_⟩
 · refine e ▸ ?_
   exact lc_turn hC S.kind S.chk V.cells (fun i v g m₂ cm₂ e ha => ⟨[v], ⟨v, by rw [← List.getElem?_toArray]; exact e, rfl⟩, And.intro ha trivial⟩) V.turn ⟨_, rfl⟩
 · refine e ▸ ?_
   exact hF _ _ J mu news _ ⟨_, rfl⟩ V
theorem lc1T (hC : CAny lev c) (S : CompS scope own [(x, b)] iter c fz) (h : vcE E glT c.ns 60 false iter c.fr c al nw (SrcT lev scope own [(x, b)] elt c al fz K)) : RawS E c (eval (.ListComp elt [⟨.Name x px, iter, [], 0⟩] scope pos) c.env) al nw K := by
 intro h1 tk1 st1
 exact lc_eval (s := c.at h1 tk1) st1.1 S.clos S.kind S.names S.ow (fun C => asg_1 S) (RawS.seq ((vcE_snd hC.okx 60).1 iter al nw _ h) (fun v n1 h tk k st => srcT hC S k st fun s n J mu news vals hs V => finE st.2.2.1 hs V) h1 tk1 st1) S.set
theorem lc1TA {lev' iy : Nat} {names : NKs} {cl : SAs} {KR : VAP} {Kn : ALP} {z : Str} {pz spos : Pos} (hC : CAny lev c) (hI : CIn lev' names c cl) (S : CompS scope own [(x, b)] iter c fz) (hy : findN names z 0 = some (iy, .local)) (hn : (names.map (·.1)).Nodup)
 (hsw : swapsWith (.ListComp elt [⟨.Name x px, iter, [], 0⟩] scope pos) (some (.Name z pz)) spos.line c.env = pure true)
 (h : vcE E glT c.ns 60 false iter c.fr c al nw (SrcT lev scope own [(x, b)] elt c al fz fun v n' => Kn (alSet al iy v) n')) :
 RawC E c KR (exec (.Assign [.Name z pz] (.ListComp elt [⟨.Name x px, iter, [], 0⟩] scope pos) spos) c.env) al nw Kn := by
 intro h1 tk1 st1
 exact lc_assign (s := c.at h1 tk1) st1.1 hI.lo hsw S.clos S.kind S.names S.ow (fun C => asg_1 S) (by unfold Env.kindOf; rw [hI.ok.nm, hI.ns]; exact findN_lookup hy) (by rw [hI.ok.kd]; rfl)
  (RawS.seq ((vcE_snd hC.okx 60).1 iter al nw _ h) (fun v n1 h tk k st => srcT hC S k st fun s n J mu news vals hs V => finA hI hy hn st.2.2.1 hs V) h1 tk1 st1) S.set
end
end Mine
namespace Mine
open LCg
theorem Mat.le {ow : Lab} {o : Option Bool} {n n' : Led} {g : Addr} {r c : Nat} {f : NNI} (h : Mat ow o n g r c f) (hs : ∀ p ∈ n, p ∈ n') : Mat ow o n' g r c f := GridF.mono h (fro_mono hs)
noncomputable def forB : List Stmt → List Stmt
 | s :: _ => match s with
  | .For _ _ b _ _ => b
  | _ => []
 | [] => []
section
variable {c : Cx} {KR : VAP} {Kn : ALP} {k : WC} {t : Tp} {m : Nat} {tb : List (Pos × Addr)} {ce : Nat → Option Value} {nks : List (Str × Value)} {S : List AR} {ow : Lab} {n : Led}
theorem lawDP {x0 x1 x2 x3 x4 x5 x6 : Option Value} {word : Str} {tw : Tok} {x : Addr} {r i : Nat} {f : NNI} (hC : CIn 16 lawN c (lawCl c.L)) (hw : c.w = k.w) (hS : LawS c.L k t m tb ce nks S ow n) (h7 : ce 7 = some (.ref k.wa)) (hn : word ∉ S.map (·.word)) (hk : WordOk word k.dec) (hl : S.length ≤ 7)
 (M : Mat ow (some false) n x r i f) (hr : 1 ≤ r ∧ r ≤ 9) (hi : 1 ≤ i ∧ i ≤ 9) (hf : ∀ p q, p < r → q < i → -999 ≤ f p q ∧ f p q ≤ 999)
 (H : ∀ g ow' n', LawS c.L k t m tb ce nks (S ++ [⟨word, g, (r + 1 - k.b) * (i + 1 - k.b), r, i, f⟩]) ow' n' → Ext ow n ow' n' → Kn (hC.alo [x0, x1, x2, x3, x4, x5, x6, some (.str word tw), some (.ref x)]) n') :
 vcS NoE glT lawN 60 (forB (lawB.drop 6)) [] c KR (hC.alo [x0, x1, x2, x3, x4, x5, x6, some (.str word tw), some (.ref x)]) n Kn := by
 have hA := hC.toCAny
 obtain ⟨o7, m7, d7⟩ := hS.get 7 _ (by decide) h7
 obtain ⟨vs, q, mx, zx, hx⟩ := GridF.at M
 obtain ⟨a0, e0, hR0⟩ := hx 0 (by lia)
 obtain ⟨us, q0, m0, z0, q_⟩ := hR0.at
 refine ⟨_, o7, _, hcl hC _ 7 fun q_ => rfl, m7, d7, r_len (fro_sub _ mx) (by exact nsr ‹_› ‹_›) fun t1 t2 => subL (fro_sub _ mx) (by decide) (by decide) e0 (r_len (fro_sub _ m0) (by exact nsr ‹_› ‹_›) fun t3 D hD => ?_)⟩
 refine zx ▸ z0 ▸ ?_
 have S1 := hS.le (.one (o := listOf [.int r t1, .int i t3].toArray 0) hD)
 refine (n_dim S1.w (.head _) hn hk hl ⟨hr.1, by exact nr ‹_›⟩ ⟨hi.1, by exact nr ‹_›⟩).goF hw hC fun v n2 z1 => ?_
 obtain ⟨q_, g, ow2, W2, X2⟩ := z1
 have S2 := S1.ext W2 X2
 have X02 := (Ext.of (ow := ow) (a := n) (fun p hp => jC (D, listOf [.int r t1, .int i t3].toArray 0) hp)).trans X2
 obtain ⟨o7, m7, d7⟩ := S2.get 7 _ (by decide) h7
 obtain ⟨oa, ma, da⟩ := W2.tab
 have hmem : (⟨word, g, (r + 1 - k.b) * (i + 1 - k.b), r, i, fun q_ q_ => 0⟩ : AR) ∈ S ++ [⟨word, g, (r + 1 - k.b) * (i + 1 - k.b), r, i, fun q_ q_ => 0⟩] := jR _ (.head _)
 have hv := tab_at W2.ws hmem
 have hw0 : WorldIn PG c.w n2 k.wa k.b k.ad k.nd := hw.symm ▸ W2.wld.mono fro_sub
 refine ⟨_, o7, _, hcl hC _ 7 fun q_ => rfl, m7, d7, ⟨_, o7, _, hcl hC _ 7 fun q_ => rfl, m7, d7, w_arrays hA hw0 _ _ _ (subD ma (hw.symm ▸ da) hv ?_)⟩⟩
 refine (n_putrows (i := S.length) (f := f) W2 (by simp) (M.ext X02).any hf).goF hw hC fun v n3 z2 => ?_
 obtain ⟨q_, ow3, W3, X3⟩ := z2
 rw [List.set_append_right _ _ (Nat.le_refl _), Nat.sub_self] at W3
 exact H g ow3 n3 (S2.ext W3 X3) (X02.trans X3)
end
end Mine
namespace Mine
open LCg
section
variable {k : WC} {ow ow' : Lab} {n n' : Led} {nks : List (Str × Value)} {S : List AR} {A : AR} {l : Nat} {x : AX} {D : Addr} {o : Obj}
theorem Mat.frz {o : Option Bool} {g : Addr} {r c : Nat} {f : NNI} (h : Mat ow o n g r c f) (hs : ∀ p ∈ fro ow n, p ∈ fro ow' n') : Mat ow' o n' g r c f := by
 have y := GridF.mono h hs
 obtain ⟨z, vs, q, hm, hz, hv⟩ := y
 refine ⟨(mem_fro.mp hm).2, vs, q, hm, hz, fun i v e => ?_⟩
 obtain ⟨a, e1, q_, us, q2, hm2, R, R2⟩ := hv i v e
 exact ⟨a, e1, (mem_fro.mp hm2).2, us, q2, hm2, R, R2⟩
structure Rel (ow : Lab) (n : Led) (ow' : Lab) (n' : Led) : Prop where
 kp : ∀ p ∈ n, ow p.1 < 50 → p ∈ n' ∧ ow' p.1 = ow p.1
 cv : ∀ a, ow' a ≠ 0 → ∃ p ∈ n', p.1 = a
 tp : ∀ a vs q, (a, tup vs q) ∈ n' → ow' a = 0
theorem Rel.fro (R : Rel ow n ow' n') : ∀ p ∈ fro ow n, p ∈ fro ow' n' := fun p hp => by
 obtain ⟨h1, h2⟩ := mem_fro.mp hp
 obtain ⟨h3, h4⟩ := R.kp p h1 (by rw [h2]; decide)
 exact mem_fro.mpr ⟨h3, h4.trans h2⟩
theorem WSt.rel (h : WSt k ow n nks S) (R : Rel ow n ow' n') : WSt k ow' n' nks S where
 cov := R.cv
 tp := R.tp
 b1 := h.b1
 wld := h.wld.mono R.fro
 tab := by
  obtain ⟨oa, h1, h2⟩ := h.tab
  exact ⟨oa, (R.kp _ h1 (by show ow k.ad < 50; rw [h.la]; decide)).1, h2⟩
 nms := by
  obtain ⟨oa, h1, h2⟩ := h.nms
  exact ⟨oa, (R.kp _ h1 (by show ow k.nd < 50; rw [h.ln]; decide)).1, h2⟩
 nkl := h.nkl
 la := by
  obtain ⟨oa, h1, q_⟩ := h.tab
  exact (R.kp _ h1 (by show ow k.ad < 50; rw [h.la]; decide)).2.trans h.la
 ln := by
  obtain ⟨oa, h1, q_⟩ := h.nms
  exact (R.kp _ h1 (by show ow k.nd < 50; rw [h.ln]; decide)).2.trans h.ln
 arr i A e := by
  obtain ⟨x, hx⟩ := h.arr i A e
  have h1 := (List.getElem?_eq_some_iff.mp e).1
  have h2 := h.len
  have h3 : i + 3 < 50 := Nat.lt_of_lt_of_le (Nat.add_lt_add_right (Nat.lt_of_lt_of_le h1 h2) 3) (by decide)
  have d := R.kp _ hx.dict (by show ow x.gda < 50; rw [hx.lg]; exact h3)
  have it := R.kp _ hx.items (by show ow x.il < 50; rw [hx.li]; exact h3)
  exact ⟨x, R.fro _ hx.inst, d.1, it.1, hx.highs.mono R.fro, hx.arr.mono R.fro, d.2.trans hx.lg, it.2.trans hx.li, hx.ne, hx.rb, hx.kb⟩
 wok := h.wok
 ws := h.ws
 len := h.len
noncomputable def lab (ow : Lab) (D : Addr) (v : Nat) : Lab := fun a => if a = D then v else ow a
theorem lab_ne {v : Nat} {a : Addr} (h : a ≠ D) : lab ow D v a = ow a := if_neg h
theorem lab_eq {v : Nat} : lab ow D v D = v := if_pos rfl
theorem WSt.own (h : WSt k ow n nks S) (hD : ∀ p ∈ n, p.1 ≠ D) (ho : ∀ vs q, o ≠ tup vs q) : Rel ow n (lab ow D 50) ((D, o) :: n) where
 kp p hp _ := ⟨.tail _ hp, lab_ne (hD p hp)⟩
 cv a ha := by
  by_cases e : a = D
  · exact ⟨_, .head _, e.symm⟩
  · rw [lab_ne e] at ha
    obtain ⟨p, hp, e⟩ := h.cov a ha
    exact ⟨p, .tail _ hp, e⟩
 tp a vs q hm := by
  rcases jX hm with e | hm
  · exact absurd (Prod.mk.inj e).2.symm (ho _ _)
  · rw [lab_ne (hD _ hm)]; exact h.tp a vs q hm
theorem WSt.drop (h : WSt k ow n nks S) (hD : 50 ≤ ow D) : Rel ow n (lab ow D 0) (oth n D) where
 kp p hp hl := by
  have e : p.1 ≠ D := fun e => absurd (e ▸ hl) (Nat.not_lt.mpr hD)
  exact ⟨mem_oth.mpr ⟨hp, e⟩, lab_ne e⟩
 cv a ha := by
  by_cases e : a = D
  · rw [e, lab_eq] at ha; exact absurd rfl ha
  · rw [lab_ne e] at ha
    obtain ⟨p, hp, e2⟩ := h.cov a ha
    exact ⟨p, mem_oth.mpr ⟨hp, by rw [e2]; exact e⟩, e2⟩
 tp a vs q hm := by
  obtain ⟨h1, h2⟩ := mem_oth.mp hm
  rw [lab_ne h2]; exact h.tp a vs q h1
end
section
variable {k : WC} {t : Tp} {m : Nat} {tb : List (Pos × Addr)} {L : Addr} {ce : Nat → Option Value} {ow ow' : Lab} {x D : Addr} {o : Obj} {n n' : Led} {nks nks' : List (Str × Value)} {S S' : List AR}
theorem LawS.own (h : LawS L k t m tb ce nks S ow n) (hD : ∀ p ∈ n, p.1 ≠ D) (ho : ∀ vs q, o ≠ tup vs q) : LawS L k t m tb ce nks S (lab ow D 50) ((D, o) :: n) where
 w := h.w.rel (h.w.own hD ho)
 tape := let ⟨tt, hm⟩ := h.tape; ⟨tt, .tail _ hm⟩
 lt := by obtain ⟨tt, hm⟩ := h.tape; rw [lab_ne (hD _ hm)]; exact h.lt
 nums := ⟨.tail _ h.nums.1, by rw [lab_ne (hD _ h.nums.1)]; exact h.nums.2⟩
 itz := h.itz
 tab := .tail _ h.tab
 l635 := by rw [lab_ne (hD _ h.tab)]; exact h.l635
 cel i hi := by
  obtain ⟨o, h1, h2, h3⟩ := h.cel i hi
  exact ⟨o, .tail _ h1, h2, by rw [lab_ne (hD _ h1)]; exact h3⟩
 ne := h.ne
theorem LawS.drop (h : LawS L k t m tb ce nks S ow n) (hD : 50 ≤ ow D) (h1 : D ≠ t.T) (h2 : D ≠ 635) (h3 : ∀ i, i < 8 → L + 1 + i ≠ D) : LawS L k t m tb ce nks S (lab ow D 0) (oth n D) where
 w := h.w.rel (h.w.drop hD)
 tape := let ⟨tt, hm⟩ := h.tape; ⟨tt, mem_oth.mpr ⟨hm, h1.symm⟩⟩
 lt := by rw [lab_ne h1.symm]; exact h.lt
 nums := by
  have e : t.nm ≠ D := fun e => nE h.nums.2 (by rw [show t.nm = D from e]; exact hD)
  exact ⟨mem_oth.mpr ⟨h.nums.1, e⟩, by rw [lab_ne e]; exact h.nums.2⟩
 itz := h.itz
 tab := mem_oth.mpr ⟨h.tab, h2.symm⟩
 l635 := by rw [lab_ne h2.symm]; exact h.l635
 cel i hi := by
  obtain ⟨o, h4, h5, h6⟩ := h.cel i hi
  exact ⟨o, mem_oth.mpr ⟨h4, h3 i hi⟩, h5, by rw [lab_ne (h3 i hi)]; exact h6⟩
 ne := h.ne
end
theorem awd_ok (d : Bool) : WordOk (awd wA d) d ∧ WordOk (awd wB d) d ∧ WordOk (awd wC d) d ∧ WordOk (awd wD d) d := by cases d <;> (unfold WordOk; decide +kernel)
section
variable {c : Cx} {KR : VAP} {Kn : ALP} {k : WC} {t : Tp} {m : Nat} {ce : Nat → Option Value} {ow : Lab} {n : Led}
theorem lt_ne {n : Led} {I : Addr} (h : ∀ p ∈ n, p.1 < I) : ∀ p ∈ n, p.1 ≠ I := fun p hp => Nat.ne_of_lt (h p hp)
noncomputable def arA (k : WC) (g : Addr) (r i : Nat) (f : NNI) : AR := ⟨awd wA k.dec, g, (r + 1 - k.b) * (i + 1 - k.b), r, i, f⟩
noncomputable def arB (k : WC) (g : Addr) (r i : Nat) (f : NNI) : AR := ⟨awd wB k.dec, g, (r + 1 - k.b) * (i + 1 - k.b), r, i, f⟩
theorem ne_BA (d : Bool) : awd wB d ∉ [awd wA d] := by cases d <;> decide +kernel
theorem itNt {o : Obj} (h : o.cls = .type "tuple_iterator") : ∀ vs q, o ≠ tup vs q := fun vs q e => by
 rw [e] at h
 injection h with h
 exact absurd h (by decide)
theorem lawB7 {x0 x1 x2 x4 : Option Value} {ta tb : Tok} {x y : Addr} {r i w : Nat} {f g : NNI} (hC : CIn 16 lawN c (lawCl c.L)) (hw : c.w = k.w) (hS : LawS c.L k t m [] ce [] [] ow n) (h7 : ce 7 = some (.ref k.wa)) (h2 : ce 2 = some (.str (awd wA k.dec) ta))
 (Mx : Mat ow (some false) n x r i f) (My : Mat ow (some false) n y i w g) (hr : 1 ≤ r ∧ r ≤ 3) (hi : 1 ≤ i ∧ i ≤ 3) (hw3 : 1 ≤ w ∧ w ≤ 3) (hf : ∀ p q, p < r → q < i → -4 ≤ f p q ∧ f p q ≤ 6) (hg : ∀ p q, p < i → q < w → -4 ≤ g p q ∧ g p q ≤ 6)
 (H : ∀ g1 g2 ow' n' x7 x8, LawS c.L k t m [] ce [] [arA k g1 r i f, arB k g2 i w g] ow' n' → Mat ow' (some false) n' x r i f → Mat ow' (some false) n' y i w g → vcS NoE glT lawN 53 (lawB.drop 7) [] c KR (hC.alo [x0, x1, x2, some (.str (awd wB k.dec) tb), x4, some (.ref x), some (.ref y), x7, x8]) n' Kn) :
 vcS NoE glT lawN 54 (lawB.drop 6) [] c KR (hC.alo [x0, x1, x2, some (.str (awd wB k.dec) tb), x4, some (.ref x), some (.ref y)]) n Kn := by
 refine for_tup hC PassesOwn.never rfl (fun q_ => rfl) ?_
 obtain ⟨o2, m2, d2⟩ := hS.get 2 _ (by decide) h2
 refine ⟨_, o2, _, hcl hC _ 2 fun q_ => rfl, m2, d2, fun D1 hD1 D2 hD2 D3 hD3 => ⟨D3, [.ref D1, .ref D2], 0, rfl, .head _, fun I hI => ⟨D1, [.str (awd wA k.dec) ta, .ref x], 0, rfl, .tail _ (.tail _ (.head _)), rfl, fun oI hc1 => vst2 ?_⟩⟩⟩
 have l3 : Le n _ := ((Le.one (o := tup [.str (awd wA k.dec) ta, .ref x] 0) hD1).cons (o := tup [.str (awd wB k.dec) tb, .ref y] 0) hD2).cons (o := tup [.ref D1, .ref D2] 0) hD3
 have S0 := hS.le l3
 have ne1 := lt_ne hI
 have R1 := S0.w.own ne1 (itNt hc1)
 have S1 := S0.own ne1 (itNt hc1)
 refine lawDP hC hw S1 h7 List.not_mem_nil (awd_ok _).1 (by decide) ((Mx.le l3.sub).frz R1.fro) ⟨hr.1, by exact nr ‹_›⟩ ⟨hi.1, by exact nr ‹_›⟩ (fun p q hp hq => ib (hf p q hp hq)) fun g1 ow1 n1 S1' X1 => ?_
 have t3 := X1.kp _ (.tail _ (.head _)) (.inl (S1.w.tp _ _ _ (.tail _ (.head _))))
 have t2 := X1.kp _ (.tail _ (.tail _ (.head _))) (.inl (S1.w.tp _ _ _ (.tail _ (.tail _ (.head _)))))
 have e1 : ow1 I = 50 := (X1.same _ (.head _)).trans lab_eq
 have nT : I ≠ t.T := let ⟨_, h⟩ := S0.tape; Nat.ne_of_gt (hI _ h)
 have n6 : I ≠ 635 := Nat.ne_of_gt (hI _ S0.tab)
 have nc : ∀ i, i < 8 → c.L + 1 + i ≠ I := fun i hi => let ⟨_, h, _, _⟩ := S0.cel i hi; Nat.ne_of_lt (hI _ h)
 refine ⟨oth n1 I, X1.kp _ (.head _) (.inr (by rw [lab_eq]; decide)), fun p hp => mem_oth.mp hp, mem_oth.mpr ⟨t3, ne1 _ (.head _)⟩, ?_⟩
 refine ⟨D2, [.str (awd wB k.dec) tb, .ref y], 0, rfl, mem_oth.mpr ⟨t2, ne1 _ (.tail _ (.head _))⟩, rfl, fun oI2 hc2 => vst2 ?_⟩
 have g1' : 50 ≤ ow1 I := by rw [e1]; decide
 have R2 := S1'.w.drop g1'
 have S2 := S1'.drop g1' nT n6 nc
 have ne2 : ∀ p ∈ oth n1 I, p.1 ≠ I := fun p hp => (mem_oth.mp hp).2
 have R3 := S2.w.own ne2 (itNt hc2)
 have S3 := S2.own ne2 (itNt hc2)
 have M1 := (((Mx.le l3.sub).frz R1.fro).ext X1).frz R2.fro
 have M2 := (((My.le l3.sub).frz R1.fro).ext X1).frz R2.fro
 refine lawDP hC hw S3 h7 (ne_BA _) (awd_ok _).2.1 (show 1 ≤ 7 by decide) (M2.frz R3.fro) ⟨hi.1, by exact nr ‹_›⟩ ⟨hw3.1, by exact nr ‹_›⟩ (fun p q hp hq => ib (hg p q hp hq)) fun g2 ow2 n2 S3' X3 => ?_
 have e3 : ow2 I = 50 := (X3.same _ (.head _)).trans lab_eq
 have t4 := X3.kp _ (.tail _ (mem_oth.mpr ⟨t3, ne1 _ (.head _)⟩)) (.inl (S3.w.tp _ _ _ (.tail _ (mem_oth.mpr ⟨t3, ne1 _ (.head _)⟩))))
 have g3 : 50 ≤ ow2 I := by rw [e3]; decide
 have R4 := S3'.w.drop g3
 exact ⟨oth n2 I, X3.kp _ (.head _) (.inr (by rw [lab_eq]; decide)), fun p hp => mem_oth.mp hp, mem_oth.mpr ⟨t4, ne1 _ (.head _)⟩, H g1 g2 _ _ _ _ (S3'.drop g3 nT n6 nc) (((M1.frz R3.fro).ext X3).frz R4.fro) (((M2.frz R3.fro).ext X3).frz R4.fro)⟩
end
end Mine
namespace Mine
open LCg
section
variable {k : WC} {ow : Lab} {nks : List (Str × Value)} {S : List AR} {A : AR} {i : Nat} {tw : Tok} {wt : Addr} {o : Option Bool} {r kc : Nat} {f : NNI} {nw : Led}
theorem set_at (hW : WSt k ow nw nks S) (hi : S[i]? = some A) (HR : ∀ n, Le nw n → CtNW k.w 10 (.ref 553) [.ref k.wa, .str A.word tw, .ref wt, .none] n (RowsG n o r kc f)) (hz : (r + 1 - k.b) * (kc + 1 - k.b) ≤ A.room) (hr : 1 ≤ r ∧ r ≤ 10) (hc : 1 ≤ kc ∧ kc ≤ 10) (hf : ∀ p q, p < r → q < kc → -999 ≤ f p q ∧ f p q ≤ 999) :
 CtW k.w 12 (.ref 633) [.ref k.wa, .str A.word tw, .ref wt] nw fun v n => v = .none ∧ Chg k ow nw nks (S.set i { A with r := r, c := kc, f := f }) n := by
 refine (n_lawset (nk := fun q_ => nks) (Qz := fun q_ q_ => True) (S' := fun q_ => S) (A := fun q_ => A) (i := i) (fun n hl => RkQ.of (l' := 10) (hW.le hl) (HR n hl)) (fun q_ q_ q_ q_ q_ => trivial) (fun z ow1 n1 t W => gridof_at (List.mem_of_getElem? hi) rfl W) (fun q_ => ⟨hi, hz⟩) hr hc hf).wkK (fun v n ⟨e, g, z, ow', W, X, q_⟩ => ⟨e, ow', W, X⟩) fun c hk hp v n ⟨e, g, z, ow', W, X, q_⟩ => hk hp v n ⟨e, ow', W, X⟩
end
noncomputable def arC (k : WC) (g : Addr) (r i : Nat) (f : NNI) : AR := ⟨awd wC k.dec, g, (4 + 1 - k.b) * (3 + 1 - k.b), r, i, f⟩
theorem ne_CB (d : Bool) : awd wC d ∉ [awd wA d, awd wB d] := by cases d <;> decide +kernel
noncomputable def prd (f g : NNI) (n : Nat) (i j : Nat) : Int := dotN (f i) (fun l => g l j) n
theorem prd_b {f g : NNI} {r i w : Nat} (hi : i ≤ 3) (hf : ∀ p q, p < r → q < i → -4 ≤ f p q ∧ f p q ≤ 6) (hg : ∀ p q, p < i → q < w → -4 ≤ g p q ∧ g p q ≤ 6) : ∀ p q, p < r → q < w → -999 ≤ prd f g i p q ∧ prd f g i p q ≤ 999 := fun p q hp hq => by
 have := dotN_le (f := f p) (g := fun l => g l q) i (fun j hj => ib (hf p j hp hj)) fun j hj => ib (hg j q hj hq)
 exact dot9 this (nt hi)
section
variable {c : Cx} {KR : VAP} {Kn : ALP} {k : WC} {t : Tp} {m : Nat} {ce : Nat → Option Value} {ow : Lab} {n : Led}
theorem room43 {b r w : Nat} (hb : b ≤ 1) (hr : r ≤ 3) (hw : w ≤ 3) : (r + 1 - b) * (w + 1 - b) ≤ (4 + 1 - b) * (3 + 1 - b) := Nat.mul_le_mul (Nat.sub_le_sub_right (Nat.succ_le_succ (Nat.le_succ_of_le hr)) b) (Nat.sub_le_sub_right (Nat.succ_le_succ hw) b)
theorem lawB8 {x0 x1 x2 x4 x7 x8 : Option Value} {ta tb tc tg : Tok} {x y g1 g2 : Addr} {r i w : Nat} {f g : NNI} (hC : CIn 16 lawN c (lawCl c.L)) (hw : c.w = k.w) (hS : LawS c.L k t m [] ce [] [arA k g1 r i f, arB k g2 i w g] ow n) (h7 : ce 7 = some (.ref k.wa)) (h2 : ce 2 = some (.str (awd wA k.dec) ta)) (h3 : ce 3 = some (.str (awd wC k.dec) tc)) (h5 : ce 5 = some (.str (sgn k.dec) tg))
 (Mx : Mat ow (some false) n x r i f) (My : Mat ow (some false) n y i w g) (hr : 1 ≤ r ∧ r ≤ 3) (hi : 1 ≤ i ∧ i ≤ 3) (hw3 : 1 ≤ w ∧ w ≤ 3) (hf : ∀ p q, p < r → q < i → -4 ≤ f p q ∧ f p q ≤ 6) (hg : ∀ p q, p < i → q < w → -4 ≤ g p q ∧ g p q ≤ 6)
 (H : ∀ g3 ow' n', LawS c.L k t m [] ce [] [arA k g1 r i f, arB k g2 i w g, arC k g3 r w (prd f g i)] ow' n' → Mat ow' (some false) n' x r i f → Mat ow' (some false) n' y i w g → vcS NoE glT lawN 50 (lawB.drop 10) [] c KR (hC.alo [x0, x1, x2, some (.str (awd wB k.dec) tb), x4, some (.ref x), some (.ref y), x7, x8]) n' Kn) :
 vcS NoE glT lawN 53 (lawB.drop 7) [] c KR (hC.alo [x0, x1, x2, some (.str (awd wB k.dec) tb), x4, some (.ref x), some (.ref y), x7, x8]) n Kn := by
 have hA := hC.toCAny
 have k7 := hcl hC (Str.ofString "world") 7 fun q_ => rfl
 have k3 := hcl hC (Str.ofString "c") 3 fun q_ => rfl
 have k2 := hcl hC (Str.ofString "a") 2 fun q_ => rfl
 have k5 := hcl hC (Str.ofString "sign") 5 fun q_ => rfl
 have hb := hS.w.b1
 obtain ⟨o7, m7, d7⟩ := hS.get 7 _ (by decide) h7
 obtain ⟨o3, m3, d3⟩ := hS.get 3 _ (by decide) h3
 refine ⟨_, o7, _, k7, m7, d7, ⟨_, o3, _, k3, m3, d3, fun t1 t2 D hD => ?_⟩⟩
 have S1 := hS.le (.one (o := listOf [.int 4 t1, .int 3 t2].toArray 0) hD)
 refine (n_dim (r := 4) (c := 3) S1.w (.head _) (ne_CB _) (awd_ok _).2.2.1 (show 2 ≤ 7 by decide) (by decide) (by decide)).goF hw hC fun v n2 z1 => ?_
 obtain ⟨q_, g3, ow2, W2, X2⟩ := z1
 have S2 := S1.ext W2 X2
 have X02 := (Ext.of (ow := ow) (a := n) (fun p hp => jC (D, listOf [.int 4 t1, .int 3 t2].toArray 0) hp)).trans X2
 obtain ⟨o7, m7, d7⟩ := S2.get 7 _ (by decide) h7
 obtain ⟨o3, m3, d3⟩ := S2.get 3 _ (by decide) h3
 obtain ⟨o2, m2, d2⟩ := S2.get 2 _ (by decide) h2
 refine ⟨_, o7, _, k7, m7, d7, ⟨_, o3, _, k3, m3, d3, fun t3 t4 => ⟨_, o2, _, k2, m2, d2, fun D2 hD2 => ?_⟩⟩⟩
 have S3 := S2.le (.one (o := tup [.str (Str.ofString "two") t3, .str (Str.ofString "*") t4, .str (awd wA k.dec) ta, .str (awd wB k.dec) tb] 0) hD2)
 refine (set_at (A := ⟨awd wC k.dec, g3, (4 + 1 - k.b) * (3 + 1 - k.b), 4, 3, fun q_ q_ => 0⟩) (i := 2) S3.w rfl (fun n' hl => n_rkmul (A := arA k g1 r i f) (B := arB k g2 i w g) (S3.w.le hl) (.head _) (.tail _ (.head _)) (hl.sub _ (.head _)) rfl ((nr hr : r ≤ 9)) ((nr hi : i ≤ 9)) ((nr hw3 : w ≤ 9)) (fun p q hp hq => by have := hf p q hp hq; show -9 ≤ f p q ∧ f p q ≤ 9; lia) (fun p q hp hq => by have := hg p q hp hq; show -9 ≤ g p q ∧ g p q ≤ 9; lia)) (room43 hb hr.2 hw3.2) ⟨hr.1, (nr hr : r ≤ 10)⟩ ⟨hw3.1, (nr hw3 : w ≤ 10)⟩ (prd_b hi.2 hf hg)).goF hw hC fun v n4 z2 => ?_
 obtain ⟨q_, ow4, W4, X4⟩ := z2
 have S4 := S3.ext W4 X4
 have X04 := (X02.trans (Ext.of fun p hp => jC _ hp)).trans X4
 obtain ⟨o7, m7, d7⟩ := S4.get 7 _ (by decide) h7
 obtain ⟨o3, m3, d3⟩ := S4.get 3 _ (by decide) h3
 have M1 := Mx.ext X04
 have M2 := My.ext X04
 refine ⟨_, o7, _, k7, m7, d7, ⟨_, o3, _, k3, m3, d3, (n_lprod (GridF.mono M1 fro_sub) (GridF.mono M2 fro_sub) (by exact nr ‹_›) ⟨hi.1, by exact nr ‹_›⟩ (by exact nr ‹_›) fun p q hp hq => ib (hf p q hp hq)).go hA fun v n5 l5 z3 => ?_⟩⟩
 obtain ⟨g', e, hP⟩ := z3
 subst e
 have S5 := S4.le l5
 obtain ⟨o5, m5, d5⟩ := S5.get 5 _ (by decide) h5
 refine ⟨_, o5, _, k5, m5, d5, (n_lawis (A := arC k g3 r w (prd f g i)) S5.w.rd (.tail _ (.tail _ (.head _))) hP ((nr hr : r ≤ 9)) ((nr hw3 : w ≤ 9)) (fun q_ q_ q_ q_ => rfl) (prd_b hi.2 hf hg)).goW hw hA fun v n6 l6 e => ?_⟩
 cases e
 have S6 := S5.le l6
 obtain ⟨o7, m7, d7⟩ := S6.get 7 _ (by decide) h7
 obtain ⟨o2, m2, d2⟩ := S6.get 2 _ (by decide) h2
 obtain ⟨o5, m5, d5⟩ := S6.get 5 _ (by decide) h5
 have M3 := (M1.le l5.sub).le l6.sub
 refine iteF' ⟨_, o7, _, k7, m7, d7, ⟨_, o2, _, k2, m2, d2, ⟨_, o5, _, k5, m5, d5, (n_lawis (A := arA k g1 r i f) S6.w.rd (.head _) (GridF.mono M3 fro_sub) ((nr hr : r ≤ 9)) ((nr hi : i ≤ 9)) (fun q_ q_ q_ q_ => rfl) (fun p q hp hq => ib (hf p q hp hq))).goW hw hA fun v n7 l7 e => ?_⟩⟩⟩
 cases e
 exact iteF' (vnil (H g3 ow4 n7 (S6.le l7) (M3.le l7.sub) (((M2.le l5.sub).le l6.sub).le l7.sub)))
end
end Mine
namespace Mine
open LCg
theorem c_asgC {lev : Nat} {c : Cx} {names : NKs} {cl : SAs} {KR : VAP} {E : VSP} {al : Al} {nw : Led} {Kn : ALP} {x : Str} {s : Slot1} {p q : Pos} {e : PySem.Expr} (hC : CIn lev names c cl) (ht : slotOf names x = some s)
 (hsw : swapsWithSole [.Name x p] e q.line c.env = pure false) (he : RawS E c (eval e c.env) al nw fun v n => vSt s c v al n Kn) : RawC E c KR (exec (.Assign [.Name x p] e q) c.env) al nw Kn := by
 intro h tk st
 refine wpAny_Assign_Name (RawS.seq he (fun v n h tk k st => ?_) h tk st) hsw
 exact st_snd (tk := tk) hC.ok (hC.ns.symm ▸ ht) st k fun al' n' h' tk' st' k' => EndS.next st' k'
section
variable {c : Cx} {KR : VAP} {Kn : ALP} {k : WC} {t : Tp} {m : Nat} {ce : Nat → Option Value} {ow : Lab} {n : Led}
noncomputable def dbl (f : NNI) (i j : Nat) : Int := f i j + f i j
theorem dbl_b {f : NNI} {p q : Nat} (h : -4 ≤ f p q ∧ f p q ≤ 6) : -8 ≤ dbl f p q ∧ dbl f p q ≤ 12 := ⟨Int.add_le_add h.1 h.1, Int.add_le_add h.2 h.2⟩
theorem lawB11 {x0 x1 x2 x3 x4 x6 x7 x8 : Option Value} {ta tg : Tok} {x g1 z1 : Addr} {r i : Nat} {f : NNI} {S : List AR} (hC : CIn 16 lawN c (lawCl c.L)) (hw : c.w = k.w) (hS : LawS c.L k t m [] ce [] (⟨awd wA k.dec, g1, z1, r, i, f⟩ :: S) ow n) (h7 : ce 7 = some (.ref k.wa)) (h2 : ce 2 = some (.str (awd wA k.dec) ta)) (h5 : ce 5 = some (.str (sgn k.dec) tg))
 (Mx : Mat ow (some false) n x r i f) (hz : (r + 1 - k.b) * (i + 1 - k.b) ≤ z1) (hr : 1 ≤ r ∧ r ≤ 3) (hi : 1 ≤ i ∧ i ≤ 3) (hf : ∀ p q, p < r → q < i → -4 ≤ f p q ∧ f p q ≤ 6)
 (H : ∀ y ow' n', LawS c.L k t m [] (upd ce 1 (.ref y)) [] (⟨awd wA k.dec, g1, z1, r, i, dbl f⟩ :: S) ow' n' → (∀ o x r c f, Mat ow o n x r c f → Mat ow' o n' x r c f) → Mat ow' (some false) n' y r i (dbl f) → vcS NoE glT lawN 47 (lawB.drop 13) [] c KR (hC.alo [x0, x1, x2, x3, x4, some (.ref x), x6, x7, x8]) n' Kn) :
 vcS NoE glT lawN 50 (lawB.drop 10) [] c KR (hC.alo [x0, x1, x2, x3, x4, some (.ref x), x6, x7, x8]) n Kn := by
 have hA := hC.toCAny
 have k7 := hcl hC (Str.ofString "world") 7 fun q_ => rfl
 have k2 := hcl hC (Str.ofString "a") 2 fun q_ => rfl
 have k5 := hcl hC (Str.ofString "sign") 5 fun q_ => rfl
 have hd : ∀ p q, p < r → q < i → -999 ≤ dbl f p q ∧ dbl f p q ≤ 999 := fun p q hp hq => ib (dbl_b (hf p q hp hq))
 obtain ⟨o7, m7, d7⟩ := hS.get 7 _ (by decide) h7
 obtain ⟨o2, m2, d2⟩ := hS.get 2 _ (by decide) h2
 refine ⟨_, o7, _, k7, m7, d7, ⟨_, o2, _, k2, m2, d2, fun t3 t4 => ⟨_, o2, _, k2, m2, d2, ⟨_, o2, _, k2, m2, d2, fun D2 hD2 => ?_⟩⟩⟩⟩
 have S3 := hS.le (.one (o := tup [.str (Str.ofString "two") t3, .str (Str.ofString "+") t4, .str (awd wA k.dec) ta, .str (awd wA k.dec) ta] 0) hD2)
 refine (set_at (A := ⟨awd wA k.dec, g1, z1, r, i, f⟩) (i := 0) S3.w rfl (fun n' hl => n_rkcell (o := false) (A := ⟨awd wA k.dec, g1, z1, r, i, f⟩) (B := ⟨awd wA k.dec, g1, z1, r, i, f⟩) (S3.w.le hl) (.head _) (.head _) (hl.sub _ (.head _)) rfl rfl ((nr hr : r ≤ 9)) ((nr hi : i ≤ 9)) (fun p q hp hq => ?_)) hz ⟨hr.1, (nr hr : r ≤ 10)⟩ ⟨hi.1, (nr hi : i ≤ 10)⟩ hd).goF hw hC fun v n4 ⟨q_, ow4, W4, X4⟩ => ?_
 · have := hf p q hp hq
   exact ⟨ib this, ib this, hd p q hp hq, fun h => nomatch h⟩
 have S4 := S3.ext W4 X4
 have X04 := (Ext.of (ow := ow) (a := n) fun p hp => jC (D2, tup [.str (Str.ofString "two") t3, .str (Str.ofString "+") t4, .str (awd wA k.dec) ta, .str (awd wA k.dec) ta] 0) hp).trans X4
 have M1 := Mx.ext X04
 obtain ⟨vs, q, mx, zx, hx⟩ := GridF.at M1
 refine c_asgC hC rfl ?_ ?_
 · obtain ⟨q_, q_, q_, q_, e⟩ := hC.en
   refine e ▸ ?_
   rfl
 refine lc1 (b := false) (own := fun q_ => []) (fz := []) hA ⟨by obtain ⟨_, _, _, _, e⟩ := hC.en; rw [e]; with_unfolding_all rfl, rfl, by decide, fun q_ => rfl, fun q_ => ownOk_nil, fun q_ => by kernel_rfl, fun q_ => rfl⟩ ?_
 refine vcN hC.ns hC.fr ?_
 refine src1L (mu := []) (fro_sub _ mx) (comp0 (fun i' ys tl => Upto i' ys fun p v => E1_2 (fun a => v = .ref a) (fun a => RowF (Fre n4) (some false) tl a i (dbl f p))) (by exact nsr ‹_› ‹_›) (hC.noK _) trivial Upto.zero ?_ ?_)
 · rintro p vs' ys tl led C keep hp ⟨v, hv, rfl⟩ hJ ab sub hk1 hcl1 hA'
   obtain ⟨a, e2, hR⟩ := hx p (zx ▸ hp)
   obtain rfl := Option.some.inj (hv.symm.trans e2)
   obtain ⟨us, q2, m5, e3, h5'⟩ := hR.at
   have sl : ∀ p ∈ n4, p ∈ led := fun p hp => sub p (jR _ hp)
   refine lc1 (b := false) (own := fun q_ => []) (fz := []) hA' ⟨by obtain ⟨_, _, _, _, e⟩ := hC.en; show closureFor _ (compEnvC _ _ _ _) = _; rw [e]; with_unfolding_all rfl, rfl, by decide, fun q_ => rfl, fun q_ => ownOk_nil, fun q_ => by kernel_rfl, fun q_ => rfl⟩ ?_
   refine src1L (mu := []) (sl _ (fro_sub _ m5)) (comp0 (fun j ys tl => tl = [] ∧ Upto j ys fun j v => NumO (some false) [] v (dbl f p j)) (by exact nsr ‹_› ‹_›) hk1 trivial ⟨rfl, Upto.zero⟩ ?_ ?_)
   · rintro j vs2 ys2 tl2 led2 C2 keep2 hj ⟨v, hv, rfl⟩ ⟨rfl, hJ2⟩ ab2 sub2 hk2 hcl2 hA2 t5
     obtain ⟨z, e4, hN⟩ := h5' j (e3 ▸ hj)
     obtain rfl := Option.some.inj (hv.symm.trans e4)
     obtain ⟨t6, rfl⟩ := hN.int
     exact ⟨by decide, fun t7 => ce0 [] rfl Abv.nil ⟨rfl, hJ2.snoc (fun q_ q_ h => h) (.of (Int.two_mul (f p j) ▸ .i _ _))⟩⟩
   · rintro D3 ys2 tl2 ab2 ⟨rfl, hJ2⟩
     rw [e3] at hJ2
     have hD3 : ∀ p ∈ led, p.1 < D3 := fun p hp => ab2 _ (.head _) p hp
     exact ce0 [(D3, lst ys2)] rfl (Abv.cons hD3 Abv.nil) (hJ.snoc (fun q_ q_2 ⟨a, e, h⟩ => ⟨a, e, h.mono fun p hp => .tail _ hp⟩) ⟨D3, rfl, rowO hJ2 (.head _) (fun p hp => hD3 p (sl p hp)) fun p hp => nomatch hp⟩)
 · intro D4 ys tl ab hJ
   rw [zx] at hJ
   have l5 : Le n4 ((D4, lst ys) :: (tl ++ n4)) := ⟨(D4, lst ys) :: tl, rfl, ab⟩
   have hG5 := gridO (news' := (D4, lst ys) :: (tl ++ n4)) hJ (.head _) (fun p hp => ab _ (.head _) p hp) fun p hp => .tail _ (jL _ hp)
   have M5 := Mat.of S4.w l5 hG5
   have S5 := S4.le l5
   refine S5.wr 1 (by decide) (hcl hC _ 1 fun q_ => rfl) fun n6 A6 S6 => ?_
   have F6 := A6.fro (let ⟨_, _, _, r⟩ := S5.cel 1 (by decide); r)
   obtain ⟨o7, m7, d7⟩ := S6.get 7 _ (by decide) h7
   obtain ⟨o2, m2, d2⟩ := S6.get 2 _ (by decide) h2
   obtain ⟨o1, m1, d1⟩ := S6.get 1 (.ref D4) (by decide) rfl
   obtain ⟨o5, m5, d5⟩ := S6.get 5 _ (by decide) h5
   have M6 := M5.frz F6
   refine ⟨_, o7, _, k7, m7, d7, ⟨_, o2, _, k2, m2, d2, ⟨_, o1, _, hcl hC _ 1 fun q_ => rfl, m1, d1, ⟨_, o5, _, k5, m5, d5, (n_lawis (A := ⟨awd wA k.dec, g1, z1, r, i, dbl f⟩) S6.w.rd (.head _) (GridF.mono M6 fro_sub) ((nr hr : r ≤ 9)) ((nr hi : i ≤ 9)) (fun q_ q_ q_ q_ => rfl) hd).goW hw hA fun v n7 l7 e => ?_⟩⟩⟩⟩
   cases e
   exact iteF' (vnil (H D4 ow4 n7 (S6.le l7) (fun o x r c f M => (((M.ext X04).le l5.sub).frz F6).le l7.sub) (M6.le l7.sub)))
end
end Mine
namespace Mine
open LCg
theorem CtG.any10 {W : World → Prop} {l : Nat} {f : Value} {vs : List Value} {nw : Led} {K : VLP} (h : CtG W l f vs nw K) (hl : l ≤ 10 := by decide) : CtG W 10 f vs nw K := h.lv hl
noncomputable def trn (f : NNI) (i j : Nat) : Int := f j i
theorem ne_D (d : Bool) : awd wD d ∉ [awd wA d, awd wB d, awd wC d] := by cases d <;> decide +kernel
section
variable {c : Cx} {KR : VAP} {Kn : ALP} {k : WC} {t : Tp} {m : Nat} {ce : Nat → Option Value} {ow : Lab} {n : Led}
noncomputable def arD (k : WC) (g : Addr) (r i : Nat) (f : NNI) : AR := ⟨awd wD k.dec, g, (10 + 1 - k.b) * (10 + 1 - k.b), r, i, f⟩
theorem lawB14 {x0 x1 x3 x5 x6 x7 x8 : Option Value} {ta td tg t2 : Tok} {y g1 g2 g3 z2 z3 r2 c2 r3 c3 : Nat} {r i : Nat} {f f2 f3 : NNI} (hC : CIn 16 lawN c (lawCl c.L)) (hw : c.w = k.w) (hS : LawS c.L k t m [] ce [] [⟨awd wA k.dec, g1, (r + 1 - k.b) * (i + 1 - k.b), r, i, f⟩, ⟨awd wB k.dec, g2, z2, r2, c2, f2⟩, ⟨awd wC k.dec, g3, z3, r3, c3, f3⟩] ow n) (h7 : ce 7 = some (.ref k.wa)) (h2 : ce 2 = some (.str (awd wA k.dec) ta)) (h5 : ce 5 = some (.str (sgn k.dec) tg)) (h1 : ce 1 = some (.ref y))
 (My : Mat ow (some false) n y r i f) (hr : 1 ≤ r ∧ r ≤ 3) (hi : 1 ≤ i ∧ i ≤ 3) (hf : ∀ p q, p < r → q < i → -99 ≤ f p q ∧ f p q ≤ 99)
 (H : ∀ x10 g4 ow' n', LawS c.L k t m [] ce [] [⟨awd wA k.dec, g1, (r + 1 - k.b) * (i + 1 - k.b), i, r, trn f⟩, ⟨awd wB k.dec, g2, z2, r2, c2, f2⟩, ⟨awd wC k.dec, g3, z3, r3, c3, f3⟩, arD k g4 i r (trn f)] ow' n' → (∀ o x r c f, Mat ow o n x r c f → Mat ow' o n' x r c f) → vcS NoE glT lawN 43 (lawB.drop 17) [] c KR (hC.alo [x0, x1, some (.int (i : Nat) t2), x3, some (.str (awd wD k.dec) td), x5, x6, x7, x8, none, x10]) n' Kn) :
 vcS NoE glT lawN 47 (lawB.drop 13) [] c KR (hC.alo [x0, x1, some (.int (i : Nat) t2), x3, some (.str (awd wD k.dec) td), x5, x6, x7, x8]) n Kn := by
 have hA := hC.toCAny
 have hb := hS.w.b1
 have k7 := hcl hC (Str.ofString "world") 7 fun q_ => rfl
 have k2 := hcl hC (Str.ofString "a") 2 fun q_ => rfl
 have k5 := hcl hC (Str.ofString "sign") 5 fun q_ => rfl
 have hd : ∀ p q, p < i → q < r → -999 ≤ trn f p q ∧ trn f p q ≤ 999 := fun p q hp hq => ib (hf q p hq hp)
 obtain ⟨o7, m7, d7⟩ := hS.get 7 _ (by decide) h7
 obtain ⟨o2, m2, d2⟩ := hS.get 2 _ (by decide) h2
 refine ⟨_, o7, _, k7, m7, d7, ⟨_, o2, _, k2, m2, d2, fun t3 => ⟨_, o2, _, k2, m2, d2, fun D2 hD2 => ?_⟩⟩⟩
 have S3 := hS.le (.one (o := tup [.str (Str.ofString "TRN") t3, .str (awd wA k.dec) ta] 0) hD2)
 refine (set_at (A := ⟨awd wA k.dec, g1, (r + 1 - k.b) * (i + 1 - k.b), r, i, f⟩) (i := 0) S3.w rfl (fun n' hl => (n_rktrn (A := ⟨awd wA k.dec, g1, (r + 1 - k.b) * (i + 1 - k.b), r, i, f⟩) (S3.w.le hl) (.head _) (hl.sub _ (.head _))).any10) (Nat.le_of_eq (Nat.mul_comm ..)) ⟨hi.1, (nr hi : i ≤ 10)⟩ ⟨hr.1, (nr hr : r ≤ 10)⟩ hd).goF hw hC fun v n4 z1 => ?_
 obtain ⟨q_, ow4, W4, X4⟩ := z1
 have S4 := S3.ext W4 X4
 have X04 := (Ext.of (ow := ow) (a := n) fun p hp => jC (D2, tup [.str (Str.ofString "TRN") t3, .str (awd wA k.dec) ta] 0) hp).trans X4
 have M1 := My.ext X04
 obtain ⟨vs, q, mx, zx, hx⟩ := GridF.at M1
 obtain ⟨o1, m1, d1⟩ := S4.get 1 _ (by decide) h1
 refine lc1A (b := true) (own := fun C => [(Str.ofString "column", C + 1)]) (fz := [(Str.ofString "twice", c.L + 1 + 1, .ref y)]) hA hC ⟨by obtain ⟨_, _, _, _, e⟩ := hC.en; rw [e]; with_unfolding_all rfl, rfl, by decide, fun q_ => rfl, fun q_ => ownOk_one, fun q_ => by kernel_rfl, fun q_ => rfl⟩ rfl (by decide +kernel) (by obtain ⟨_, _, _, _, e⟩ := hC.en; rw [e]; rfl) ?_
 refine vcN hC.ns hC.fr ?_
 refine r_rng1 fun D t4 u w hD => ?_
 have l5 := Le.one (o := rngO 0 i 1 t4 u w) hD
 refine src1R (mu := []) (n := i) (.head _) (by exact nr ‹_›) (comp0 (fun q ys tl => Upto q ys fun q v => E1_2 (fun a => v = .ref a) (fun a => RowF (Fre n4) (some false) tl a r (trn f q))) (by exact nr ‹_›) (hC.noK _) ⟨⟨o1, .tail _ m1, d1⟩, trivial⟩ Upto.zero ?_ ?_)
 · rintro q vs' ys tl led C keep hq ⟨t6, rfl⟩ hJ ab sub hk1 hcl1 hA'
   obtain ⟨oa, ma, da⟩ := hcl1 (Str.ofString "column") (C + 1) (.int q t6) rfl rfl (by decide)
   have sl : ∀ p ∈ n4, p ∈ led := fun p hp => sub p (jR _ (.tail _ hp))
   refine lc1 (b := false) (own := fun q_ => []) (fz := [(Str.ofString "column", C + 1, .int q t6)]) hA' ⟨by obtain ⟨_, _, _, _, e⟩ := hC.en; show closureFor _ (compEnvC _ _ _ _) = _; rw [e]; with_unfolding_all rfl, rfl, by decide, fun q_ => rfl, fun q_ => ownOk_nil, fun q_ => by kernel_rfl, fun q_ => rfl⟩ ?_
   refine src1L (mu := []) (sl _ (fro_sub _ mx)) (comp0 (fun j ys tl => tl = [] ∧ Upto j ys fun j v => NumO (some false) [] v (trn f q j)) (by exact nsr ‹_› ‹_›) hk1 ⟨⟨oa, ma, da⟩, trivial⟩ ⟨rfl, Upto.zero⟩ ?_ ?_)
   · rintro j vs2 ys2 tl2 led2 C2 keep2 hj ⟨v, hv, rfl⟩ ⟨rfl, hJ2⟩ ab2 sub2 hk2 hcl2 hA2
     obtain ⟨a, e2, hR⟩ := hx j (zx ▸ hj)
     obtain rfl := Option.some.inj (hv.symm.trans e2)
     obtain ⟨us, q2, m5, e3, h5'⟩ := hR.at
     obtain ⟨z, e4, hN⟩ := h5' q hq
     obtain ⟨t7, rfl⟩ := hN.int
     exact subL (v := .int (f j q) t7) (sub2 _ (sl _ (fro_sub _ m5))) (by exact Int.natCast_nonneg _) (by exact z1r ‹_› ‹_›) (by simpa using e4) (ce0 [] rfl Abv.nil ⟨rfl, hJ2.snoc (fun q_ q_ h => h) (.of (.i _ _))⟩)
   · rintro D3 ys2 tl2 ab2 ⟨rfl, hJ2⟩
     rw [zx] at hJ2
     have hD3 : ∀ p ∈ led, p.1 < D3 := fun p hp => ab2 _ (.head _) p hp
     exact ce0 [(D3, lst ys2)] rfl (Abv.cons hD3 Abv.nil) (hJ.snoc (fun q_ q_2 ⟨a, e, h⟩ => ⟨a, e, h.mono fun p hp => .tail _ hp⟩) ⟨D3, rfl, rowO hJ2 (.head _) (fun p hp => hD3 p (sl p hp)) fun p hp => nomatch hp⟩)
 · intro D4 ys tl ab hJ
   have l6 : Le n4 ((D4, lst ys) :: (tl ++ ((D, rngO 0 i 1 t4 u w) :: n4))) := l5.trans ⟨(D4, lst ys) :: tl, rfl, ab⟩
   have hG5 := gridO (news' := (D4, lst ys) :: (tl ++ ((D, rngO 0 i 1 t4 u w) :: n4))) hJ (.head _) (fun p hp => ab _ (.head _) p (.tail _ hp)) fun p hp => .tail _ (jL _ hp)
   have M6 := Mat.of S4.w l6 hG5
   have S6 := S4.le l6
   obtain ⟨o7, m7, d7⟩ := S6.get 7 _ (by decide) h7
   obtain ⟨o2, m2, d2⟩ := S6.get 2 _ (by decide) h2
   refine ⟨_, o7, _, k7, m7, d7, fun t8 => ⟨_, o2, _, k2, m2, d2, fun D5 hD5 => ?_⟩⟩
   have S7 := S6.le (.one (o := tup [.str (Str.ofString "copy") t8, .str (awd wA k.dec) ta] 0) hD5)
   refine (n_lawset (nk := fun q_ => []) (Qz := fun q_ q_ => True) (S' := fun g => [⟨awd wA k.dec, g1, (r + 1 - k.b) * (i + 1 - k.b), i, r, trn f⟩, ⟨awd wB k.dec, g2, z2, r2, c2, f2⟩, ⟨awd wC k.dec, g3, z3, r3, c3, f3⟩] ++ [⟨awd wD k.dec, g, (10 + 1 - k.b) * (10 + 1 - k.b), 10, 10, fun q_ q_ => 0⟩]) (A := fun g => ⟨awd wD k.dec, g, (10 + 1 - k.b) * (10 + 1 - k.b), 10, 10, fun q_ q_ => 0⟩) (i := 3)
    (fun n' hl => RkQ.of (l' := 10) (S7.w.le hl) (n_rkcopy (A := ⟨awd wA k.dec, g1, (r + 1 - k.b) * (i + 1 - k.b), i, r, trn f⟩) (S7.w.le hl) (.head _) (hl.sub _ (.head _))).any10) (fun q_ q_ q_ q_ q_ => trivial) (fun z ow1 n1 t W => n_gridofN W (ne_D _) (awd_ok _).2.2.2 (show 3 ≤ 7 by decide)) (fun g => ⟨rfl, Nat.mul_le_mul (Nat.sub_le_sub_right (Nat.succ_le_succ (nr hi)) _) (Nat.sub_le_sub_right (Nat.succ_le_succ (nr hr)) _)⟩) ⟨hi.1, (nr hi : i ≤ 10)⟩ ⟨hr.1, (nr hr : r ≤ 10)⟩ hd).goF hw hC fun v n8 ⟨q_, g4, q_2, ow8, W8, X8, q_3⟩ => ?_
   have S8 := S7.ext W8 X8
   have X68 := (Ext.of (ow := ow4) fun p hp => jC (D5, tup [.str (Str.ofString "copy") t8, .str (awd wA k.dec) ta] 0) hp).trans X8
   have M8 := M6.ext X68
   obtain ⟨o7, m7, d7⟩ := S8.get 7 _ (by decide) h7
   obtain ⟨o2, m2, d2⟩ := S8.get 2 _ (by decide) h2
   obtain ⟨o5, m5, d5⟩ := S8.get 5 _ (by decide) h5
   refine ⟨_, o7, _, k7, m7, d7, ⟨_, o2, _, k2, m2, d2, ⟨_, o5, _, k5, m5, d5, (n_lawis (A := ⟨awd wA k.dec, g1, (r + 1 - k.b) * (i + 1 - k.b), i, r, trn f⟩) S8.w.rd (.head _) (GridF.mono M8 fro_sub) ((nr hi : i ≤ 9)) ((nr hr : r ≤ 9)) (fun q_ q_ q_ q_ => rfl) hd).goW hw hA fun v n9 l9 e => ?_⟩⟩⟩
   cases e
   have S9 := S8.le l9
   obtain ⟨o7, m7, d7⟩ := S9.get 7 _ (by decide) h7
   obtain ⟨o5, m5, d5⟩ := S9.get 5 _ (by decide) h5
   refine iteF' ⟨_, o7, _, k7, m7, d7, ⟨_, o5, _, k5, m5, d5, (n_lawis (A := arD k g4 i r (trn f)) S9.w.rd (.tail _ (.tail _ (.tail _ (.head _)))) (GridF.mono (M8.le l9.sub) fro_sub) ((nr hi : i ≤ 9)) ((nr hr : r ≤ 9)) (fun q_ q_ q_ q_ => rfl) hd).goW hw hA fun v n10 l10 e => ?_⟩⟩
   cases e
   exact iteF' (vnil (H _ g4 ow8 n10 (S9.le l10) fun o x r c f M => (((((M.ext X04).le l6.sub).ext X68).le l9.sub).le l10.sub)))
end
end Mine
namespace Mine
open LCg
section
variable {c : Cx} {KR : VAP} {Kn : ALP} {k : WC} {t : Tp} {m : Nat} {ce : Nat → Option Value} {ow : Lab} {n : Led}
noncomputable def FillJ (nw : Led) (w : Nat) (v : Int) (p : Nat) (ys : List Value) (tl : Led) : Prop := Upto p ys fun q_ u => E1_2 (fun a => u = .ref a) (fun a => RowF (Fre nw) (some false) tl a w fun q_ => v)
theorem fill_row {lev : Nat} {c' : Cx} {al : Al} {nw led : Led} {p : Nat} {ys : List Value} {tl : Led} {w : Nat} {v : Int} {t1 t2 : Tok} (hJ : FillJ nw w v p ys tl) (hs : ∀ p ∈ nw, p ∈ led) (hw : w ≤ 3) {D : Addr} (hD : ∀ p ∈ led, p.1 < D) : RawS NoE c' (binaryOp .Mult (.ref D) (.int w t2)) al ((D, listOf [.int v t1].toArray 0) :: led) (CEnd [] [] led (JZ (FillJ nw w v)) p ys tl) := by
 refine r_mulL (vs := [.int v t1]) (.head _) (by exact Int.natCast_nonneg _) (by simp; lia) (by lia) fun D3 hD3 => ?_
 refine ce0 [_, _] rfl (Abv.cons (fun p hp => hD3 p (.tail _ hp)) (Abv.cons hD Abv.nil)) (hJ.snoc (fun q_ q_2 ⟨a, e, h⟩ => ⟨a, e, h.mono fun p hp => .tail _ (.tail _ hp)⟩) ⟨D3, rfl, fun p hp => hD3 p (.tail _ (hs p hp)), _, _, .head _, rep_size, fun j u hu => ?_⟩)
 rw [rep_at hu]
 exact .of (.i _ _)
theorem lawB18 {x0 x1 x2 x4 x5 x7 x8 x9 x10 : Option Value} {tb tg t3 : Tok} {y : Addr} {g2 : Addr} {i w : Nat} {g : NNI} {A : AR} {S : List AR} (hC : CIn 16 lawN c (lawCl c.L)) (hw : c.w = k.w) (hS : LawS c.L k t m [] ce [] (A :: ⟨awd wB k.dec, g2, (i + 1 - k.b) * (w + 1 - k.b), i, w, g⟩ :: S) ow n) (h7 : ce 7 = some (.ref k.wa)) (h5 : ce 5 = some (.str (sgn k.dec) tg)) (h6 : ce 6 = some (.int (w : Nat) t3))
 (My : Mat ow (some false) n y i w g) (hi : 1 ≤ i ∧ i ≤ 3) (hw3 : 1 ≤ w ∧ w ≤ 3) (hg : ∀ p q, p < i → q < w → -4 ≤ g p q ∧ g p q ≤ 6)
 (H : ∀ ow' n', LawS c.L k t m [] ce [] (A :: ⟨awd wB k.dec, g2, (i + 1 - k.b) * (w + 1 - k.b), i, w, fun q_ q_ => 1⟩ :: S) ow' n' → vcS NoE glT lawN 39 (lawB.drop 21) [] c KR (hC.alo [x0, x1, x2, some (.str (awd wB k.dec) tb), x4, x5, some (.ref y), x7, x8, x9, x10]) n' Kn) :
 vcS NoE glT lawN 43 (lawB.drop 17) [] c KR (hC.alo [x0, x1, x2, some (.str (awd wB k.dec) tb), x4, x5, some (.ref y), x7, x8, x9, x10]) n Kn := by
 have hA := hC.toCAny
 have hb := hS.w.b1
 have k7 := hcl hC (Str.ofString "world") 7 fun q_ => rfl
 have k5 := hcl hC (Str.ofString "sign") 5 fun q_ => rfl
 obtain ⟨o7, m7, d7⟩ := hS.get 7 _ (by decide) h7
 refine ⟨_, o7, _, k7, m7, d7, fun t1 t2 D hD => ?_⟩
 have S1 := hS.le (.one (o := tup [.str (Str.ofString "two") t1, .str (Str.ofString "-") t2, .str (awd wB k.dec) tb, .str (awd wB k.dec) tb] 0) hD)
 refine (set_at (A := ⟨awd wB k.dec, g2, (i + 1 - k.b) * (w + 1 - k.b), i, w, g⟩) (i := 1) S1.w rfl (fun n' hl => n_rkcell (o := true) (A := ⟨awd wB k.dec, g2, (i + 1 - k.b) * (w + 1 - k.b), i, w, g⟩) (B := ⟨awd wB k.dec, g2, (i + 1 - k.b) * (w + 1 - k.b), i, w, g⟩) (S1.w.le hl) (.tail _ (.head _)) (.tail _ (.head _)) (hl.sub _ (.head _)) rfl rfl ((nr hi : i ≤ 9)) ((nr hw3 : w ≤ 9)) (fun p q hp hq => ?_)) (Nat.le_refl _) ⟨hi.1, (nr hi : i ≤ 10)⟩ ⟨hw3.1, (nr hw3 : w ≤ 10)⟩ (fun p q hp hq => sub_b)).goF hw hC fun v n2 ⟨q_, ow2, W2, X2⟩ => ?_
 · have := hg p q hp hq
   exact ⟨ib this, ib this, sub_b, fun h => nomatch h⟩
 have S2 := S1.ext W2 X2
 have M2 := (My.le (fun p hp => jC (D, tup [.str (Str.ofString "two") t1, .str (Str.ofString "-") t2, .str (awd wB k.dec) tb, .str (awd wB k.dec) tb] 0) hp)).ext X2
 obtain ⟨vs, q, mx, zx, hx⟩ := GridF.at M2
 obtain ⟨o7, m7, d7⟩ := S2.get 7 _ (by decide) h7
 obtain ⟨o6, m6, d6⟩ := S2.get 6 _ (by decide) h6
 refine ⟨_, o7, _, k7, m7, d7, ?_⟩
 refine lc1 (b := false) (own := fun q_ => []) (fz := [(Str.ofString "wide", c.L + 1 + 6, .int (w : Nat) t3)]) hA ⟨by obtain ⟨_, _, _, _, e⟩ := hC.en; rw [e]; with_unfolding_all rfl, rfl, by decide, fun q_ => rfl, fun q_ => ownOk_nil, fun q_ => by kernel_rfl, fun q_ => rfl⟩ ?_
 refine vcN hC.ns hC.fr ?_
 refine src1L (mu := []) (fro_sub _ mx) (comp0 (FillJ n2 w 0) (by exact nsr ‹_› ‹_›) (hC.noK _) ⟨⟨o6, m6, d6⟩, trivial⟩ Upto.zero ?_ ?_)
 · rintro p vs' ys tl led C keep hp ⟨v, hv, rfl⟩ hJ ab sub hk1 hcl1 hA' t4 D3 hD3
   exact fill_row (lev := 0) hJ (fun p hp => sub p (jR _ hp)) hw3.2 hD3
 intro D4 ys tl ab hJ
 rw [zx] at hJ
 have l4 : Le n2 ((D4, lst ys) :: (tl ++ n2)) := ⟨(D4, lst ys) :: tl, rfl, ab⟩
 have hG4 := gridO (news' := (D4, lst ys) :: (tl ++ n2)) (f := fun q_ q_ => 0) (c := w) (o := some false) hJ (.head _) (fun p hp => ab _ (.head _) p hp) fun p hp => .tail _ (jL _ hp)
 have S4 := S2.le l4
 obtain ⟨o5, m5, d5⟩ := S4.get 5 _ (by decide) h5
 refine ⟨_, o5, _, k5, m5, d5, (n_lawis (f := fun q_ q_ => 0) S4.w.rd (.tail _ (.head _)) hG4 ((nr hi : i ≤ 9)) ((nr hw3 : w ≤ 9)) (fun p q hp hq => Int.sub_self _) (fun q_ q_ q_ q_ => by decide)).goW hw hA fun v n5 l5 e => ?_⟩
 cases e
 have S5 := S4.le l5
 have M5 := (M2.le l4.sub).le l5.sub
 refine iteF' (vnil ?_)
 obtain ⟨o7, m7, d7⟩ := S5.get 7 _ (by decide) h7
 refine ⟨_, o7, _, k7, m7, d7, fun t5 D5 hD5 D6 hD6 => ?_⟩
 have S6 := (S5.le (.one (o := listOf ([] : List Value).toArray 0) hD5)).le (.one (o := tup [.str (Str.ofString "CON") t5, .ref D5] 0) hD6)
 refine (set_at (A := ⟨awd wB k.dec, g2, (i + 1 - k.b) * (w + 1 - k.b), i, w, _⟩) (i := 1) S6.w rfl (fun n' hl => (n_rkcon (A := ⟨awd wB k.dec, g2, (i + 1 - k.b) * (w + 1 - k.b), i, w, _⟩) (S6.w.le hl) (.tail _ (.head _)) (hl.sub _ (.head _)) (hl.sub _ (.tail _ (.head _)))).any10) (Nat.le_refl _) ⟨hi.1, (nr hi : i ≤ 10)⟩ ⟨hw3.1, (nr hw3 : w ≤ 10)⟩ (fun q_ q_ q_ q_ => by decide)).goF hw hC fun v n7 z1 => ?_
 obtain ⟨q_, ow7, W7, X7⟩ := z1
 have S7 := S6.ext W7 X7
 have M7 := (M5.le (fun p hp => jC (D6, tup [.str (Str.ofString "CON") t5, .ref D5] 0) (jC (D5, listOf ([] : List Value).toArray 0) hp))).ext X7
 obtain ⟨vs, q, mx, zx, hx⟩ := GridF.at M7
 obtain ⟨o7, m7, d7⟩ := S7.get 7 _ (by decide) h7
 obtain ⟨o6, m6, d6⟩ := S7.get 6 _ (by decide) h6
 refine ⟨_, o7, _, k7, m7, d7, ?_⟩
 refine lc1 (b := false) (own := fun q_ => []) (fz := [(Str.ofString "wide", c.L + 1 + 6, .int (w : Nat) t3)]) hA ⟨by obtain ⟨_, _, _, _, e⟩ := hC.en; rw [e]; with_unfolding_all rfl, rfl, by decide, fun q_ => rfl, fun q_ => ownOk_nil, fun q_ => by kernel_rfl, fun q_ => rfl⟩ ?_
 refine vcN hC.ns hC.fr ?_
 refine src1L (mu := []) (fro_sub _ mx) (comp0 (FillJ n7 w 1) (by exact nsr ‹_› ‹_›) (hC.noK _) ⟨⟨o6, m6, d6⟩, trivial⟩ Upto.zero ?_ ?_)
 · rintro p vs' ys tl led C keep hp ⟨v, hv, rfl⟩ hJ ab sub hk1 hcl1 hA' t4 D3 hD3
   exact fill_row (lev := 0) hJ (fun p hp => sub p (jR _ hp)) hw3.2 hD3
 intro D8 ys tl ab hJ
 rw [zx] at hJ
 have l8 : Le n7 ((D8, lst ys) :: (tl ++ n7)) := ⟨(D8, lst ys) :: tl, rfl, ab⟩
 have hG8 := gridO (news' := (D8, lst ys) :: (tl ++ n7)) (f := fun q_ q_ => 1) (c := w) (o := some false) hJ (.head _) (fun p hp => ab _ (.head _) p hp) fun p hp => .tail _ (jL _ hp)
 have S8 := S7.le l8
 obtain ⟨o5, m5, d5⟩ := S8.get 5 _ (by decide) h5
 refine ⟨_, o5, _, k5, m5, d5, (n_lawis (f := fun q_ q_ => 1) S8.w.rd (.tail _ (.head _)) hG8 ((nr hi : i ≤ 9)) ((nr hw3 : w ≤ 9)) (fun q_ q_ q_ q_ => rfl) (fun q_ q_ q_ q_ => by decide)).goW hw hA fun v n9 l9 e => ?_⟩
 cases e
 exact iteF' (vnil (H ow7 n9 (S8.le l9)))
end
end Mine
namespace Mine
open LCg
noncomputable def itmD (k : WC) (A : AR) : Dat := .list ((List.range ((A.r + 1 - k.b) * (A.c + 1 - k.b))).map fun p => numD k.dec (cellF A.f (p / (A.c + 1 - k.b) + k.b) (p % (A.c + 1 - k.b) + k.b)))
noncomputable def arrD (k : WC) (A : AR) : Dat := .tuple [.str A.word, .list [.int A.r, .int A.c], itmD k A]
noncomputable def befN : NKs := [(Str.ofString ".0", .local), (Str.ofString "word", .local), (Str.ofString "list", .globalImplicit), (Str.ofString "world", .free)]
theorem ArrIs.dat {k : WC} {A : AR} {n n' : Led} {its : Array Value} {D : Addr} {q : Nat} (h : ArrIs k.dec k.b n its A.r A.c A.f) (hb : k.b ≤ 1) (hc : 1 ≤ A.c) (hm : (D, listOf its.toList.toArray q) ∈ n') (hs : ∀ p ∈ n, p ∈ n') : DatIn n' (.ref D) (itmD k A) := by
 have hW : 0 < A.c + 1 - k.b := sbp hb hc
 refine .list (vs := its.toList) hm (datAll_map (by rw [Array.length_toList]; exact h.size) fun i v e => ?_)
 have hi : i < (A.r + 1 - k.b) * (A.c + 1 - k.b) := by
  have := (List.getElem?_eq_some_iff.mp e).1
  rw [Array.length_toList, h.size] at this; exact this
 obtain ⟨u, e2, hN⟩ := h.item (i / (A.c + 1 - k.b)) (i % (A.c + 1 - k.b)) ((Nat.div_lt_iff_lt_mul hW).mpr hi) (Nat.mod_lt _ hW)
 rw [Nat.mul_comm, Nat.div_add_mod] at e2
 rw [Array.getElem?_toList] at e
 obtain rfl := Option.some.inj (e.symm.trans e2)
 exact DatIn.mono hs hN.num.dat
theorem bef_turn {lev : Nat} {c : Cx} {al : Al} {k : WC} {ow : Lab} {n led : Led} {nks : List (Str × Value)} {S : List AR} {A : AR} {tw : Tok} {K : VLP} {p1 p2 p3 p4 p5 p6 p7 p8 p9 p10 p11 p12 p13 p14 p15 p16 : Pos} {k9 : Nat} (hA : CAny lev c) (hw : c.w = k.w) (hW : WSt k ow n nks S) (hm : A ∈ S) (hs : ∀ p ∈ n, p ∈ led)
 (hK : ∀ D t, Abv led t → DatIn (t ++ fro ow n) (.ref D) (arrD k A) → K (.ref D) (t ++ led)) :
 vcE NoE glT (nsC befN) 60 false (.Tuple [.Name (Str.ofString "word") p1, .Call (.Name (Str.ofString "list") p2) [.Attribute (.Subscript (.Attribute (.Name (Str.ofString "world") p3) (Str.ofString "arrays") p4) (.Name (Str.ofString "word") p5) p6) (Str.ofString "highs") p7] [] p8, .Call (.Name (Str.ofString "list") p9) [.Attribute (.Subscript (.Attribute (.Name (Str.ofString "world") p10) (Str.ofString "arrays") p11) (.Name (Str.ofString "word") p12) p13) (Str.ofString "items") p14] [] p15] k9 p16) [(Str.ofString "word", .str A.word tw), (Str.ofString "world", .ref k.wa)] c al led K := by
 obtain ⟨oa, ma, da⟩ := hW.tab
 have hv := tab_at hW.ws hm
 have hw0 : WorldIn PG c.w led k.wa k.b k.ad k.nd := hw.symm ▸ hW.wld.mono fun p hp => hs p (fro_sub p hp)
 obtain ⟨i, hi⟩ := List.getElem?_of_mem hm
 obtain ⟨x, G⟩ := hW.arr i A hi
 obtain ⟨th1, th2, kh, hh⟩ := G.highs
 refine w_arrays hA hw0 _ _ _ (subD (hs _ ma) (hw.symm ▸ da) hv ?_)
 refine r_gat hA (hs _ (fro_sub _ G.inst)) (hs _ G.dict) (.inr (.inl rfl)) rfl rfl (r_listOf (hs _ (fro_sub _ hh)) (show (2 : Nat) ≤ 1000 by decide) fun D1 q1 hD1 => ?_)
 have l1 := Le.one (o := listOf [.int A.r th1, .int A.c th2].toArray q1) hD1
 have hw1 := hw0.mono l1.sub
 refine w_arrays hA hw1 _ _ _ (subD (l1.sub _ (hs _ ma)) (hw.symm ▸ da) hv ?_)
 have hz : x.its.size ≤ 1000 := by
  refine G.arr.size ▸ ?_
  exact nt (Nat.mul_le_mul (sbl G.rb.2) (sbl G.kb.2))
 refine r_gat hA (l1.sub _ (hs _ (fro_sub _ G.inst))) (l1.sub _ (hs _ G.dict)) (.inr (.inr (.inr (.inl rfl)))) rfl rfl (r_listOf (l1.sub _ (hs _ G.items)) hz fun D2 q2 hD2 D3 hD3 => ?_)
 refine hK D3 [(D3, _), (D2, _), (D1, _)] (Abv.cons (fun p hp => hD3 p (.tail _ (.tail _ hp))) (Abv.cons (fun p hp => hD2 p (.tail _ hp)) (Abv.cons hD1 Abv.nil))) (.tuple (.head _) (.cons (.str _ _) (.cons (.list (.tail _ (.tail _ (.head _))) (.cons (.int _ _) (.cons (.int _ _) .nil))) (.cons (G.arr.dat hW.b1 G.kb.1 (.tail _ (.head _)) fun p hp => .tail _ (.tail _ (.tail _ hp))) .nil))))
end Mine
namespace Mine
open LCg
noncomputable def wE : Str := Str.ofString "E"
noncomputable def wS : Str := Str.ofString "S"
theorem ne_E (d : Bool) : awd wE d ∉ [awd wA d, awd wB d, awd wC d, awd wD d] := by cases d <;> decide +kernel
theorem ne_S (d : Bool) : awd wS d ∉ [awd wA d, awd wB d, awd wC d, awd wD d, awd wE d] := by cases d <;> decide +kernel
theorem awd_ok2 (d : Bool) : WordOk (awd wE d) d ∧ WordOk (awd wS d) d := by cases d <;> (unfold WordOk; decide +kernel)
noncomputable def arE (k : WC) (g : Addr) : AR := ⟨awd wE k.dec, g, (1 + 1 - k.b) * (4 + 1 - k.b), 1, 4, fun q_ q_ => 0⟩
noncomputable def BefJ (k : WC) (n0 : Led) (SA : List AR) (i : Nat) (ys : List Value) (tl : Led) : Prop := Upto i ys fun p v => E1_2 (fun A => SA[p]? = some A) (fun A => DatIn (tl ++ n0) v (arrD k A))
theorem four {A B C D : AR} {ta tb tc td : Tok} {i : Nat} {v : Value} (h : [Value.str A.word ta, .str B.word tb, .str C.word tc, .str D.word td][i]? = some v) : E2_2 (fun X t => [A, B, C, D][i]? = some X) (fun X t => v = .str X.word t) := by
 match i with
 | 0 => cases h; exact ⟨_, _, rfl, rfl⟩
 | 1 => cases h; exact ⟨_, _, rfl, rfl⟩
 | 2 => cases h; exact ⟨_, _, rfl, rfl⟩
 | 3 => cases h; exact ⟨_, _, rfl, rfl⟩
 | i + 4 => cases h
theorem BefJ.dat {k : WC} {n0 n' : Led} {SA : List AR} {ys : List Value} {tl : Led} {D : Addr} (h : BefJ k n0 SA SA.length ys tl) (hm : (D, lst ys) ∈ n') (hs : ∀ p ∈ tl ++ n0, p ∈ n') : DatIn n' (.ref D) (.list (SA.map (arrD k))) := by
 refine .list (vs := ys) hm (datAll_of (by rw [List.length_map]; exact h.1) fun i v d e1 e2 => ?_)
 obtain ⟨A, e3, hD⟩ := h.2 i v e1
 rw [List.getElem?_map, e3] at e2
 cases e2
 exact DatIn.mono hs hD
section
variable {c : Cx} {KR : VAP} {Kn : ALP} {k : WC} {t : Tp} {m : Nat} {ce : Nat → Option Value} {ow : Lab} {n : Led}
theorem lawB21 {x0 x1 x2 x5 x6 x7 x8 x9 x10 : Option Value} {ta tb tc td tg : Tok} {A B C D : AR} (hC : CIn 16 lawN c (lawCl c.L)) (hw : c.w = k.w) (hS : LawS c.L k t m [] ce [] [A, B, C, D] ow n) (h7 : ce 7 = some (.ref k.wa)) (h2 : ce 2 = some (.str A.word ta)) (h3 : ce 3 = some (.str C.word tc)) (h5 : ce 5 = some (.str (sgn k.dec) tg))
 (eA : A.word = awd wA k.dec) (eB : B.word = awd wB k.dec) (eC : C.word = awd wC k.dec) (eD : D.word = awd wD k.dec)
 (H : ∀ bf g5 ow' n', LawS c.L k t m [] ce [] [A, B, C, D, arE k g5] ow' n' → DatIn (fro ow' n') (.ref bf) (.list ([A, B, C, D].map (arrD k))) → vcS NoE glT lawN 37 (lawB.drop 23) [] c KR (hC.alo [x0, x1, x2, some (.str B.word tb), some (.str D.word td), x5, x6, x7, x8, x9, x10, some (.ref bf)]) n' Kn) :
 vcS NoE glT lawN 39 (lawB.drop 21) [] c KR (hC.alo [x0, x1, x2, some (.str B.word tb), some (.str D.word td), x5, x6, x7, x8, x9, x10]) n Kn := by
 have hA := hC.toCAny
 have k7 := hcl hC (Str.ofString "world") 7 fun q_ => rfl
 have k5 := hcl hC (Str.ofString "sign") 5 fun q_ => rfl
 obtain ⟨o7, m7, d7⟩ := hS.get 7 _ (by decide) h7
 obtain ⟨o2, m2, d2⟩ := hS.get 2 _ (by decide) h2
 obtain ⟨o3, m3, d3⟩ := hS.get 3 _ (by decide) h3
 refine lc1TA (b := false) (own := fun q_ => []) (fz := [(Str.ofString "world", c.L + 1 + 7, .ref k.wa)]) hA hC ⟨by obtain ⟨_, _, _, _, e⟩ := hC.en; rw [e]; with_unfolding_all rfl, rfl, by decide, fun q_ => rfl, fun q_ => ownOk_nil, fun q_ => by kernel_rfl, fun q_ => rfl⟩ rfl (by decide +kernel) (by obtain ⟨_, _, _, _, e⟩ := hC.en; rw [e]; rfl) ?_
 refine vcN hC.ns hC.fr ?_
 refine ⟨_, o2, _, hcl hC _ 2 fun q_ => rfl, m2, d2, ⟨_, o3, _, hcl hC _ 3 fun q_ => rfl, m3, d3, fun D0 hD0 => ?_⟩⟩
 refine ⟨D0, _, 0, [], _, _, rfl, rfl, .head _, comp0 (n := 4) (BefJ k (fro ow n) [A, B, C, D]) (by decide) (hC.noK _) ⟨⟨o7, .tail _ m7, d7⟩, trivial⟩ Upto.zero ?_ ?_⟩
 · rintro i vs ys tl led C' keep hi ⟨v, hv, rfl⟩ hJ ab sub hk1 hcl1 hA'
   obtain ⟨X, tx, e, rfl⟩ := four hv
   exact bef_turn hA' hw hS.w (List.mem_of_getElem? e) (fun p hp => sub p (jR _ (.tail _ hp))) fun D1 t1 ab1 hD1 => ce0 t1 rfl ab1 (hJ.snoc (fun q_ q_2 ⟨Y, e, h⟩ => ⟨Y, e, DatIn.mono (fun p hp => by rw [List.append_assoc]; exact jR _ hp) h⟩) ⟨X, e, DatIn.mono (fun p hp => by
    revert p; refine fma (fun p hp => ?_) fun p hp => ?_
    · exact jL _ (jL _ hp)
    · exact jR _ hp) hD1⟩)
 · intro D4 ys tl ab hJ
   have l4 : Le n ((D4, lst ys) :: (tl ++ ((D0, tup [.str A.word ta, .str B.word tb, .str C.word tc, .str D.word td] 0) :: n))) := (Le.one hD0).trans ⟨(D4, lst ys) :: tl, rfl, ab⟩
   have S4 := hS.le l4
   have B4 : DatIn (fro ow ((D4, lst ys) :: (tl ++ ((D0, tup [.str A.word ta, .str B.word tb, .str C.word tc, .str D.word td] 0) :: n)))) (.ref D4) (.list ([A, B, C, D].map (arrD k))) := by
    refine BefJ.dat hJ (mem_fro.mpr ⟨.head _, hS.w.fresh fun p hp => ab _ (.head _) p (.tail _ hp)⟩) fun p hp => ?_
    revert p; refine fma (fun p hp => ?_) fun p hp => ?_
    · exact mem_fro.mpr ⟨.tail _ (jL _ hp), hS.w.fresh fun z hz => ab _ (.tail _ hp) z (.tail _ hz)⟩
    · exact fro_mono l4.sub p hp
   obtain ⟨o7, m7, d7⟩ := S4.get 7 _ (by decide) h7
   obtain ⟨o5, m5, d5⟩ := S4.get 5 _ (by decide) h5
   have hz : wE.length + (sgn k.dec).length ≤ 1000 := ad2 (nt (sgn_len k.dec)) (by decide +kernel)
   refine ⟨_, o7, _, k7, m7, d7, fun t1 => ⟨_, o5, _, k5, m5, d5, r_addS hz fun t2 t3 t4 D5 hD5 => ?_⟩⟩
   have S5 := S4.le (.one (o := listOf [.int 1 t3, .int 4 t4].toArray 0) hD5)
   refine (n_dim (r := 1) (c := 4) S5.w (.head _) (by rw [show [A, B, C, D].map (·.word) = [A.word, B.word, C.word, D.word] from rfl, eA, eB, eC, eD]; exact ne_E _) (awd_ok2 _).1 (show 4 ≤ 7 by decide) (by decide) (by decide)).goF hw hC fun v n6 z1 => ?_
   obtain ⟨q_, g5, ow6, W6, X6⟩ := z1
   have X46 := (Ext.of (ow := ow) fun p hp => jC (D5, listOf [.int 1 t3, .int 4 t4].toArray 0) hp).trans X6
   exact H D4 g5 ow6 n6 (S5.ext W6 X6) (DatIn.mono X46.sub B4)
end
end Mine
namespace Mine
open LCg
theorem tabNt {ps : Array Value} {vs : List Value} {q : Nat} : tabObj ps ≠ tup vs q := fun e => by
 have h := congrArg Obj.cls e
 exact absurd h (by intro h; cases h)
theorem triplesOk : ∀ ts : List (Pos × Addr), TriplesOk (triples ts)
 | [] => trivial
 | (p, a) :: r => triplesOk r
section
variable {L : Addr} {k : WC} {t : Tp} {m : Nat} {tb : List (Pos × Addr)} {ce : Nat → Option Value} {ow : Lab} {x : Addr} {n n' : Led} {nks : List (Str × Value)} {S : List AR}
theorem LawS.tabd (h : LawS L k t m tb ce nks S ow n) {tb' : List (Pos × Addr)} (A : Alt ow 635 n n') (hm : (635, tabObj (triples tb').toArray) ∈ n') : LawS L k t m tb' ce nks S ow n' where
 w := h.w.at A h.l635
 tape := let ⟨tt, hm⟩ := h.tape; ⟨tt, A.kp _ hm (nD h.ne).symm⟩
 lt := h.lt
 nums := ⟨A.kp _ h.nums.1 fun e => nE h.nums.2 (by rw [show t.nm = 635 from e]; exact h.l635), h.nums.2⟩
 itz := h.itz
 tab := hm
 l635 := h.l635
 cel i hi := by
  obtain ⟨o, h1, h2, h3⟩ := h.cel i hi
  exact ⟨o, A.kp _ h1 (nB h.ne.2), h2, h3⟩
 ne := h.ne
theorem LawS.oth (h : LawS L k t m tb ce nks S ow n) (A : Alt ow x n n') (hx : 50 ≤ ow x) (h1 : x ≠ t.T) (h2 : x ≠ 635) (h3 : ∀ i, i < 8 → L + 1 + i ≠ x) : LawS L k t m tb ce nks S ow n' where
 w := h.w.at A hx
 tape := let ⟨tt, hm⟩ := h.tape; ⟨tt, A.kp _ hm h1.symm⟩
 lt := h.lt
 nums := ⟨A.kp _ h.nums.1 fun e => nE h.nums.2 (by rw [show t.nm = x from e]; exact hx), h.nums.2⟩
 itz := h.itz
 tab := A.kp _ h.tab h2.symm
 l635 := h.l635
 cel i hi := by
  obtain ⟨o, h4, h5, h6⟩ := h.cel i hi
  exact ⟨o, A.kp _ h4 (h3 i hi), h5, h6⟩
 ne := h.ne
end
structure LawF (c : Cx) (A₀ : Around) : Prop where
 fr : CFr 16 c A₀ c.G []
 hd : CodeHd c.G 637 635
 en : E3_1 (fun q1 f1 mo => c.env = envX q1 (sc lawN mo) c.L f1 (.ref 637) (lawCl c.L))
theorem r_code {c : Cx} {A₀ : Around} {E : VSP} {al : Al} {K : VLP} {k : WC} {t : Tp} {m : Nat} {tb : List (Pos × Addr)} {ce : Nat → Option Value} {ow : Lab} {n : Led} {nks : List (Str × Value)} {S : List AR} {names : NKs} {mo : List (Str × Const)} {body : PySem.Expr} {pos : Pos} {fz : List (Str × Addr × Value)} (hC : CIn 16 lawN c (lawCl c.L)) (hF : LawF c A₀) (hw : c.w = k.w) (hS : LawS c.L k t m tb ce nks S ow n)
 (hn : ∀ q ∈ tb, ¬ (q.1.line = pos.line ∧ q.1.col = pos.col)) (hcl : closureFor (sc names mo) c.env = pure (clz fz)) (hfz : ∀ n' tb', LawS c.L k t m tb' ce nks S ow n' → CellsIn fz n') (hs : ScopeN names) (hd : noDb names = true) (hl : (names.all fun y => y.2 == .free || y.2 == .globalImplicit) = true)
 (hb : ∀ c' A₀ base outer n' tb', c'.w = k.w → CFr 10 c' A₀ base outer → CAny 10 c' → LawS c.L k t m tb' ce nks S ow n' → vcE (EBS c' base outer n') glT names 60 false body (frz fz) c' (alE names) n' fun q_ q_ => False)
 (hK : ∀ a n' u, LawS c.L k t m (tb ++ [(pos, a)]) ce nks S ow n' → Alt ow 635 n n' → K (.str BSs u) n') :
 RawS E c (eval (.Lambda ⟨[], [], none, [], [], none, []⟩ body (sc names mo) pos) c.env) al n fun v n1 => RawS E c (call (.ref 606) [v]) al n1 K := by
 obtain ⟨q1, f1, mo1, he⟩ := hF.en
 refine r_lam hC ⟨q1, f1, mo1, he, rfl⟩ hF.hd hS.tab (triplesOk tb) hn hcl fun f o c' oc lt l2 hlam => ?_
 have A1 := hS.w.setAt (o' := tabObj (triples (tb ++ [(pos, c')])).toArray) hS.tab fun q_ q_ => tabNt
 have S1 := hS.tabd (tb' := tb ++ [(pos, c')]) A1 (self_setAt hS.tab)
 have lt1 : ∀ p ∈ setAt n 635 (tabObj (triples (tb ++ [(pos, c')])).toArray), p.1 < c' := fun p hp => by
  obtain ⟨q, hq, e, q_⟩ := setAt_adr hp
  rw [← e]; exact lt q hq
 have lt2 : ∀ p ∈ (c', oc) :: setAt n 635 (tabObj (triples (tb ++ [(pos, c')])).toArray), p.1 < f := fun p hp => by
  revert p; refine fmc ?_ fun p hp => ?_
  · exact l2
  · exact Nat.lt_trans (lt1 p hp) l2
 have l3 := (Le.one (o := oc) lt1).cons (o := o) lt2
 have S3 := S1.le l3
 have LI := hlam ((f, o) :: (c', oc) :: setAt n 635 (tabObj (triples (tb ++ [(pos, c')])).toArray)) (.head _) (.tail _ (.head _))
 exact n_lawcode (W := (· = k.w)) (lev := 11) (l := 11) hw (hF.fr.le (by decide)) hC.kp (lam_R LI (hfz _ _ S3) hs hd hl fun c'' A₀ base outer hw' hF' hA' => hb c'' A₀ base outer _ _ hw' hF' hA' S3) LI.fn fun u => hK c' _ u S3 ⟨fun p hp e => l3.sub p (A1.kp p hp e), let ⟨q, h1, h2⟩ := A1.cv; ⟨q, l3.sub q h1, h2⟩, S3.w.tp⟩
end Mine
namespace Mine
open LCg
section
variable {c : Cx} {A₀ : Around} {KR : VAP} {Kn : ALP} {k : WC} {t : Tp} {m : Nat} {ce : Nat → Option Value} {ow : Lab} {n : Led}
theorem r_codeA {E : VSP} {al : Al} {K : Led → Prop} {tb : List (Pos × Addr)} {nks : List (Str × Value)} {S : List AR} {names : NKs} {mo : List (Str × Const)} {body : PySem.Expr} {pos : Pos} {fz : List (Str × Addr × Value)} {Dl : Addr} {its : Array Value} {q : Nat} (hC : CIn 16 lawN c (lawCl c.L)) (hF : LawF c A₀) (hw : c.w = k.w) (hS : LawS c.L k t m tb ce nks S ow n)
 (hm : (Dl, listOf its q) ∈ n) (hx : 50 ≤ ow Dl) (h1 : Dl ≠ t.T) (h2 : Dl ≠ 635) (h3 : ∀ i, i < 8 → c.L + 1 + i ≠ Dl)
 (hn : ∀ q ∈ tb, ¬ (q.1.line = pos.line ∧ q.1.col = pos.col)) (hcl : closureFor (sc names mo) c.env = pure (clz fz)) (hfz : ∀ n' tb', LawS c.L k t m tb' ce nks S ow n' → CellsIn fz n') (hs : ScopeN names) (hd : noDb names = true) (hl : (names.all fun y => y.2 == .free || y.2 == .globalImplicit) = true)
 (hb : ∀ c' A₀ base outer n' tb', c'.w = k.w → CFr 10 c' A₀ base outer → CAny 10 c' → LawS c.L k t m tb' ce nks S ow n' → vcE (EBS c' base outer n') glT names 60 false body (frz fz) c' (alE names) n' fun q_ q_ => False)
 (hK : ∀ a n' u, LawS c.L k t m (tb ++ [(pos, a)]) ce nks S ow n' → (Dl, listOf (its.push (.str BSs u)) (q + 1)) ∈ n' → (∀ p ∈ fro ow n, p ∈ fro ow n') → K n') :
 RawS E c (eval (.Lambda ⟨[], [], none, [], [], none, []⟩ body (sc names mo) pos) c.env) al n fun v n1 => RawS E c (call (.ref 606) [v]) al n1 fun y n2 => AppN c.keep Dl its q y n2 K :=
 r_code hC hF hw hS hn hcl hfz hs hd hl hb fun a n1 u S1 A1 => by
  have m1 := A1.kp _ hm h2
  have A2 := S1.w.setAt (o' := listOf (its.push (.str BSs u)) (q + 1)) m1 fun q_ q_ => listNt
  exact ⟨m1, _, fun q_ h => h, hC.noK _, hK a _ u (S1.oth A2 hx h1 h2 h3) (self_setAt m1) fun p hp => A2.fro hx p (A1.fro hS.l635 p hp)⟩
theorem lawB23 {x0 x1 x2 x3 x4 x5 x6 x7 x8 x9 x10 x11 : Option Value} {ta tc tg t1 t3 : Tok} {A B C D : AR} {g5 bf : Addr} {r w : Nat} {d : Dat} (hC : CIn 16 lawN c (lawCl c.L)) (hF : LawF c A₀) (hw : c.w = k.w) (hS : LawS c.L k t m [] ce [] [A, B, C, D, arE k g5] ow n) (hB : DatIn (fro ow n) (.ref bf) d) (h7 : ce 7 = some (.ref k.wa)) (h2 : ce 2 = some (.str A.word ta)) (h3 : ce 3 = some (.str C.word tc)) (h5 : ce 5 = some (.str (sgn k.dec) tg)) (h4 : ce 4 = some (.int (r : Nat) t1)) (h6 : ce 6 = some (.int (w : Nat) t3))
 (hAc : A.c ≠ 4) (hCr : C.r = r) (hCc : C.c = w)
 (H : ∀ Dl u1 u2 u3 u4 q tb' ow' n', LawS c.L k t m tb' ce [] [A, B, C, D, arE k g5] ow' n' → DatIn (fro ow' n') (.ref bf) d → (Dl, listOf [Value.str BSs u1, .str BSs u2, .str BSs u3, .str BSs u4].toArray q) ∈ n' → vcS NoE glT lawN 33 (lawB.drop 27) [] c KR (hC.alo [x0, x1, x2, x3, x4, x5, x6, x7, x8, x9, x10, x11, some (.ref Dl)]) n' Kn) :
 vcS NoE glT lawN 37 (lawB.drop 23) [] c KR (hC.alo [x0, x1, x2, x3, x4, x5, x6, x7, x8, x9, x10, x11]) n Kn := by
 have hA := hC.toCAny
 have hz : wE.length + (sgn k.dec).length ≤ 1000 := ad2 (nt (sgn_len k.dec)) (by decide +kernel)
 have mE : arE k g5 ∈ [A, B, C, D, arE k g5] := .tail _ (.tail _ (.tail _ (.tail _ (.head _))))
 refine r_code (fz := [(Str.ofString "world", c.L + 1 + 7, .ref k.wa), (Str.ofString "sign", c.L + 1 + 5, .str (sgn k.dec) tg), (Str.ofString "c", c.L + 1 + 3, .str C.word tc)]) hC hF hw hS (fun q hq => nomatch hq) (by obtain ⟨_, _, _, he⟩ := hF.en; rw [he]; rfl) (fun n' tb' S' => ⟨S'.get 7 _ (by decide) h7, S'.get 5 _ (by decide) h5, S'.get 3 _ (by decide) h3, trivial⟩) (scopeN_of (by decide +kernel)) (by decide +kernel) (by decide +kernel) ?_ ?_
 · intro c' A₁ base outer n' tb' hw' hF' hA' S' u1 u2 u3
   refine r_addS hz fun u4 u5 => r_addS hz fun u6 D1 hD1 => ?_
   have l1 := Le.one (o := tup [.str (Str.ofString "two") u1, .str (Str.ofString "*") u2, .str (awd wE k.dec) u4, .str (awd wE k.dec) u6] 0) hD1
   exact (n_lawsetR (fun n2 hl => (n_rkmulR (A := arE k g5) (B := arE k g5) (S'.w.le (l1.trans hl)) mE mE (hl.sub _ (.head _)) (show (4 : Nat) ≠ 1 by decide)).lv (by decide))).go hw' hF' l1.sub
 intro a1 n1 v1 S1 A1 Dl hD
 refine vst1 ?_
 have R2 := S1.w.own (o := listOf [Value.str BSs v1].toArray 0) (lt_ne hD) fun q_ q_ => listNt
 have S2 := S1.own (o := listOf [Value.str BSs v1].toArray 0) (lt_ne hD) fun q_ q_ => listNt
 have B2 := DatIn.mono R2.fro (DatIn.mono (A1.fro hS.l635) hB)
 have eT : Dl ≠ t.T := let ⟨_, h⟩ := S1.tape; Nat.ne_of_gt (hD _ h)
 have e6 : Dl ≠ 635 := Nat.ne_of_gt (hD _ S1.tab)
 have ec : ∀ i, i < 8 → c.L + 1 + i ≠ Dl := fun i hi => let ⟨_, h, _, _⟩ := S1.cel i hi; Nat.ne_of_lt (hD _ h)
 have hx : 50 ≤ lab ow Dl 50 Dl := by rw [lab_eq]; decide
 refine r_append hA rfl rfl ?_
 rw [hC.ns, hC.fr]
 refine ⟨Dl, [Value.str BSs v1].toArray, 0, rfl, .head _, show (1 : Nat) ≤ 1000 by decide, ?_⟩
 refine r_codeA (fz := [(Str.ofString "world", c.L + 1 + 7, .ref k.wa), (Str.ofString "sign", c.L + 1 + 5, .str (sgn k.dec) tg), (Str.ofString "c", c.L + 1 + 3, .str C.word tc), (Str.ofString "a", c.L + 1 + 2, .str A.word ta)]) hC hF hw S2 (.head _) hx eT e6 ec ?_ ?_ (fun n' tb' S' => ⟨S'.get 7 _ (by decide) h7, S'.get 5 _ (by decide) h5, S'.get 3 _ (by decide) h3, S'.get 2 _ (by decide) h2, trivial⟩) (scopeN_of (by decide +kernel)) (by decide +kernel) (by decide +kernel) ?_ ?_
 · intro q hq h
   rcases jO hq with rfl
   exact absurd h.1 (by simp)
 · obtain ⟨q_, q_, q_, he⟩ := hF.en
   refine he ▸ ?_
   rfl
 · intro c' A₁ base outer n' tb' hw' hF' hA' S' u1 u2 u3
   refine r_addS hz fun u4 D1 hD1 => ?_
   have l1 := Le.one (o := tup [.str (Str.ofString "two") u1, .str (Str.ofString "+") u2, .str A.word ta, .str (awd wE k.dec) u4] 0) hD1
   exact (n_lawsetR (fun n2 hl => (n_rkcellR (A := A) (B := arE k g5) (S'.w.le (l1.trans hl)) (.head _) mE (hl.sub _ (.head _)) hAc).lv (by decide))).go hw' hF' l1.sub
 intro a2 n2 v2 S3 M3 F3
 refine r_append hA rfl rfl ?_
 rw [hC.ns, hC.fr]
 refine ⟨Dl, _, _, rfl, M3, show (2 : Nat) ≤ 1000 by decide, ?_⟩
 refine r_codeA (fz := [(Str.ofString "world", c.L + 1 + 7, .ref k.wa), (Str.ofString "wide", c.L + 1 + 6, .int (w : Nat) t3), (Str.ofString "sign", c.L + 1 + 5, .str (sgn k.dec) tg), (Str.ofString "many", c.L + 1 + 4, .int (r : Nat) t1), (Str.ofString "c", c.L + 1 + 3, .str C.word tc)]) hC hF hw S3 M3 hx eT e6 ec ?_ ?_ (fun n' tb' S' => ⟨S'.get 7 _ (by decide) h7, S'.get 6 _ (by decide) h6, S'.get 5 _ (by decide) h5, S'.get 4 _ (by decide) h4, S'.get 3 _ (by decide) h3, trivial⟩) (scopeN_of (by decide +kernel)) (by decide +kernel) (by decide +kernel) ?_ ?_
 · intro q hq h
   rcases jX hq with rfl | hq
   · exact absurd h.1 (by simp)
   rcases jO hq with rfl
   exact absurd h.1 (by simp)
 · obtain ⟨q_, q_, q_, he⟩ := hF.en
   refine he ▸ ?_
   rfl
 · intro c' A₁ base outer n' tb' hw' hF' hA' S'
   refine iteC (fun hne u1 D1 hD1 D2 hD2 => ?_) fun hne u1 => r_addS hz fun u2 u3 D1 hD1 D2 hD2 => ?_
   · have l1 := (Le.one (o := listOf ([] : List Value).toArray 0) hD1).cons (o := tup [.str (Str.ofString "IDN") u1, .ref D1] 0) hD2
     exact (n_lawsetR (fun n2 hl => n_rkidnR (A := C) (S'.w.le (l1.trans hl)) (.tail _ (.tail _ (.head _))) (hl.sub _ (.head _)) (hl.sub _ (.tail _ (.head _))) (by rw [hCr, hCc]; exact fun e => hne (by rw [e])))).go hw' hF' l1.sub
   · have l1 := (Le.one (o := listOf ([] : List Value).toArray 0) hD1).cons (o := tup [.str (Str.ofString "IDN") u3, .ref D1] 0) hD2
     exact (n_lawsetR (fun n2 hl => n_rkidnR (A := arE k g5) (S'.w.le (l1.trans hl)) mE (hl.sub _ (.head _)) (hl.sub _ (.tail _ (.head _))) (show (1 : Nat) ≠ 4 by decide))).go hw' hF' l1.sub
 intro a3 n3 v3 S4 M4 F4
 refine r_append hA rfl rfl ?_
 rw [hC.ns, hC.fr]
 refine ⟨Dl, _, _, rfl, M4, show (3 : Nat) ≤ 1000 by decide, ?_⟩
 refine r_codeA (fz := [(Str.ofString "world", c.L + 1 + 7, .ref k.wa), (Str.ofString "sign", c.L + 1 + 5, .str (sgn k.dec) tg), (Str.ofString "c", c.L + 1 + 3, .str C.word tc)]) hC hF hw S4 M4 hx eT e6 ec ?_ ?_ (fun n' tb' S' => ⟨S'.get 7 _ (by decide) h7, S'.get 5 _ (by decide) h5, S'.get 3 _ (by decide) h3, trivial⟩) (scopeN_of (by decide +kernel)) (by decide +kernel) (by decide +kernel) ?_ ?_
 · intro q hq h
   rcases jX hq with rfl | hq
   · exact absurd h.1 (by simp)
   rcases jX hq with rfl | hq
   · exact absurd h.1 (by simp)
   rcases jO hq with rfl
   exact absurd h.1 (by simp)
 · obtain ⟨q_, q_, q_, he⟩ := hF.en
   refine he ▸ ?_
   rfl
 · intro c' A₁ base outer n' tb' hw' hF' hA' S' u1 u2
   refine r_addS hz fun u3 D1 hD1 => ?_
   have l1 := Le.one (o := tup [.str (Str.ofString "INV") u1, .str (awd wE k.dec) u3] 0) hD1
   exact (n_lawsetR (fun n2 hl => (n_rkinvR (A := arE k g5) (S'.w.le (l1.trans hl)) mE (hl.sub _ (.head _)) (show (1 : Nat) ≠ 4 by decide)).lv (by decide))).go hw' hF' l1.sub
 intro a4 n4 v4 S5 M5 F5
 exact H Dl v1 v2 v3 v4 _ _ _ n4 S5 (DatIn.mono F5 (DatIn.mono F4 (DatIn.mono F3 B2))) M5
end
end Mine
namespace Mine
open LCg
theorem itmD_ok {k : WC} {A : AR} {n : Nat} : kqdOk (n + 2) (itmD k A) = true := by
 show (List.map _ _).all (kqdOk (n + 1)) = true
 rw [List.all_map, List.all_eq_true]
 exact fun j q_ => numD_ok
theorem word_str {w : Str} {d : Bool} (h : WordOk w d) : PyData.strOk w = true := by
 have : ([((Str.ofString "A%" : Str), false), ((Str.ofString "A" : Str), true), ((Str.ofString "B%" : Str), false), ((Str.ofString "B" : Str), true), ((Str.ofString "C%" : Str), false), ((Str.ofString "C" : Str), true), ((Str.ofString "D%" : Str), false), ((Str.ofString "D" : Str), true), ((Str.ofString "E%" : Str), false), ((Str.ofString "E" : Str), true), ((Str.ofString "S%" : Str), false), ((Str.ofString "S" : Str), true)] : List (Str × Bool)).all (fun p => PyData.strOk p.1) = true := by kernel_rfl
 exact List.all_eq_true.mp this _ h
theorem bs_str : PyData.strOk BSs = true := by kernel_rfl
theorem bs_ok : kqdOk 8 (.list [.str BSs, .str BSs, .str BSs, .str BSs]) = true := by
 show (PyData.strOk BSs && (PyData.strOk BSs && (PyData.strOk BSs && (PyData.strOk BSs && true)))) = true
 rw [bs_str]; rfl
theorem bef_ok {k : WC} {SA : List AR} (h : ∀ A ∈ SA, WordOk A.word k.dec) : kqdOk 8 (.list (SA.map (arrD k))) = true := by
 show (SA.map (arrD k)).all (kqdOk 7) = true
 rw [List.all_map, List.all_eq_true]
 intro A hA
 show (PyData.strOk A.word && (kqdOk 6 (.list [.int A.r, .int A.c]) && (kqdOk 6 (itmD k A) && true))) = true
 rw [word_str (h A hA), itmD_ok]
 rfl
section
variable {c : Cx} {KR : VAP} {Kn : ALP} {k : WC} {t : Tp} {m : Nat} {ce : Nat → Option Value} {ow : Lab} {n : Led}
theorem lawB27 {x0 x1 x2 x5 x6 x7 x8 x9 x10 : Option Value} {ta tb tc td : Tok} {A B C D : AR} {S : List AR} {bf Dl : Addr} {u1 u2 u3 u4 : Tok} {q : Nat} {tbl : List (Pos × Addr)} (hC : CIn 16 lawN c (lawCl c.L)) (hw : c.w = k.w) (hS : LawS c.L k t m tbl ce [] (A :: B :: C :: D :: S) ow n) (hB : DatIn (fro ow n) (.ref bf) (.list ([A, B, C, D].map (arrD k)))) (hl : (Dl, listOf [Value.str BSs u1, .str BSs u2, .str BSs u3, .str BSs u4].toArray q) ∈ n) (h7 : ce 7 = some (.ref k.wa)) (h2 : ce 2 = some (.str A.word ta)) (h3 : ce 3 = some (.str C.word tc))
 (H : ∀ n', LawS c.L k t m tbl ce [] (A :: B :: C :: D :: S) ow n' → vcS NoE glT lawN 32 (lawB.drop 28) [] c KR (hC.alo [x0, x1, x2, some (.str B.word tb), some (.str D.word td), x5, x6, x7, x8, x9, x10, some (.ref bf), some (.ref Dl)]) n' Kn) :
 vcS NoE glT lawN 33 (lawB.drop 27) [] c KR (hC.alo [x0, x1, x2, some (.str B.word tb), some (.str D.word td), x5, x6, x7, x8, x9, x10, some (.ref bf), some (.ref Dl)]) n Kn := by
 have hA := hC.toCAny
 intro t1 D1 hD1 t2
 refine r_mulL (vs := [.str BSs t1]) (.head _) (by decide) (show 1 * 4 ≤ 256 by decide) (by decide) fun D2 hD2 => ?_
 have l2 := (Le.one (o := listOf [.str BSs t1].toArray 0) hD1).cons (o := listOf (List.replicate (4 : Int).toNat [Value.str BSs t1]).flatten.toArray 0) hD2
 refine r_neD (d := .list [.str BSs, .str BSs, .str BSs, .str BSs]) (e := .list [.str BSs, .str BSs, .str BSs, .str BSs]) (q := true) hA (by decide) (.list (l2.sub _ hl) (.cons (.str _ _) (.cons (.str _ _) (.cons (.str _ _) (.cons (.str _ _) .nil))))) (.list (vs := [.str BSs t1, .str BSs t1, .str BSs t1, .str BSs t1]) (.head _) (.cons (.str _ _) (.cons (.str _ _) (.cons (.str _ _) (.cons (.str _ _) .nil))))) bs_ok bs_ok ⟨fun q_ => rfl, fun q_ => rfl⟩ (iteF' ?_)
 have S2 := hS.le l2
 have ok4 := bef_ok (k := k) (SA := [A, B, C, D]) fun X hX => hS.w.wok X (by
  rcases jX hX with rfl | h
  · exact .head _
  · rcases jX h with rfl | h
    · exact .tail _ (.head _)
    · rcases jX h with rfl | h
      · exact .tail _ (.tail _ (.head _))
      · rw [jO h]; exact .tail _ (.tail _ (.tail _ (.head _))))
 have B2 := DatIn.mono (fro_mono (ow := ow) l2.sub) hB
 obtain ⟨o7, m7, d7⟩ := S2.get 7 _ (by decide) h7
 obtain ⟨o2, m2, d2⟩ := S2.get 2 _ (by decide) h2
 obtain ⟨o3, m3, d3⟩ := S2.get 3 _ (by decide) h3
 refine lc1T (b := false) (own := fun q_ => []) (fz := [(Str.ofString "world", c.L + 1 + 7, .ref k.wa)]) hA ⟨by obtain ⟨_, _, _, _, e⟩ := hC.en; rw [e]; with_unfolding_all rfl, rfl, by decide, fun q_ => rfl, fun q_ => ownOk_nil, fun q_ => by kernel_rfl, fun q_ => rfl⟩ ?_
 refine vcN hC.ns hC.fr ?_
 refine ⟨_, o2, _, hcl hC _ 2 fun q_ => rfl, m2, d2, ⟨_, o3, _, hcl hC _ 3 fun q_ => rfl, m3, d3, fun D0 hD0 => ?_⟩⟩
 refine ⟨D0, _, 0, [], _, _, rfl, rfl, .head _, comp0 (n := 4) (BefJ k (fro ow ((D2, listOf (List.replicate (4 : Int).toNat [Value.str BSs t1]).flatten.toArray 0) :: (D1, listOf [.str BSs t1].toArray 0) :: n)) [A, B, C, D]) (by decide) (hC.noK _) ⟨⟨o7, .tail _ m7, d7⟩, trivial⟩ Upto.zero ?_ ?_⟩
 · rintro i vs ys tl led C' keep hi ⟨v, hv, rfl⟩ hJ ab sub hk1 hcl1 hA'
   obtain ⟨X, tx, e, rfl⟩ := four hv
   have mX : X ∈ A :: B :: C :: D :: S := by
    rcases jX (List.mem_of_getElem? e) with rfl | h
    · exact .head _
    · rcases jX h with rfl | h
      · exact .tail _ (.head _)
      · rcases jX h with rfl | h
        · exact .tail _ (.tail _ (.head _))
        · rw [jO h]; exact .tail _ (.tail _ (.tail _ (.head _)))
   exact bef_turn hA' hw S2.w mX (fun p hp => sub p (jR _ (.tail _ hp))) fun D1 t1 ab1 hD1 => ce0 t1 rfl ab1 (hJ.snoc (fun q_ q_2 ⟨Y, e, h⟩ => ⟨Y, e, DatIn.mono (fun p hp => by rw [List.append_assoc]; exact jR _ hp) h⟩) ⟨X, e, DatIn.mono (fun p hp => by
    revert p; refine fma (fun p hp => ?_) fun p hp => ?_
    · exact jL _ (jL _ hp)
    · exact jR _ hp) hD1⟩)
 · intro D4 ys tl ab hJ
   have l4 : Le ((D2, listOf (List.replicate (4 : Int).toNat [Value.str BSs t1]).flatten.toArray 0) :: (D1, listOf [.str BSs t1].toArray 0) :: n) ((D4, lst ys) :: (tl ++ ((D0, tup [.str A.word ta, .str B.word tb, .str C.word tc, .str D.word td] 0) :: ((D2, listOf (List.replicate (4 : Int).toNat [Value.str BSs t1]).flatten.toArray 0) :: (D1, listOf [.str BSs t1].toArray 0) :: n)))) := (Le.one hD0).trans ⟨(D4, lst ys) :: tl, rfl, ab⟩
   refine r_neD (q := true) hA (by decide) (DatIn.mono (fun p hp => l4.sub p (fro_sub p hp)) B2) (BefJ.dat hJ (.head _) fun p hp => ?_) ok4 ok4 ⟨fun q_ => rfl, fun q_ => rfl⟩ (iteF' (vnil (H _ (S2.le l4))))
   revert p; refine fma (fun p hp => ?_) fun p hp => ?_
   · exact .tail _ (jL _ hp)
   · exact l4.sub p (fro_sub p hp)
end
end Mine
namespace Mine
open LCg
noncomputable def arS (k : WC) (g : Addr) (f : NNI) : AR := ⟨awd wS k.dec, g, (2 + 1 - k.b) * (2 + 1 - k.b), 2, 2, f⟩
theorem mat22 {ow : Lab} {n : Led} {D1 D2 D3 : Addr} {a b d e : Int} {t1 t2 t3 t4 : Tok} {f : NNI} (m1 : (D1, listOf [Value.int a t1, .int b t2].toArray 0) ∈ fro ow n) (m2 : (D2, listOf [Value.int d t3, .int e t4].toArray 0) ∈ fro ow n) (m3 : (D3, listOf [Value.ref D1, .ref D2].toArray 0) ∈ fro ow n) (h1 : f 0 0 = a) (h2 : f 0 1 = b) (h3 : f 1 0 = d) (h4 : f 1 1 = e) : Mat ow (some false) n D3 2 2 f := by
 have row : ∀ (D : Addr) (x y : Int) (t u : Tok) (g : Nat → Int), (D, listOf [Value.int x t, .int y u].toArray 0) ∈ fro ow n → g 0 = x → g 1 = y → RowF (fun a => ow a = 0) (some false) (fro ow n) D 2 g := fun D x y t u g m e1 e2 => ⟨(mem_fro.mp m).2, _, 0, m, rfl, fun j v e => by
  match j with
  | 0 => cases e; rw [e1]; exact .of (.i _ _)
  | 1 => cases e; rw [e2]; exact .of (.i _ _)
  | j + 2 => cases e⟩
 refine ⟨(mem_fro.mp m3).2, _, 0, m3, rfl, fun i v e => ?_⟩
 match i with
 | 0 => cases e; exact ⟨D1, rfl, row D1 a b t1 t2 _ m1 h1 h2⟩
 | 1 => cases e; exact ⟨D2, rfl, row D2 d e t3 t4 _ m2 h3 h4⟩
 | i + 2 => cases e
section
variable {c : Cx} {KR : VAP} {Kn : ALP} {k : WC} {t : Tp} {m : Nat} {ce : Nat → Option Value} {ow : Lab} {n : Led}
theorem lawB28 {x0 x1 x2 x3 x4 x5 x6 x7 x8 x9 x10 x11 x12 : Option Value} {tg : Tok} {A B C D E : AR} {tbl : List (Pos × Addr)} (hC : CIn 16 lawN c (lawCl c.L)) (hw : c.w = k.w) (hS : LawS c.L k t m tbl ce [] [A, B, C, D, E] ow n) (h0 : ce 0 = some (.ref t.T)) (h7 : ce 7 = some (.ref k.wa)) (h5 : ce 5 = some (.str (sgn k.dec) tg)) (hm : m ≤ 100)
 (eA : A.word = awd wA k.dec) (eB : B.word = awd wB k.dec) (eC : C.word = awd wC k.dec) (eD : D.word = awd wD k.dec) (eE : E.word = awd wE k.dec)
 (H : ∀ kk tk g ow' n', -3 ≤ kk ∧ kk ≤ 3 → LawS c.L k t (m + 1) tbl ce [] [A, B, C, D, E, arS k g (sq kk)] ow' n' → vcS NoE glT lawN 29 (lawB.drop 31) [] c KR (hC.alo [x0, x1, x2, x3, x4, x5, x6, x7, x8, x9, x10, x11, x12, some (.int kk tk)]) n' Kn) :
 vcS NoE glT lawN 32 (lawB.drop 28) [] c KR (hC.alo [x0, x1, x2, x3, x4, x5, x6, x7, x8, x9, x10, x11, x12]) n Kn := by
 have hA := hC.toCAny
 have k7 := hcl hC (Str.ofString "world") 7 fun q_ => rfl
 have k5 := hcl hC (Str.ofString "sign") 5 fun q_ => rfl
 have hz : wS.length + (sgn k.dec).length ≤ 1000 := ad2 (nt (sgn_len k.dec)) (by decide +kernel)
 obtain ⟨o0, m0, d0⟩ := hS.get 0 _ (by decide) h0
 refine ⟨_, o0, _, hcl hC _ 0 fun q_ => rfl, m0, d0, fun t1 => r_draw hA (by decide) hC.kp hS hm (by decide) fun v u n1 hv0 hv7 A1 S1 t2 t3 => vst1 ?_⟩
 obtain ⟨o7, m7, d7⟩ := S1.get 7 _ (by decide) h7
 obtain ⟨o5, m5, d5⟩ := S1.get 5 _ (by decide) h5
 refine ⟨_, o7, _, k7, m7, d7, fun t4 => ⟨_, o5, _, k5, m5, d5, r_addS hz fun t5 t6 t7 D1 hD1 => ?_⟩⟩
 have S2 := S1.le (.one (o := listOf [.int 2 t6, .int 2 t7].toArray 0) hD1)
 refine (n_dim (r := 2) (c := 2) S2.w (.head _) (by rw [show [A, B, C, D, E].map (·.word) = [A.word, B.word, C.word, D.word, E.word] from rfl, eA, eB, eC, eD, eE]; exact ne_S _) (awd_ok2 _).2 (show 5 ≤ 7 by decide) (by decide) (by decide)).goF hw hC fun v2 n3 z1 => ?_
 obtain ⟨q_, g, ow3, W3, X3⟩ := z1
 have S3 := S2.ext W3 X3
 obtain ⟨o7, m7, d7⟩ := S3.get 7 _ (by decide) h7
 obtain ⟨o5, m5, d5⟩ := S3.get 5 _ (by decide) h5
 obtain ⟨oa, ma, da⟩ := W3.tab
 have hmem : (⟨awd wS k.dec, g, (2 + 1 - k.b) * (2 + 1 - k.b), 2, 2, fun q_ q_ => 0⟩ : AR) ∈ [A, B, C, D, E] ++ [⟨awd wS k.dec, g, (2 + 1 - k.b) * (2 + 1 - k.b), 2, 2, fun q_ q_ => 0⟩] := jR _ (.head _)
 have hv := tab_at W3.ws hmem
 have hw0 : WorldIn PG c.w n3 k.wa k.b k.ad k.nd := hw.symm ▸ W3.wld.mono fro_sub
 refine ⟨_, o7, _, k7, m7, d7, ⟨_, o7, _, k7, m7, d7, w_arrays hA hw0 _ _ _ fun t8 => ⟨_, o5, _, k5, m5, d5, r_addS hz fun t9 => subD ma (hw.symm ▸ da) hv fun t10 D2 hD2 t11 t12 D3 hD3 D4 hD4 => ?_⟩⟩⟩
 have l4 := ((Le.one (o := listOf [Value.int 1 t10, .int (v - 3) t3].toArray 0) hD2).cons (o := listOf [Value.int 0 t11, .int 1 t12].toArray 0) hD3).cons (o := listOf [Value.ref D2, .ref D3].toArray 0) hD4
 have S4 := S3.le l4
 have f4 : ∀ p ∈ (D4, listOf [Value.ref D2, .ref D3].toArray 0) :: (D3, listOf [Value.int 0 t11, .int 1 t12].toArray 0) :: (D2, listOf [Value.int 1 t10, .int (v - 3) t3].toArray 0) :: n3, (∀ q ∈ n3, q.1 < p.1) → p ∈ fro ow3 _ := fun p hp hlt => mem_fro.mpr ⟨hp, W3.fresh hlt⟩
 have M4 : Mat ow3 (some false) _ D4 2 2 (sq (v - 3)) := mat22 (f4 _ (.tail _ (.tail _ (.head _))) hD2) (f4 _ (.tail _ (.head _)) fun q hq => hD3 q (.tail _ hq)) (f4 _ (.head _) fun q hq => hD4 q (.tail _ (.tail _ hq))) rfl rfl rfl rfl
 refine (n_putrows (i := 5) (f := sq (v - 3)) S4.w rfl M4.any fun p q q_ q_ => sq_b (v33 hv0 hv7)).goF hw hC fun v3 n5 z2 => ?_
 obtain ⟨q_, ow5, W5, X5⟩ := z2
 exact H (v - 3) t3 g ow5 n5 (v33 hv0 hv7) (S4.ext W5 X5)
end
end Mine
namespace Mine
open LCg
section
variable {c : Cx} {KR : VAP} {Kn : ALP} {k : WC} {t : Tp} {m : Nat} {ce : Nat → Option Value} {ow : Lab} {n : Led}
theorem lawB31 {x0 x1 x2 x3 x4 x5 x6 x7 x8 x9 x10 x11 x12 : Option Value} {tg tk : Tok} {A B C D E : AR} {g : Addr} {kk : Int} {tbl : List (Pos × Addr)} (hC : CIn 16 lawN c (lawCl c.L)) (hw : c.w = k.w) (hS : LawS c.L k t m tbl ce [] [A, B, C, D, E, arS k g (sq kk)] ow n) (h7 : ce 7 = some (.ref k.wa)) (h5 : ce 5 = some (.str (sgn k.dec) tg)) (hk : -3 ≤ kk ∧ kk ≤ 3)
 (H : ∀ nks S ow' n' al, LawS c.L k t m tbl ce nks S ow' n' → KR (.bool true) al n') :
 vcS NoE glT lawN 29 (lawB.drop 31) [] c KR (hC.alo [x0, x1, x2, x3, x4, x5, x6, x7, x8, x9, x10, x11, x12, some (.int kk tk)]) n Kn := by
 have hA := hC.toCAny
 have k7 := hcl hC (Str.ofString "world") 7 fun q_ => rfl
 have k5 := hcl hC (Str.ofString "sign") 5 fun q_ => rfl
 have hz : wS.length + (sgn k.dec).length ≤ 1000 := ad2 (nt (sgn_len k.dec)) (by decide +kernel)
 have mS : ∀ f, arS k g f ∈ [A, B, C, D, E, arS k g f] := fun f => .tail _ (.tail _ (.tail _ (.tail _ (.tail _ (.head _)))))
 obtain ⟨o7, m7, d7⟩ := hS.get 7 _ (by decide) h7
 obtain ⟨o5, m5, d5⟩ := hS.get 5 _ (by decide) h5
 refine ⟨_, o7, _, k7, m7, d7, fun t1 => ⟨_, o5, _, k5, m5, d5, r_addS hz fun t2 t3 t4 => ⟨_, o5, _, k5, m5, d5, r_addS hz fun t5 D1 hD1 => ?_⟩⟩⟩
 have S1 := hS.le (.one (o := tup [.str (Str.ofString "INV") t3, .str (awd wS k.dec) t5] 0) hD1)
 refine (n_lawset (nk := fun z => [(detS, z)]) (Qz := DetQ) (S' := fun q_ => [A, B, C, D, E, arS k g (sq kk)]) (A := fun q_ => arS k g (sq kk)) (i := 5) (word := awd wS k.dec) (r := 2) (kc := 2) (f := sqI kk) (fun n' hl => n_rkinv (S1.w.le hl) (mS _) (hl.sub _ (.head _)) hk rfl rfl rfl) (fun z a b hs h => h.mono hs) (fun z ow1 n1 t W => gridof_at (mS _) rfl W) (fun q_ => ⟨rfl, Nat.le_refl _⟩) (by decide) (by decide) (fun p q q_ q_ => ib (sqI_b hk))).goF hw hC fun v n2 z1 => ?_
 obtain ⟨q_, q_, z, ow2, W2, X2, Q2⟩ := z1
 have S2 := S1.ext W2 X2
 obtain ⟨o7, m7, d7⟩ := S2.get 7 _ (by decide) h7
 obtain ⟨o5, m5, d5⟩ := S2.get 5 _ (by decide) h5
 refine ⟨_, o7, _, k7, m7, d7, fun t6 => ⟨_, o5, _, k5, m5, d5, r_addS hz fun t7 t8 t9 t10 D2 hD2 t11 t12 D3 hD3 D4 hD4 => ?_⟩⟩
 have l4 := ((Le.one (o := listOf [Value.int 1 t8, .int (0 - kk) t10].toArray 0) hD2).cons (o := listOf [Value.int 0 t11, .int 1 t12].toArray 0) hD3).cons (o := listOf [Value.ref D2, .ref D3].toArray 0) hD4
 have S4 := S2.le l4
 have f4 : ∀ p ∈ (D4, listOf [Value.ref D2, .ref D3].toArray 0) :: (D3, listOf [Value.int 0 t11, .int 1 t12].toArray 0) :: (D2, listOf [Value.int 1 t8, .int (0 - kk) t10].toArray 0) :: n2, (∀ q ∈ n2, q.1 < p.1) → p ∈ fro ow2 _ := fun p hp hlt => mem_fro.mpr ⟨hp, W2.fresh hlt⟩
 have M4 : Mat ow2 (some false) _ D4 2 2 (sqI kk) := mat22 (f4 _ (.tail _ (.tail _ (.head _))) hD2) (f4 _ (.tail _ (.head _)) fun q hq => hD3 q (.tail _ hq)) (f4 _ (.head _) fun q hq => hD4 q (.tail _ (.tail _ hq))) rfl (Int.zero_sub kk).symm rfl rfl
 obtain ⟨o5, m5, d5⟩ := S4.get 5 _ (by decide) h5
 refine ⟨_, o5, _, k5, m5, d5, (n_lawis (A := arS k g (sqI kk)) S4.w.rd (mS _) (GridF.mono M4 fro_sub) (show 2 ≤ 9 by decide) (show 2 ≤ 9 by decide) (fun q_ q_ q_ q_ => rfl) (fun p q q_ q_ => ib (sqI_b hk))).goW hw hA fun v n5 l5 e => ?_⟩
 cases e
 have S5 := S4.le l5
 obtain ⟨o7, m7, d7⟩ := S5.get 7 _ (by decide) h7
 obtain ⟨on, mn, dn⟩ := S5.w.nms
 have hw0 : WorldIn PG c.w n5 k.wa k.b k.ad k.nd := hw.symm ▸ S5.w.wld.mono fro_sub
 refine iteT' ⟨_, o7, _, k7, m7, d7, w_names hA hw0 _ _ _ fun t13 => subD mn (hw.symm ▸ dn) rfl fun t14 t15 D6 hD6 => ?_⟩
 have l6 := Le.one (o := tup [.int 1 t14, .int 0 t15] 0) hD6
 have zd := DatIn.mono l6.sub (DatIn.mono l5.sub (DatIn.mono l4.sub (DatIn.mono fro_sub (Num.dat Q2))))
 have Q3 : Num _ true z 1 := Q2
 obtain ⟨r, hr⟩ : ∃ r, z = .ref r := by cases Q3; exact ⟨_, rfl⟩
 subst hr
 refine r_eqD (q := true) hA (by decide) zd (.tuple (.head _) (.cons (.int _ _) (.cons (.int _ _) .nil))) rfl rfl ⟨fun q_ => rfl, fun q_ => rfl⟩ ?_
 exact H _ _ _ _ _ (S5.le l6)
end
end Mine
namespace Mine
open LCg
theorem law_all {c : Cx} {A₀ : Around} {KR : VAP} {Kn : ALP} {sl : Addr} {vs : List Value} {ns : List Int} {nw0 : Led} (hC : CIn 16 lawN c (lawCl c.L)) (hF : LawF c A₀) (hsl : c.G.IsList sl vs.toArray) (hi0 : IntsAre vs ns) (hz : vs.length ≤ 1000) (hL : 635 < c.L) (c0 : CelS c.L nw0 fun q_ => none) (t0 : (635, tabObj #[]) ∈ nw0) (n0 : NoTup nw0)
 (H : ∀ k t m tbl ce nks S ow n al, LawS c.L k t m tbl ce nks S ow n → KR (.bool true) al n) :
 vcS NoE glT lawN 60 lawB [] c KR (hC.alo [some (.ref sl)]) nw0 Kn := by
 refine lawA hC hsl hi0 hz hL c0 t0 n0 fun k t tg ow n hk hb hS => ?_
 refine lawB4 hC hS fun r i w t1 t2 t3 n1 hr hi hw S1 => ?_
 refine lawB5 hC S1 rfl fun u1 u2 u3 u4 n2 S2 => ?_
 refine lawB6 hC S2 hr hi hw rfl rfl rfl fun x y f g n3 S3 Mx My Fx Fy => ?_
 refine lawB7 hC hk.symm S3 rfl rfl Mx My hr hi hw Fx Fy fun g1 g2 ow4 n4 x7 x8 S4 M4 M4' => ?_
 refine lawB8 hC hk.symm S4 rfl rfl rfl rfl M4 M4' hr hi hw Fx Fy fun g3 ow5 n5 S5 M5 M5' => ?_
 refine lawB11 hC hk.symm S5 rfl rfl rfl M5 (Nat.le_refl _) hr hi Fx fun tw ow6 n6 S6 P6 M6 => ?_
 refine lawB14 hC hk.symm S6 rfl rfl rfl rfl M6 hr hi (fun p q hp hq => ib (dbl_b (Fx p q hp hq))) fun x10 g4 ow7 n7 S7 P7 => ?_
 refine lawB18 hC hk.symm S7 rfl rfl rfl (P7 _ _ _ _ _ (P6 _ _ _ _ _ M5')) hi hw Fy fun ow8 n8 S8 => ?_
 refine lawB21 hC hk.symm S8 rfl rfl rfl rfl rfl rfl rfl rfl fun bf g5 ow9 n9 S9 B9 => ?_
 refine lawB23 hC hF hk.symm S9 B9 rfl rfl rfl rfl rfl rfl (fun e => absurd (Nat.le_trans (Nat.le_of_eq (Eq.symm e : 4 = r)) hr.2) (by decide)) rfl rfl fun Dl v1 v2 v3 v4 q tb' ow10 n10 S10 B10 M10 => ?_
 refine lawB27 hC hk.symm S10 B10 M10 rfl rfl rfl fun n11 S11 => ?_
 have b1 : r * i ≤ 9 := Nat.mul_le_mul hr.2 hi.2
 have b2 : i * w ≤ 9 := Nat.mul_le_mul hi.2 hw.2
 refine lawB28 hC hk.symm S11 rfl rfl rfl (tp100 b1 b2) rfl rfl rfl rfl rfl fun kk tk g6 ow12 n12 hkk S12 => ?_
 exact lawB31 hC hk.symm S12 rfl rfl hkk fun nks S ow' n' al h => H _ _ _ _ _ _ _ _ _ al h
end Mine
namespace Mine
open LCg
theorem law_run {w : World} {G h₁ : Heap} {L fa : Addr} {gs : Array GenState} {d : Drawn} {tk₁ : Nat} {os : OsState} {loose : List Str} {mean : ExcName → Option Value} {mg mb : SoV} {sl : Addr} {vs : List Value} {ns : List Int} {nw : Led} {qual : Str} {mo : List (Str × Const)} {Q : Flow → Shared → Prop} {E : VSP}
 (X : (K39 w.params).In G) (T : Top topProg loose mean mg mb G) (B : Below callerA G [] G) (hd : CodeHd G 637 635) (hsl : G.IsList sl vs.toArray) (hi : IntsAre vs ns) (hz : vs.length ≤ 1000) (hL : 635 < L)
 (F : Fr G L h₁ (frm (alO lawN [some (.ref sl)]))) (N : News G L h₁ nw) (c0 : CelS L nw fun q_ => none) (t0 : (635, tabObj #[]) ∈ nw) (n0 : NoTup nw)
 (hQ : ∀ h' tk' (tb : List (Pos × Addr)), h'.get? 635 = some (tabObj (triples tb).toArray) → G.StaysIn h' → Q (.ret (.bool true)) ⟨h', gs, d, tk', os⟩) :
 wpAny (model PG w) (callerA.deeper (envX qual (sc lawN mo) L fa (.ref 637) (lawCl L))) (execs lawB (envX qual (sc lawN mo) L fa (.ref 637) (lawCl L))) Q E ⟨h₁, gs, d, tk₁, os⟩ := by
 have hs : ScopeN lawN := scopeN_of (by kernel_rfl)
 have hC : CIn 16 lawN (cxF w (callerA.deeper (envX qual (sc lawN mo) L fa (.ref 637) (lawCl L))) G L fa qual (.ref 637) lawN mo (lawCl L) gs d os) (lawCl L) :=
  { top := ⟨⟨loose, mean, mg, mb, _, _, _, qual, sc lawN mo, fa, .ref 637, lawCl L, [], callerA, G, rfl, B, T, rfl, by decide, by decide⟩, X⟩, gl := rfl, bu := rfl, hn := rfl, okx := (cfOk X T hs rfl).toCxOk, ok := cfOk X T hs rfl, ns := rfl, fr := rfl, kp := rfl, clq := rfl, fm := rfl, lo := rfl, en := ⟨_, _, _, _, rfl⟩ }
 have hF : LawF (cxF w (callerA.deeper (envX qual (sc lawN mo) L fa (.ref 637) (lawCl L))) G L fa qual (.ref 637) lawN mo (lawCl L) gs d os) callerA :=
  { fr := ⟨⟨loose, mean, mg, mb, _, _, _, qual, sc lawN mo, fa, .ref 637, lawCl L, rfl, rfl, B, T, rfl, by decide, by decide⟩, rfl, X⟩, hd := hd, en := ⟨_, _, _, rfl⟩ }
 have v := law_all (KR := fun v q_ n => v = .bool true ∧ ∃ (tb : List (Pos × Addr)), (635, tabObj (triples tb).toArray) ∈ n) (Kn := fun q_ q_ => False) hC hF hsl hi hz hL c0 t0 n0 fun k t m tbl ce nks S ow n al h => ⟨rfl, tbl, h.tab⟩
 refine wpAny_mono (vcS_snd hC.ok 60 lawB _ nw _ v h₁ tk₁ ⟨F, N, rfl, fun p hp => nomatch hp⟩) (fun fl s' hfl => ?_) fun q_ q_ x => x.elim
 obtain ⟨h', tk', al', nw', rfl, st', k⟩ := hfl
 cases fl with
 | ret v => obtain ⟨rfl, tb, hm⟩ := k; exact hQ _ _ tb (st'.2.1 _ hm).1 st'.1.keep
 | next => exact k.elim
 | brk => exact k.elim
 | cont => exact k.elim
end Mine
namespace Mine
open LCg
theorem lts {P : Nat → Prop} {n : Nat} (h : ∀ i, i < n → P i) (hn : P n) : ∀ i, i < n + 1 → P i := fun i hi => (Nat.lt_or_eq_of_le (Nat.le_of_lt_succ hi)).elim (h i) fun e => e ▸ hn
theorem celS8 {L : Addr} {o1 o2 o3 o4 o5 o6 o7 o8 : Obj} (d8 : o8.data = .cell none) (d7 : o7.data = .cell none) (d6 : o6.data = .cell none) (d5 : o5.data = .cell none) (d4 : o4.data = .cell none) (d3 : o3.data = .cell none) (d2 : o2.data = .cell none) (d1 : o1.data = .cell none) :
 CelS L [(L + 1 + 1 + 1 + 1 + 1 + 1 + 1 + 1, o8), (L + 1 + 1 + 1 + 1 + 1 + 1 + 1, o7), (L + 1 + 1 + 1 + 1 + 1 + 1, o6), (L + 1 + 1 + 1 + 1 + 1, o5), (L + 1 + 1 + 1 + 1, o4), (L + 1 + 1 + 1, o3), (L + 1 + 1, o2), (L + 1, o1), (635, tabObj #[])] fun q_ => none := fun i hi => by
 revert i
 refine lts (lts (lts (lts (lts (lts (lts (lts (fun q_ h => absurd h (Nat.not_lt_zero _)) ?_) ?_) ?_) ?_) ?_) ?_) ?_) ?_
 · exact ⟨o1, .tail _ (.tail _ (.tail _ (.tail _ (.tail _ (.tail _ (.tail _ (.head _))))))), d1⟩
 · exact ⟨o2, .tail _ (.tail _ (.tail _ (.tail _ (.tail _ (.tail _ (.head _)))))), d2⟩
 · exact ⟨o3, .tail _ (.tail _ (.tail _ (.tail _ (.tail _ (.head _))))), d3⟩
 · exact ⟨o4, .tail _ (.tail _ (.tail _ (.tail _ (.head _)))), d4⟩
 · exact ⟨o5, .tail _ (.tail _ (.tail _ (.head _))), d5⟩
 · exact ⟨o6, .tail _ (.tail _ (.head _)), d6⟩
 · exact ⟨o7, .tail _ (.head _), d7⟩
 · exact ⟨o8, .head _, d8⟩
theorem noTup8 {L : Addr} {o1 o2 o3 o4 o5 o6 o7 o8 : Obj} (d8 : o8.data = .cell none) (d7 : o7.data = .cell none) (d6 : o6.data = .cell none) (d5 : o5.data = .cell none) (d4 : o4.data = .cell none) (d3 : o3.data = .cell none) (d2 : o2.data = .cell none) (d1 : o1.data = .cell none) :
 NoTup [(L + 1 + 1 + 1 + 1 + 1 + 1 + 1 + 1, o8), (L + 1 + 1 + 1 + 1 + 1 + 1 + 1, o7), (L + 1 + 1 + 1 + 1 + 1 + 1, o6), (L + 1 + 1 + 1 + 1 + 1, o5), (L + 1 + 1 + 1 + 1, o4), (L + 1 + 1 + 1, o3), (L + 1 + 1, o2), (L + 1, o1), (635, tabObj #[])] := fun p hp => by
 revert p; refine fmc ?_ fun p hp => ?_
 · exact cellNt d8
 revert p; refine fmc ?_ fun p hp => ?_
 · exact cellNt d7
 revert p; refine fmc ?_ fun p hp => ?_
 · exact cellNt d6
 revert p; refine fmc ?_ fun p hp => ?_
 · exact cellNt d5
 revert p; refine fmc ?_ fun p hp => ?_
 · exact cellNt d4
 revert p; refine fmc ?_ fun p hp => ?_
 · exact cellNt d3
 revert p; refine fmc ?_ fun p hp => ?_
 · exact cellNt d2
 revert p; refine fmc ?_ fun p hp => ?_
 · exact cellNt d1
 revert p; refine fmc ?_ fun p hp => ?_
 · exact fun q_ q_ => tabNt
 · cases hp
theorem frL {G h : Heap} {L sl : Addr} (F : Fr G L h (bindL (fun y => lawN.lookup y) [(Str.ofString "script", .ref sl)] fun q_ => none)) : Fr G L h (frm (alO lawN [some (.ref sl)])) := by
 rw [bindL_frm] at F
 exact F
end Mine
namespace Mine.top
theorem tw17542608870123051758:True:=⟨⟩
theorem tw16878204669230926818:True:=⟨⟩
theorem tw11760055953109336660:True:=⟨⟩
theorem tw4213018616267185653:True:=⟨⟩
theorem tw16666122058527598403:True:=⟨⟩
theorem tw4547018644641229820:True:=⟨⟩
theorem tw1971433849790844608:True:=⟨⟩
theorem tw13305523845174962083:True:=⟨⟩
theorem tw16885616592811714743:True:=⟨⟩
theorem tw4047667213573674445:True:=⟨⟩
theorem tw11520865232209809239:True:=⟨⟩
theorem tw2464713573024523455:True:=⟨⟩
theorem tw13994475860397038760:True:=⟨⟩
theorem tw9227057690007400460:True:=⟨⟩
theorem tw352232786441526191:True:=⟨⟩
theorem tw14632489290957082403:True:=⟨⟩
theorem tw14823308797102314842:True:=⟨⟩
theorem tw7008692893051332821:True:=⟨⟩
theorem tw1040915598704419856:True:=⟨⟩
theorem tw18177719399980262173:True:=⟨⟩
theorem tw18034075008235765660:True:=⟨⟩
theorem tw775762912060472103:True:=⟨⟩
theorem tw9366391650621772374:True:=⟨⟩
theorem tw1617357707322924660:True:=⟨⟩
theorem tw427269002284569659:True:=⟨⟩
theorem tw4796303294375832693:True:=⟨⟩
theorem tw2506305409684761478:True:=⟨⟩
theorem tw8598144960395782539:True:=⟨⟩
theorem tw13802547742096326172:True:=⟨⟩
theorem tw11334350811105764591:True:=⟨⟩
theorem tw2665807947273092163:True:=⟨⟩
theorem tw5244899138074338376:True:=⟨⟩
theorem tw1869187583165140508:True:=⟨⟩
theorem tw3730354652608582461:True:=⟨⟩
theorem tw8679839319945467846:True:=⟨⟩
theorem tw104434173382791472:True:=⟨⟩
theorem tw1814787853859245837:True:=⟨⟩
theorem tw7527032243904285869:True:=⟨⟩
theorem tw11922380849998532372:True:=⟨⟩
theorem tw17576949682797635024:True:=⟨⟩
theorem tw6211089042160764376:True:=⟨⟩
theorem tw1754339480302792767:True:=⟨⟩
theorem tw16719718919923625709:True:=⟨⟩
theorem tw5507162329139097715:True:=⟨⟩
theorem tw16123964013534891561:True:=⟨⟩
theorem tw453181688931711583:True:=⟨⟩
theorem tw4383139521930768336:True:=⟨⟩
theorem tw13345470168829271861:True:=⟨⟩
theorem tw13044034144603486326:True:=⟨⟩
theorem tw13500427573557490136:True:=⟨⟩
theorem tw13369591340354186047:True:=⟨⟩
theorem tw6812286434817487243:True:=⟨⟩
theorem tw16439428074185983240:True:=⟨⟩
theorem tw16415559393655328363:True:=⟨⟩
theorem tw6333448901615975916:True:=⟨⟩
theorem tw8321918168302905379:True:=⟨⟩
theorem tw7198060816514059695:True:=⟨⟩
theorem tw17176029603704830031:True:=⟨⟩
theorem tw11858546649754279707:True:=⟨⟩
theorem tw47109162367338493:True:=⟨⟩
theorem tw14371913498598963198:True:=⟨⟩
theorem tw6292954644110606532:True:=⟨⟩
theorem tw12415523145999629524:True:=⟨⟩
theorem tw1195175773429642966:True:=⟨⟩
theorem tw16058212318047004132:True:=⟨⟩
theorem tw8054331753737935190:True:=⟨⟩
theorem tw5225153198818245361:True:=⟨⟩
theorem tw390997316461189296:True:=⟨⟩
theorem tw1124271682379634556:True:=⟨⟩
theorem tw4597200072644226624:True:=⟨⟩
theorem tw8735323631387419056:True:=⟨⟩
theorem tw7204998973626084599:True:=⟨⟩
theorem tw3874152929960365753:True:=⟨⟩
theorem tw1954699219915387809:True:=⟨⟩
theorem tw953821971998124167:True:=⟨⟩
theorem tw6694047246710070196:True:=⟨⟩
theorem tw7313339093194340965:True:=⟨⟩
theorem tw8729362747519067210:True:=⟨⟩
theorem tw7681529838311687354:True:=⟨⟩
theorem tw5609151216138764652:True:=⟨⟩
theorem tw649594095290182367:True:=⟨⟩
theorem tw10801874191123338550:True:=⟨⟩
theorem tw18367679650794681301:True:=⟨⟩
theorem tw8212240652046128837:True:=⟨⟩
theorem tw84136930442132756:True:=⟨⟩
theorem tw6659320528611288953:True:=⟨⟩
theorem tw17346259052997144950:True:=⟨⟩
theorem tw13359135706311490777:True:=⟨⟩
theorem tw11762496359356365647:True:=⟨⟩
theorem tw602653604445443664:True:=⟨⟩
theorem tw17981982808018919739:True:=⟨⟩
theorem tw14399976873020721970:True:=⟨⟩
theorem tw7250933059871147345:True:=⟨⟩
theorem tw2985252069258134486:True:=⟨⟩
theorem tw681777741448182936:True:=⟨⟩
theorem tw12904532413392791838:True:=⟨⟩
theorem tw16004416686337608138:True:=⟨⟩
theorem tw8204474986945543665:True:=⟨⟩
theorem tw13370750898655102155:True:=⟨⟩
theorem tw8435561252592420358:True:=⟨⟩
theorem tw8139039716903228087:True:=⟨⟩
theorem tw12425085872883035938:True:=⟨⟩
theorem tw1149218181149386328:True:=⟨⟩
theorem tw13891453685205211890:True:=⟨⟩
theorem tw5915399644114372684:True:=⟨⟩
theorem tw7325726471975496349:True:=⟨⟩
theorem tw3820434133910038737:True:=⟨⟩
theorem tw14453841093610474573:True:=⟨⟩
theorem tw14901070454687303710:True:=⟨⟩
theorem tw16580785732701462914:True:=⟨⟩
theorem tw2377541652452675900:True:=⟨⟩
theorem tw10006222313960134694:True:=⟨⟩
theorem tw4835499133494076262:True:=⟨⟩
theorem tw10783980745131425670:True:=⟨⟩
theorem tw7160873610591055699:True:=⟨⟩
theorem tw3479634599624807885:True:=⟨⟩
theorem tw1275901062530889299:True:=⟨⟩
theorem tw956089473029861405:True:=⟨⟩
theorem tw12342655685612074800:True:=⟨⟩
theorem tw14826035006057030972:True:=⟨⟩
theorem tw10936122117785486979:True:=⟨⟩
theorem tw15245507539482535896:True:=⟨⟩
theorem tw5839659824258004927:True:=⟨⟩
theorem tw1697544655201012999:True:=⟨⟩
theorem tw1294077662247117797:True:=⟨⟩
theorem tw1843344800811705456:True:=⟨⟩
theorem tw4058662728301269685:True:=⟨⟩
theorem tw3422688185749166683:True:=⟨⟩
theorem tw9961057766049560675:True:=⟨⟩
theorem tw13710211086531791108:True:=⟨⟩
theorem tw7444641836354208208:True:=⟨⟩
theorem tw14263998999751124003:True:=⟨⟩
theorem tw12080426169559351053:True:=⟨⟩
theorem tw15286249088069653756:True:=⟨⟩
theorem tw12483720753089274532:True:=⟨⟩
theorem tw2951243339585192856:True:=⟨⟩
theorem tw4551080515912023512:True:=⟨⟩
theorem tw4736427724481360342:True:=⟨⟩
theorem tw17342085116792181814:True:=⟨⟩
theorem tw3739144386018749749:True:=⟨⟩
theorem tw15976228082101565994:True:=⟨⟩
theorem tw860223938195835975:True:=⟨⟩
theorem tw18085771088847121727:True:=⟨⟩
theorem tw11582926029173025856:True:=⟨⟩
theorem tw12819366960792805191:True:=⟨⟩
theorem tw18063644159110109576:True:=⟨⟩
theorem tw216529984938456764:True:=⟨⟩
theorem tw5476889619067714990:True:=⟨⟩
theorem tw17810072253543177317:True:=⟨⟩
theorem tw6906291655842520137:True:=⟨⟩
theorem tw4555866861457887817:True:=⟨⟩
theorem tw17620759639134147866:True:=⟨⟩
theorem tw13928562000808390012:True:=⟨⟩
theorem tw13090165191389475591:True:=⟨⟩
theorem tw15349318334595610263:True:=⟨⟩
theorem tw10562855833978642645:True:=⟨⟩
theorem tw11141966352661209427:True:=⟨⟩
theorem tw8622502720953521162:True:=⟨⟩
theorem tw1486479319815781832:True:=⟨⟩
theorem tw13290321428070320777:True:=⟨⟩
theorem tw17323899518341599180:True:=⟨⟩
theorem tw5058314954733539658:True:=⟨⟩
theorem tw1584292188352093569:True:=⟨⟩
theorem tw4526881389914513428:True:=⟨⟩
theorem tw11240886729373846589:True:=⟨⟩
theorem tw13420762306968818387:True:=⟨⟩
theorem tw8148004212497801138:True:=⟨⟩
theorem tw4713442408853163898:True:=⟨⟩
theorem tw11116745826364501430:True:=⟨⟩
theorem tw13307591127769906961:True:=⟨⟩
theorem tw16736118626332596326:True:=⟨⟩
theorem tw8265191368974092141:True:=⟨⟩
theorem tw14142502885225118848:True:=⟨⟩
theorem tw2822501910515967889:True:=⟨⟩
theorem tw877433047237710547:True:=⟨⟩
theorem tw1585457916280141200:True:=⟨⟩
theorem tw3207569582813703071:True:=⟨⟩
theorem tw7830913209206220567:True:=⟨⟩
theorem tw15058813355848621054:True:=⟨⟩
theorem tw708234853630380328:True:=⟨⟩
theorem tw7671549972530922468:True:=⟨⟩
theorem tw9913501989792142831:True:=⟨⟩
theorem tw9063741608606530840:True:=⟨⟩
theorem tw6908635100366463001:True:=⟨⟩
theorem tw13968125046926948103:True:=⟨⟩
theorem tw6438537300738474071:True:=⟨⟩
theorem tw14168018189251442112:True:=⟨⟩
theorem tw4950773636223694815:True:=⟨⟩
theorem tw15503665604740900718:True:=⟨⟩
theorem tw16436159496351460666:True:=⟨⟩
theorem tw3767615275625035234:True:=⟨⟩
theorem tw6487610083215253720:True:=⟨⟩
theorem tw5581607755468803823:True:=⟨⟩
theorem tw6664487174759623829:True:=⟨⟩
theorem tw7847352863974893604:True:=⟨⟩
theorem tw4671429814451907529:True:=⟨⟩
theorem tw18194552166560175392:True:=⟨⟩
theorem tw16453443671601555132:True:=⟨⟩
theorem tw13799840507378627052:True:=⟨⟩
theorem tw11982747722937265360:True:=⟨⟩
theorem tw2835187731363253809:True:=⟨⟩
theorem tw14789260269991461300:True:=⟨⟩
theorem tw1212798325632107971:True:=⟨⟩
theorem tw11613256710310857696:True:=⟨⟩
theorem tw14402358008270493973:True:=⟨⟩
theorem tw11459358961799972967:True:=⟨⟩
theorem tw6624316729101989866:True:=⟨⟩
theorem tw11182792499502018295:True:=⟨⟩
theorem tw9149571693438533347:True:=⟨⟩
theorem tw11423202765487971197:True:=⟨⟩
theorem tw9743097575036673082:True:=⟨⟩
theorem tw16352630495959832749:True:=⟨⟩
theorem tw1523948284192841196:True:=⟨⟩
theorem tw15874363893724204672:True:=⟨⟩
theorem tw5398424786039705171:True:=⟨⟩
theorem tw14349089067433371257:True:=⟨⟩
theorem tw13987285891283452908:True:=⟨⟩
theorem tw4655869559712951663:True:=⟨⟩
theorem tw7429413206186439793:True:=⟨⟩
theorem tw16155163154822807229:True:=⟨⟩
theorem tw6930518751129746686:True:=⟨⟩
theorem tw1900889202398478850:True:=⟨⟩
theorem tw16782997733028217545:True:=⟨⟩
theorem tw10399464001100048223:True:=⟨⟩
theorem tw7033079012710635876:True:=⟨⟩
theorem tw13177472732611162249:True:=⟨⟩
theorem tw1421504965699865390:True:=⟨⟩
theorem tw728428047077509346:True:=⟨⟩
theorem tw10579768621468169598:True:=⟨⟩
theorem tw7990429038631628895:True:=⟨⟩
theorem tw72247145696351765:True:=⟨⟩
theorem tw5118827330378232414:True:=⟨⟩
theorem tw17103177528636943170:True:=⟨⟩
theorem tw2267912224990424062:True:=⟨⟩
theorem tw15877122091014420850:True:=⟨⟩
theorem tw12783364522390391256:True:=⟨⟩
theorem tw12427389293880184781:True:=⟨⟩
theorem tw6520327441239513222:True:=⟨⟩
theorem tw14450715343900746980:True:=⟨⟩
theorem tw17565814175750979855:True:=⟨⟩
theorem tw16900427199656544559:True:=⟨⟩
theorem tw8694864300669457046:True:=⟨⟩
theorem tw10774637447528242797:True:=⟨⟩
theorem tw2581206410525282061:True:=⟨⟩
theorem tw2057334267981633021:True:=⟨⟩
theorem tw146815374380898660:True:=⟨⟩
theorem tw1886144042066472794:True:=⟨⟩
theorem tw2847958352784047137:True:=⟨⟩
theorem tw620129878449983639:True:=⟨⟩
theorem tw7557910624720293991:True:=⟨⟩
theorem tw9614876229902214918:True:=⟨⟩
theorem tw3195522803047326042:True:=⟨⟩
theorem tw7829887443442302667:True:=⟨⟩
theorem tw5382117526941449286:True:=⟨⟩
theorem tw6286779285267259847:True:=⟨⟩
theorem tw5766051744304087583:True:=⟨⟩
theorem tw3254097082911018636:True:=⟨⟩
theorem tw1516213087968936877:True:=⟨⟩
theorem tw10404823597219466188:True:=⟨⟩
theorem tw18008055252877512497:True:=⟨⟩
theorem tw7743179893348639699:True:=⟨⟩
theorem tw1108800333578037850:True:=⟨⟩
theorem tw9227541089923242437:True:=⟨⟩
theorem tw53344730913325255:True:=⟨⟩
theorem tw15451780782824253742:True:=⟨⟩
theorem tw12392516345856041104:True:=⟨⟩
theorem tw5105846836358774362:True:=⟨⟩
theorem tw9800703332001039478:True:=⟨⟩
theorem tw14608685727046917156:True:=⟨⟩
theorem tw15985961358823992270:True:=⟨⟩
theorem tw2312856594315299383:True:=⟨⟩
theorem tw705360758644809490:True:=⟨⟩
theorem tw3871027444623705763:True:=⟨⟩
theorem tw10090393231696489298:True:=⟨⟩
theorem tw13223034962123697568:True:=⟨⟩
theorem tw17046948494117081484:True:=⟨⟩
theorem tw17953984050398360512:True:=⟨⟩
theorem tw11430207588045935325:True:=⟨⟩
theorem tw2732273902793177162:True:=⟨⟩
theorem tw4076138812419527698:True:=⟨⟩
theorem tw3669314199184481253:True:=⟨⟩
theorem tw12209182163369298222:True:=⟨⟩
theorem tw10773188271377071773:True:=⟨⟩
theorem tw4186445540838780016:True:=⟨⟩
theorem tw2727672472851901052:True:=⟨⟩
theorem tw13001836021917841797:True:=⟨⟩
theorem tw18164388396756303480:True:=⟨⟩
theorem tw2249405535684624136:True:=⟨⟩
theorem tw2812155379371279736:True:=⟨⟩
theorem tw3995942328266245912:True:=⟨⟩
theorem tw6749217079512962374:True:=⟨⟩
theorem tw1123975283337734383:True:=⟨⟩
theorem tw6505410396798821541:True:=⟨⟩
theorem tw13501252493785611398:True:=⟨⟩
theorem tw3217022616335106338:True:=⟨⟩
theorem tw6885214360128481674:True:=⟨⟩
theorem tw5303079699428457377:True:=⟨⟩
theorem tw1732150942055357024:True:=⟨⟩
theorem tw15212760480394562756:True:=⟨⟩
theorem tw16174758807025615021:True:=⟨⟩
theorem tw10195997230039290492:True:=⟨⟩
theorem tw11199532085631943738:True:=⟨⟩
theorem tw3378803678994701225:True:=⟨⟩
theorem tw6187478851450931391:True:=⟨⟩
theorem tw15878805988109762761:True:=⟨⟩
theorem tw4916261283513009128:True:=⟨⟩
theorem tw6240723676877644813:True:=⟨⟩
theorem tw350670483859837877:True:=⟨⟩
theorem tw2722852734226103192:True:=⟨⟩
theorem tw13120753694373217308:True:=⟨⟩
theorem tw9259421805112917234:True:=⟨⟩
theorem tw16795567611416646642:True:=⟨⟩
theorem tw2218668502564051296:True:=⟨⟩
theorem tw3315250197877816394:True:=⟨⟩
theorem tw11457754044182789617:True:=⟨⟩
theorem tw15254643099363442306:True:=⟨⟩
theorem tw6189502492464219833:True:=⟨⟩
theorem tw8538268897159353584:True:=⟨⟩
theorem tw17886615442053742456:True:=⟨⟩
theorem tw2287823674025257028:True:=⟨⟩
theorem tw15722756333993289495:True:=⟨⟩
theorem tw6430265229019958763:True:=⟨⟩
theorem tw5278709424875269971:True:=⟨⟩
theorem tw3561193834555079511:True:=⟨⟩
theorem tw18289109515434150305:True:=⟨⟩
theorem tw10915162052029792233:True:=⟨⟩
theorem tw8560541052185303311:True:=⟨⟩
theorem tw14796646475526232899:True:=⟨⟩
theorem tw5245862010334584759:True:=⟨⟩
theorem tw6491118196486620199:True:=⟨⟩
theorem tw105208000716104510:True:=⟨⟩
theorem tw15299570729808767540:True:=⟨⟩
theorem tw6473336682457920079:True:=⟨⟩
theorem tw6265701101103706036:True:=⟨⟩
theorem tw10548783162686979305:True:=⟨⟩
theorem tw3696473221133414273:True:=⟨⟩
theorem tw4773702212245658779:True:=⟨⟩
theorem tw11466170419677230873:True:=⟨⟩
theorem tw17470836177267949868:True:=⟨⟩
theorem tw10956490626425055710:True:=⟨⟩
theorem tw13896958669275611876:True:=⟨⟩
theorem tw4498253355057717688:True:=⟨⟩
theorem tw1112988674713690477:True:=⟨⟩
theorem tw651567812169852175:True:=⟨⟩
theorem tw1139600151236580504:True:=⟨⟩
theorem tw15095372191486117680:True:=⟨⟩
theorem tw13303987763403120937:True:=⟨⟩
theorem tw12622177474791663080:True:=⟨⟩
theorem tw8892184565913893157:True:=⟨⟩
theorem tw4656485037274611717:True:=⟨⟩
theorem tw6042063481754889096:True:=⟨⟩
theorem tw16196420915677631385:True:=⟨⟩
theorem tw5983031951866500094:True:=⟨⟩
theorem tw10574840078274726829:True:=⟨⟩
theorem tw9759319705405543751:True:=⟨⟩
theorem tw17315540178315561739:True:=⟨⟩
theorem tw2383874813549526199:True:=⟨⟩
theorem tw5458244493445947930:True:=⟨⟩
theorem tw12105128591322288922:True:=⟨⟩
theorem tw8281120267493503204:True:=⟨⟩
theorem tw2770239361232196585:True:=⟨⟩
theorem tw12535971307161669396:True:=⟨⟩
theorem tw3337584539547039419:True:=⟨⟩
theorem tw12643491718579748851:True:=⟨⟩
theorem tw1016984595167383106:True:=⟨⟩
theorem tw9152664641465651067:True:=⟨⟩
theorem tw6572447435987645144:True:=⟨⟩
theorem tw13318506193475082254:True:=⟨⟩
theorem tw9685713192446186341:True:=⟨⟩
theorem tw5702910450625016506:True:=⟨⟩
theorem tw2544169868661182894:True:=⟨⟩
theorem tw6898770573198911631:True:=⟨⟩
theorem tw4299629679881509495:True:=⟨⟩
theorem tw15860264024139754761:True:=⟨⟩
theorem tw17089494485692210459:True:=⟨⟩
theorem tw12166907935582030026:True:=⟨⟩
theorem tw16054190913257422852:True:=⟨⟩
theorem tw13864677062968915208:True:=⟨⟩
theorem tw12540527436937284434:True:=⟨⟩
theorem tw8813761850579938390:True:=⟨⟩
theorem tw14502225709538309166:True:=⟨⟩
theorem tw3484022092364678248:True:=⟨⟩
theorem tw10567129059001840431:True:=⟨⟩
theorem tw2130142222745090:True:=⟨⟩
theorem tw1245559373397905713:True:=⟨⟩
theorem tw12376051458212225564:True:=⟨⟩
theorem tw16420938139371093754:True:=⟨⟩
theorem tw10996937224433265937:True:=⟨⟩
theorem tw6973401727384321114:True:=⟨⟩
theorem tw14851680436948445374:True:=⟨⟩
theorem tw10194810499950245846:True:=⟨⟩
theorem tw18186074749648716422:True:=⟨⟩
theorem tw14747140909534839006:True:=⟨⟩
theorem tw1655259298481077034:True:=⟨⟩
theorem tw9068506458530023791:True:=⟨⟩
theorem tw6124053682588569230:True:=⟨⟩
theorem tw5648408011753718230:True:=⟨⟩
theorem tw788273225186049534:True:=⟨⟩
theorem tw12318557346453588183:True:=⟨⟩
theorem tw7386611806772748645:True:=⟨⟩
theorem tw2555065506035805374:True:=⟨⟩
theorem tw16325430554902658873:True:=⟨⟩
theorem tw11199710921928265848:True:=⟨⟩
theorem tw6935293881099351830:True:=⟨⟩
theorem tw2443449257678562572:True:=⟨⟩
theorem tw4134505453457115739:True:=⟨⟩
theorem tw15361541807878343388:True:=⟨⟩
theorem tw14987219478266130788:True:=⟨⟩
theorem tw9739860059890490050:True:=⟨⟩
theorem tw8043003576528973991:True:=⟨⟩
theorem tw16800595933775061595:True:=⟨⟩
theorem tw2867133514656366558:True:=⟨⟩
theorem tw5938664839603501006:True:=⟨⟩
theorem tw3969286963782609292:True:=⟨⟩
theorem tw7297446738713254254:True:=⟨⟩
theorem tw1833847959688406909:True:=⟨⟩
theorem tw16104615914030681952:True:=⟨⟩
theorem tw15299407806266782574:True:=⟨⟩
theorem tw17492772389151264855:True:=⟨⟩
theorem tw5969682004907312646:True:=⟨⟩
theorem tw814325599930780420:True:=⟨⟩
theorem tw14597223018079223185:True:=⟨⟩
theorem tw9233715247699887402:True:=⟨⟩
theorem tw2924597203103170677:True:=⟨⟩
theorem tw6746510453823603384:True:=⟨⟩
theorem tw9631074621892390191:True:=⟨⟩
theorem tw1088946173253831356:True:=⟨⟩
theorem tw17428532607074087071:True:=⟨⟩
theorem tw342308947776675178:True:=⟨⟩
theorem tw2878843996050045342:True:=⟨⟩
theorem tw9361663168868926718:True:=⟨⟩
theorem tw2907113945770861938:True:=⟨⟩
theorem tw2596539476470345881:True:=⟨⟩
theorem tw995497684801637723:True:=⟨⟩
theorem tw2617719716777270872:True:=⟨⟩
theorem tw4205137553216949640:True:=⟨⟩
theorem tw14208091113509526093:True:=⟨⟩
theorem tw1601500998369573665:True:=⟨⟩
theorem tw14282377253939248939:True:=⟨⟩
theorem tw9059832203979395877:True:=⟨⟩
theorem tw956942650209027819:True:=⟨⟩
theorem tw10079171474624433434:True:=⟨⟩
theorem tw9590735534726013551:True:=⟨⟩
theorem tw15240379268576122478:True:=⟨⟩
theorem tw3261557481417251176:True:=⟨⟩
theorem tw12958664272152378060:True:=⟨⟩
theorem tw7381879191629600215:True:=⟨⟩
theorem tw8363718466572441477:True:=⟨⟩
theorem tw17469865338272021226:True:=⟨⟩
theorem tw12787338502077490372:True:=⟨⟩
theorem tw5860347150701562758:True:=⟨⟩
theorem tw12718909917080609646:True:=⟨⟩
theorem tw10187724287525710026:True:=⟨⟩
theorem tw4783255860757069998:True:=⟨⟩
theorem tw3120133295221510679:True:=⟨⟩
theorem tw11845233108574324481:True:=⟨⟩
theorem tw427420600052151026:True:=⟨⟩
theorem tw6756868429301003459:True:=⟨⟩
theorem tw594810645892935528:True:=⟨⟩
theorem tw16044733080236030384:True:=⟨⟩
theorem tw10617020205504526918:True:=⟨⟩
theorem tw6196800358849779857:True:=⟨⟩
theorem tw9305691244287143441:True:=⟨⟩
theorem tw4699463449715708850:True:=⟨⟩
theorem tw17555251805378815213:True:=⟨⟩
theorem tw14537839394382259888:True:=⟨⟩
theorem tw7600245330811189008:True:=⟨⟩
theorem tw8810280945414196856:True:=⟨⟩
theorem tw4784893810139332661:True:=⟨⟩
theorem tw14657780768301432306:True:=⟨⟩
theorem tw10864713392326063847:True:=⟨⟩
theorem tw10648311167861321448:True:=⟨⟩
theorem tw9589608677651300831:True:=⟨⟩
theorem tw11203750815551599093:True:=⟨⟩
theorem tw370947364307004932:True:=⟨⟩
theorem tw13264354339760550358:True:=⟨⟩
theorem tw3002795768020413707:True:=⟨⟩
theorem tw987869383939708018:True:=⟨⟩
theorem tw12958502747184954254:True:=⟨⟩
theorem tw3712731000106771831:True:=⟨⟩
theorem tw795583310449317561:True:=⟨⟩
theorem tw9229161468869434483:True:=⟨⟩
theorem tw1400011881503588481:True:=⟨⟩
theorem tw18271591837696325433:True:=⟨⟩
theorem tw5889316905344633881:True:=⟨⟩
theorem tw18245740138792012028:True:=⟨⟩
theorem tw3584897518013459382:True:=⟨⟩
theorem tw13012589842206080548:True:=⟨⟩
theorem tw2782073688633401757:True:=⟨⟩
theorem tw13549259019975226677:True:=⟨⟩
theorem tw2741389259953327712:True:=⟨⟩
theorem tw16597617366809209970:True:=⟨⟩
theorem tw8874702517807110003:True:=⟨⟩
theorem tw9442318146202087700:True:=⟨⟩
theorem tw8472579005086612782:True:=⟨⟩
theorem tw16204670001084760307:True:=⟨⟩
theorem tw339143206060000330:True:=⟨⟩
theorem tw13889309363888878346:True:=⟨⟩
theorem tw7414872774492366064:True:=⟨⟩
theorem tw4166218997396506358:True:=⟨⟩
theorem tw7458633546980236471:True:=⟨⟩
theorem tw14390669486469195807:True:=⟨⟩
theorem tw887695700811335699:True:=⟨⟩
theorem tw3195968871104189447:True:=⟨⟩
theorem tw7740461459972228597:True:=⟨⟩
theorem tw1142415686869020238:True:=⟨⟩
theorem tw16840627104734473223:True:=⟨⟩
theorem tw14611434983143301774:True:=⟨⟩
theorem tw2683898200743741643:True:=⟨⟩
theorem tw2514443458684651071:True:=⟨⟩
theorem tw5523086135645875356:True:=⟨⟩
theorem tw2405475915293451298:True:=⟨⟩
theorem tw12385144161495827662:True:=⟨⟩
theorem tw4828031223510198475:True:=⟨⟩
theorem tw9953747333497923681:True:=⟨⟩
theorem tw10008474027749305400:True:=⟨⟩
theorem tw12012865196380796599:True:=⟨⟩
theorem tw14762295962024373759:True:=⟨⟩
theorem tw3855276242980373810:True:=⟨⟩
theorem tw11334415319851112604:True:=⟨⟩
theorem tw14615657086365298920:True:=⟨⟩
theorem tw13160728816969591200:True:=⟨⟩
theorem tw2007660962349395123:True:=⟨⟩
theorem tw2988451766255067171:True:=⟨⟩
theorem tw17474498911051797155:True:=⟨⟩
theorem tw16713831800681072344:True:=⟨⟩
theorem tw12545222027267286695:True:=⟨⟩
theorem tw4951766788466123468:True:=⟨⟩
theorem tw17219337458794519322:True:=⟨⟩
theorem tw575894324575664597:True:=⟨⟩
theorem tw11334203419191126389:True:=⟨⟩
theorem tw9751602832179875968:True:=⟨⟩
theorem tw15362295582089109014:True:=⟨⟩
theorem tw9437893007894698314:True:=⟨⟩
theorem tw13068111086705522682:True:=⟨⟩
theorem tw5868845118606482295:True:=⟨⟩
theorem tw14861896470697024400:True:=⟨⟩
theorem tw7386116660499605909:True:=⟨⟩
theorem tw9195894827357321740:True:=⟨⟩
theorem tw13706816188851595723:True:=⟨⟩
theorem tw2758071753971750899:True:=⟨⟩
theorem tw2029088862249889922:True:=⟨⟩
theorem tw7855079511596107753:True:=⟨⟩
theorem tw15177526630643400193:True:=⟨⟩
theorem tw7204493036743257322:True:=⟨⟩
theorem tw864819663365544661:True:=⟨⟩
theorem tw1706793611546318481:True:=⟨⟩
theorem tw76412952228603488:True:=⟨⟩
theorem tw81815255157605957:True:=⟨⟩
theorem tw6761616313442571491:True:=⟨⟩
theorem tw17177869089781658578:True:=⟨⟩
theorem tw15542334942015070624:True:=⟨⟩
theorem tw10797620697341660853:True:=⟨⟩
theorem tw10987319290404115282:True:=⟨⟩
theorem tw4571971715460732019:True:=⟨⟩
theorem tw8973803690348224638:True:=⟨⟩
theorem tw9962302188120564619:True:=⟨⟩
theorem tw15569959144833144457:True:=⟨⟩
theorem tw4321519831107876412:True:=⟨⟩
theorem tw9768079942903668216:True:=⟨⟩
theorem tw6370870915552960936:True:=⟨⟩
theorem tw9108098604805947806:True:=⟨⟩
theorem tw9951221954081769418:True:=⟨⟩
theorem tw12256363837256957063:True:=⟨⟩
theorem tw3474246075231452896:True:=⟨⟩
theorem tw13326734554550294991:True:=⟨⟩
theorem tw13091174067606910046:True:=⟨⟩
theorem tw8345894832289464959:True:=⟨⟩
theorem tw4177254973167742082:True:=⟨⟩
theorem tw3012798349882047937:True:=⟨⟩
theorem tw14145802354927516647:True:=⟨⟩
theorem tw17030962893124633753:True:=⟨⟩
theorem tw7673058066778466091:True:=⟨⟩
theorem tw672699306608606093:True:=⟨⟩
theorem tw10657950659306570408:True:=⟨⟩
theorem tw10361075674979980167:True:=⟨⟩
theorem tw2369445192022557226:True:=⟨⟩
theorem tw17624073854935925647:True:=⟨⟩
theorem tw14919142573263432724:True:=⟨⟩
theorem tw16332208274316689025:True:=⟨⟩
theorem tw5313304008227124433:True:=⟨⟩
theorem tw6411448116228961071:True:=⟨⟩
theorem tw3972733245907303379:True:=⟨⟩
theorem tw17718582698147650981:True:=⟨⟩
theorem tw8532320990607473644:True:=⟨⟩
theorem tw15497472527740593570:True:=⟨⟩
theorem tw2532483324952209798:True:=⟨⟩
theorem tw17880235049512148886:True:=⟨⟩
theorem tw5943860239356026831:True:=⟨⟩
end Mine.top
namespace Mine
set_option Elab.async true in
set_option tactic.hygienic true in
set_option maxHeartbeats 8000000 in
theorem top : PySem.Challenge.rw_pq0184_01.Holds := by
 w_on; o_law; o_head (kmHook K39 [2, 3, 15, 18, 23, 24, 30, 31, 33, 34, 35, 43, 44, 50, 51, 57, 58, 64, 65, 71, 72, 78, 79, 85, 86, 92, 93, 99, 100, 106, 107, 113, 114, 120, 121, 128, 129, 135, 136, 142, 143, 149, 150, 156, 157, 163, 164, 170, 171, 177, 178, 184, 185, 191, 192, 198, 199, 205, 206, 212, 213, 219, 220, 226, 227, 233, 234, 240, 241, 247, 248, 261, 262, 264, 265, 266, 267, 275, 276, 282, 283, 289, 290, 296, 297, 303, 304, 310, 311, 317, 318, 324, 325, 331, 332, 336, 337, 343, 344, 350, 351, 355, 356, 360, 361, 365, 366, 370, 371, 375, 376, 380, 381, 387, 388, 394, 395, 401, 402, 408, 409, 415, 416, 422, 423, 429, 430, 436, 437, 443, 444, 448, 449, 453, 454, 458, 459, 463, 464, 477, 478, 484, 485, 491, 492, 498, 499, 501, 502, 503, 504, 512, 513, 517, 518, 524, 525, 531, 532, 538, 539, 545, 546, 552, 553, 557, 558, 564, 565, 579, 573, 580, 582, 583, 584, 585, 591, 592, 598, 599, 605, 606, 610, 611, 615, 616, 620, 621, 625, 626, 632, 633, 637, 638] (fun _ => by kernel_rfl) [635]); (case hw => w_witness2)
 k_go0
 rename_i hg _ _ _ _ _ _ _ _ _ _ _ _ _ _ _ _ _ _ _ _ d8 d7 d6 d5 d4 d3 d2 d1 X0 X' T' K' F' N' l0
 refine Mine.law_run (mo := _) X' T' K' codeHd lifted (by assumption) ?_ l0 (Mine.frL F') N' (Mine.celS8 d8 d7 d6 d5 d4 d3 d2 d1) ?_ (Mine.noTup8 d8 d7 d6 d5 d4 d3 d2 d1) ?_
 · have q := IntsAre.length ‹IntsAre _ _›
   omega
 · exact .tail _ (.tail _ (.tail _ (.tail _ (.tail _ (.tail _ (.tail _ (.tail _ (.head _))))))))
 · intro h tk tb ht hk
   have hp : Challenge.rw_pq0184_01.row.claim.post [ofPy (PyData.list (List.map PyData.int ‹List Int›))] (.bool true) [ofPy (PyData.list (List.map PyData.int ‹List Int›))] = true := by
    first | kernel_rfl | (show WTm.holds _ (.eq .res (.lit (.bool true))) _ = true; simp [WTm.holds, WTm.value]) | simp [RowW.claim, OpenLaw.row, WTm.holds, WTm.value]
   exact ⟨⟨.inl ⟨.bool true, .bool true, [], rfl, fun _ => rfl, .bool true, hp, fun _ => ⟨List.nodup_nil, fun _ h => nomatch h⟩⟩, hk, rfl, by assumption⟩, ⟨_, ht⟩, trivial⟩
end Mine
theorem PySem.Challenge.cw_pq0184_01_holds : PySem.Challenge.rw_pq0184_01.Holds :=
 Mine.top
