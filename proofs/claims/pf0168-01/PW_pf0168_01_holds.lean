import PyProof.Rows.All
import Wide.All
import OpenK.AllK
import Wide.FinOn
import Lean
import PySem.Challenge.RW_pf0168_01
open PySem PySem.W PySem.Spec PySem.Calls PyProof.Rows
set_option Elab.async false
set_option maxRecDepth 100000
set_option maxHeartbeats 8000000
set_option linter.all false
set_option genSizeOf false
set_option genSizeOfSpec false
set_option genInjectivity false
namespace Mine
section
abbrev S (x : String) : Str := Str.ofString x
abbrev prg : Program := PySem.Challenge.rw_pf0168_01.prog
/-- the places of the text's statements -/
noncomputable def s9 (i : Nat) : Stmt := (prg.main.body[i]?).getD (.Pass default)
noncomputable def c9 (i j : Nat) : Stmt := match s9 i with
  | .ClassDef _ _ _ b _ _ _ _ _ _ _ => (b[j]?).getD (.Pass default)
  | x => x
noncomputable def f9 (st : Stmt) (q : String) (cl : List (Str × Addr)) (d m c : Value) : Obj := match st with
  | .FunctionDef x a b _ _ _ sc _ _ _ => { cls := .type "function", data := .func { name := x, qualname := S q, params := a, body := .stmts b, scope := sc, globals := 3, closure := cl, defaults := d, kwdefaults := .none, pyModule := m, code := c } }
  | _ => { cls := .none, data := .seq #[] }
noncomputable abbrev k9 (P : Params) (x : String) (t : Tok) : DictEntry := { hash := PyData.keyHash P (S x), key := .str (S x) t, val := .none }
noncomputable def o9 (x : String) (t : Tok) (q : String) (t1 t2 : Tok) (ln ac fl : Int) (r0 r1 r2 r3 r4 : Addr) (i : Int) (t3 : Tok) : Obj := { cls := .type "code", data := .fields #[.str (S x) t, .str (S q) t1, .str (S "/claim/cut.py") t2, .int ln 0, .int ac 0, .int 0 0, .int 0 0, .int fl 0, .ref r0, .bool true, .int 181 0, .ref r1, .none, .ref r2, .ref r3, .ref r4, .int i 0, .int ln 0, .str (S "/claim/cut.py") t3] }
abbrev e9 : Obj := { cls := .type "tuple", data := .seq #[] }
/-- the objects of the text's top -/
noncomputable def top9 (P : Params) : Frag :=
  (nat_lit 2, { cls := .none, data := .dict #[{ k9 P "type.__subclasses__.Exception.0" 224 with val := .int 39 0 }, { k9 P "type.__subclasses__.Exception.n" 225 with val := .int 1 0 }] 2 }) ::
  (nat_lit 3, { cls := .type "dict", data := .dict #[{ k9 P "__name__" 165 with val := .str (S "law_pf0168_01") 776 }, { k9 P "__doc__" 166 with val := .none }, { k9 P "__package__" 167 with val := .none }, { k9 P "__loader__" 168 with val := .builtin "__main__.__loader__#opaque" }, { k9 P "__spec__" 169 with val := .none }, { k9 P "__annotations__" 170 with val := .ref 6 }, { k9 P "__builtins__" 171 with val := .ref 4 }, { k9 P "__file__" 173 with val := .str (S "/claim/cut.py") 172 }, { k9 P "__cached__" 174 with val := .none }, { k9 P "_wall" 193 with val := .ref 21 }, { k9 P "LendError" 227 with val := .ref 39 }, { k9 P "TypeFault" 243 with val := .ref 52 }, { k9 P "BITS" 273 with val := .ref 55 }, { k9 P "is_signed" 280 with val := .ref 62 }, { k9 P "least" 287 with val := .ref 69 }, { k9 P "greatest" 294 with val := .ref 76 }, { k9 P "fits" 302 with val := .ref 83 }, { k9 P "wrapped" 311 with val := .ref 90 }, { k9 P "cast_int" 319 with val := .ref 97 }, { k9 P "cut_quotient" 328 with val := .ref 104 }, { k9 P "exact" 337 with val := .ref 111 }, { k9 P "checked" 348 with val := .ref 118 }, { k9 P "shifted" 360 with val := .ref 125 }, { k9 P "compared" 369 with val := .ref 132 }, { k9 P "Body" 457 with val := .ref 193 }, { k9 P "successors" 463 with val := .ref 202 }, { k9 P "copied" 469 with val := .ref 207 }, { k9 P "operands_of" 477 with val := .ref 214 }, { k9 P "with_operands" 486 with val := .ref 221 }, { k9 P "COMPARED" 495 with val := .ref 222 }, { k9 P "PLAIN" 498 with val := .ref 223 }, { k9 P "is_followed" 504 with val := .ref 228 }, { k9 P "lent_locals" 515 with val := .ref 235 }, { k9 P "Facts" 570 with val := .ref 273 }, { k9 P "reckoned_binary" 580 with val := .ref 284 }, { k9 P "Constants" 760 with val := .ref 396 }, { k9 P "with_constants" 775 with val := .ref 407 }, { k9 P "_law_bit" 779 with val := .ref 408 }, { k9 P "_law_long" 782 with val := .ref 409 }, { k9 P "_law_pool" 793 with val := .ref 416 }, { k9 P "_law_take" 802 with val := .ref 423 }, { k9 P "_law_one" 810 with val := .ref 430 }, { k9 P "_law_rims" 817 with val := .ref 437 }, { k9 P "_law_wrapped" 827 with val := .ref 444 }, { k9 P "_law_worked" 839 with val := .ref 451 }, { k9 P "_law_asked" 848 with val := .ref 458 }, { k9 P "_law_both" 857 with val := .ref 465 }, { k9 P "_law_truth" 864 with val := .ref 472 }, { k9 P "_law_put" 875 with val := .ref 479 }, { k9 P "_law_step" 881 with val := .ref 484 }, { k9 P "_law_end" 896 with val := .ref 491 }, { k9 P "_law_row_right" 902 with val := .ref 496 }, { k9 P "_law_ways_right" 915 with val := .ref 503 }, { k9 P "_law_signs_right" 924 with val := .ref 510 }, { k9 P "law" 932 with val := .ref 517 }] 55 }) ::
  (nat_lit 15, e9) ::
  (nat_lit 17, { cls := .type "tuple", data := .seq #[.str (S "k") 190] }) ::
  (nat_lit 18, e9) ::
  (nat_lit 20, o9 "_wall" 187 "_wall" 188 189 1 1 3 15 16 17 18 19 191 192) ::
  (nat_lit 21, f9 (s9 0) "_wall" [] (.none) (.str (S "__main__") 164) (.ref 20)) ::
  (nat_lit 22, { cls := .type "tuple", data := .seq #[.type "Exception"] }) ::
  (nat_lit 29, { cls := .type "tuple", data := .seq #[.int 0 208] }) ::
  (nat_lit 30, e9) ::
  (nat_lit 32, { cls := .type "tuple", data := .seq #[.str (S "self") 212, .str (S "message") 213, .str (S "spot") 214] }) ::
  (nat_lit 33, e9) ::
  (nat_lit 35, o9 "__init__" 209 "LendError.__init__" 210 211 7 3 3 30 31 32 33 34 215 216) ::
  (nat_lit 36, f9 (c9 2 0) "LendError.__init__" [] (.ref 29) (.str (S "lendcore.errors") 194) (.ref 35)) ::
  (nat_lit 37, { cls := .type "tuple", data := .seq #[.str (S "message") 218, .str (S "spot") 219] }) ::
  (nat_lit 38, { cls := .type "dict", data := .dict #[{ k9 P "__module__" 203 with val := .str (S "lendcore.errors") 194 }, { k9 P "__firstlineno__" 207 with val := .int 5 206 }, { k9 P "__init__" 217 with val := .ref 36 }, { k9 P "__static_attributes__" 220 with val := .ref 37 }, { k9 P "__weakref__" 222 with val := .ref 40 }, { k9 P "__doc__" 223 with val := .none }] 3 }) ::
  (nat_lit 39, { cls := .type "type", data := .cls { name := S "LendError", bases := [.type "Exception"], mro := [.ref 39, .type "Exception", .type "BaseException", .type "object"], ns := 38, qualname := S "LendError", subclasses := [.ref 52] }, slots := #[some (.ref 22), none, some (.str (S "LendError") 196), some (.str (S "LendError") 204), some (.builtin "Exception.__new__"), some (.bool true)] }) ::
  (nat_lit 40, { cls := .type "getset_descriptor", data := .fields #[.str (S "__weakref__") 221, .ref 39, .builtin "ExceptionGroup.__weakref__", .none] }) ::
  (nat_lit 43, { cls := .type "tuple", data := .seq #[.ref 39] }) ::
  (nat_lit 50, e9) ::
  (nat_lit 51, { cls := .type "dict", data := .dict #[{ k9 P "__module__" 235 with val := .str (S "lendcore.errors") 194 }, { k9 P "__firstlineno__" 239 with val := .int 11 238 }, { k9 P "__static_attributes__" 240 with val := .ref 50 }, { k9 P "__doc__" 241 with val := .none }] 2 }) ::
  (nat_lit 52, { cls := .type "type", data := .cls { name := S "TypeFault", bases := [.ref 39], mro := [.ref 52, .ref 39, .type "Exception", .type "BaseException", .type "object"], ns := 51, qualname := S "TypeFault" }, slots := #[some (.ref 43), none, some (.str (S "TypeFault") 228), some (.str (S "TypeFault") 236), some (.builtin "Exception.__new__"), some (.bool true)] }) ::
  (nat_lit 55, { cls := .type "dict", data := .dict #[{ k9 P "i8" 246 with val := .int 8 247 }, { k9 P "i16" 248 with val := .int 16 249 }, { k9 P "i32" 250 with val := .int 32 251 }, { k9 P "i64" 252 with val := .int 64 253 }, { k9 P "u8" 254 with val := .int 8 255 }, { k9 P "u16" 256 with val := .int 16 257 }, { k9 P "u32" 258 with val := .int 32 259 }, { k9 P "u64" 260 with val := .int 64 261 }, { k9 P "usize" 262 with val := .int 64 263 }] 9 }) ::
  (nat_lit 56, e9) ::
  (nat_lit 58, { cls := .type "tuple", data := .seq #[.str (S "kind") 277] }) ::
  (nat_lit 59, e9) ::
  (nat_lit 61, o9 "is_signed" 274 "is_signed" 275 276 15 1 3 56 57 58 59 60 278 279) ::
  (nat_lit 62, f9 (s9 6) "is_signed" [] (.none) (.str (S "lendcore.integers") 244) (.ref 61)) ::
  (nat_lit 63, e9) ::
  (nat_lit 65, { cls := .type "tuple", data := .seq #[.str (S "kind") 284] }) ::
  (nat_lit 66, e9) ::
  (nat_lit 68, o9 "least" 281 "least" 282 283 17 1 3 63 64 65 66 67 285 286) ::
  (nat_lit 69, f9 (s9 7) "least" [] (.none) (.str (S "lendcore.integers") 244) (.ref 68)) ::
  (nat_lit 70, e9) ::
  (nat_lit 72, { cls := .type "tuple", data := .seq #[.str (S "kind") 291] }) ::
  (nat_lit 73, e9) ::
  (nat_lit 75, o9 "greatest" 288 "greatest" 289 290 19 1 3 70 71 72 73 74 292 293) ::
  (nat_lit 76, f9 (s9 8) "greatest" [] (.none) (.str (S "lendcore.integers") 244) (.ref 75)) ::
  (nat_lit 77, e9) ::
  (nat_lit 79, { cls := .type "tuple", data := .seq #[.str (S "kind") 298, .str (S "number") 299] }) ::
  (nat_lit 80, e9) ::
  (nat_lit 82, o9 "fits" 295 "fits" 296 297 21 2 3 77 78 79 80 81 300 301) ::
  (nat_lit 83, f9 (s9 9) "fits" [] (.none) (.str (S "lendcore.integers") 244) (.ref 82)) ::
  (nat_lit 84, e9) ::
  (nat_lit 86, { cls := .type "tuple", data := .seq #[.str (S "kind") 306, .str (S "number") 307, .str (S "low") 308] }) ::
  (nat_lit 87, e9) ::
  (nat_lit 89, o9 "wrapped" 303 "wrapped" 304 305 23 2 3 84 85 86 87 88 309 310) ::
  (nat_lit 90, f9 (s9 10) "wrapped" [] (.none) (.str (S "lendcore.integers") 244) (.ref 89)) ::
  (nat_lit 91, e9) ::
  (nat_lit 93, { cls := .type "tuple", data := .seq #[.str (S "kind") 315, .str (S "number") 316] }) ::
  (nat_lit 94, e9) ::
  (nat_lit 96, o9 "cast_int" 312 "cast_int" 313 314 26 2 3 91 92 93 94 95 317 318) ::
  (nat_lit 97, f9 (s9 11) "cast_int" [] (.none) (.str (S "lendcore.integers") 244) (.ref 96)) ::
  (nat_lit 98, e9) ::
  (nat_lit 100, { cls := .type "tuple", data := .seq #[.str (S "a") 323, .str (S "b") 324, .str (S "found") 325] }) ::
  (nat_lit 101, e9) ::
  (nat_lit 103, o9 "cut_quotient" 320 "cut_quotient" 321 322 28 2 3 98 99 100 101 102 326 327) ::
  (nat_lit 104, f9 (s9 12) "cut_quotient" [] (.none) (.str (S "lendcore.integers") 244) (.ref 103)) ::
  (nat_lit 105, e9) ::
  (nat_lit 107, { cls := .type "tuple", data := .seq #[.str (S "op") 332, .str (S "a") 333, .str (S "b") 334] }) ::
  (nat_lit 108, e9) ::
  (nat_lit 110, o9 "exact" 329 "exact" 330 331 31 3 3 105 106 107 108 109 335 336) ::
  (nat_lit 111, f9 (s9 13) "exact" [] (.none) (.str (S "lendcore.integers") 244) (.ref 110)) ::
  (nat_lit 112, e9) ::
  (nat_lit 114, { cls := .type "tuple", data := .seq #[.str (S "kind") 341, .str (S "op") 342, .str (S "a") 343, .str (S "b") 344, .str (S "found") 345] }) ::
  (nat_lit 115, e9) ::
  (nat_lit 117, o9 "checked" 338 "checked" 339 340 49 4 3 112 113 114 115 116 346 347) ::
  (nat_lit 118, f9 (s9 14) "checked" [] (.none) (.str (S "lendcore.integers") 244) (.ref 117)) ::
  (nat_lit 119, e9) ::
  (nat_lit 121, { cls := .type "tuple", data := .seq #[.str (S "kind") 352, .str (S "op") 353, .str (S "a") 354, .str (S "many") 355, .str (S "places") 356, .str (S "found") 357] }) ::
  (nat_lit 122, e9) ::
  (nat_lit 124, o9 "shifted" 349 "shifted" 350 351 58 4 3 119 120 121 122 123 358 359) ::
  (nat_lit 125, f9 (s9 15) "shifted" [] (.none) (.str (S "lendcore.integers") 244) (.ref 124)) ::
  (nat_lit 126, e9) ::
  (nat_lit 128, { cls := .type "tuple", data := .seq #[.str (S "op") 364, .str (S "a") 365, .str (S "b") 366] }) ::
  (nat_lit 129, e9) ::
  (nat_lit 131, o9 "compared" 361 "compared" 362 363 62 3 3 126 127 128 129 130 367 368) ::
  (nat_lit 132, f9 (s9 16) "compared" [] (.none) (.str (S "lendcore.integers") 244) (.ref 131)) ::
  (nat_lit 140, { cls := .type "tuple", data := .seq #[.none, .none] }) ::
  (nat_lit 141, e9) ::
  (nat_lit 143, { cls := .type "tuple", data := .seq #[.str (S "self") 387, .str (S "name") 388, .str (S "arg_count") 389, .str (S "locals_told") 390, .str (S "blocks") 391, .str (S "spots") 392] }) ::
  (nat_lit 144, e9) ::
  (nat_lit 146, o9 "__init__" 384 "Body.__init__" 385 386 79 6 3 141 142 143 144 145 393 394) ::
  (nat_lit 147, f9 (c9 18 0) "Body.__init__" [] (.ref 140) (.str (S "lendcore.mir") 370) (.ref 146)) ::
  (nat_lit 148, e9) ::
  (nat_lit 150, { cls := .type "tuple", data := .seq #[.str (S "self") 399, .str (S "local") 400] }) ::
  (nat_lit 151, e9) ::
  (nat_lit 153, o9 "type_of" 396 "Body.type_of" 397 398 86 2 3 148 149 150 151 152 401 402) ::
  (nat_lit 154, f9 (c9 18 1) "Body.type_of" [] (.none) (.str (S "lendcore.mir") 370) (.ref 153)) ::
  (nat_lit 155, e9) ::
  (nat_lit 157, { cls := .type "tuple", data := .seq #[.str (S "self") 407] }) ::
  (nat_lit 158, e9) ::
  (nat_lit 160, o9 "args" 404 "Body.args" 405 406 89 1 3 155 156 157 158 159 408 409) ::
  (nat_lit 161, f9 (c9 18 2) "Body.args" [] (.none) (.str (S "lendcore.mir") 370) (.ref 160)) ::
  (nat_lit 162, e9) ::
  (nat_lit 164, { cls := .type "tuple", data := .seq #[.str (S "self") 414, .str (S "block") 415] }) ::
  (nat_lit 165, e9) ::
  (nat_lit 167, o9 "statements" 411 "Body.statements" 412 413 92 2 3 162 163 164 165 166 416 417) ::
  (nat_lit 168, f9 (c9 18 3) "Body.statements" [] (.none) (.str (S "lendcore.mir") 370) (.ref 167)) ::
  (nat_lit 169, e9) ::
  (nat_lit 171, { cls := .type "tuple", data := .seq #[.str (S "self") 422, .str (S "block") 423] }) ::
  (nat_lit 172, e9) ::
  (nat_lit 174, o9 "terminator" 419 "Body.terminator" 420 421 95 2 3 169 170 171 172 173 424 425) ::
  (nat_lit 175, f9 (c9 18 4) "Body.terminator" [] (.none) (.str (S "lendcore.mir") 370) (.ref 174)) ::
  (nat_lit 176, e9) ::
  (nat_lit 178, { cls := .type "tuple", data := .seq #[.str (S "self") 430, .str (S "point") 431] }) ::
  (nat_lit 179, e9) ::
  (nat_lit 181, o9 "spot" 427 "Body.spot" 428 429 98 2 3 176 177 178 179 180 432 433) ::
  (nat_lit 182, f9 (c9 18 5) "Body.spot" [] (.none) (.str (S "lendcore.mir") 370) (.ref 181)) ::
  (nat_lit 183, { cls := .type "tuple", data := .seq #[.bool true, .none] }) ::
  (nat_lit 184, e9) ::
  (nat_lit 186, { cls := .type "tuple", data := .seq #[.str (S "self") 438, .str (S "told") 439, .str (S "is_mut") 440, .str (S "name") 441] }) ::
  (nat_lit 187, e9) ::
  (nat_lit 189, o9 "new_local" 435 "Body.new_local" 436 437 101 4 3 184 185 186 187 188 442 443) ::
  (nat_lit 190, f9 (c9 18 6) "Body.new_local" [] (.ref 183) (.str (S "lendcore.mir") 370) (.ref 189)) ::
  (nat_lit 191, { cls := .type "tuple", data := .seq #[.str (S "arg_count") 445, .str (S "blocks") 446, .str (S "locals") 447, .str (S "name") 448, .str (S "spots") 449] }) ::
  (nat_lit 192, { cls := .type "dict", data := .dict #[{ k9 P "__module__" 379 with val := .str (S "lendcore.mir") 370 }, { k9 P "__firstlineno__" 383 with val := .int 77 382 }, { k9 P "__init__" 395 with val := .ref 147 }, { k9 P "type_of" 403 with val := .ref 154 }, { k9 P "args" 410 with val := .ref 161 }, { k9 P "statements" 418 with val := .ref 168 }, { k9 P "terminator" 426 with val := .ref 175 }, { k9 P "spot" 434 with val := .ref 182 }, { k9 P "new_local" 444 with val := .ref 190 }, { k9 P "__static_attributes__" 450 with val := .ref 191 }, { k9 P "__dict__" 452 with val := .ref 194 }, { k9 P "__weakref__" 454 with val := .ref 195 }, { k9 P "__doc__" 455 with val := .none }] 4 }) ::
  (nat_lit 193, { cls := .type "type", data := .cls { name := S "Body", bases := [.type "object"], mro := [.ref 193, .type "object"], ns := 192, qualname := S "Body" }, slots := #[none, none, some (.str (S "Body") 372), some (.str (S "Body") 380), some (.builtin "object.__new__"), some (.bool true)] }) ::
  (nat_lit 194, { cls := .type "getset_descriptor", data := .fields #[.str (S "__dict__") 451, .ref 193, .builtin "function.__dict__", .builtin "function.__dict__#set"] }) ::
  (nat_lit 195, { cls := .type "getset_descriptor", data := .fields #[.str (S "__weakref__") 453, .ref 193, .builtin "ExceptionGroup.__weakref__", .none] }) ::
  (nat_lit 198, e9) ::
  (nat_lit 201, { cls := .type "code", data := .fields #[.str (S "successors") 458, .str (S "successors") 459, .str (S "/claim/cut.py") 460, .int 103 0, .int 1 0, .int 0 0, .int 0 0, .int 3 0, .ref 198, .bool true, .int 181 0, .ref 199, .none, .none, .none, .ref 200, .int 461 0, .int 103 0, .str (S "/claim/cut.py") 462] }) ::
  (nat_lit 202, f9 (s9 19) "successors" [] (.none) (.str (S "lendcore.mir") 370) (.ref 201)) ::
  (nat_lit 203, e9) ::
  (nat_lit 206, { cls := .type "code", data := .fields #[.str (S "copied") 464, .str (S "copied") 465, .str (S "/claim/cut.py") 466, .int 122 0, .int 1 0, .int 0 0, .int 0 0, .int 3 0, .ref 203, .bool true, .int 181 0, .ref 204, .none, .none, .none, .ref 205, .int 467 0, .int 122 0, .str (S "/claim/cut.py") 468] }) ::
  (nat_lit 207, f9 (s9 20) "copied" [] (.none) (.str (S "lendcore.mir") 370) (.ref 206)) ::
  (nat_lit 208, e9) ::
  (nat_lit 210, { cls := .type "tuple", data := .seq #[.str (S "rvalue") 473, .str (S "word") 474] }) ::
  (nat_lit 211, e9) ::
  (nat_lit 213, o9 "operands_of" 470 "operands_of" 471 472 125 1 3 208 209 210 211 212 475 476) ::
  (nat_lit 214, f9 (s9 21) "operands_of" [] (.none) (.str (S "lendcore.mir") 370) (.ref 213)) ::
  (nat_lit 215, e9) ::
  (nat_lit 217, { cls := .type "tuple", data := .seq #[.str (S "rvalue") 481, .str (S "operands") 482, .str (S "word") 483] }) ::
  (nat_lit 218, e9) ::
  (nat_lit 220, o9 "with_operands" 478 "with_operands" 479 480 138 2 3 215 216 217 218 219 484 485) ::
  (nat_lit 221, f9 (s9 22) "with_operands" [] (.none) (.str (S "lendcore.mir") 370) (.ref 220)) ::
  (nat_lit 222, { cls := .type "tuple", data := .seq #[.str (S "==") 489, .str (S "!=") 490, .str (S "<") 491, .str (S "<=") 492, .str (S ">") 493, .str (S ">=") 494] }) ::
  (nat_lit 223, { cls := .type "tuple", data := .seq #[.str (S "int") 496, .str (S "bool") 497] }) ::
  (nat_lit 224, e9) ::
  (nat_lit 227, { cls := .type "code", data := .fields #[.str (S "is_followed") 499, .str (S "is_followed") 500, .str (S "/claim/cut.py") 501, .int 154 0, .int 1 0, .int 0 0, .int 0 0, .int 3 0, .ref 224, .bool true, .int 181 0, .ref 225, .none, .none, .none, .ref 226, .int 502 0, .int 154 0, .str (S "/claim/cut.py") 503] }) ::
  (nat_lit 228, f9 (s9 26) "is_followed" [] (.none) (.str (S "lendcore.constants") 487) (.ref 227)) ::
  (nat_lit 229, e9) ::
  (nat_lit 231, { cls := .type "tuple", data := .seq #[.str (S "body") 508, .str (S "found") 509, .str (S "statements") 510, .str (S "terminator") 511, .str (S "statement") 512] }) ::
  (nat_lit 232, e9) ::
  (nat_lit 234, o9 "lent_locals" 505 "lent_locals" 506 507 158 1 3 229 230 231 232 233 513 514) ::
  (nat_lit 235, f9 (s9 27) "lent_locals" [] (.none) (.str (S "lendcore.constants") 487) (.ref 234)) ::
  (nat_lit 243, e9) ::
  (nat_lit 245, { cls := .type "tuple", data := .seq #[.str (S "self") 531, .str (S "known") 532] }) ::
  (nat_lit 246, e9) ::
  (nat_lit 248, o9 "__init__" 528 "Facts.__init__" 529 530 167 2 3 243 244 245 246 247 533 534) ::
  (nat_lit 249, f9 (c9 28 0) "Facts.__init__" [] (.none) (.str (S "lendcore.constants") 487) (.ref 248)) ::
  (nat_lit 250, e9) ::
  (nat_lit 252, { cls := .type "tuple", data := .seq #[.str (S "self") 539, .str (S "place") 540, .str (S "value") 541, .str (S "projection") 542] }) ::
  (nat_lit 253, e9) ::
  (nat_lit 255, o9 "at_place" 536 "Facts.at_place" 537 538 170 2 3 250 251 252 253 254 543 544) ::
  (nat_lit 256, f9 (c9 28 1) "Facts.at_place" [] (.none) (.str (S "lendcore.constants") 487) (.ref 255)) ::
  (nat_lit 257, e9) ::
  (nat_lit 259, { cls := .type "tuple", data := .seq #[.str (S "self") 549, .str (S "operand") 550] }) ::
  (nat_lit 260, e9) ::
  (nat_lit 262, o9 "at_operand" 546 "Facts.at_operand" 547 548 178 2 3 257 258 259 260 261 551 552) ::
  (nat_lit 263, f9 (c9 28 2) "Facts.at_operand" [] (.none) (.str (S "lendcore.constants") 487) (.ref 262)) ::
  (nat_lit 264, e9) ::
  (nat_lit 266, { cls := .type "tuple", data := .seq #[.str (S "self") 557, .str (S "place") 558] }) ::
  (nat_lit 267, e9) ::
  (nat_lit 269, o9 "forget" 554 "Facts.forget" 555 556 183 2 3 264 265 266 267 268 559 560) ::
  (nat_lit 270, f9 (c9 28 3) "Facts.forget" [] (.none) (.str (S "lendcore.constants") 487) (.ref 269)) ::
  (nat_lit 271, { cls := .type "tuple", data := .seq #[.str (S "known") 562] }) ::
  (nat_lit 272, { cls := .type "dict", data := .dict #[{ k9 P "__module__" 523 with val := .str (S "lendcore.constants") 487 }, { k9 P "__firstlineno__" 527 with val := .int 165 526 }, { k9 P "__init__" 535 with val := .ref 249 }, { k9 P "at_place" 545 with val := .ref 256 }, { k9 P "at_operand" 553 with val := .ref 263 }, { k9 P "forget" 561 with val := .ref 270 }, { k9 P "__static_attributes__" 563 with val := .ref 271 }, { k9 P "__dict__" 565 with val := .ref 274 }, { k9 P "__weakref__" 567 with val := .ref 275 }, { k9 P "__doc__" 568 with val := .none }] 4 }) ::
  (nat_lit 273, { cls := .type "type", data := .cls { name := S "Facts", bases := [.type "object"], mro := [.ref 273, .type "object"], ns := 272, qualname := S "Facts" }, slots := #[none, none, some (.str (S "Facts") 516), some (.str (S "Facts") 524), some (.builtin "object.__new__"), some (.bool true)] }) ::
  (nat_lit 274, { cls := .type "getset_descriptor", data := .fields #[.str (S "__dict__") 564, .ref 273, .builtin "function.__dict__", .builtin "function.__dict__#set"] }) ::
  (nat_lit 275, { cls := .type "getset_descriptor", data := .fields #[.str (S "__weakref__") 566, .ref 273, .builtin "ExceptionGroup.__weakref__", .none] }) ::
  (nat_lit 278, e9) ::
  (nat_lit 280, { cls := .type "tuple", data := .seq #[.str (S "op") 574, .str (S "t") 575, .str (S "a") 576, .str (S "b") 577] }) ::
  (nat_lit 281, e9) ::
  (nat_lit 283, o9 "reckoned_binary" 571 "reckoned_binary" 572 573 185 4 3 278 279 280 281 282 578 579) ::
  (nat_lit 284, f9 (s9 29) "reckoned_binary" [] (.none) (.str (S "lendcore.constants") 487) (.ref 283)) ::
  (nat_lit 292, e9) ::
  (nat_lit 294, { cls := .type "tuple", data := .seq #[.str (S "self") 596, .str (S "body") 597, .str (S "lent") 598, .str (S "local") 599] }) ::
  (nat_lit 295, e9) ::
  (nat_lit 297, o9 "__init__" 593 "Constants.__init__" 594 595 193 2 3 292 293 294 295 296 600 601) ::
  (nat_lit 298, f9 (c9 30 0) "Constants.__init__" [] (.none) (.str (S "lendcore.constants") 487) (.ref 297)) ::
  (nat_lit 299, e9) ::
  (nat_lit 301, { cls := .type "tuple", data := .seq #[.str (S "self") 606, .str (S "operand") 607, .str (S "local") 608, .str (S "projections") 609, .str (S "t") 610, .str (S "projection") 611] }) ::
  (nat_lit 302, e9) ::
  (nat_lit 304, o9 "type_of" 603 "Constants.type_of" 604 605 202 2 3 299 300 301 302 303 612 613) ::
  (nat_lit 305, f9 (c9 30 1) "Constants.type_of" [] (.none) (.str (S "lendcore.constants") 487) (.ref 304)) ::
  (nat_lit 306, e9) ::
  (nat_lit 309, { cls := .type "code", data := .fields #[.str (S "value_of") 615, .str (S "Constants.value_of") 616, .str (S "/claim/cut.py") 617, .int 213 0, .int 3 0, .int 0 0, .int 0 0, .int 3 0, .ref 306, .bool true, .int 181 0, .ref 307, .none, .none, .none, .ref 308, .int 618 0, .int 213 0, .str (S "/claim/cut.py") 619] }) ::
  (nat_lit 310, f9 (c9 30 2) "Constants.value_of" [] (.none) (.str (S "lendcore.constants") 487) (.ref 309)) ::
  (nat_lit 311, e9) ::
  (nat_lit 313, { cls := .type "tuple", data := .seq #[.str (S "self") 624, .str (S "rvalue") 625, .str (S "facts") 626, .str (S "kind") 627, .str (S "op") 628, .str (S "left") 629, .str (S "right") 630, .str (S "a") 631, .str (S "b") 632, .str (S "t") 633, .str (S "told") 634] }) ::
  (nat_lit 314, e9) ::
  (nat_lit 316, o9 "of_two" 621 "Constants.of_two" 622 623 228 3 3 311 312 313 314 315 635 636) ::
  (nat_lit 317, f9 (c9 30 3) "Constants.of_two" [] (.none) (.str (S "lendcore.constants") 487) (.ref 316)) ::
  (nat_lit 318, e9) ::
  (nat_lit 320, { cls := .type "tuple", data := .seq #[.str (S "self") 641, .str (S "rvalue") 642, .str (S "facts") 643, .str (S "a") 644, .str (S "t") 645] }) ::
  (nat_lit 321, e9) ::
  (nat_lit 323, o9 "of_one" 638 "Constants.of_one" 639 640 238 3 3 318 319 320 321 322 646 647) ::
  (nat_lit 324, f9 (c9 30 4) "Constants.of_one" [] (.none) (.str (S "lendcore.constants") 487) (.ref 323)) ::
  (nat_lit 325, e9) ::
  (nat_lit 327, { cls := .type "tuple", data := .seq #[.str (S "self") 652, .str (S "rvalue") 653, .str (S "facts") 654, .str (S "a") 655] }) ::
  (nat_lit 328, e9) ::
  (nat_lit 330, o9 "of_cast" 649 "Constants.of_cast" 650 651 246 3 3 325 326 327 328 329 656 657) ::
  (nat_lit 331, f9 (c9 30 5) "Constants.of_cast" [] (.none) (.str (S "lendcore.constants") 487) (.ref 330)) ::
  (nat_lit 332, e9) ::
  (nat_lit 334, { cls := .type "tuple", data := .seq #[.str (S "self") 662, .str (S "statement") 663, .str (S "facts") 664, .str (S "place") 665, .str (S "rvalue") 666, .str (S "value") 667] }) ::
  (nat_lit 335, e9) ::
  (nat_lit 337, o9 "step" 659 "Constants.step" 660 661 252 3 3 332 333 334 335 336 668 669) ::
  (nat_lit 338, f9 (c9 30 6) "Constants.step" [] (.none) (.str (S "lendcore.constants") 487) (.ref 337)) ::
  (nat_lit 339, e9) ::
  (nat_lit 341, { cls := .type "tuple", data := .seq #[.str (S "self") 674, .str (S "number") 675, .str (S "facts") 676, .str (S "statements") 677, .str (S "terminator") 678, .str (S "statement") 679] }) ::
  (nat_lit 342, e9) ::
  (nat_lit 344, o9 "behind" 671 "Constants.behind" 672 673 262 2 3 339 340 341 342 343 680 681) ::
  (nat_lit 345, f9 (c9 30 7) "Constants.behind" [] (.none) (.str (S "lendcore.constants") 487) (.ref 344)) ::
  (nat_lit 346, e9) ::
  (nat_lit 349, { cls := .type "code", data := .fields #[.str (S "gone_on") 683, .str (S "Constants.gone_on") 684, .str (S "/claim/cut.py") 685, .int 269 0, .int 3 0, .int 0 0, .int 0 0, .int 3 0, .ref 346, .bool true, .int 181 0, .ref 347, .none, .none, .none, .ref 348, .int 686 0, .int 269 0, .str (S "/claim/cut.py") 687] }) ::
  (nat_lit 350, f9 (c9 30 8) "Constants.gone_on" [] (.none) (.str (S "lendcore.constants") 487) (.ref 349)) ::
  (nat_lit 351, e9) ::
  (nat_lit 353, { cls := .type "tuple", data := .seq #[.str (S "self") 692, .str (S "terminator") 693, .str (S "facts") 694, .str (S "value") 695, .str (S "told") 696, .str (S "block") 697] }) ::
  (nat_lit 354, e9) ::
  (nat_lit 356, o9 "known_target" 689 "Constants.known_target" 690 691 280 3 3 351 352 353 354 355 698 699) ::
  (nat_lit 357, f9 (c9 30 9) "Constants.known_target" [] (.none) (.str (S "lendcore.constants") 487) (.ref 356)) ::
  (nat_lit 358, e9) ::
  (nat_lit 361, { cls := .type "code", data := .fields #[.str (S "meet") 701, .str (S "Constants.meet") 702, .str (S "/claim/cut.py") 703, .int 293 0, .int 3 0, .int 0 0, .int 0 0, .int 3 0, .ref 358, .bool true, .int 181 0, .ref 359, .none, .none, .none, .ref 360, .int 704 0, .int 293 0, .str (S "/claim/cut.py") 705] }) ::
  (nat_lit 362, f9 (c9 30 10) "Constants.meet" [] (.none) (.str (S "lendcore.constants") 487) (.ref 361)) ::
  (nat_lit 363, e9) ::
  (nat_lit 365, { cls := .type "tuple", data := .seq #[.str (S "self") 710, .str (S "left") 711, .str (S "number") 712, .str (S "block") 713, .str (S "known") 714] }) ::
  (nat_lit 366, e9) ::
  (nat_lit 368, o9 "follow" 707 "Constants.follow" 708 709 302 1 3 363 364 365 366 367 715 716) ::
  (nat_lit 369, f9 (c9 30 11) "Constants.follow" [] (.none) (.str (S "lendcore.constants") 487) (.ref 368)) ::
  (nat_lit 370, e9) ::
  (nat_lit 372, { cls := .type "tuple", data := .seq #[.str (S "self") 721, .str (S "operand") 722, .str (S "facts") 723, .str (S "value") 724, .str (S "t") 725] }) ::
  (nat_lit 373, e9) ::
  (nat_lit 375, o9 "put" 718 "Constants.put" 719 720 310 3 3 370 371 372 373 374 726 727) ::
  (nat_lit 376, f9 (c9 30 12) "Constants.put" [] (.none) (.str (S "lendcore.constants") 487) (.ref 375)) ::
  (nat_lit 377, e9) ::
  (nat_lit 380, { cls := .type "code", data := .fields #[.str (S "put_rvalue") 729, .str (S "Constants.put_rvalue") 730, .str (S "/claim/cut.py") 731, .int 316 0, .int 4 0, .int 0 0, .int 0 0, .int 3 0, .ref 377, .bool true, .int 181 0, .ref 378, .none, .none, .none, .ref 379, .int 732 0, .int 316 0, .str (S "/claim/cut.py") 733] }) ::
  (nat_lit 381, f9 (c9 30 13) "Constants.put_rvalue" [] (.none) (.str (S "lendcore.constants") 487) (.ref 380)) ::
  (nat_lit 382, e9) ::
  (nat_lit 384, { cls := .type "tuple", data := .seq #[.str (S "self") 738, .str (S "statement") 739, .str (S "facts") 740] }) ::
  (nat_lit 385, e9) ::
  (nat_lit 387, o9 "put_statement" 735 "Constants.put_statement" 736 737 323 3 3 382 383 384 385 386 741 742) ::
  (nat_lit 388, f9 (c9 30 14) "Constants.put_statement" [] (.none) (.str (S "lendcore.constants") 487) (.ref 387)) ::
  (nat_lit 389, e9) ::
  (nat_lit 392, { cls := .type "code", data := .fields #[.str (S "put_terminator") 744, .str (S "Constants.put_terminator") 745, .str (S "/claim/cut.py") 746, .int 330 0, .int 3 0, .int 0 0, .int 0 0, .int 3 0, .ref 389, .bool true, .int 181 0, .ref 390, .none, .none, .none, .ref 391, .int 747 0, .int 330 0, .str (S "/claim/cut.py") 748] }) ::
  (nat_lit 393, f9 (c9 30 15) "Constants.put_terminator" [] (.none) (.str (S "lendcore.constants") 487) (.ref 392)) ::
  (nat_lit 394, { cls := .type "tuple", data := .seq #[.str (S "begins") 750, .str (S "body") 751, .str (S "followed") 752] }) ::
  (nat_lit 395, { cls := .type "dict", data := .dict #[{ k9 P "__module__" 588 with val := .str (S "lendcore.constants") 487 }, { k9 P "__firstlineno__" 592 with val := .int 191 591 }, { k9 P "__init__" 602 with val := .ref 298 }, { k9 P "type_of" 614 with val := .ref 305 }, { k9 P "value_of" 620 with val := .ref 310 }, { k9 P "of_two" 637 with val := .ref 317 }, { k9 P "of_one" 648 with val := .ref 324 }, { k9 P "of_cast" 658 with val := .ref 331 }, { k9 P "step" 670 with val := .ref 338 }, { k9 P "behind" 682 with val := .ref 345 }, { k9 P "gone_on" 688 with val := .ref 350 }, { k9 P "known_target" 700 with val := .ref 357 }, { k9 P "meet" 706 with val := .ref 362 }, { k9 P "follow" 717 with val := .ref 369 }, { k9 P "put" 728 with val := .ref 376 }, { k9 P "put_rvalue" 734 with val := .ref 381 }, { k9 P "put_statement" 743 with val := .ref 388 }, { k9 P "put_terminator" 749 with val := .ref 393 }, { k9 P "__static_attributes__" 753 with val := .ref 394 }, { k9 P "__dict__" 755 with val := .ref 397 }, { k9 P "__weakref__" 757 with val := .ref 398 }, { k9 P "__doc__" 758 with val := .none }] 4 }) ::
  (nat_lit 396, { cls := .type "type", data := .cls { name := S "Constants", bases := [.type "object"], mro := [.ref 396, .type "object"], ns := 395, qualname := S "Constants" }, slots := #[none, none, some (.str (S "Constants") 581), some (.str (S "Constants") 589), some (.builtin "object.__new__"), some (.bool true)] }) ::
  (nat_lit 397, { cls := .type "getset_descriptor", data := .fields #[.str (S "__dict__") 754, .ref 396, .builtin "function.__dict__", .builtin "function.__dict__#set"] }) ::
  (nat_lit 398, { cls := .type "getset_descriptor", data := .fields #[.str (S "__weakref__") 756, .ref 396, .builtin "ExceptionGroup.__weakref__", .none] }) ::
  (nat_lit 401, e9) ::
  (nat_lit 403, { cls := .type "tuple", data := .seq #[.str (S "body") 764, .str (S "constants") 765, .str (S "found") 766, .str (S "number") 767, .str (S "facts") 768, .str (S "statements") 769, .str (S "terminator") 770, .str (S "made") 771, .str (S "statement") 772] }) ::
  (nat_lit 404, e9) ::
  (nat_lit 406, o9 "with_constants" 761 "with_constants" 762 763 340 1 3 401 402 403 404 405 773 774) ::
  (nat_lit 407, f9 (s9 31) "with_constants" [] (.none) (.str (S "lendcore.constants") 487) (.ref 406)) ::
  (nat_lit 408, { cls := .type "tuple", data := .seq #[.str (S "bool") 778] }) ::
  (nat_lit 409, { cls := .type "tuple", data := .seq #[.str (S "int") 780, .str (S "i64") 781] }) ::
  (nat_lit 410, e9) ::
  (nat_lit 412, { cls := .type "tuple", data := .seq #[.str (S "script") 786, .str (S "row") 787, .str (S "cell") 788, .str (S "big") 789, .str (S "mixed") 790] }) ::
  (nat_lit 413, e9) ::
  (nat_lit 415, o9 "_law_pool" 783 "_law_pool" 784 785 356 2 3 410 411 412 413 414 791 792) ::
  (nat_lit 416, f9 (s9 35) "_law_pool" [] (.none) (.str (S "law_pf0168_01") 776) (.ref 415)) ::
  (nat_lit 417, e9) ::
  (nat_lit 419, { cls := .type "tuple", data := .seq #[.str (S "source") 797, .str (S "top") 798, .str (S "drawn") 799] }) ::
  (nat_lit 420, e9) ::
  (nat_lit 422, o9 "_law_take" 794 "_law_take" 795 796 361 2 3 417 418 419 420 421 800 801) ::
  (nat_lit 423, f9 (s9 36) "_law_take" [] (.none) (.str (S "law_pf0168_01") 776) (.ref 422)) ::
  (nat_lit 424, e9) ::
  (nat_lit 426, { cls := .type "tuple", data := .seq #[.str (S "source") 806, .str (S "things") 807] }) ::
  (nat_lit 427, e9) ::
  (nat_lit 429, o9 "_law_one" 803 "_law_one" 804 805 370 2 3 424 425 426 427 428 808 809) ::
  (nat_lit 430, f9 (s9 37) "_law_one" [] (.none) (.str (S "law_pf0168_01") 776) (.ref 429)) ::
  (nat_lit 431, e9) ::
  (nat_lit 433, { cls := .type "tuple", data := .seq #[.str (S "kind") 814] }) ::
  (nat_lit 434, e9) ::
  (nat_lit 436, o9 "_law_rims" 811 "_law_rims" 812 813 372 1 3 431 432 433 434 435 815 816) ::
  (nat_lit 437, f9 (s9 38) "_law_rims" [] (.none) (.str (S "law_pf0168_01") 776) (.ref 436)) ::
  (nat_lit 438, e9) ::
  (nat_lit 440, { cls := .type "tuple", data := .seq #[.str (S "kind") 821, .str (S "number") 822, .str (S "low") 823, .str (S "bits") 824] }) ::
  (nat_lit 441, e9) ::
  (nat_lit 443, o9 "_law_wrapped" 818 "_law_wrapped" 819 820 374 2 3 438 439 440 441 442 825 826) ::
  (nat_lit 444, f9 (s9 39) "_law_wrapped" [] (.none) (.str (S "law_pf0168_01") 776) (.ref 443)) ::
  (nat_lit 445, e9) ::
  (nat_lit 447, { cls := .type "tuple", data := .seq #[.str (S "kind") 831, .str (S "op") 832, .str (S "a") 833, .str (S "b") 834, .str (S "whole") 835, .str (S "places") 836] }) ::
  (nat_lit 448, e9) ::
  (nat_lit 450, o9 "_law_worked" 828 "_law_worked" 829 830 377 4 3 445 446 447 448 449 837 838) ::
  (nat_lit 451, f9 (s9 40) "_law_worked" [] (.none) (.str (S "law_pf0168_01") 776) (.ref 450)) ::
  (nat_lit 452, e9) ::
  (nat_lit 454, { cls := .type "tuple", data := .seq #[.str (S "op") 843, .str (S "a") 844, .str (S "b") 845] }) ::
  (nat_lit 455, e9) ::
  (nat_lit 457, o9 "_law_asked" 840 "_law_asked" 841 842 383 3 3 452 453 454 455 456 846 847) ::
  (nat_lit 458, f9 (s9 41) "_law_asked" [] (.none) (.str (S "law_pf0168_01") 776) (.ref 457)) ::
  (nat_lit 459, e9) ::
  (nat_lit 461, { cls := .type "tuple", data := .seq #[.str (S "op") 852, .str (S "a") 853, .str (S "b") 854] }) ::
  (nat_lit 462, e9) ::
  (nat_lit 464, o9 "_law_both" 849 "_law_both" 850 851 385 3 3 459 460 461 462 463 855 856) ::
  (nat_lit 465, f9 (s9 42) "_law_both" [] (.none) (.str (S "law_pf0168_01") 776) (.ref 464)) ::
  (nat_lit 466, e9) ::
  (nat_lit 468, { cls := .type "tuple", data := .seq #[.str (S "value") 861] }) ::
  (nat_lit 469, e9) ::
  (nat_lit 471, o9 "_law_truth" 858 "_law_truth" 859 860 390 1 3 466 467 468 469 470 862 863) ::
  (nat_lit 472, f9 (s9 43) "_law_truth" [] (.none) (.str (S "law_pf0168_01") 776) (.ref 471)) ::
  (nat_lit 473, e9) ::
  (nat_lit 475, { cls := .type "tuple", data := .seq #[.str (S "rows") 868, .str (S "dues") 869, .str (S "number") 870, .str (S "rvalue") 871, .str (S "due") 872] }) ::
  (nat_lit 476, e9) ::
  (nat_lit 478, o9 "_law_put" 865 "_law_put" 866 867 392 5 3 473 474 475 476 477 873 874) ::
  (nat_lit 479, f9 (s9 44) "_law_put" [] (.none) (.str (S "law_pf0168_01") 776) (.ref 478)) ::
  (nat_lit 480, e9) ::
  (nat_lit 483, { cls := .type "code", data := .fields #[.str (S "_law_step") 876, .str (S "_law_step") 877, .str (S "/claim/cut.py") 878, .int 395 0, .int 5 0, .int 0 0, .int 0 0, .int 3 0, .ref 480, .bool true, .int 181 0, .ref 481, .none, .none, .none, .ref 482, .int 879 0, .int 395 0, .str (S "/claim/cut.py") 880] }) ::
  (nat_lit 484, f9 (s9 45) "_law_step" [] (.none) (.str (S "law_pf0168_01") 776) (.ref 483)) ::
  (nat_lit 485, e9) ::
  (nat_lit 487, { cls := .type "tuple", data := .seq #[.str (S "source") 885, .str (S "kind") 886, .str (S "known") 887, .str (S "way") 888, .str (S "t") 889, .str (S "near") 890, .str (S "goal") 891, .str (S "wanted") 892, .str (S "told") 893] }) ::
  (nat_lit 488, e9) ::
  (nat_lit 490, o9 "_law_end" 882 "_law_end" 883 884 427 3 3 485 486 487 488 489 894 895) ::
  (nat_lit 491, f9 (s9 46) "_law_end" [] (.none) (.str (S "law_pf0168_01") 776) (.ref 490)) ::
  (nat_lit 492, e9) ::
  (nat_lit 495, { cls := .type "code", data := .fields #[.str (S "_law_row_right") 897, .str (S "_law_row_right") 898, .str (S "/claim/cut.py") 899, .int 438 0, .int 1 0, .int 0 0, .int 0 0, .int 3 0, .ref 492, .bool true, .int 181 0, .ref 493, .none, .none, .none, .ref 494, .int 900 0, .int 438 0, .str (S "/claim/cut.py") 901] }) ::
  (nat_lit 496, f9 (s9 47) "_law_row_right" [] (.none) (.str (S "law_pf0168_01") 776) (.ref 495)) ::
  (nat_lit 497, e9) ::
  (nat_lit 499, { cls := .type "tuple", data := .seq #[.str (S "t") 906, .str (S "body") 907, .str (S "value") 908, .str (S "rows") 909, .str (S "none") 910, .str (S "last") 911, .str (S "found") 912] }) ::
  (nat_lit 500, e9) ::
  (nat_lit 502, o9 "_law_ways_right" 903 "_law_ways_right" 904 905 466 0 3 497 498 499 500 501 913 914) ::
  (nat_lit 503, f9 (s9 48) "_law_ways_right" [] (.none) (.str (S "law_pf0168_01") 776) (.ref 502)) ::
  (nat_lit 504, e9) ::
  (nat_lit 506, { cls := .type "tuple", data := .seq #[.str (S "body") 919, .str (S "a") 920, .str (S "b") 921] }) ::
  (nat_lit 507, e9) ::
  (nat_lit 509, o9 "_law_signs_right" 916 "_law_signs_right" 917 918 478 0 3 504 505 506 507 508 922 923) ::
  (nat_lit 510, f9 (s9 49) "_law_signs_right" [] (.none) (.str (S "law_pf0168_01") 776) (.ref 509)) ::
  (nat_lit 511, e9) ::
  (nat_lit 513, { cls := .type "tuple", data := .seq #[.str (S "script") 928, .str (S "source") 929] }) ::
  (nat_lit 514, e9) ::
  (nat_lit 516, o9 "law" 925 "law" 926 927 485 1 3 511 512 513 514 515 930 931) ::
  (nat_lit 517, f9 (s9 50) "law" [] (.none) (.str (S "law_pf0168_01") 776) (.ref 516)) :: []
/-- the text without its five rows that name a module -/
noncomputable def view9 : Program := { prg with main := { prg.main with body := (((List.range' 0 1 ++ List.range' 2 2) ++ (List.range' 5 12 ++ List.range' 18 5)) ++ (List.range' 24 8 ++ List.range' 33 18)).map s9 } }
noncomputable abbrev lz : List Str := looseW view9 [Str.ofString "LendError", Str.ofString "BITS"]
end
section
abbrev Led := List (Addr × Obj)
abbrev tup (vs : List Value) (n : Nat) : Obj := { cls := .type "tuple", data := .seq vs.toArray n }
/-- what the law's tuples hold; bit and long: the two types that stand at the text's top -/
inductive D where
  | none
  | bool (b : Bool)
  | int (i : Int)
  | str (x : Str)
  | tup (ds : List D)
  | bit
  | long
mutual
/-- the ledger R bears the datum at the value -/
inductive DI (R : Led) : Value → D → Prop
  | none : DI R Value.none D.none
  | bool (b : Bool) : DI R (Value.bool b) (D.bool b)
  | int (i : Int) (t : Tok) : DI R (Value.int i t) (D.int i)
  | str (x : Str) (t : Tok) : DI R (Value.str x t) (D.str x)
  | tup {a : Addr} {vs : List Value} {n : Nat} {ds : List D} : (a, tup vs n) ∈ R → DIs R vs ds → DI R (Value.ref a) (D.tup ds)
  | bit : DI R (Value.ref 408) D.bit
  | long : DI R (Value.ref 409) D.long
inductive DIs (R : Led) : List Value → List D → Prop
  | nil : DIs R [] []
  | cons {v : Value} {vs : List Value} {d : D} {ds : List D} : DI R v d → DIs R vs ds → DIs R (v :: vs) (d :: ds)
end
theorem DI.mono {R R' : Led} (hs : ∀ p ∈ R, p ∈ R') {v : Value} {d : D} (h : DI R v d) : DI R' v d :=
  DI.rec (motive_1 := fun v d _ => DI R' v d) (motive_2 := fun v d _ => DIs R' v d) .none .bool .int .str (fun h _ r => .tup (hs _ h) r) .bit .long .nil (fun _ _ h r => .cons h r) h
theorem DIs.mono {R R' : Led} (hs : ∀ p ∈ R, p ∈ R') {v : List Value} {d : List D} (h : DIs R v d) : DIs R' v d := by
  induction v generalizing d with
  | nil => cases h; exact .nil
  | cons v vs ih => cases h with | cons h r => exact .cons (h.mono hs) (ih r)
noncomputable def DInv (R : Led) (v : Value) : D → Prop
  | .none => v = .none
  | .bool b => v = .bool b
  | .int i => ∃ t, v = .int i t
  | .str x => ∃ t, v = .str x t
  | .tup ds => ∃ p vs n, v = .ref p ∧ (p, Mine.tup vs n) ∈ R ∧ DIs R vs ds
  | .bit => v = .ref 408
  | .long => v = .ref 409
theorem DI.inv {R : Led} {v : Value} {d : D} (h : DI R v d) : DInv R v d := by
  refine DI.casesOn (motive_1 := fun v d _ => DInv R v d) h rfl (fun _ => rfl) (fun _ _ => ⟨_, rfl⟩) (fun _ _ => ⟨_, rfl⟩) (fun a b => ⟨_, _, _, rfl, a, b⟩) rfl rfl
noncomputable def DsInv (R : Led) (vs : List Value) : List D → Prop
  | [] => vs = []
  | d :: ds => ∃ v r, vs = v :: r ∧ DI R v d ∧ DIs R r ds
theorem DIs.inv {R : Led} {vs : List Value} {ds : List D} (h : DIs R vs ds) : DsInv R vs ds := by
  refine DIs.casesOn (motive_2 := fun vs ds _ => DsInv R vs ds) h rfl (fun a b => ⟨_, _, rfl, a, b⟩)
theorem DI.handed {R : Led} {v : Value} {a : D} (h : DI R v a) : handedIn v = true := DI.casesOn (motive_1 := fun v _ _ => handedIn v = true) h rfl (fun _ => rfl) (fun _ _ => rfl) (fun _ _ => rfl) (fun _ _ => rfl) rfl rfl
theorem DIs.append {R : Led} {vs ws : List Value} {ds es : List D} (h : DIs R vs ds) (k : DIs R ws es) : DIs R (vs ++ ws) (ds ++ es) := by
  induction ds generalizing vs with
  | nil => rw [show vs = [] from h.inv]; exact k
  | cons d ds ih => obtain ⟨v, r, rfl, a, b⟩ := h.inv; exact .cons a (ih b)
theorem DIs.length {R : Led} {vs : List Value} {ds : List D} (h : DIs R vs ds) : vs.length = ds.length := by
  induction ds generalizing vs with
  | nil => rw [show vs = [] from h.inv]; rfl
  | cons d ds ih => obtain ⟨v, r, rfl, a, b⟩ := h.inv; exact congrArg (· + 1) (ih b)
end
section
mutual
/-- the datum as it is compared -/
noncomputable def D.py : D → PyData
  | .none => .none
  | .bool b => .bool b
  | .int i => .int i
  | .str x => .str x
  | .tup ds => .tuple (D.pys ds)
  | .bit => .tuple [.str (S "bool")]
  | .long => .tuple [.str (S "int"), .str (S "i64")]
noncomputable def D.pys : List D → List PyData
  | [] => []
  | d :: ds => d.py :: D.pys ds
end
/-- the two tuples that stand at the text's top -/
structure TopD (h : Heap) : Prop where
  bit : ∃ o n t, h.get? 408 = some o ∧ o.cls = .type "tuple" ∧ o.data = .seq #[.str (S "bool") t] n
  long : ∃ o n t t2, h.get? 409 = some o ∧ o.cls = .type "tuple" ∧ o.data = .seq #[.str (S "int") t, .str (S "i64") t2] n
theorem DI.reads {h₀ h : Heap} {L : Addr} {R : Led} (N : News h₀ L h R) (T : TopD h) {v : Value} {d : D} (k : DI R v d) : ∃ as, Reads h v d.py as :=
  DI.rec (motive_1 := fun v d _ => ∃ as, Reads h v d.py as) (motive_2 := fun v d _ => ∃ as, ReadsAll h v (D.pys d) as) ⟨_, .none⟩ (fun b => ⟨_, .bool b⟩) (fun i t => ⟨_, .int i t⟩) (fun x t => ⟨_, .str x t⟩)
    (fun hm _ ih => ih.elim fun as r => ⟨as, .tuple (N _ hm).1 rfl rfl r⟩) (by obtain ⟨o, n, t, h1, h2, h3⟩ := T.bit; exact ⟨_, .tuple h1 h2 h3 (.cons (.str _ _) .nil)⟩)
    (by obtain ⟨o, n, t, t2, h1, h2, h3⟩ := T.long; exact ⟨_, .tuple h1 h2 h3 (.cons (.str _ _) (.cons (.str _ _) .nil))⟩) ⟨_, .nil⟩ (fun _ _ h r => h.elim fun as x => r.elim fun bs y => ⟨_, .cons x y⟩) k
theorem DIs.reads {h₀ h : Heap} {L : Addr} {R : Led} (N : News h₀ L h R) (T : TopD h) {vs : List Value} {ds : List D} (k : DIs R vs ds) : ∃ as, ReadsAll h vs (D.pys ds) as := by
  induction vs generalizing ds with
  | nil => cases k; exact ⟨_, .nil⟩
  | cons v vs ih =>
    cases k with
    | cons k r =>
      obtain ⟨as, x⟩ := k.reads N T
      obtain ⟨bs, y⟩ := ih r
      exact ⟨_, .cons x y⟩
/-- a datum that may be compared -/
noncomputable def D.ok (d : D) : Bool := d.py.canLay0 && decide (d.py.depth ≤ 20)
theorem pysOk : ∀ {ds : List D}, (∀ d ∈ ds, d.ok = true) → PyData.canLayAll0 (D.pys ds) = true ∧ PyData.depthAll (D.pys ds) ≤ 20
  | [], _ => ⟨rfl, Nat.zero_le _⟩
  | d :: ds, h => by
    obtain ⟨a, b⟩ := pysOk (ds := ds) fun e he => h e (.tail _ he)
    have hd := h d (.head _)
    simp only [D.ok, Bool.and_eq_true, decide_eq_true_eq] at hd
    simp only [D.pys, PyData.canLayAll0, PyData.depthAll, hd.1, a, Bool.and_self, true_and]
    exact Nat.max_le.mpr ⟨hd.2, b⟩
theorem listOk {ds : List D} (h : ∀ d ∈ ds, d.ok = true) : SeqAt.shaped (.list (D.pys ds)) = true := by
  obtain ⟨a, b⟩ := pysOk h
  exact Bool.and_eq_true_iff.mpr ⟨by simp only [PyData.canLay0]; exact a, decide_eq_true (by simp only [PyData.depth]; omega)⟩
theorem oneOk {d : D} (h : d.ok = true) : SeqAt.shaped d.py = true := by
  simp only [D.ok, Bool.and_eq_true, decide_eq_true_eq] at h
  exact Bool.and_eq_true_iff.mpr ⟨h.1, decide_eq_true (by omega)⟩
section
variable {prog : Program} {w : World} {A : Around} {E : Value → Shared → Prop} {s : Shared} {h₀ : Heap} {L : Addr} {news : Led} {Q : Value → Shared → Prop}
theorem listReads {a : Addr} {va : List Value} {ds : List D} {n : Nat} (N : News h₀ L s.heap news) (T : TopD s.heap) (ma : (a, listOf va.toArray n) ∈ news) (da : DIs news va ds) : ∃ as, Reads s.heap (.ref a) (.list (D.pys ds)) as := by
  obtain ⟨as, r⟩ := da.reads N T
  exact ⟨_, .list (N _ ma).1 rfl rfl r⟩
end
theorem TopD.of {w : World} {h₀ h : Heap} {L : Addr} {m : Str → Option Value} (F : Fr h₀ L h m) (X : (top9 w.params).In h₀) : TopD h := by
  constructor
  · exact ⟨_, _, _, F.keep _ _ (X 408 _ (by rfl)), rfl, rfl⟩
  · exact ⟨_, _, _, _, F.keep _ _ (X 409 _ (by rfl)), rfl, rfl⟩
end
section
/-- how many keys a table has, or which, in their order -/
inductive Sz where
  | le (n : Nat)
  | ks (l : List Int)
noncomputable def Sz.ok (kvs : List (Int × Value)) : Sz → Prop
  | .le n => kvs.length ≤ n
  | .ks l => kvs.map (·.1) = l
/-- the executor's joints -/
noncomputable def oX {α : Type} (o : Option α) (F : α → Prop) : Prop := match o with
  | some x => F x
  | none => False
noncomputable def eX {α : Type} (o : Option α) (F : α → Prop) (G : Prop) : Prop := match o with
  | some x => F x
  | none => G
noncomputable def gB (b : Bool) (P : Prop) : Prop := match b with
  | true => P
  | false => False
noncomputable def iB (b : Bool) (P Q : Prop) : Prop := match b with
  | true => P
  | false => Q
theorem oX_ok {α : Type} {o : Option α} {F : α → Prop} (h : oX o F) : ∃ x, o = some x ∧ F x := by
  cases o with
  | some x => exact ⟨x, rfl, h⟩
  | none => exact False.elim h
theorem eX_ok {α : Type} {o : Option α} {F : α → Prop} {G : Prop} (h : eX o F G) : (∃ x, o = some x ∧ F x) ∨ G := by
  cases o with
  | some x => exact .inl ⟨x, rfl, h⟩
  | none => exact .inr h
theorem gB_ok {b : Bool} {P : Prop} (h : gB b P) : b = true ∧ P := by
  cases b with
  | true => exact ⟨rfl, h⟩
  | false => exact False.elim h
theorem iB_ok {b : Bool} {P Q : Prop} (h : iB b P Q) : (b = true ∧ P) ∨ (b = false ∧ Q) := by
  cases b with
  | true => exact .inl ⟨rfl, h⟩
  | false => exact .inr ⟨rfl, h⟩
/-- n is small, and P -/
noncomputable def ltB (n : Nat) (P : Prop) : Prop := gB (Nat.blt n 900) P
theorem ltB_ok {n : Nat} {P : Prop} (h : ltB n P) : n < 900 ∧ P := ⟨Nat.le_of_ble_eq_true (gB_ok h).1, (gB_ok h).2⟩
noncomputable def Sz.ltX (z : Sz) (P : Prop) : Prop := match z with
  | .le n => n < 900 ∧ P
  | .ks l => ltB l.length P
noncomputable def Sz.set (i : Int) : Sz → Sz
  | .le n => .le (n + 1)
  | .ks l => .ks (if l.any (fun j => decide (j = i)) then l else l ++ [i])
noncomputable def Sz.pop (i : Int) : Sz → Sz
  | .le n => .le n
  | .ks l => .ks (l.filter fun j => !decide (j = i))
/-- builtins -/
inductive Bt where
  | int | list | tuple | range | dict | abs | len | sorted
noncomputable def Bt.val : Bt → Value
  | .int => .type "int"
  | .list => .type "list"
  | .tuple => .type "tuple"
  | .range => .type "range"
  | .dict => .type "dict"
  | .abs => .builtin "abs"
  | .len => .builtin "len"
  | .sorted => .builtin "sorted"
/-- abstract values -/
inductive AV where
  | d (x : D)
  | tup (xs : List AV)
  | lst (xs : List AV)
  | slst (ds : List D)
  | tab (f : Int → Option AV) (z : Sz)
  | sdic (kvs : List (Str × AV))
  | inst (C : Addr) (fs : List (Str × AV))
  | obj (k : Nat)
  | fn (a : Addr)
  | blt (b : Bt)
  | rng (n : Nat)
/-- objects that may change -/
inductive AO where
  | lst (xs : List AV)
  | sym (ds : List D)
  | tab (f : Int → Option AV) (z : Sz)
  | ins (C : Addr) (k : Nat)
  | fld (fs : List (Str × AV))
  | cell (v : Option AV)
  | src (k : Nat)
  | srcL
  | any
  | dead
mutual
/-- v stands for the abstract value; ρ: where the objects that may change lie; R: what stands still -/
inductive VR (w : World) (ρ : List Addr) (R : Led) : Value → AV → Prop
  | d {v : Value} {x : D} : DI R v x → VR w ρ R v (.d x)
  | tup {a : Addr} {vs : List Value} {n : Nat} {xs : List AV} : (a, Mine.tup vs n) ∈ R → VRs w ρ R vs xs → VR w ρ R (.ref a) (.tup xs)
  | lst {a : Addr} {vs : List Value} {n : Nat} {xs : List AV} : (a, listOf vs.toArray n) ∈ R → VRs w ρ R vs xs → VR w ρ R (.ref a) (.lst xs)
  | slst {a : Addr} {vs : List Value} {n : Nat} {ds : List D} : (a, listOf vs.toArray n) ∈ R → DIs R vs ds → VR w ρ R (.ref a) (.slst ds)
  | tab {a : Addr} {o : Obj} {kvs : List (Int × Value)} {f : Int → Option AV} {z : Sz} : (a, o) ∈ R → o.IsDictOf (PySem.intKind prg w) kvs → z.ok kvs → (∀ j, OV w ρ R (valueAt kvs j) (f j)) → (a == sysModules) = false → VR w ρ R (.ref a) (.tab f z)
  | sdic {a : Addr} {o : Obj} {kvs : List (Str × Value)} {es : List (Str × AV)} : (a, o) ∈ R → o.IsDictOf (PySem.strKind prg w) kvs → SVs w ρ R kvs es → (a == sysModules) = false → VR w ρ R (.ref a) (.sdic es)
  | inst {a d : Addr} {C : Addr} {es : List DictEntry} {n : Nat} {fs : List (Str × AV)} : (a, instObj C d) ∈ R → (d, dictOf es n) ∈ R → VFs w ρ R es fs → VR w ρ R (.ref a) (.inst C fs)
  | obj {a : Addr} {k : Nat} : ρ[k]? = some a → VR w ρ R (.ref a) (.obj k)
  | fn (a : Addr) : VR w ρ R (.ref a) (.fn a)
  | blt (b : Bt) : VR w ρ R b.val (.blt b)
  | rng {a : Addr} {o : Obj} {n : Nat} : n < 900 → (a, o) ∈ R → (∀ h : Heap, h.get? a = some o → ∃ t u v, IsRange h a 0 (n : Int) 1 t u v) → VR w ρ R (.ref a) (.rng n)
inductive VRs (w : World) (ρ : List Addr) (R : Led) : List Value → List AV → Prop
  | nil : VRs w ρ R [] []
  | cons {v : Value} {a : AV} {vs : List Value} {as : List AV} : VR w ρ R v a → VRs w ρ R vs as → VRs w ρ R (v :: vs) (a :: as)
inductive OV (w : World) (ρ : List Addr) (R : Led) : Option Value → Option AV → Prop
  | none : OV w ρ R Option.none Option.none
  | some {v : Value} {a : AV} : VR w ρ R v a → OV w ρ R (Option.some v) (Option.some a)
inductive SVs (w : World) (ρ : List Addr) (R : Led) : List (Str × Value) → List (Str × AV) → Prop
  | nil : SVs w ρ R [] []
  | cons {x : Str} {v : Value} {a : AV} {vs : List (Str × Value)} {as : List (Str × AV)} : VR w ρ R v a → SVs w ρ R vs as → SVs w ρ R ((x, v) :: vs) ((x, a) :: as)
inductive VFs (w : World) (ρ : List Addr) (R : Led) : List DictEntry → List (Str × AV) → Prop
  | nil : VFs w ρ R [] []
  | cons {h : Int} {x : Str} {t : Tok} {v : Value} {a : AV} {es : List DictEntry} {fs : List (Str × AV)} : VR w ρ R v a → VFs w ρ R es fs → VFs w ρ R (⟨h, .str x t, v⟩ :: es) ((x, a) :: fs)
end
/-- what a value is -/
noncomputable def VInv (w : World) (ρ : List Addr) (R : Led) (v : Value) : AV → Prop
  | .d x => DI R v x
  | .tup xs => ∃ p vs n, v = .ref p ∧ (p, Mine.tup vs n) ∈ R ∧ VRs w ρ R vs xs
  | .lst xs => ∃ p vs n, v = .ref p ∧ (p, listOf vs.toArray n) ∈ R ∧ VRs w ρ R vs xs
  | .slst ds => ∃ p vs n, v = .ref p ∧ (p, listOf vs.toArray n) ∈ R ∧ DIs R vs ds
  | .tab f z => ∃ p o kvs, v = .ref p ∧ (p, o) ∈ R ∧ o.IsDictOf (PySem.intKind prg w) kvs ∧ z.ok kvs ∧ (∀ j, OV w ρ R (valueAt kvs j) (f j)) ∧ (p == sysModules) = false
  | .sdic es => ∃ p o kvs, v = .ref p ∧ (p, o) ∈ R ∧ o.IsDictOf (PySem.strKind prg w) kvs ∧ SVs w ρ R kvs es ∧ (p == sysModules) = false
  | .inst C fs => ∃ p d es n, v = .ref p ∧ (p, instObj C d) ∈ R ∧ (d, dictOf es n) ∈ R ∧ VFs w ρ R es fs
  | .obj k => ∃ p, v = .ref p ∧ ρ[k]? = some p
  | .fn a => v = .ref a
  | .blt b => v = b.val
  | .rng n => ∃ p o, v = .ref p ∧ n < 900 ∧ (p, o) ∈ R ∧ ∀ h : Heap, h.get? p = some o → ∃ t u v, IsRange h p 0 (n : Int) 1 t u v
theorem VR.inv {w : World} {ρ : List Addr} {R : Led} {v : Value} {a : AV} (h : VR w ρ R v a) : VInv w ρ R v a :=
  VR.casesOn (motive_1 := fun v a _ => VInv w ρ R v a) h (fun a => a) (fun a b => ⟨_, _, _, rfl, a, b⟩) (fun a b => ⟨_, _, _, rfl, a, b⟩) (fun a b => ⟨_, _, _, rfl, a, b⟩) (fun a b c d e => ⟨_, _, _, rfl, a, b, c, d, e⟩) (fun a b c d => ⟨_, _, _, rfl, a, b, c, d⟩) (fun a b c => ⟨_, _, _, _, rfl, a, b, c⟩) (fun a => ⟨_, rfl, a⟩) (fun _ => rfl) (fun _ => rfl) (fun z a b => ⟨_, _, rfl, z, a, b⟩)
noncomputable def VsInv (w : World) (ρ : List Addr) (R : Led) (vs : List Value) : List AV → Prop
  | [] => vs = []
  | a :: as => ∃ v r, vs = v :: r ∧ VR w ρ R v a ∧ VRs w ρ R r as
theorem VRs.inv {w : World} {ρ : List Addr} {R : Led} {vs : List Value} {as : List AV} (h : VRs w ρ R vs as) : VsInv w ρ R vs as :=
  VRs.casesOn (motive_2 := fun vs as _ => VsInv w ρ R vs as) h rfl (fun a b => ⟨_, _, rfl, a, b⟩)
noncomputable def OvInv (w : World) (ρ : List Addr) (R : Led) (v : Option Value) : Option AV → Prop
  | none => v = none
  | some a => ∃ u, v = some u ∧ VR w ρ R u a
theorem OV.inv {w : World} {ρ : List Addr} {R : Led} {v : Option Value} {a : Option AV} (h : OV w ρ R v a) : OvInv w ρ R v a :=
  OV.casesOn (motive_3 := fun v a _ => OvInv w ρ R v a) h rfl (fun a => ⟨_, rfl, a⟩)
noncomputable def SsInv (w : World) (ρ : List Addr) (R : Led) (vs : List (Str × Value)) : List (Str × AV) → Prop
  | [] => vs = []
  | p :: as => ∃ v r, vs = (p.1, v) :: r ∧ VR w ρ R v p.2 ∧ SVs w ρ R r as
theorem SVs.inv {w : World} {ρ : List Addr} {R : Led} {vs : List (Str × Value)} {as : List (Str × AV)} (h : SVs w ρ R vs as) : SsInv w ρ R vs as :=
  SVs.casesOn (motive_4 := fun vs as _ => SsInv w ρ R vs as) h rfl (fun a b => ⟨_, _, rfl, a, b⟩)
noncomputable def FsInv (w : World) (ρ : List Addr) (R : Led) (vs : List DictEntry) : List (Str × AV) → Prop
  | [] => vs = []
  | p :: as => ∃ h t v r, vs = ⟨h, .str p.1 t, v⟩ :: r ∧ VR w ρ R v p.2 ∧ VFs w ρ R r as
theorem VFs.inv {w : World} {ρ : List Addr} {R : Led} {vs : List DictEntry} {as : List (Str × AV)} (h : VFs w ρ R vs as) : FsInv w ρ R vs as :=
  VFs.casesOn (motive_5 := fun vs as _ => FsInv w ρ R vs as) h rfl (fun a b => ⟨_, _, _, _, rfl, a, b⟩)
theorem pre_get {ρ ρ' : List Addr} (h : ρ <+: ρ') {k : Nat} {a : Addr} (e : ρ[k]? = some a) : ρ'[k]? = some a := by
  obtain ⟨r, rfl⟩ := h
  rw [List.getElem?_append_left (by rcases Nat.lt_or_ge k ρ.length with l | l; exact l; rw [List.getElem?_eq_none l] at e; cases e)]
  exact e
theorem VR.up {w : World} {ρ ρ' : List Addr} {R R' : Led} (hp : ρ <+: ρ') (hs : ∀ p ∈ R, p ∈ R') {v : Value} {a : AV} (h : VR w ρ R v a) : VR w ρ' R' v a :=
  VR.rec (motive_1 := fun v a _ => VR w ρ' R' v a) (motive_2 := fun v a _ => VRs w ρ' R' v a) (motive_3 := fun v a _ => OV w ρ' R' v a) (motive_4 := fun v a _ => SVs w ρ' R' v a) (motive_5 := fun v a _ => VFs w ρ' R' v a)
    (fun h => .d (h.mono hs)) (fun h _ r => .tup (hs _ h) r) (fun h _ r => .lst (hs _ h) r) (fun h r => .slst (hs _ h) (r.mono hs)) (fun h a b _ d c => .tab (hs _ h) a b c d) (fun h a _ d b => .sdic (hs _ h) a b d) (fun h a _ b => .inst (hs _ h) (hs _ a) b)
    (fun e => .obj (pre_get hp e)) (fun a => .fn a) (fun b => .blt b) (fun z h k => .rng z (hs _ h) k) .nil (fun _ _ h r => .cons h r) .none (fun _ h => .some h) .nil (fun _ _ h r => .cons h r) .nil (fun _ _ h r => .cons h r) h
theorem VRs.up {w : World} {ρ ρ' : List Addr} {R R' : Led} (hp : ρ <+: ρ') (hs : ∀ p ∈ R, p ∈ R') {v : List Value} {a : List AV} (h : VRs w ρ R v a) : VRs w ρ' R' v a := by
  induction a generalizing v with
  | nil => rw [show v = [] from h.inv]; exact .nil
  | cons a as ih => obtain ⟨v, r, rfl, x, y⟩ := h.inv; exact .cons (x.up hp hs) (ih y)
theorem OV.up {w : World} {ρ ρ' : List Addr} {R R' : Led} (hp : ρ <+: ρ') (hs : ∀ p ∈ R, p ∈ R') {v : Option Value} {a : Option AV} (h : OV w ρ R v a) : OV w ρ' R' v a :=
  OV.casesOn (motive_3 := fun v a _ => OV w ρ' R' v a) h .none (fun h => .some (h.up hp hs))
theorem SVs.up {w : World} {ρ ρ' : List Addr} {R R' : Led} (hp : ρ <+: ρ') (hs : ∀ p ∈ R, p ∈ R') {v : List (Str × Value)} {a : List (Str × AV)} (h : SVs w ρ R v a) : SVs w ρ' R' v a := by
  induction a generalizing v with
  | nil => rw [show v = [] from h.inv]; exact .nil
  | cons a as ih => obtain ⟨v, r, rfl, x, y⟩ := h.inv; exact .cons (x.up hp hs) (ih y)
theorem VFs.up {w : World} {ρ ρ' : List Addr} {R R' : Led} (hp : ρ <+: ρ') (hs : ∀ p ∈ R, p ∈ R') {v : List DictEntry} {a : List (Str × AV)} (h : VFs w ρ R v a) : VFs w ρ' R' v a := by
  induction a generalizing v with
  | nil => rw [show v = [] from h.inv]; exact .nil
  | cons a as ih => obtain ⟨x, t, v, r, rfl, y, z⟩ := h.inv; exact .cons (y.up hp hs) (ih z)
/-- what lies at an object's address -/
inductive OR (w : World) (ρ : List Addr) (R : Led) (ad : Addr) : Obj → AO → Prop
  | lst {vs : List Value} {n : Nat} {xs : List AV} : VRs w ρ R vs xs → OR w ρ R ad (listOf vs.toArray n) (.lst xs)
  | sym {vs : List Value} {n : Nat} {ds : List D} : DIs R vs ds → OR w ρ R ad (listOf vs.toArray n) (.sym ds)
  | tab {o : Obj} {kvs : List (Int × Value)} {f : Int → Option AV} {z : Sz} : o.IsDictOf (PySem.intKind prg w) kvs → z.ok kvs → (∀ j, OV w ρ R (valueAt kvs j) (f j)) → (ad == sysModules) = false → OR w ρ R ad o (.tab f z)
  | ins {C d : Addr} {k : Nat} : ρ[k]? = some d → OR w ρ R ad (instObj C d) (.ins C k)
  | fld {es : List DictEntry} {n : Nat} {fs : List (Str × AV)} : VFs w ρ R es fs → OR w ρ R ad (dictOf es n) (.fld fs)
  | celln {o : Obj} : o.data = .cell none → OR w ρ R ad o (.cell none)
  | cell {o : Obj} {v : Value} {a : AV} : o.data = .cell (some v) → VR w ρ R v a → OR w ρ R ad o (.cell (some a))
  | src {k : Nat} {aL : Addr} {x y : Int} {t1 t2 : Tok} {n : Nat} : ρ[k]? = some aL → OR w ρ R ad (listOf #[.int x t1, .int y t2, .ref aL] n) (.src k)
  | srcL {vs : List Value} {ns : List Int} {n : Nat} : IntsAre vs ns → vs.length < 900 → OR w ρ R ad (listOf vs.toArray n) .srcL
  | any {o : Obj} : OR w ρ R ad o .any
  | dead {o : Obj} : OR w ρ R ad o .dead
theorem OR.up {w : World} {ρ ρ' : List Addr} {R R' : Led} {ad : Addr} (hp : ρ <+: ρ') (hs : ∀ p ∈ R, p ∈ R') {o : Obj} {a : AO} (h : OR w ρ R ad o a) : OR w ρ' R' ad o a :=
  OR.casesOn (motive := fun o a _ => OR w ρ' R' ad o a) h (fun h => .lst (h.up hp hs)) (fun h => .sym (h.mono hs)) (fun a b c d => .tab a b (fun j => (c j).up hp hs) d) (fun e => .ins (pre_get hp e)) (fun h => .fld (h.up hp hs)) (fun h => .celln h) (fun h k => .cell h (k.up hp hs)) (fun e => .src (pre_get hp e)) (fun h z => .srcL h z) .any .dead
/-- what an object is -/
noncomputable def OInv (w : World) (ρ : List Addr) (R : Led) (ad : Addr) (o : Obj) : AO → Prop
  | .lst xs => ∃ vs n, o = listOf vs.toArray n ∧ VRs w ρ R vs xs
  | .sym ds => ∃ vs n, o = listOf vs.toArray n ∧ DIs R vs ds
  | .tab f z => ∃ kvs, o.IsDictOf (PySem.intKind prg w) kvs ∧ z.ok kvs ∧ (∀ j, OV w ρ R (valueAt kvs j) (f j)) ∧ (ad == sysModules) = false
  | .ins C k => ∃ d, o = instObj C d ∧ ρ[k]? = some d
  | .fld fs => ∃ es n, o = dictOf es n ∧ VFs w ρ R es fs
  | .cell v => ∃ u, o.data = .cell u ∧ OV w ρ R u v
  | .src k => ∃ aL x y t1 t2 n, o = listOf #[.int x t1, .int y t2, .ref aL] n ∧ ρ[k]? = some aL
  | .srcL => ∃ vs ns n, o = listOf vs.toArray n ∧ IntsAre vs ns ∧ vs.length < 900
  | _ => True
theorem OR.inv {w : World} {ρ : List Addr} {R : Led} {ad : Addr} {o : Obj} {a : AO} (h : OR w ρ R ad o a) : OInv w ρ R ad o a :=
  OR.casesOn (motive := fun o a _ => OInv w ρ R ad o a) h (fun h => ⟨_, _, rfl, h⟩) (fun h => ⟨_, _, rfl, h⟩) (fun a b c d => ⟨_, a, b, c, d⟩) (fun e => ⟨_, rfl, e⟩) (fun h => ⟨_, _, rfl, h⟩) (fun h => ⟨_, h, .none⟩) (fun h k => ⟨_, h, .some k⟩) (fun e => ⟨_, _, _, _, _, _, rfl, e⟩) (fun h z => ⟨_, _, _, rfl, h, z⟩) trivial trivial
inductive ORs (w : World) (ρ : List Addr) (R : Led) : List Addr → List Obj → List AO → Prop
  | nil : ORs w ρ R [] [] []
  | cons {ad : Addr} {o : Obj} {a : AO} {ads : List Addr} {os : List Obj} {as : List AO} : OR w ρ R ad o a → ORs w ρ R ads os as → ORs w ρ R (ad :: ads) (o :: os) (a :: as)
section
variable {w : World} {ρ : List Addr} {R : Led} {ads : List Addr} {os : List Obj} {as : List AO}
theorem ORs.up {ρ' : List Addr} {R' : Led} (hp : ρ <+: ρ') (hs : ∀ p ∈ R, p ∈ R') (h : ORs w ρ R ads os as) : ORs w ρ' R' ads os as := by
  induction h with
  | nil => exact .nil
  | cons h _ ih => exact .cons (h.up hp hs) ih
theorem ORs.length (h : ORs w ρ R ads os as) : os.length = as.length := by
  induction h with
  | nil => rfl
  | cons _ _ ih => simp [ih]
theorem ORs.get (h : ORs w ρ R ads os as) {k : Nat} {a : AO} (e : as[k]? = some a) : ∃ ad o, ads[k]? = some ad ∧ os[k]? = some o ∧ OR w ρ R ad o a := by
  induction h generalizing k with
  | nil => cases e
  | cons h _ ih =>
    cases k with
    | zero => cases e; exact ⟨_, _, rfl, rfl, h⟩
    | succ k => exact ih e
theorem ORs.set (h : ORs w ρ R ads os as) {k : Nat} {o : Obj} {a : AO} (e : ∀ ad, ads[k]? = some ad → OR w ρ R ad o a) : ORs w ρ R ads (os.set k o) (as.set k a) := by
  induction h generalizing k with
  | nil => exact .nil
  | cons h r ih =>
    cases k with
    | zero => exact .cons (e _ rfl) r
    | succ k => exact .cons h (ih e)
theorem ORs.snoc (h : ORs w ρ R ads os as) {ad : Addr} {o : Obj} {a : AO} (e : OR w ρ R ad o a) : ORs w ρ R (ads ++ [ad]) (os ++ [o]) (as ++ [a]) := by
  induction h with
  | nil => exact .cons e .nil
  | cons h _ ih => exact .cons h ih
end
theorem VRs.length {w : World} {ρ : List Addr} {R : Led} {vs : List Value} {as : List AV} (h : VRs w ρ R vs as) : vs.length = as.length := by
  induction as generalizing vs with
  | nil => rw [show vs = [] from h.inv]; rfl
  | cons a as ih => obtain ⟨v, r, rfl, x, y⟩ := h.inv; exact congrArg (· + 1) (ih y)
theorem VRs.get {w : World} {ρ : List Addr} {R : Led} {vs : List Value} {as : List AV} (h : VRs w ρ R vs as) {k : Nat} {a : AV} (e : as[k]? = some a) : ∃ v, vs[k]? = some v ∧ VR w ρ R v a := by
  induction as generalizing vs k with
  | nil => exact nomatch e
  | cons b as ih =>
    obtain ⟨v, r, rfl, x, y⟩ := h.inv
    cases k with
    | zero => exact ⟨v, rfl, Option.some.inj e ▸ x⟩
    | succ k => exact ih y e
theorem VRs.append {w : World} {ρ : List Addr} {R : Led} {vs ws : List Value} {as bs : List AV} (h : VRs w ρ R vs as) (k : VRs w ρ R ws bs) : VRs w ρ R (vs ++ ws) (as ++ bs) := by
  induction as generalizing vs with
  | nil => rw [show vs = [] from h.inv]; exact k
  | cons a as ih => obtain ⟨v, r, rfl, x, y⟩ := h.inv; exact .cons x (ih y)
theorem VRs.set {w : World} {ρ : List Addr} {R : Led} {vs : List Value} {as : List AV} (h : VRs w ρ R vs as) {k : Nat} {v : Value} {a : AV} (e : VR w ρ R v a) : VRs w ρ R (vs.set k v) (as.set k a) := by
  induction as generalizing vs k with
  | nil => rw [show vs = [] from h.inv]; exact .nil
  | cons b as ih =>
    obtain ⟨u, r, rfl, x, y⟩ := h.inv
    cases k with
    | zero => exact .cons e y
    | succ k => exact .cons x (ih y)
end
section
/-- what a name stands for -/
inductive Slot where
  | un
  | av (a : AV)
  | cell (k : Nat)
  | gl (a : AV)
abbrev Lm := List (Str × Slot)
structure Ctx where
  w : World
  mean : ExcName → Option Value
  mg : Str → Option Value
  mb : Str → Option Value
  dp : Nat
  un : Nat
  gd : Option (List Code)
  cn : Str
  cs : Scope
  L : Addr
  a : Addr
  ccd : Value
  cl : List (Str × Addr)
  outer : List Env
  A₀ : Around
  base : Heap
  h₀ : Heap
  gh : Led
abbrev Ctx.env (c : Ctx) : Env := envX c.cn c.cs c.L c.a c.ccd c.cl
abbrev Ctx.A (c : Ctx) : Around := ktrTop c.dp c.un c.gd c.cn c.cs c.L c.a c.ccd c.cl c.outer
noncomputable abbrev KH (w : World) : Frag := top9 w.params
structure Ctx.OK (c : Ctx) (n : Nat) : Prop where
  B : Below c.A₀ c.base c.outer c.h₀
  X : (KH c.w).In c.h₀
  T : Top view9 lz c.mean c.mg c.mb c.h₀
  hk : c.cs.kind = .function
  hd : c.dp + 2 * n + 4 < recursionLimit
  hu : c.un + 10 * n + 100 < cLine
theorem Ctx.OK.lt {c : Ctx} {n m : Nat} (x : c.OK n) (h : m ≤ n) : c.OK m := ⟨x.B, x.X, x.T, x.hk, Nat.lt_of_le_of_lt (by omega) x.hd, Nat.lt_of_le_of_lt (by omega) x.hu⟩
/-- where an expression is evaluated: in the def's own frame, or in a comprehension within it -/
inductive EK where
  | df
  | cp (scope : Scope) (cl : List (Str × Addr)) (C : Addr) (l₀ : List (Str × Slot))
abbrev EK.env (c : Ctx) : EK → Env
  | .df => c.env
  | .cp sc cl C _ => compEnvC sc cl C c.env
/-- a name of the text's top or a builtin -/
noncomputable def GlAt (w : World) (x : Str) (a : AV) : Prop := ∃ v, VR w [] [] v a ∧ (nsIn (KH w) mainGlobals x = some (some v) ∨ (nsIn (KH w) mainGlobals x = some none ∧ bootBuiltins x = some v ∧ x ≠ Str.ofString "__name__"))
abbrev noDbg (x : Str) : Prop := (x == Str.ofString "__debug__") = false
/-- a name in the def's frame -/
noncomputable def SlD (c : Ctx) (ρ : List Addr) (R : Led) (m : Str → Option Value) (x : Str) : Slot → Prop
  | .un => c.cs.names.lookup x = some .local ∧ noDbg x
  | .av a => (c.cs.names.lookup x = some .local ∧ noDbg x) ∧ ∃ v, m x = some v ∧ VR c.w ρ R v a
  | .cell k => (c.cs.names.lookup x = some .cell ∧ noDbg x) ∧ ∃ ad, c.cl.lookup x = some ad ∧ ρ[k]? = some ad
  | .gl a => (c.cs.names.lookup x = some .globalImplicit ∧ noDbg x) ∧ GlAt c.w x a
/-- a name in a comprehension -/
noncomputable def SlC (c : Ctx) (ρ : List Addr) (R : Led) (sc : Scope) (cl : List (Str × Addr)) (m : Str → Option Value) (x : Str) : Slot → Prop
  | .un => (relabel sc c.env).names.lookup x = some .local ∧ noDbg x
  | .av a => ((relabel sc c.env).names.lookup x = some .local ∧ noDbg x) ∧ ∃ v, m x = some v ∧ VR c.w ρ R v a
  | .cell k => ((relabel sc c.env).names.lookup x = some .cell ∧ noDbg x) ∧ ∃ ad, cl.lookup x = some ad ∧ ρ[k]? = some ad
  | .gl a => ((relabel sc c.env).names.lookup x = some .globalImplicit ∧ noDbg x) ∧ GlAt c.w x a
noncomputable def LmOK (c : Ctx) (ek : EK) (ρ : List Addr) (R : Led) (m : Str → Option Value) (lm : Lm) : Prop := match ek with
  | .df => ∀ p ∈ lm, SlD c ρ R m p.1 p.2
  | .cp sc cl C l₀ => (∀ p ∈ l₀, SlD c ρ R m p.1 p.2) ∧ (relabel sc c.env).kind = .function ∧ ∃ oC m₂, (C, oC) ∈ c.gh ∧ LCg.NsObj oC m₂ ∧ ∀ p ∈ lm, SlC c ρ R sc cl m₂ p.1 p.2
theorem SlD.up {c : Ctx} {ρ ρ' : List Addr} {R R' : Led} {m : Str → Option Value} {x : Str} {sl : Slot} (hp : ρ <+: ρ') (hs : ∀ p ∈ R, p ∈ R') (h : SlD c ρ R m x sl) : SlD c ρ' R' m x sl := by
  cases sl with
  | un => exact h
  | av a => obtain ⟨k, v, e, r⟩ := h; exact ⟨k, v, e, r.up hp hs⟩
  | cell k => obtain ⟨k, v, e, r⟩ := h; exact ⟨k, v, e, pre_get hp r⟩
  | gl a => exact h
theorem SlC.up {c : Ctx} {ρ ρ' : List Addr} {R R' : Led} {sc : Scope} {cl : List (Str × Addr)} {m : Str → Option Value} {x : Str} {sl : Slot} (hp : ρ <+: ρ') (hs : ∀ p ∈ R, p ∈ R') (h : SlC c ρ R sc cl m x sl) : SlC c ρ' R' sc cl m x sl := by
  cases sl with
  | un => exact h
  | av a => obtain ⟨k, v, e, r⟩ := h; exact ⟨k, v, e, r.up hp hs⟩
  | cell k => obtain ⟨k, v, e, r⟩ := h; exact ⟨k, v, e, pre_get hp r⟩
  | gl a => exact h
theorem LmOK.up {c : Ctx} {ek : EK} {ρ ρ' : List Addr} {R R' : Led} {m : Str → Option Value} {lm : Lm} (hp : ρ <+: ρ') (hs : ∀ p ∈ R, p ∈ R') (h : LmOK c ek ρ R m lm) : LmOK c ek ρ' R' m lm := by
  cases ek with
  | df => exact fun p hp' => (h p hp').up hp hs
  | cp sc cl C l₀ => obtain ⟨e0, e, oC, m₂, a, b, k⟩ := h; exact ⟨fun p hp' => (e0 p hp').up hp hs, e, oC, m₂, a, b, fun p hp' => (k p hp').up hp hs⟩
/-- the state: what the names stand for, the objects that may change -/
structure St (c : Ctx) (ek : EK) (ρ : List Addr) (R : Led) (lm : Lm) (H : List AO) (h : Heap) : Prop where
  st : ∃ m os, Fr c.h₀ c.L h m ∧ News c.h₀ c.L h (ρ.zip os ++ (R ++ c.gh)) ∧ ORs c.w ρ R ρ os H ∧ ρ.length = os.length ∧ ρ.Nodup ∧ (∀ p ∈ R, ∀ k : Nat, ρ[k]? = some p.1 → H[k]? = some .dead) ∧ (∀ p ∈ c.gh, p.1 ∉ ρ ∧ ∀ q ∈ R, q.1 ≠ p.1) ∧ LmOK c ek ρ R m lm
structure Wd where
  s : Shared
  ρ : List Addr
  R : Led
structure Le (a b : Wd) : Prop where
  s : ∃ h tk, b.s = { a.s with heap := h, toks := tk }
  p : a.ρ <+: b.ρ
  R : ∀ p ∈ a.R, p ∈ b.R
theorem Le.refl {a : Wd} : Le a a := ⟨⟨_, _, rfl⟩, List.prefix_refl _, fun _ h => h⟩
theorem Le.trans {a b c : Wd} (x : Le a b) (y : Le b c) : Le a c := by
  obtain ⟨⟨h, t, e⟩, p, r⟩ := x
  obtain ⟨⟨h', t', e'⟩, p', r'⟩ := y
  exact ⟨⟨h', t', by rw [e', e]⟩, p.trans p', fun q hq => r' q (r q hq)⟩
noncomputable def PP {α : Type} (a : Wd) (Φ : α → Wd → Prop) : α → Shared → Prop := fun v s' => ∃ b : Wd, b.s = s' ∧ Le a b ∧ Φ v b
theorem PP.up {α : Type} {a b : Wd} {Φ : α → Wd → Prop} {v : α} {s' : Shared} (l : Le a b) (h : PP b Φ v s') : PP a Φ v s' := by
  obtain ⟨d, e, l', f⟩ := h
  exact ⟨d, e, l.trans l', f⟩
theorem PP.ret {α : Type} {a b : Wd} {Φ : α → Wd → Prop} {v : α} (l : Le a b) (f : Φ v b) : PP a Φ v b.s := ⟨b, rfl, l, f⟩
abbrev WP {α : Type} (c : Ctx) (t : Sem α) (a : Wd) (Φ : α → Wd → Prop) (E : Value → Shared → Prop) : Prop := wpAny (model prg c.w) c.A t (PP a Φ) E a.s
theorem WP.then {α : Type} {c : Ctx} {t : Sem α} {a : Wd} {Φ : α → Wd → Prop} {Q : α → Shared → Prop} {E : Value → Shared → Prop} (h : WP c t a Φ E) (k : ∀ v b, Le a b → Φ v b → Q v b.s) : wpAny (model prg c.w) c.A t Q E a.s :=
  wpAny_mono h (fun v s' ⟨b, e, l, f⟩ => e ▸ k v b l f) fun _ _ e => e
theorem WP.le {α : Type} {c : Ctx} {t : Sem α} {a b : Wd} {Φ : α → Wd → Prop} {E : Value → Shared → Prop} (l : Le a b) (h : WP c t b Φ E) : wpAny (model prg c.w) c.A t (PP a Φ) E b.s :=
  wpAny_mono h (fun _ _ x => x.up l) fun _ _ e => e
noncomputable def VΦ (c : Ctx) (ek : EK) (lm : Lm) (P : AV → List AO → Prop) : Value → Wd → Prop := fun v b => ∃ a H, P a H ∧ St c ek b.ρ b.R lm H b.s.heap ∧ VR c.w b.ρ b.R v a
noncomputable def VsΦ (c : Ctx) (ek : EK) (lm : Lm) (P : List AV → List AO → Prop) : List Value → Wd → Prop := fun v b => ∃ a H, P a H ∧ St c ek b.ρ b.R lm H b.s.heap ∧ VRs c.w b.ρ b.R v a
noncomputable def BΦ (c : Ctx) (ek : EK) (lm : Lm) (P : Bool → List AO → Prop) : Bool → Wd → Prop := fun v b => ∃ H, P v H ∧ St c ek b.ρ b.R lm H b.s.heap
/-- the tree t leads from the state (lm, H) to what P says -/
noncomputable def JE (c : Ctx) (ek : EK) (lm : Lm) (H : List AO) (t : Sem Value) (P : AV → List AO → Prop) : Prop := ∀ a E, St c ek a.ρ a.R lm H a.s.heap → WP c t a (VΦ c ek lm P) E
noncomputable def JB (c : Ctx) (ek : EK) (lm : Lm) (H : List AO) (t : Sem Bool) (P : Bool → List AO → Prop) : Prop := ∀ a E, St c ek a.ρ a.R lm H a.s.heap → WP c t a (BΦ c ek lm P) E
noncomputable def JL (c : Ctx) (ek : EK) (lm : Lm) (H : List AO) (t : Sem (List Value)) (P : List AV → List AO → Prop) : Prop := ∀ a E, St c ek a.ρ a.R lm H a.s.heap → WP c t a (VsΦ c ek lm P) E
/-- the same heap, other tokens -/
noncomputable def Wd.tk (a : Wd) (t : Nat) : Wd := ⟨{ a.s with toks := t }, a.ρ, a.R⟩
theorem Le.tk {a : Wd} {t : Nat} : Le a (a.tk t) := ⟨⟨_, _, rfl⟩, List.prefix_refl _, fun _ h => h⟩
theorem zip_in {ρ : List Addr} {os : List Obj} {k : Nat} {a : Addr} {o : Obj} (h1 : ρ[k]? = some a) (h2 : os[k]? = some o) : (a, o) ∈ ρ.zip os := by
  apply List.mem_iff_getElem?.mpr
  exact ⟨k, by simp [List.getElem?_zip_eq_some, h1, h2]⟩
section
variable {c : Ctx} {ek : EK} {ρ : List Addr} {R : Led} {lm : Lm} {H : List AO} {h : Heap}
/-- what a state is made of -/
structure Raw (c : Ctx) (ek : EK) (ρ : List Addr) (R : Led) (lm : Lm) (H : List AO) (m : Str → Option Value) (os : List Obj) : Prop where
  O : ORs c.w ρ R ρ os H
  el : ρ.length = os.length
  nd : ρ.Nodup
  of : ∀ p ∈ R, ∀ k : Nat, ρ[k]? = some p.1 → H[k]? = some .dead
  gd : ∀ p ∈ c.gh, p.1 ∉ ρ ∧ ∀ q ∈ R, q.1 ≠ p.1
  lo : LmOK c ek ρ R m lm
theorem St.raw (x : St c ek ρ R lm H h) : ∃ m os, Fr c.h₀ c.L h m ∧ News c.h₀ c.L h (ρ.zip os ++ (R ++ c.gh)) ∧ Raw c ek ρ R lm H m os := by
  obtain ⟨m, os, F, N, O, el, nd, of, gd, lo⟩ := x.st
  exact ⟨m, os, F, N, O, el, nd, of, gd, lo⟩
theorem Raw.st {m : Str → Option Value} {os : List Obj} (x : Raw c ek ρ R lm H m os) (F : Fr c.h₀ c.L h m) (N : News c.h₀ c.L h (ρ.zip os ++ (R ++ c.gh))) : St c ek ρ R lm H h := ⟨m, os, F, N, x.O, x.el, x.nd, x.of, x.gd, x.lo⟩
/-- a new object that stands still -/
theorem St.still {m : Str → Option Value} {os : List Obj} {h' : Heap} {d : Addr} {o : Obj} (F : Fr c.h₀ c.L h' m) (N : News c.h₀ c.L h' ((d, o) :: (ρ.zip os ++ (R ++ c.gh)))) (x : Raw c ek ρ R lm H m os) (nR : ∀ p ∈ ρ.zip os ++ (R ++ c.gh), p.1 ≠ d) :
    St c ek ρ ((d, o) :: R) lm H h' := by
  obtain ⟨O, el, nd, of, gd, lo⟩ := x
  refine ⟨m, os, F, fun p hp => N p ?_, O.up (List.prefix_refl _) fun _ h => .tail _ h, el, nd, fun p hp j hj => ?_, fun p hp => ⟨(gd p hp).1, fun q hq => ?_⟩, lo.up (List.prefix_refl _) fun _ h => .tail _ h⟩
  · rcases List.mem_append.mp hp with hp | hp
    · exact .tail _ (List.mem_append_left _ hp)
    · rcases List.mem_cons.mp hp with rfl | hp
      · exact .head _
      · exact .tail _ (List.mem_append_right _ hp)
  · rcases List.mem_cons.mp hp with rfl | hp
    · have kl : j < os.length := by rcases Nat.lt_or_ge j ρ.length with l | l; omega; rw [List.getElem?_eq_none l] at hj; cases hj
      exact absurd rfl (nR (_, os[j]) (List.mem_append_left _ (zip_in hj (by simp [kl]))))
    · exact of p hp j hj
  · rcases List.mem_cons.mp hq with rfl | hq
    · exact Ne.symm (nR p (List.mem_append_right _ (List.mem_append_right _ hp)))
    · exact (gd p hp).2 q hq
/-- a new object that may change -/
theorem St.alloc {m : Str → Option Value} {os : List Obj} {h' : Heap} {d : Addr} {o : Obj} {ao : AO} (F : Fr c.h₀ c.L h' m) (N : News c.h₀ c.L h' ((d, o) :: (ρ.zip os ++ (R ++ c.gh)))) (x : Raw c ek ρ R lm H m os) (nR : ∀ p ∈ ρ.zip os ++ (R ++ c.gh), p.1 ≠ d) (r : OR c.w (ρ ++ [d]) R d o ao) :
    St c ek (ρ ++ [d]) R lm (H ++ [ao]) h' := by
  obtain ⟨O, el, nd, of, gd, lo⟩ := x
  have hd : d ∉ ρ := fun hd => by
    obtain ⟨k, hk⟩ := List.mem_iff_getElem?.mp hd
    have kl : k < os.length := by rcases Nat.lt_or_ge k ρ.length with l | l; omega; rw [List.getElem?_eq_none l] at hk; cases hk
    exact nR (d, os[k]) (List.mem_append_left _ (zip_in hk (by simp [kl]))) rfl
  refine ⟨m, os ++ [o], F, fun p hp => N p ?_, (O.up (List.prefix_append _ _) fun _ h => h).snoc r, by simp [el], ?_, fun p hp j hj => ?_, fun p hp => ⟨fun q => ?_, (gd p hp).2⟩, lo.up (List.prefix_append _ _) fun _ h => h⟩
  · rw [List.zip_append el] at hp
    simp only [List.zip_cons_cons, List.zip_nil_left, List.append_assoc, List.mem_append, List.mem_cons, List.mem_nil_iff, or_false] at hp ⊢
    rcases hp with hp | hp | hp
    · exact .inr (.inl hp)
    · exact .inl hp
    · exact .inr (.inr hp)
  · exact List.nodup_append.mpr ⟨nd, by simp, fun a ha b hb => by rw [List.mem_singleton.mp hb]; exact fun e => hd (e ▸ ha)⟩
  · rcases Nat.lt_or_ge j ρ.length with hl | hl
    · rw [List.getElem?_append_left hl] at hj
      rw [List.getElem?_append_left (by rw [← O.length, ← el]; exact hl)]
      exact of p hp j hj
    · rw [List.getElem?_append_right hl] at hj
      have := nR p (List.mem_append_right _ (List.mem_append_left _ hp))
      rcases Nat.eq_zero_or_pos (j - ρ.length) with e | e
      · rw [e] at hj; cases hj; exact absurd rfl this
      · rw [List.getElem?_eq_none (by show 1 ≤ _; omega)] at hj; cases hj
  · rcases List.mem_append.mp q with q | q
    · exact (gd p hp).1 q
    · exact nR p (List.mem_append_right _ (List.mem_append_right _ hp)) (List.mem_singleton.mp q)
end
section
variable {c : Ctx} {ek : EK} {ρ : List Addr} {R : Led} {lm : Lm} {H : List AO} {h : Heap}
theorem set_same {α : Type} : ∀ {l : List α} {k : Nat} {x : α}, l[k]? = some x → l.set k x = l
  | [], _, _, h => nomatch h
  | _ :: _, 0, _, h => by cases h; rfl
  | a :: l, k + 1, x, h => congrArg (a :: ·) (set_same (l := l) h)
theorem nodup_get {ρ : List Addr} (nd : ρ.Nodup) {i j : Nat} {a : Addr} (h1 : ρ[i]? = some a) (h2 : ρ[j]? = some a) : i = j := by
  have l1 : i < ρ.length := by rcases Nat.lt_or_ge i ρ.length with l | l; exact l; rw [List.getElem?_eq_none l] at h1; cases h1
  exact (List.getElem?_inj l1 nd).mp (h1.trans h2.symm)
/-- the state opened at a slot, to change what lies there -/
theorem St.at (st : St c ek ρ R lm H h) {k : Nat} {ao : AO} (e : H[k]? = some ao) (hd : ao ≠ .dead) : ∃ m ad o rest, Fr c.h₀ c.L h m ∧ News c.h₀ c.L h ((ad, o) :: rest) ∧ (∀ p ∈ rest, p.1 ≠ ad) ∧ (∀ p ∈ R, p ∈ rest) ∧ ρ[k]? = some ad ∧ OR c.w ρ R ad o ao ∧
    (∀ (j : Nat) aj, j ≠ k → H[j]? = some aj → ∃ adj oj, ρ[j]? = some adj ∧ (adj, oj) ∈ rest ∧ OR c.w ρ R adj oj aj) ∧
    (∀ h' o' ao', Fr c.h₀ c.L h' m → News c.h₀ c.L h' ((ad, o') :: rest) → OR c.w ρ R ad o' ao' → St c ek ρ R lm (H.set k ao') h') ∧
    St c ek ρ ((ad, o) :: R) lm (H.set k .dead) h := by
  obtain ⟨m, os, F, N, O, el, nd, of, gd, lo⟩ := st.st
  obtain ⟨ad, o, ha, eo, r⟩ := O.get e
  have hk : k < os.length := by rcases Nat.lt_or_ge k os.length with l | l; exact l; rw [List.getElem?_eq_none l] at eo; cases eo
  have hR : ∀ p ∈ R, p.1 ≠ ad := fun p hp q => hd (Option.some.inj (e.symm.trans (of p hp k (q ▸ ha))))
  have hG : ∀ p ∈ c.gh, p.1 ≠ ad := fun p hp q => (gd p hp).1 (q ▸ List.mem_of_getElem? ha)
  have hRG : ∀ p ∈ R ++ c.gh, p.1 ≠ ad := fun p hp => by
    rcases List.mem_append.mp hp with hp | hp
    · exact hR p hp
    · exact hG p hp
  have inr : ∀ {j : Nat} {a : Addr} {x : Obj}, j ≠ k → ρ[j]? = some a → os[j]? = some x → (a, x) ∈ (ρ.zip os ++ (R ++ c.gh)).filter fun p => decide (p.1 ≠ ad) := fun hj h1 h2 =>
    List.mem_filter.mpr ⟨List.mem_append_left _ (zip_in h1 h2), decide_eq_true fun q => hj (nodup_get nd h1 (by rw [ha]; exact congrArg some q.symm))⟩
  have st2 : ∀ {p : Addr × Obj} {o' : Obj}, p ∈ ρ.zip (os.set k o') ++ (R ++ c.gh) → p ∈ (ad, o') :: (ρ.zip os ++ (R ++ c.gh)).filter fun p => decide (p.1 ≠ ad) := fun {p o'} hp => by
    rcases List.mem_append.mp hp with hp | hp
    · obtain ⟨j, hj⟩ := List.mem_iff_getElem?.mp hp
      obtain ⟨h1, h2⟩ := List.getElem?_zip_eq_some.mp hj
      by_cases q : j = k
      · subst q
        rw [List.getElem?_set_self hk] at h2
        have := Option.some.inj (h1.symm.trans ha)
        cases Option.some.inj h2
        rw [← this]
        exact .head _
      · rw [List.getElem?_set_ne (Ne.symm q)] at h2
        exact .tail _ (inr q h1 h2)
    · exact .tail _ (List.mem_filter.mpr ⟨List.mem_append_right _ hp, decide_eq_true (hRG p hp)⟩)
  refine ⟨m, _, o, (ρ.zip os ++ (R ++ c.gh)).filter fun p => decide (p.1 ≠ ad), F, fun p hp => ?_, fun p hp => by simpa using (List.mem_filter.mp hp).2, fun p hp => List.mem_filter.mpr ⟨List.mem_append_right _ (List.mem_append_left _ hp), decide_eq_true (hR p hp)⟩, ha, r, fun j aj hj ej => ?_, fun h' o' ao' F' N' r' => ?_, ?_⟩
  · rcases List.mem_cons.mp hp with rfl | hp
    · exact N _ (List.mem_append_left _ (zip_in ha eo))
    · exact N _ (List.mem_filter.mp hp).1
  · obtain ⟨adj, oj, haj, eoj, rj⟩ := O.get ej
    exact ⟨_, oj, haj, inr hj haj eoj, rj⟩
  · refine ⟨m, os.set k o', F', fun p hp => N' p (st2 hp), O.set (fun ad' h' => Option.some.inj (ha.symm.trans h') ▸ r'), by simp [el], nd, fun p hp j hj => ?_, gd, lo⟩
    rw [List.getElem?_set_ne]
    · exact of p hp j hj
    · intro q
      subst q
      exact hR p hp (Option.some.inj (hj.symm.trans ha))
  · refine ⟨m, os, F, fun p hp => ?_, ?_, el, nd, fun p hp j hj => ?_, fun p hp => ⟨(gd p hp).1, fun q hq => ?_⟩, lo.up (List.prefix_refl _) fun _ h => .tail _ h⟩
    · rcases List.mem_append.mp hp with hp | hp
      · exact N p (List.mem_append_left _ hp)
      · rcases List.mem_cons.mp hp with rfl | hp
        · exact N _ (List.mem_append_left _ (zip_in ha eo))
        · exact N p (List.mem_append_right _ hp)
    · have := (O.up (List.prefix_refl _) (fun _ h => .tail _ h) : ORs c.w ρ ((ad, o) :: R) ρ os H).set (k := k) (o := o) (a := .dead) fun _ _ => .dead
      rwa [set_same eo] at this
    · by_cases q : j = k
      · rw [q, List.getElem?_set_self (by rw [← O.length]; exact hk)]
      · rcases List.mem_cons.mp hp with rfl | hp2
        · exact absurd (nodup_get nd hj ha) q
        · rw [List.getElem?_set_ne (Ne.symm q)]; exact of p hp2 j hj
    · rcases List.mem_cons.mp hq with rfl | hq
      · exact Ne.symm (hG p hp)
      · exact (gd p hp).2 q hq
end
end
section
/-- the executor: what is seen of values -/
noncomputable def intD : D → Option Int
  | .int i => some i
  | _ => none
noncomputable def strD : D → Option Str
  | .str x => some x
  | _ => none
noncomputable def boolD : D → Option Bool
  | .bool b => some b
  | _ => none
noncomputable def tupD : D → Option (List D)
  | .tup ds => some ds
  | _ => none
noncomputable def dA : AV → Option D
  | .d x => some x
  | _ => none
noncomputable def lsA : AV → Option (List AV)
  | .lst xs => some xs
  | _ => none
noncomputable def objA : AV → Option Nat
  | .obj k => some k
  | _ => none
noncomputable def fnA : AV → Option Addr
  | .fn a => some a
  | _ => none
noncomputable def sdA : AV → Option (List (Str × AV))
  | .sdic es => some es
  | _ => none
noncomputable def intA (a : AV) : Option Int := (dA a).bind intD
noncomputable def strA (a : AV) : Option Str := (dA a).bind strD
noncomputable def boolA (a : AV) : Option Bool := (dA a).bind boolD
noncomputable def tupA (a : AV) : Option (List D) := (dA a).bind tupD
noncomputable def isNoneA : AV → Bool
  | .d .none => true
  | _ => false
noncomputable def seqA : AV → Option (List AV)
  | .tup xs => some xs
  | .d x => (tupD x).map fun ds => ds.map .d
  | _ => none
noncomputable def two {α β : Type} (f : β → Option α) (a b : β) : Option (α × α) := (f a).bind fun x => (f b).map fun y => (x, y)
noncomputable def one : List AV → Option AV
  | [v] => some v
  | _ => none
noncomputable def pair2 : List AV → Option (AV × AV)
  | [v, u] => some (v, u)
  | _ => none
/-- what is seen of slots -/
abbrev Hp := List AO
noncomputable def aoL : AO → Option (List AV)
  | .lst xs => some xs
  | _ => none
noncomputable def aoS : AO → Option (List D)
  | .sym ds => some ds
  | _ => none
noncomputable def aoT : AO → Option ((Int → Option AV) × Sz)
  | .tab f z => some (f, z)
  | _ => none
noncomputable def aoI : AO → Option (Addr × Nat)
  | .ins C j => some (C, j)
  | _ => none
noncomputable def aoF : AO → Option (List (Str × AV))
  | .fld fs => some fs
  | _ => none
noncomputable def aoC : AO → Option (Option AV)
  | .cell v => some v
  | _ => none
noncomputable def lsIn (a : AV) (H : Hp) : Option (List AV) := match a with
  | .lst xs => some xs
  | .obj k => (H[k]?).bind aoL
  | _ => none
noncomputable def syIn (a : AV) (H : Hp) : Option (List D) := match a with
  | .slst ds => some ds
  | .obj k => (H[k]?).bind aoS
  | _ => none
noncomputable def tbIn (a : AV) (H : Hp) : Option ((Int → Option AV) × Sz) := match a with
  | .tab f z => some (f, z)
  | .obj k => (H[k]?).bind aoT
  | _ => none
noncomputable def flIn (a : AV) (H : Hp) : Option (Addr × List (Str × AV)) := match a with
  | .inst C fs => some (C, fs)
  | .obj k => ((H[k]?).bind aoI).bind fun p => ((H[p.2]?).bind aoF).map fun fs => (p.1, fs)
  | _ => none
noncomputable def ksOf : Sz → Option (List Int)
  | .ks l => some l
  | _ => none
/-- what is reckoned of values -/
noncomputable def allD : List AV → Option (List D)
  | [] => some []
  | x :: r => (dA x).bind fun d => (allD r).map (d :: ·)
noncomputable def tupX (as : List AV) : AV := match allD as with
  | some ds => .d (.tup ds)
  | none => .tup as
noncomputable def getS (x : Str) : List (Str × AV) → Option AV
  | [] => none
  | (y, a) :: r => if y = x then some a else getS x r
noncomputable def mapO {α β : Type} (f : α → Option β) : List α → Option (List β)
  | [] => some []
  | x :: r => (f x).bind fun y => (mapO f r).map (y :: ·)
/-- is it None? -/
noncomputable def nonD : D → Option Bool
  | .none => some true
  | .str _ => none
  | _ => some false
noncomputable def isNoneX (a : AV) : Option Bool := match a with
  | .d x => nonD x
  | .blt _ => none
  | _ => some false
/-- no None among these, nothing that is compared by a def -/
noncomputable def plainNN : AV → Bool
  | .d (.bool _) => true
  | .d (.int _) => true
  | _ => false
/-- a tuple of texts at the top -/
noncomputable def topStrs (a : Addr) : Option (List Str) := bif Nat.beq a 222 then some [S "==", S "!=", S "<", S "<=", S ">", S ">="] else bif Nat.beq a 223 then some [S "int", S "bool"] else none
noncomputable def bitsL : List (Str × Int) := [(S "i8", 8), (S "i16", 16), (S "i32", 32), (S "i64", 64), (S "u8", 8), (S "u16", 16), (S "u32", 32), (S "u64", 64), (S "usize", 64)]
noncomputable def getB (x : Str) : List (Str × Int) → Option Int
  | [] => none
  | (y, a) :: r => if y = x then some a else getB x r
noncomputable def topTD : D → Option (List Str)
  | .bit => some [S "bool"]
  | .long => some [S "int", S "i64"]
  | _ => none
/-- the items of what a loop may run over -/
noncomputable def partsX (a : AV) : Option (List AV) := match a with
  | .lst xs => some xs
  | a => seqA a
noncomputable def srcX (a : AV) (H : Hp) (i : Nat) : Option (Option AV) := match a with
  | .rng n => some (bif Nat.blt i n then some (.d (.int (0 + (i : Nat)))) else none)
  | .tab _ z => (ksOf z).map fun l => (l[i]?).map fun j => .d (.int j)
  | .obj k => (match (H[k]?).bind aoS with
    | some ds => some ((ds[i]?).map .d)
    | none => ((H[k]?).bind aoL).map fun xs => xs[i]?)
  | a => (partsX a).map fun xs => xs[i]?
/-- a new list, a new table: one that may change, or one that stands still -/
noncomputable def newL (mu : Bool) (xs : List AV) (H : Hp) (P : AV → Hp → Prop) : Prop := iB mu (P (.obj H.length) (H ++ [.lst xs])) (P (.lst xs) H)
noncomputable def newY (mu : Bool) (ds : List D) (H : Hp) (P : AV → Hp → Prop) : Prop := iB mu (P (.obj H.length) (H ++ [.sym ds])) (P (.slst ds) H)
noncomputable def newT (mu : Bool) (f : Int → Option AV) (n : Sz) (H : Hp) (P : AV → Hp → Prop) : Prop := iB mu (P (.obj H.length) (H ++ [.tab f n])) (P (.tab f n) H)
/-- a binary operation -/
noncomputable def addX (a b : AV) (H : Hp) (mu : Bool) (P : AV → Hp → Prop) : Prop :=
  eX (two intA a b) (fun p => P (.d (.int (p.1 + p.2))) H) <|
  eX (two tupA a b) (fun p => gB (!p.1.isEmpty && (!p.2.isEmpty && Nat.blt (p.1.length + p.2.length) 900)) (P (.d (.tup (p.1 ++ p.2))) H)) <|
  oX (lsA b) fun ys => eX (lsIn a H) (fun xs => ltB xs.length <| ltB ys.length <| newL mu (xs ++ ys) H P) <|
  oX (syIn a H) fun ds => oX (allD ys) fun es => (ds.length < 900 ∧ es.length < 900) ∧ newY mu (ds ++ es) H P
noncomputable def mulX (a b : AV) (H : Hp) (mu : Bool) (P : AV → Hp → Prop) : Prop :=
  eX (two intA a b) (fun p => IntMulOk p.1 p.2 ∧ P (.d (.int (p.1 * p.2))) H) <|
  oX (lsA a) fun xs => oX (intA b) fun j => gB (decide (0 ≤ j) && (decide (j < 10) && Nat.ble (xs.length * j.toNat) 256)) (newL mu (List.replicate j.toNat xs).flatten H P)
noncomputable def binX (o : Operator) (a b : AV) (H : Hp) (mu : Bool) (P : AV → Hp → Prop) : Prop := match o with
  | .Add => addX a b H mu P
  | .Mult => mulX a b H mu P
  | .Sub => oX (two intA a b) fun p => P (.d (.int (p.1 - p.2))) H
  | .FloorDiv => oX (two intA a b) fun p => gB (!decide (p.2 = 0)) (Builtin.divisionGoesByPylong p.1 p.2 = false ∧ P (.d (.int (p.1.fdiv p.2))) H)
  | .Mod => oX (two intA a b) fun p => gB (!decide (p.2 = 0)) (P (.d (.int (p.1.fmod p.2))) H)
  | .Pow => oX (two intA a b) fun p => gB (decide (0 ≤ p.2) && (Nat.ble p.2.toNat 100000 && Nat.blt p.1.natAbs 18446744073709551616)) (P (.d (.int (p.1 ^ p.2.toNat))) H)
  | _ => False
noncomputable def unX (o : UnaryOp) (a : AV) (H : Hp) (P : AV → Hp → Prop) : Prop := match o with
  | .USub => oX (intA a) fun i => P (.d (.int (-i))) H
  | .Not => oX (boolA a) fun b => P (.d (.bool (!b))) H
  | _ => False
/-- what is compared -/
noncomputable def pyD (x : D) : Option PyData := bif x.ok then some x.py else none
noncomputable def pyV (H : Hp) : Nat → AV → Option PyData
  | 0, a => (dA a).bind pyD
  | n + 1, a => (match lsIn a H with
    | some xs => (mapO (pyV H n) xs).map .list
    | none => (dA a).bind pyD)
noncomputable def eqX (a b : AV) (H : Hp) (ne : Bool) (P : Bool → Prop) : Prop :=
  eX (two strA a b) (fun p => P (bif ne then !decide (p.1 = p.2) else decide (p.1 = p.2))) <|
  eX (two intA a b) (fun p => P (bif ne then !decide (p.1 = p.2) else decide (p.1 = p.2))) <|
  eX (two boolA a b) (fun p => P (bif ne then !(p.1 == p.2) else (p.1 == p.2))) <|
  eX (two (syIn · H) a b) (fun p => (p.1 = p.2 ∧ ∀ d ∈ p.1, d.ok = true) ∧ P (!ne)) <|
  oX (pyV H 3 a) fun p => oX (pyV H 3 b) fun q => gB (SeqAt.shaped p && SeqAt.shaped q) (P (bif ne then !p.eqv q else p.eqv q))
noncomputable def strsIn : AV → Option (List Str)
  | .d x => (tupD x).bind (mapO strD)
  | .lst xs => mapO strA xs
  | .fn t => topStrs t
  | _ => none
noncomputable def inX (a b : AV) (H : Hp) (P : Bool → Prop) : Prop :=
  eX (strA a) (fun x => oX (strsIn b) fun ys => P (ys.any (· == x))) <|
  eX (intA a) (fun i => oX (tbIn b H) fun p => P (p.1 i).isSome) <|
  gB (isNoneA a) (oX (lsA b) fun xs => gB (xs.all plainNN) (P false))
noncomputable def ninX (a b : AV) (H : Hp) (P : Bool → Prop) : Prop :=
  eX (strA a) (fun x => oX (strsIn b) fun ys => P (!ys.any (· == x))) <|
  oX (intA a) fun i => eX (tbIn b H) (fun p => P (!(p.1 i).isSome)) <|
  oX (lsIn b H) fun xs => oX (mapO intA xs) fun ns => P (!ns.any (fun j => decide (j = i)))
noncomputable def cmpX (o : CmpOp) (a b : AV) (H : Hp) (P : Bool → Prop) : Prop := match o with
  | .Eq => eqX a b H false P
  | .NotEq => eqX a b H true P
  | .Is => gB (isNoneA b) (oX (isNoneX a) P)
  | .IsNot => gB (isNoneA b) (oX (isNoneX a) fun c => P (!c))
  | .In => inX a b H P
  | .NotIn => ninX a b H P
  | .Lt => eX (two intA a b) (fun p => P (decide (p.1 < p.2))) <| oX (two boolA a b) fun p => P (decide (b2i p.1 < b2i p.2))
  | .LtE => eX (two intA a b) (fun p => P (decide (p.1 ≤ p.2))) <| oX (two boolA a b) fun p => P (decide (b2i p.1 ≤ b2i p.2))
  | .Gt => eX (two intA a b) (fun p => P (decide (p.2 < p.1))) <| oX (two boolA a b) fun p => P (decide (b2i p.1 > b2i p.2))
  | .GtE => eX (two intA a b) (fun p => P (decide (p.2 ≤ p.1))) <| oX (two boolA a b) fun p => P (decide (b2i p.1 ≥ b2i p.2))
/-- a place of a list, a tuple, a text, a table -/
noncomputable def itemI (a : AV) (i : Int) (H : Hp) (P : AV → Prop) : Prop :=
  eX (seqA a) (fun xs => oX ((seqIndex? i xs.length).bind (xs[·]?)) fun x => ltB xs.length (P x)) <|
  eX (lsIn a H) (fun xs => gB (decide (0 ≤ i)) (oX xs[i.toNat]? fun x => ltB xs.length (P x))) <|
  eX (tbIn a H) (fun p => oX (p.1 i) P) <|
  eX (strA a) (fun x => gB (decide (i = 0) && Nat.blt 0 x.length) (P (.d (.str (Txt.item x 0))))) <|
  oX ((dA a).bind topTD) fun l => gB (decide (0 ≤ i)) (oX l[i.toNat]? fun x => P (.d (.str x)))
noncomputable def itemX (a i : AV) (H : Hp) (P : AV → Prop) : Prop :=
  eX (intA i) (fun i => itemI a i H P) <|
  oX (strA i) fun x => eX (sdA a) (fun es => oX (getS x es) P) <|
  oX (fnA a) fun t => gB (Nat.beq t 55) (oX (getB x bitsL) fun n => P (.d (.int n)))
/-- a stored place -/
noncomputable def setX (a i v : AV) (H : Hp) (P : Hp → Prop) : Prop :=
  oX (objA a) fun k => oX (intA i) fun i =>
  eX ((H[k]?).bind aoL) (fun xs => gB (decide (0 ≤ i) && Nat.blt i.toNat xs.length) (ltB xs.length (P (H.set k (.lst (xs.set i.toNat v)))))) <|
  oX ((H[k]?).bind aoT) fun p => p.2.ltX (P (H.set k (.tab (fun j => if j = i then some v else p.1 j) (p.2.set i))))
/-- a class whose instances are read plainly -/
noncomputable def clsL : List (Nat × Str) := [(193, S "name"), (193, S "arg_count"), (193, S "locals"), (193, S "blocks"), (193, S "spots"), (273, S "known"), (396, S "body"), (396, S "followed"), (396, S "begins")]
noncomputable def plainCls (C : Addr) (x : Str) : Bool := clsL.any fun p => Nat.beq p.1 C && decide (p.2 = x)
/-- a value that an attribute hands out as it is -/
noncomputable def handA : AV → Bool
  | .blt _ => false
  | _ => true
noncomputable def attrX (a : AV) (x : Str) (H : Hp) (P : AV → Prop) : Prop :=
  oX (flIn a H) fun p => oX (getS x p.2) fun v => gB (plainCls p.1 x && handA v) (P v)
noncomputable def methTab : List (Nat × Str × Nat) := [(273, S "at_place", 256), (273, S "at_operand", 263), (273, S "forget", 270), (396, S "type_of", 305), (396, S "value_of", 310), (396, S "of_two", 317), (396, S "of_one", 324), (396, S "of_cast", 331), (396, S "step", 338), (396, S "behind", 345), (396, S "gone_on", 350), (396, S "known_target", 357), (396, S "meet", 362), (396, S "follow", 369), (396, S "put", 376), (396, S "put_rvalue", 381), (396, S "put_statement", 388), (396, S "put_terminator", 393)]
noncomputable def methAt (C : Addr) (x : Str) : Option Addr := (methTab.find? fun p => Nat.beq p.1 C && decide (p.2.1 = x)).map (·.2.2)
noncomputable def clsOf (a : AV) (x : Str) (H : Hp) : Option Addr := (flIn a H).bind fun p => match getS x p.2 with
  | some _ => none
  | none => some p.1
/-- a builtin method -/
inductive BM where | append | pop | get | dpop | sget
noncomputable def bmAt (a : AV) (x : Str) (H : Hp) : Option BM :=
  bif (lsIn a H).isSome || (syIn a H).isSome then (if x = S "append" then some .append else if x = S "pop" then some .pop else none)
  else bif (tbIn a H).isSome then (if x = S "get" then some .get else if x = S "pop" then some .dpop else none)
  else bif (sdA a).isSome then (if x = S "get" then some .sget else none) else none
noncomputable def bmX (m : BM) (a : AV) (as : List AV) (H : Hp) (P : AV → Hp → Prop) : Prop := match m with
  | .append => oX (objA a) fun k => oX (one as) fun v =>
    eX ((H[k]?).bind aoL) (fun xs => ltB xs.length (P (.d .none) (H.set k (.lst (xs ++ [v]))))) <|
    oX ((H[k]?).bind aoS) fun ds => oX (dA v) fun d => ds.length < 900 ∧ P (.d .none) (H.set k (.sym (ds ++ [d])))
  | .pop => gB as.isEmpty <| oX (objA a) fun k => oX ((H[k]?).bind aoL) fun xs => oX xs.getLast? fun v => ltB xs.length (P v (H.set k (.lst xs.dropLast)))
  | .get => oX (one as) fun i => oX (intA i) fun i => oX (tbIn a H) fun p => P ((p.1 i).getD (.d .none)) H
  | .dpop => oX (pair2 as) fun q => gB (isNoneA q.2) <| oX (intA q.1) fun i => oX (objA a) fun k => oX ((H[k]?).bind aoT) fun p => p.2.ltX (P ((p.1 i).getD (.d .none)) (H.set k (.tab (fun j => if j = i then none else p.1 j) (p.2.pop i))))
  | .sget => oX (one as) fun x => oX (strA x) fun x => oX (sdA a) fun es => P ((getS x es).getD (.d .none)) H
/-- ints in their order -/
noncomputable def insI (x : Int) : List Int → List Int
  | [] => [x]
  | y :: r => if x ≤ y then x :: y :: r else y :: insI x r
noncomputable def srtI : List Int → List Int
  | [] => []
  | x :: r => insI x (srtI r)
/-- a builtin is called -/
noncomputable def bltX (b : Bt) (as : List AV) (H : Hp) (mu : Bool) (P : AV → Hp → Prop) : Prop := oX (one as) fun a => match b with
  | .int => eX (intA a) (fun i => P (.d (.int i)) H) (oX (boolA a) fun b => P (.d (.int (if b then 1 else 0))) H)
  | .list => eX (tupA a) (fun ds => ltB ds.length (newL mu (ds.map .d) H P)) <| eX (lsIn a H) (fun xs => ltB xs.length (newL mu xs H P)) <| oX (syIn a H) fun ds => ds.length < 900 ∧ newY mu ds H P
  | .tuple => eX (tupA a) (fun ds => P (.d (.tup ds)) H) (oX (lsA a) fun xs => ltB xs.length (P (tupX xs) H))
  | .range => oX (intA a) fun i => gB (decide (0 ≤ i) && Nat.blt i.toNat 900) (P (.rng i.toNat) H)
  | .dict => oX (tbIn a H) fun p => p.2.ltX (newT mu p.1 p.2 H P)
  | .abs => oX (intA a) fun i => P (.d (.int (if i < 0 then -i else i))) H
  | .len => eX (lsIn a H) (fun xs => ltB xs.length (P (.d (.int xs.length)) H)) <| oX (tbIn a H) fun p => oX (ksOf p.2) fun l => ltB l.length (P (.d (.int l.length)) H)
  | .sorted => oX (tbIn a H) fun p => oX (ksOf p.2) fun l => gB (Nat.blt l.length 64) (P (.lst ((srtI l).map fun i => .d (.int i))) H)
/-- the names of the text's top that are used, and the builtins -/
noncomputable def globL : List (Str × AV) := [
  (S "BITS", .fn 55), (S "is_signed", .fn 62), (S "least", .fn 69), (S "greatest", .fn 76), (S "fits", .fn 83), (S "wrapped", .fn 90), (S "cast_int", .fn 97), (S "cut_quotient", .fn 104), (S "exact", .fn 111), (S "checked", .fn 118), (S "shifted", .fn 125), (S "compared", .fn 132),
  (S "Body", .fn 193), (S "successors", .fn 202), (S "copied", .fn 207), (S "operands_of", .fn 214), (S "with_operands", .fn 221), (S "COMPARED", .fn 222), (S "PLAIN", .fn 223), (S "is_followed", .fn 228), (S "lent_locals", .fn 235), (S "Facts", .fn 273), (S "reckoned_binary", .fn 284), (S "Constants", .fn 396), (S "with_constants", .fn 407),
  (S "_law_bit", .d .bit), (S "_law_long", .d .long), (S "_law_take", .fn 423), (S "_law_one", .fn 430), (S "_law_rims", .fn 437), (S "_law_wrapped", .fn 444), (S "_law_worked", .fn 451), (S "_law_asked", .fn 458), (S "_law_both", .fn 465), (S "_law_truth", .fn 472), (S "_law_put", .fn 479), (S "_law_step", .fn 484), (S "_law_end", .fn 491), (S "_law_row_right", .fn 496), (S "_law_ways_right", .fn 503), (S "_law_signs_right", .fn 510),
  (S "int", .blt .int), (S "list", .blt .list), (S "tuple", .blt .tuple), (S "dict", .blt .dict), (S "range", .blt .range), (S "abs", .blt .abs), (S "len", .blt .len), (S "sorted", .blt .sorted)]
noncomputable def glob (x : Str) : Option AV := getS x globL
/-- what is known of a def -/
structure FnR where
  pars : List Str
  body : List Stmt
  scope : Scope
noncomputable def fnAt (w : World) (a : Addr) : Option FnR := match (KH w).lookup a with
  | some ⟨_, _, .func fd, _⟩ => (match fd.body with
    | .stmts b => some ⟨fd.params.args.map (·.arg), b, fd.scope⟩
    | _ => none)
  | _ => none
end
section
noncomputable def getSl (x : Str) : Lm → Option Slot
  | [] => none
  | (y, a) :: r => if y = x then some a else getSl x r
noncomputable def putSl (x : Str) (a : Slot) : Lm → Lm
  | [] => []
  | (y, b) :: r => if y = x then (y, a) :: putSl x a r else (y, b) :: putSl x a r
noncomputable def nameX (lm : Lm) (H : Hp) (x : Str) (P : AV → Hp → Prop) : Prop := oX (getSl x lm) fun s => match s with
  | .av a => P a H
  | .cell k => oX ((H[k]?).bind aoC) fun o => oX o fun a => P a H
  | .gl a => P a H
  | .un => False
noncomputable def mutL : List Str := [S "made", S "left", S "rows", S "dues", S "blocks", S "known", S "found"]
noncomputable def mutN (x : Str) : Bool := mutL.any fun y => decide (y = x)
structure Rec where
  /-- an expression; k: in a def's own frame; mu: a list or a table that is made may change -/
  e : Bool → Bool → Lm → Hp → Expr → (AV → Hp → Prop) → Prop
  t : Bool → Lm → Hp → Expr → (Bool → Hp → Prop) → Prop
  s : Lm → Hp → List Stmt → (Lm → Hp → Prop) → (AV → Hp → Prop) → Prop
  c : Addr → List AV → Hp → (AV → Hp → Prop) → Prop
  /-- the loops that are told from outside: which (by line), and how -/
  ls : Nat → Bool
  l : Nat → Expr → List Stmt → AV → Lm → Hp → (Lm → Hp → Prop) → (AV → Hp → Prop) → Prop
noncomputable def notSl : Expr → Bool
  | .Slice _ _ _ _ => false
  | _ => true
noncomputable def notSt : Expr → Bool
  | .Starred _ _ => false
  | _ => true
noncomputable def plainBase : Expr → Bool
  | .Call (.Name _ _) [] [] _ => false
  | _ => true
noncomputable def argsY (r : Rec) (k : Bool) (lm : Lm) : Hp → List Expr → (List AV → Hp → Prop) → Prop
  | H, [], P => P [] H
  | H, e :: es, P => r.e k false lm H e fun a H => argsY r k lm H es fun as H => P (a :: as) H
noncomputable def argsX (r : Rec) (k : Bool) (lm : Lm) (H : Hp) (es : List Expr) (P : List AV → Hp → Prop) : Prop := gB (es.all notSt) (argsY r k lm H es P)
/-- what may be called -/
noncomputable def fas : List Nat := [193, 273, 396, 62, 69, 76, 83, 90, 97, 104, 111, 118, 125, 132, 202, 207, 214, 221, 228, 235, 284, 407, 423, 430, 437, 444, 451, 458, 465, 472, 479, 484, 491, 496, 503, 510, 256, 263, 270, 305, 310, 317, 324, 331, 338, 345, 350, 357, 362, 369, 376, 381, 388, 393]
noncomputable def defs : List Nat := [62, 69, 76, 83, 90, 97, 104, 111, 118, 125, 132, 202, 207, 214, 221, 228, 235, 284, 407, 430, 437, 444, 451, 458, 465, 472, 479, 484, 491, 496, 503, 510, 256, 263, 270, 305, 310, 317, 324, 331, 338, 345, 350, 357, 362, 369, 376, 381, 388, 393, 147, 249, 298]
noncomputable def isFa (a : Addr) : Bool := fas.any (Nat.beq a)
noncomputable def keepF : AV → Bool
  | .fn a => isFa a
  | .blt _ => true
  | _ => false
/-- an item is bound to names -/
noncomputable def stoX (x : Str) (a : AV) (lm : Lm) (H : Hp) (Pn : Lm → Hp → Prop) : Prop := oX (getSl x lm) fun s => match s with
  | .un => Pn (putSl x (.av a) lm) H
  | .av _ => Pn (putSl x (.av a) lm) H
  | .cell k => oX ((H[k]?).bind aoC) fun _ => Pn lm (H.set k (.cell (some a)))
  | .gl _ => False
noncomputable def nmE : Expr → Option Str
  | .Name x _ => some x
  | _ => none
noncomputable def namesOf (ts : List Expr) : Option (List Str) := mapO nmE ts
noncomputable def stoAll : List Str → List AV → Lm → Hp → (Lm → Hp → Prop) → Prop
  | [], _, lm, H, Pn => Pn lm H
  | x :: xs, as, lm, H, Pn => oX as.head? fun a => stoX x a lm H fun lm H => stoAll xs as.tail lm H Pn
noncomputable def bindX (tgt : Expr) (a : AV) (lm : Lm) (H : Hp) (Pn : Lm → Hp → Prop) : Prop := match tgt with
  | .Name x _ => stoX x a lm H Pn
  | .Tuple ts _ _ => oX (namesOf ts) fun xs => oX (partsX a) fun as => gB (Nat.beq xs.length as.length) (stoAll xs as lm H Pn)
  | _ => False
/-- the same in a comprehension -/
noncomputable def stoC (x : Str) (a : AV) (lm : Lm) (Pn : Lm → Prop) : Prop := oX (getSl x lm) fun s => match s with
  | .un => Pn (putSl x (.av a) lm)
  | .av _ => Pn (putSl x (.av a) lm)
  | _ => False
noncomputable def stoCs : List Str → List AV → Lm → (Lm → Prop) → Prop
  | [], _, lm, Pn => Pn lm
  | x :: xs, as, lm, Pn => oX as.head? fun a => stoC x a lm fun lm => stoCs xs as.tail lm Pn
noncomputable def bindC (tgt : Expr) (a : AV) (lm : Lm) (Pn : Lm → Prop) : Prop := match tgt with
  | .Name x _ => stoC x a lm Pn
  | .Tuple ts _ _ => oX (namesOf ts) fun xs => oX (partsX a) fun as => gB (Nat.beq xs.length as.length) (stoCs xs as lm Pn)
  | _ => False
/-- the names in a comprehension -/
noncomputable def compLm (lm : Lm) : List (Str × NameKind) → Lm
  | [] => []
  | (x, k) :: r => match k with
    | .local => (x, .un) :: compLm lm r
    | .free => (match getSl x lm with
      | some (.cell k) => (x, .cell k) :: compLm lm r
      | _ => compLm lm r)
    | .globalImplicit => (match glob x with
      | some a => (x, .gl a) :: compLm lm r
      | none => compLm lm r)
    | _ => compLm lm r
noncomputable def isCell (x : Str) (lm : Lm) : Bool := match getSl x lm with
  | some (.cell _) => true
  | _ => false
noncomputable def compOK (sc : Scope) (lm : Lm) : Bool := sc.kind == .function && sc.names.all fun p => (sc.names.lookup p.1 == some p.2 && !(p.1 == Str.ofString "__debug__")) && (match p.2 with
  | .local => true
  | .globalImplicit => true
  | .free => isCell p.1 lm
  | _ => false)
noncomputable def notSet : Expr → Bool
  | .Set _ _ _ => false
  | _ => true
noncomputable def tstX (r : Rec) (ifs : List Expr) (lm : Lm) (H : Hp) (P : Bool → Hp → Prop) : Prop := match ifs with
  | [] => P true H
  | [t] => r.t false lm H t P
  | _ => False
noncomputable def compX (r : Rec) (elt : Expr) (tgt : Expr) (ifs : List Expr) (lmi : Lm) (src : AV) (P : List AV → Hp → Prop) : Nat → Nat → List AV → Hp → Prop
  | 0, _, _, _ => False
  | n + 1, i, ys, H => oX (srcX src H i) fun o => eX o (fun x => bindC tgt x lmi fun lm1 => tstX r ifs lm1 H fun c H =>
      iB c (r.e false false lm1 H elt fun y H => compX r elt tgt ifs lmi src P n (i + 1) (ys ++ [y]) H) (compX r elt tgt ifs lmi src P n (i + 1) ys H)) (P ys H)
noncomputable def compD (r : Rec) (ke ve : Expr) (x : Str) (t : Expr) (lmi : Lm) (src : AV) (P : (Int → Option AV) → Sz → Hp → Prop) : Nat → Nat → (Int → Option AV) → Sz → Hp → Prop
  | 0, _, _, _, _ => False
  | n + 1, i, f, z, H => oX (srcX src H i) fun o => eX o (fun a => stoC x a lmi fun lm1 => r.t false lm1 H t fun c H =>
      iB c (r.e false false lm1 H ke fun kv H => r.e false false lm1 H ve fun v H => oX (intA kv) fun i' => compD r ke ve x t lmi src P n (i + 1) (fun j => if j = i' then some v else f j) (z.set i') H) (compD r ke ve x t lmi src P n (i + 1) f z H)) (P f z H)
noncomputable def boolX (r : Rec) (k : Bool) (op : BoolOp) (lm : Lm) : Hp → List Expr → (AV → Hp → Prop) → Prop
  | _, [], _ => False
  | H, e :: es, P => match es with
    | [] => r.e k false lm H e P
    | _ :: _ => r.e k false lm H e fun a H => oX (boolA a) fun c => match op with
      | .And => iB c (boolX r k op lm H es P) (P a H)
      | .Or => iB c (P a H) (boolX r k op lm H es P)
noncomputable def allX (r : Rec) (k : Bool) (op : BoolOp) (lm : Lm) : Hp → List Expr → (Bool → Hp → Prop) → Prop
  | H, [], P => P (match op with | .And => true | .Or => false) H
  | H, e :: es, P => r.t k lm H e fun c H => match op with
    | .And => iB c (allX r k op lm H es P) (P false H)
    | .Or => iB c (P true H) (allX r k op lm H es P)
noncomputable def cmpsX (r : Rec) (k : Bool) (lm : Lm) (H : Hp) (l : Expr) (ops : List CmpOp) (es : List Expr) (P : AV → Hp → Prop) : Prop := match ops, es with
  | [o], [e] => gB (!behindInMarks o e) (r.e k false lm H l fun a H => r.e k false lm H e fun b H => cmpX o a b H fun c => P (.d (.bool c)) H)
  | [o, o'], [e, e'] => gB (!behindInMarks o' e') (r.e k false lm H l fun a H => r.e k false lm H e fun b H => cmpX o a b H fun c =>
    iB c (r.e k false lm H e' fun b' H => cmpX o' b b' H fun c => P (.d (.bool c)) H) (P (.d (.bool false)) H))
  | _, _ => False
/-- a dict display: texts or small ints for keys -/
noncomputable def zipX {α : Type} (f : AV → Option α) : List AV → List AV → Option (List (α × AV))
  | [], [] => some []
  | k :: ks, v :: vs => (f k).bind fun x => (zipX f ks vs).map ((x, v) :: ·)
  | _, _ => none
noncomputable def idO {α : Type} (o : Option α) : Option α := o
noncomputable def getI (j : Int) : List (Int × AV) → Option AV
  | [] => none
  | (i, a) :: r => if i = j then some a else getI j r
/-- keys and values, one by the other -/
noncomputable def pairsX (r : Rec) (k : Bool) (lm : Lm) : Hp → List Expr → List Expr → (List AV → List AV → Hp → Prop) → Prop
  | H, [], vs, P => gB vs.isEmpty (P [] [] H)
  | H, ke :: ks, vs, P => oX vs.head? fun ve => r.e k false lm H ke fun a H => r.e k false lm H ve fun b H => pairsX r k lm H ks vs.tail fun as bs H => P (a :: as) (b :: bs) H
noncomputable def strKey : Expr → Bool
  | .Constant (.str _) _ _ => true
  | _ => false
noncomputable def dictX (r : Rec) (k mu : Bool) (lm : Lm) (H : Hp) (ks vs : List Expr) (P : AV → Hp → Prop) : Prop := match ks with
  | [] => gB vs.isEmpty (newT mu (fun _ => none) (.ks []) H P)
  | ke :: ks' => gB (Nat.blt ks'.length 14 && Nat.beq (ke :: ks').length vs.length) (pairsX r k lm H (ke :: ks') vs fun as bs H =>
    iB (strKey ke) (oX (zipX strA as bs) fun es => gB (decide (es.map (·.1)).Nodup) (P (.sdic es) H))
      (oX (zipX intA as bs) fun es => gB (decide (es.map (·.1)).Nodup) (newT mu (fun j => getI j es) (.ks (es.map (·.1))) H P)))
noncomputable def initL : List (Nat × Nat) := [(193, 147), (273, 249), (396, 298)]
noncomputable def initAt (C : Addr) : Option Addr := (initL.find? fun p => Nat.beq p.1 C).map (·.2)
noncomputable def classX (r : Rec) (C : Addr) (i : Addr) (as : List AV) (H : Hp) (P : AV → Hp → Prop) : Prop :=
  r.c i (.obj (H.length + 1) :: as) (H ++ [.fld []] ++ [.ins C H.length]) fun rv H' => gB (isNoneA rv) (P (.obj (H.length + 1)) H')
noncomputable def applyX (r : Rec) (mu : Bool) (f : AV) (as : List AV) (H : Hp) (P : AV → Hp → Prop) : Prop := match f with
  | .fn a => eX (initAt a) (fun i => classX r a i as H P) (r.c a as H P)
  | .blt b => bltX b as H mu P
  | _ => False
/-- a slice -/
noncomputable def sliceX (a lo : AV) (P : AV → Prop) : Prop := oX (intA lo) fun i =>
  eX (tupA a) (fun ds => gB (decide (i = 2) && (Nat.ble 2 ds.length && Nat.blt ds.length 900)) (P (.d (.tup (ds.drop 2))))) <|
  oX (lsA a) fun xs => gB (decide (i = 1) && (Nat.ble 1 xs.length && Nat.blt xs.length 900)) (P (.lst (xs.drop 1)))
noncomputable def listX (r : Rec) (mu : Bool) (lm : Lm) (H : Hp) (elt tgt it : Expr) (ifs : List Expr) (sc : Scope) (P : AV → Hp → Prop) : Prop := gB (compOK sc lm && notSet it) (r.e true false lm H it fun a H =>
  compX r elt tgt ifs (compLm lm sc.names) a (fun ys H => newL mu ys H P) 800 0 [] H)
noncomputable def dictcX (r : Rec) (mu : Bool) (lm : Lm) (H : Hp) (ke ve it t : Expr) (x : Str) (sc : Scope) (P : AV → Hp → Prop) : Prop := gB (compOK sc lm && notSet it) (r.e true false lm H it fun a H =>
  compD r ke ve x t (compLm lm sc.names) a (fun f z H => newT mu f z H P) 800 0 (fun _ => none) (.ks []) H)
noncomputable def constX (k : Const) (H : Hp) (P : AV → Hp → Prop) : Prop := match k with
  | .none => P (.d .none) H
  | .bool b => P (.d (.bool b)) H
  | .int i => P (.d (.int i)) H
  | .str x => P (.d (.str x)) H
  | _ => False
noncomputable def subX (r : Rec) (k : Bool) (lm : Lm) (H : Hp) (v sl : Expr) (P : AV → Hp → Prop) : Prop := match sl with
  | .Slice (some lo) none none _ => r.e k false lm H v fun a H => r.e k false lm H lo fun l H => sliceX a l fun v => P v H
  | .Slice _ _ _ _ => False
  | sl => r.e k false lm H v fun a H => r.e k false lm H sl fun i H => itemX a i H fun v => P v H
noncomputable def callX (r : Rec) (k mu : Bool) (lm : Lm) (H : Hp) (f : Expr) (as : List Expr) (pos : Pos) (P : AV → Hp → Prop) : Prop := match f with
  | .Name x p => r.e k false lm H (.Name x p) fun f H => gB (keepF f) (argsX r k lm H as fun as H => applyX r mu f as H P)
  | .Attribute o x ap => gB (plainBase o && (as.all notSt && (Nat.ble as.length 29 && ap.endLine == pos.line))) (r.e k false lm H o fun a H =>
    eX (clsOf a x H) (fun C => oX (methAt C x) fun f => gB (isFa f) (argsX r k lm H as fun as H => r.c f (a :: as) H P)) <|
    oX (bmAt a x H) fun m => argsX r k lm H as fun as H => bmX m a as H P)
  | _ => False
noncomputable def gen1 : List Comprehension → Option (Expr × Expr × List Expr)
  | [g] => if g.is_async = 0 then some (g.target, g.iter, g.ifs) else none
  | _ => none
noncomputable def oneE : List Expr → Option Expr
  | [t] => some t
  | _ => none
noncomputable def stepE (r : Rec) (k mu : Bool) (lm : Lm) (H : Hp) (e : Expr) (P : AV → Hp → Prop) : Prop := match e with
  | .Name x _ => nameX lm H x P
  | .Constant c _ _ => constX c H P
  | .Tuple es _ _ => argsX r k lm H es fun as H => ltB as.length (P (tupX as) H)
  | .List es _ => argsX r k lm H es fun as H => ltB as.length (newL mu as H P)
  | .Dict ks vs _ => oX (mapO idO ks) fun ks => dictX r k mu lm H ks vs P
  | .BinOp l o r' _ => r.e k false lm H l fun a H => r.e k false lm H r' fun b H => binX o a b H mu P
  | .UnaryOp o x _ => r.e k false lm H x fun a H => unX o a H P
  | .BoolOp op es _ => boolX r k op lm H es P
  | .Compare l ops es _ => cmpsX r k lm H l ops es P
  | .IfExp t b o _ => r.t k lm H t fun c H => iB c (r.e k mu lm H b P) (r.e k mu lm H o P)
  | .Attribute v x _ => gB (plainBase v) (r.e k false lm H v fun a H => attrX a x H fun v => P v H)
  | .Subscript v sl _ => subX r k lm H v sl P
  | .Call f as kw pos => gB kw.isEmpty (callX r k mu lm H f as pos P)
  | .ListComp elt gs sc _ => gB k (oX (gen1 gs) fun g => listX r mu lm H elt g.1 g.2.1 g.2.2 sc P)
  | .DictComp ke ve gs sc _ => gB k (oX (gen1 gs) fun g => oX (nmE g.1) fun x => oX (oneE g.2.2) fun t => dictcX r mu lm H ke ve g.2.1 t x sc P)
  | _ => False
noncomputable def stepT (r : Rec) (k : Bool) (lm : Lm) (H : Hp) (e : Expr) (P : Bool → Hp → Prop) : Prop := match e with
  | .UnaryOp o x _ => (match o with
    | .Not => r.t k lm H x fun c H => P (!c) H
    | _ => False)
  | .BoolOp op es _ => allX r k op lm H es P
  | .IfExp _ _ _ _ => False
  | .Compare l ops es _ => (match ops, es with
    | [o], [r'] => gB (!behindInMarks o r') (r.e k false lm H l fun a H => r.e k false lm H r' fun b H => cmpX o a b H fun c => P c H)
    | _, _ => False)
  | e => r.e k false lm H e fun a H => oX (boolA a) fun c => P c H
noncomputable def forX (r : Rec) (tgt : Expr) (body : List Stmt) (src : AV) (Pn : Lm → Hp → Prop) (Pr : AV → Hp → Prop) : Nat → Nat → Lm → Hp → Prop
  | 0, _, _, _ => False
  | n + 1, i, lm, H => oX (srcX src H i) fun o => eX o (fun x => bindX tgt x lm H fun lm H => r.s lm H body (fun lm H => forX r tgt body src Pn Pr n (i + 1) lm H) Pr) (Pn lm H)
noncomputable def whileX (r : Rec) (t : Expr) (body : List Stmt) : Nat → Lm → Hp → (Lm → Hp → Prop) → (AV → Hp → Prop) → Prop
  | 0, _, _, _, _ => False
  | n + 1, lm, H, Pn, Pr => r.t true lm H t fun c H => iB c (r.s lm H body (fun lm H => whileX r t body n lm H Pn Pr) Pr) (Pn lm H)
noncomputable def setA (x : Str) (v : AV) : List (Str × AV) → List (Str × AV)
  | [] => [(x, v)]
  | (y, a) :: r => if y = x then (y, v) :: r else (y, a) :: setA x v r
noncomputable def notComp : Expr → Bool
  | .ListComp _ _ _ _ => false
  | .SetComp _ _ _ _ => false
  | .DictComp _ _ _ _ _ => false
  | _ => true
noncomputable def tupE : Expr → Option (List Expr)
  | .Tuple vs _ _ => some vs
  | _ => none
noncomputable def lclAt (lm : Lm) (line : Nat) : Expr → Bool
  | .Name x p => (match getSl x lm with
    | some .un => p.line == line
    | some (.av _) => p.line == line
    | _ => false)
  | _ => false
/-- are the stores of a display swapped? -/
noncomputable def swpX (lm : Lm) (ts vs : List Expr) : Option Bool :=
  bif !(ts.length == 2 || ts.length == 3) then some false
  else bif ((vs.length == ts.length && vs.all notSt) && ts.all (lclAt lm ((ts.head?.map (·.pos.line)).getD 0))) && (!(vs.all (foldedForSure 8)) && !(vs.all (constantsAlone 8))) then some true else none
noncomputable def lcE : Expr → Option (Expr × List Comprehension × Scope × Pos)
  | .ListComp elt gs sc p => some (elt, gs, sc, p)
  | _ => none
noncomputable def dcE : Expr → Option (Expr × Expr × List Comprehension × Scope × Pos)
  | .DictComp ke ve gs sc p => some (ke, ve, gs, sc, p)
  | _ => none
noncomputable def asgName (r : Rec) (lm : Lm) (H : Hp) (x : Str) (v : Expr) (Pn : Lm → Hp → Prop) : Prop :=
  eX (lcE v) (fun q => oX (gen1 q.2.1) fun g => listX r (mutN x) lm H q.1 g.1 g.2.1 g.2.2 q.2.2.1 fun a H => stoX x a lm H Pn) <|
  eX (dcE v) (fun q => oX (gen1 q.2.2.1) fun g => oX (nmE g.1) fun y => oX (oneE g.2.2) fun t => dictcX r (mutN x) lm H q.1 q.2.1 g.2.1 t y q.2.2.2.1 fun a H => stoX x a lm H Pn) <|
  gB (notComp v) (r.e true (mutN x) lm H v fun a H => stoX x a lm H Pn)
noncomputable def isSF : Option Bool → Bool
  | some b => !b
  | none => false
noncomputable def isST : Option Bool → Bool
  | some b => b
  | none => false
noncomputable def asgTup (r : Rec) (lm : Lm) (H : Hp) (ts : List Expr) (n : Nat) (p : Pos) (v : Expr) (Pn : Lm → Hp → Prop) : Prop :=
  iB ((tupE v).isNone || isSF ((tupE v).bind (swpX lm ts))) (r.e true false lm H v fun a H => bindX (.Tuple ts n p) a lm H Pn) <|
  oX (tupE v) fun vs => gB (isST (swpX lm ts vs)) <|
  oX (namesOf ts) fun xs => gB (xs.eraseDups.length == xs.length) (r.e true false lm H v fun a H => oX (partsX a) fun as => gB (Nat.beq xs.length as.length) (stoAll xs.reverse as.reverse lm H Pn))
noncomputable def asgSub (r : Rec) (lm : Lm) (H : Hp) (o sl v : Expr) (Pn : Lm → Hp → Prop) : Prop := match sl with
  | .Slice none none none _ => r.e true false lm H v fun a H => r.e true false lm H o fun ov H => oX (lsA a) fun ys => oX (objA ov) fun k => oX ((H[k]?).bind aoL) fun xs => gB (Nat.blt xs.length 900 && Nat.blt ys.length 900) (Pn lm (H.set k (.lst ys)))
  | .Slice _ _ _ _ => False
  | sl => r.e true false lm H v fun a H => r.e true false lm H o fun ov H => r.e true false lm H sl fun i H => setX ov i a H fun H => Pn lm H
noncomputable def asgAttr (r : Rec) (lm : Lm) (H : Hp) (o : Expr) (x : Str) (v : Expr) (Pn : Lm → Hp → Prop) : Prop :=
  r.e true true lm H v fun a H => r.e true false lm H o fun ov H => oX (objA ov) fun k => oX ((H[k]?).bind aoI) fun p => oX ((H[p.2]?).bind aoF) fun fs => gB (plainCls p.1 x && Nat.ble fs.length 100) (Pn lm (H.set p.2 (.fld (setA x a fs))))
noncomputable def asgX (r : Rec) (lm : Lm) (H : Hp) (t v : Expr) (Pn : Lm → Hp → Prop) : Prop := match t with
  | .Name x _ => asgName r lm H x v Pn
  | .Tuple ts n p => asgTup r lm H ts n p v Pn
  | .Subscript o sl _ => asgSub r lm H o sl v Pn
  | .Attribute o x _ => asgAttr r lm H o x v Pn
  | _ => False
noncomputable def isSym (a : AV) (H : Hp) : Bool := (syIn a H).isSome
noncomputable def stepS1 (r : Rec) (lm : Lm) (H : Hp) (s : Stmt) (Pn : Lm → Hp → Prop) (Pr : AV → Hp → Prop) : Prop := match s with
  | .Expr v _ => gB (notComp v) (r.e true false lm H v fun _ H => Pn lm H)
  | .Assign ts v _ => oX (oneE ts) fun t => asgX r lm H t v Pn
  | .If t b o _ => r.t true lm H t fun c H => iB c (r.s lm H b Pn Pr) (r.s lm H o Pn Pr)
  | .Return v _ => oX v fun v => r.e true false lm H v Pr
  | .For tgt it body orelse pos => gB (orelse.isEmpty && notSet it) (r.e true false lm H it fun a H => gB (srcX a H 0).isSome (iB (isSym a H || r.ls pos.line) (r.l pos.line tgt body a lm H Pn Pr) (forX r tgt body a Pn Pr 800 0 lm H)))
  | .While t body orelse _ => gB orelse.isEmpty (whileX r t body 40 lm H Pn Pr)
  | _ => False
noncomputable def stepS (r : Rec) : List Stmt → Lm → Hp → (Lm → Hp → Prop) → (AV → Hp → Prop) → Prop
  | [], lm, H, Pn, _ => Pn lm H
  | s :: ss, lm, H, Pn, Pr => stepS1 r lm H s (fun lm H => stepS r ss lm H Pn Pr) Pr
/-- the names at a def's entry -/
noncomputable def entry (bs : List (Str × AV)) : List (Str × NameKind) → Hp → (Lm → Hp → Prop) → Prop
  | [], H, P => P [] H
  | (x, k) :: r, H, P => match k with
    | .local => entry bs r H fun lm H => P ((x, match getS x bs with | some a => .av a | none => .un) :: lm) H
    | .cell => entry bs r (H ++ [.cell (getS x bs)]) fun lm H' => P ((x, .cell H.length) :: lm) H'
    | .globalImplicit => entry bs r H fun lm H => eX (glob x) (fun a => P ((x, .gl a) :: lm) H) (P lm H)
    | _ => False
/-- what is given back stands still from now on -/
noncomputable def frzX (n : Nat) (v : AV) (H : Hp) (P : AV → Hp → Prop) : Prop := eX (objA v) (fun k => iB (Nat.ble n k)
    (eX ((H[k]?).bind aoL) (fun xs => P (.lst xs) (H.set k .dead)) <| eX ((H[k]?).bind aoT) (fun p => P (.tab p.1 p.2) (H.set k .dead)) <| P v H) (P v H)) (P v H)
noncomputable def allN : Nat → (Nat → Prop) → Prop
  | 0, _ => True
  | n + 1, p => allN n p ∧ p n
noncomputable def aoSrc : AO → Option Nat
  | .src k => some k
  | _ => none
noncomputable def aoSrcL : AO → Option Unit
  | .srcL => some ()
  | _ => none
noncomputable def takeX (as : List AV) (H : Hp) (P : AV → Hp → Prop) : Prop := oX (pair2 as) fun q => oX (objA q.1) fun k => oX (intA q.2) fun top => oX ((H[k]?).bind aoSrc) fun j => oX ((H[j]?).bind aoSrcL) fun _ =>
  gB (decide (0 < top) && decide (top < 1000)) (allN top.toNat fun d => P (.d (.int (d : Nat))) H)
noncomputable def pad (a : Addr) (as : List AV) : List AV := bif Nat.beq a 147 && Nat.beq as.length 4 then as ++ [.d .none, .d .none] else as
noncomputable def stepC (w : World) (r : Rec) (a : Addr) (as : List AV) (H : Hp) (P : AV → Hp → Prop) : Prop :=
  iB (Nat.beq a 423) (takeX as H P) <| gB (defs.any (Nat.beq a)) <| oX (fnAt w a) fun fr =>
  gB (Nat.beq fr.pars.length (pad a as).length) (entry (fr.pars.zip (pad a as)) fr.scope.names H fun lm H1 => r.s lm H1 fr.body (fun _ H' => P (.d .none) H') (fun v H' => frzX H.length v H' P))
noncomputable def Rec.bot : Rec := ⟨fun _ _ _ _ _ _ => False, fun _ _ _ _ _ => False, fun _ _ _ _ _ => False, fun _ _ _ _ => False, fun _ => false, fun _ _ _ _ _ _ _ _ => False⟩
/-- what is told from outside: calls and loops -/
structure Orc where
  cs : Addr → Bool
  c : Addr → List AV → Hp → (AV → Hp → Prop) → Prop
  ls : Nat → Bool
  l : Nat → Expr → List Stmt → AV → Lm → Hp → (Lm → Hp → Prop) → (AV → Hp → Prop) → Prop
noncomputable def X (w : World) (Q : Orc) (N : Nat) : Nat → Rec
  | 0 => Rec.bot
  | n + 1 => ⟨stepE (X w Q N n), stepT (X w Q N n), fun lm H ss => stepS (X w Q N n) ss lm H, fun a as H P => iB (Q.cs a && Nat.ble N n) (Q.c a as H P) (stepC w (X w Q N n) a as H P), Q.ls, fun k tgt body a lm H Pn Pr => gB (Nat.ble N n) (Q.l k tgt body a lm H Pn Pr)⟩
end
section
theorem getSl_mem {x : Str} : ∀ {lm : Lm} {sl : Slot}, getSl x lm = some sl → (x, sl) ∈ lm
  | [], _, h => nomatch h
  | (y, b) :: r, sl, h => by
    unfold getSl at h
    by_cases e : y = x
    · rw [if_pos e] at h; cases h; subst e; exact .head _
    · rw [if_neg e] at h; exact .tail _ (getSl_mem h)
section
variable {c : Ctx} {ek : EK} {lm : Lm} {H : Hp} {n : Nat}
theorem vret {a b : Wd} {P : AV → Hp → Prop} {v : Value} {av : AV} (l : Le a b) (p : P av H) (st : St c ek b.ρ b.R lm H b.s.heap) (vr : VR c.w b.ρ b.R v av) : PP a (VΦ c ek lm P) v b.s := PP.ret l ⟨av, H, p, st, vr⟩
theorem vretk {a : Wd} {P : AV → Hp → Prop} {v : Value} {av : AV} (t : Nat) (p : P av H) (st : St c ek a.ρ a.R lm H a.s.heap) (vr : VR c.w a.ρ a.R v av) : PP a (VΦ c ek lm P) v { a.s with toks := t } := PP.ret (b := a.tk t) Le.tk ⟨av, H, p, st, vr⟩
theorem VR.zero {w : World} {ρ : List Addr} {R : Led} {v : Value} {a : AV} (h : VR w [] [] v a) : VR w ρ R v a := h.up List.nil_prefix fun _ h => absurd h List.not_mem_nil
theorem name_ok (ok : c.OK n) {x : Str} {pos : Pos} {P : AV → Hp → Prop} (h : nameX lm H x P) : JE c ek lm H (eval (.Name x pos) (ek.env c)) P := by
  intro a E st
  obtain ⟨m, os, F, N, O, el, nd, of, gd, lo⟩ := st.st
  have NR : News c.h₀ c.L a.s.heap c.gh := fun p hp => N p (List.mem_append_right _ (List.mem_append_right _ hp))
  have cell : ∀ {k : Nat} {ad : Addr} {ao : AO} {av : AV}, a.ρ[k]? = some ad → H[k]? = some ao → aoC ao = some (some av) → ∃ o v, (ad, o) ∈ a.ρ.zip os ++ (a.R ++ c.gh) ∧ o.data = .cell (some v) ∧ VR c.w a.ρ a.R v av := fun {k ad ao av} e1 e2 e3 => by
    obtain ⟨ad', o, e1', eo, r⟩ := O.get e2
    cases Option.some.inj (e1.symm.trans e1')
    cases r with
    | cell hd hv => cases e3; exact ⟨o, _, List.mem_append_left _ (zip_in e1 eo), hd, hv⟩
    | _ => cases e3
  unfold nameX at h
  obtain ⟨sl, hs, h⟩ := oX_ok h
  have hm := getSl_mem hs
  have cel : ∀ {k : Nat}, sl = .cell k → ∃ ao av, H[k]? = some ao ∧ aoC ao = some (some av) ∧ P av H := fun q => by
    subst q
    obtain ⟨o, h1, h⟩ := oX_ok h
    obtain ⟨av, rfl, h⟩ := oX_ok h
    obtain ⟨ao, h2, h3⟩ := Option.bind_eq_some_iff.mp h1
    exact ⟨ao, av, h2, h3, h⟩
  cases ek with
  | df =>
    have q := lo _ hm
    cases sl with
    | un => exact False.elim h
    | av av =>
      obtain ⟨⟨k1, k2⟩, v, e, vr⟩ := q
      exact nameX_L F e (vret Le.refl h st vr) ok.hk k1 k2
    | cell k =>
      obtain ⟨⟨k1, k2⟩, ad, e1, e2⟩ := q
      obtain ⟨ao, av, h2, h3, h⟩ := cel rfl
      obtain ⟨o, v, hm, hd, vr⟩ := cell e2 h2 h3
      exact nameX_C N e1 hm hd (vret Le.refl h st vr) ok.hk k1 k2
    | gl av =>
      obtain ⟨⟨k1, k2⟩, v, vr, hg⟩ := q
      rcases hg with hg | ⟨hg, hb, hn⟩
      · exact nameX_K F ok.X (topRead_of ok.T) hg (vret Le.refl h st vr.zero) ok.hk k1 k2
      · exact nameX_B F ok.X (topRead_of ok.T) hg hb hn (vret Le.refl h st vr.zero) ok.hk k1 k2
  | cp sc cl C l₀ =>
    obtain ⟨_, kf, oC, m₂, hC, hn, q⟩ := lo
    have q := q _ hm
    cases sl with
    | un => exact False.elim h
    | av av =>
      obtain ⟨⟨k1, k2⟩, v, e, vr⟩ := q
      exact LCgL.ld_own NR hC hn e (vret Le.refl h st vr) kf k1 k2
    | cell k =>
      obtain ⟨⟨k1, k2⟩, ad, e1, e2⟩ := q
      obtain ⟨ao, av, h2, h3, h⟩ := cel rfl
      obtain ⟨o, v, hm, hd, vr⟩ := cell e2 h2 h3
      exact kcf_cell N e1 hm hd (vret Le.refl h st vr) kf k1 k2
    | gl av =>
      obtain ⟨⟨k1, k2⟩, v, vr, hg⟩ := q
      rcases hg with hg | ⟨hg, hb, hn⟩
      · exact LCgL.ld_global F ok.X ok.T hg (vret Le.refl h st vr.zero) rfl kf k1 k2
      · exact LCgL.ld_built F ok.X ok.T hg hb hn (vret Le.refl h st vr.zero) rfl rfl kf k1 k2
theorem const_ok {k : Const} {i : Nat} {pos : Pos} {env : Env} {P : AV → Hp → Prop} (h : constX k H P) : JE c ek lm H (eval (.Constant k i pos) env) P := by
  intro a E st
  cases k with
  | none => exact wpAny_Constant_none (vret Le.refl h st (.d .none))
  | bool b => exact Constant_bool (vret Le.refl h st (.d (.bool b)))
  | int i => exact wpAny_Constant_int (vretk _ h st (.d (.int _ _)))
  | str x => exact Constant_str (vretk _ h st (.d (.str _ _)))
  | _ => exact False.elim h
end
/-- what one level of the executor must keep -/
noncomputable def FΦ (c : Ctx) (Pn : Lm → Hp → Prop) (Pr : AV → Hp → Prop) : Flow → Wd → Prop := fun f b => match f with
  | .next => ∃ lm H, Pn lm H ∧ St c .df b.ρ b.R lm H b.s.heap
  | .ret v => ∃ lm a H, Pr a H ∧ St c .df b.ρ b.R lm H b.s.heap ∧ VR c.w b.ρ b.R v a
  | _ => False
/-- statements -/
noncomputable def JS (c : Ctx) (lm : Lm) (H : Hp) (t : Sem Flow) (Pn : Lm → Hp → Prop) (Pr : AV → Hp → Prop) : Prop := ∀ a E, PassesOwn (model prg c.w) c.A c.env E → St c .df a.ρ a.R lm H a.s.heap → WP c t a (FΦ c Pn Pr) E
/-- a def is called -/
noncomputable def JC (n : Nat) (w : World) (f : Addr) (as : List AV) (H : Hp) (P : AV → Hp → Prop) : Prop := ∀ (c : Ctx) (ek : EK) (lm : Lm) (A : Around) (a : Wd) (vs : List Value) (R : Result → Shared → Prop), c.w = w → c.OK n → A.frames = some (c.env :: c.outer) → A.handled = none → A.depth ≤ c.dp + 1 → A.units ≤ c.un + 6 →
  St c ek a.ρ a.R lm H a.s.heap → VRs c.w a.ρ a.R vs as → (∀ v b, Le a b → VΦ c ek lm P v b → R (.ok (.ret v)) b.s) → codeAny (model prg c.w) A (.call (.ref f) ⟨vs, []⟩) R a.s
/-- a loop over src, from its iterator on -/
noncomputable def JF (n : Nat) (w : World) (tgt : Expr) (body : List Stmt) (src : AV) (lm : Lm) (H : Hp) (Pn : Lm → Hp → Prop) (Pr : AV → Hp → Prop) : Prop := ∀ (c : Ctx) (a : Wd) (v : Value) (E : Value → Shared → Prop), c.w = w → c.OK n → PassesOwn (model prg c.w) c.A c.env E → St c .df a.ρ a.R lm H a.s.heap → VR c.w a.ρ a.R v src →
  wpAny (model prg c.w) c.A (pyIter v) (fun it s₂ => codeAny (model prg c.w) c.A (.forLoop tgt it body [] c.env) (fun r s' => match r with | .ok f => PP a (FΦ c Pn Pr) f s' | .error e => cameBackBy (model prg c.w) c.A c.env E e s') s₂) E a.s
structure Snd (w : World) (n : Nat) (r : Rec) : Prop where
  e : ∀ {c : Ctx} {ek : EK} {lm : Lm} {H : Hp} {e : Expr} {k mu : Bool} {P : AV → Hp → Prop}, c.w = w → c.OK n → (k = true → ek = .df) → r.e k mu lm H e P → JE c ek lm H (eval e (ek.env c)) P
  t : ∀ {c : Ctx} {ek : EK} {lm : Lm} {H : Hp} {e : Expr} {k : Bool} {P : Bool → Hp → Prop}, c.w = w → c.OK n → (k = true → ek = .df) → r.t k lm H e P → JB c ek lm H (PySem.isTrue e (ek.env c) (eval e (ek.env c))) P
  s : ∀ {c : Ctx} {lm : Lm} {H : Hp} {ss : List Stmt} {Pn : Lm → Hp → Prop} {Pr : AV → Hp → Prop}, c.w = w → c.OK n → r.s lm H ss Pn Pr → JS c lm H (execs ss c.env) Pn Pr
  c : ∀ {f : Addr} {as : List AV} {H : Hp} {P : AV → Hp → Prop}, r.c f as H P → JC n w f as H P
  l : ∀ {k : Nat} {tgt : Expr} {body : List Stmt} {src : AV} {lm : Lm} {H : Hp} {Pn : Lm → Hp → Prop} {Pr : AV → Hp → Prop}, r.l k tgt body src lm H Pn Pr → JF n w tgt body src lm H Pn Pr
theorem Snd.call {w : World} {n : Nat} {r : Rec} (S : Snd w n r) {c : Ctx} {ek : EK} {lm : Lm} {f : Addr} {as : List AV} {H : Hp} {P : AV → Hp → Prop} {vs : List Value} {a : Wd} {E : Value → Shared → Prop} (hw : c.w = w) (ok : c.OK n) (h : r.c f as H P) (st : St c ek a.ρ a.R lm H a.s.heap) (vr : VRs c.w a.ρ a.R vs as) : WP c (call (.ref f) vs) a (VΦ c ek lm P) E :=
  wpAny_call (S.c h c ek lm c.A a vs _ hw ok rfl rfl (Nat.le_succ _) (Nat.le_add_right _ _) st vr fun v b l q => PP.ret l q)
end
section
theorem nz {α : Type} {x : α} {p : Prop} (h : (none : Option α) = some x) : p := nomatch h
theorem dA_is {a : AV} {x : D} : dA a = some x → a = .d x := by
  refine AV.casesOn a (fun _ h => congrArg AV.d (Option.some.inj h)) ?_ ?_ ?_ ?_ ?_ ?_ ?_ ?_ ?_ ?_ <;> intros <;> exact nz ‹_›
theorem intD_is {a : D} {x : Int} : intD a = some x → a = .int x := by
  refine D.casesOn a ?_ ?_ (fun _ h => congrArg D.int (Option.some.inj h)) ?_ ?_ ?_ ?_ <;> intros <;> exact nz ‹_›
theorem strD_is {a : D} {x : Str} : strD a = some x → a = .str x := by
  refine D.casesOn a ?_ ?_ ?_ (fun _ h => congrArg D.str (Option.some.inj h)) ?_ ?_ ?_ <;> intros <;> exact nz ‹_›
theorem boolD_is {a : D} {x : Bool} : boolD a = some x → a = .bool x := by
  refine D.casesOn a ?_ (fun _ h => congrArg D.bool (Option.some.inj h)) ?_ ?_ ?_ ?_ ?_ <;> intros <;> exact nz ‹_›
theorem tupD_is {a : D} {x : List D} : tupD a = some x → a = .tup x := by
  refine D.casesOn a ?_ ?_ ?_ ?_ (fun _ h => congrArg D.tup (Option.some.inj h)) ?_ ?_ <;> intros <;> exact nz ‹_›
theorem intA_is {a : AV} {x : Int} (h : intA a = some x) : a = .d (.int x) := (Option.bind_eq_some_iff.mp h).elim fun _ h => (dA_is h.1).trans (congrArg AV.d (intD_is h.2))
theorem strA_is {a : AV} {x : Str} (h : strA a = some x) : a = .d (.str x) := (Option.bind_eq_some_iff.mp h).elim fun _ h => (dA_is h.1).trans (congrArg AV.d (strD_is h.2))
theorem boolA_is {a : AV} {x : Bool} (h : boolA a = some x) : a = .d (.bool x) := (Option.bind_eq_some_iff.mp h).elim fun _ h => (dA_is h.1).trans (congrArg AV.d (boolD_is h.2))
theorem tupA_is {a : AV} {x : List D} (h : tupA a = some x) : a = .d (.tup x) := (Option.bind_eq_some_iff.mp h).elim fun _ h => (dA_is h.1).trans (congrArg AV.d (tupD_is h.2))
theorem lsA_is {a : AV} {x : List AV} : lsA a = some x → a = .lst x := by
  refine AV.casesOn a ?_ ?_ (fun _ h => congrArg AV.lst (Option.some.inj h)) ?_ ?_ ?_ ?_ ?_ ?_ ?_ ?_ <;> intros <;> exact nz ‹_›
theorem objA_is {a : AV} {x : Nat} : objA a = some x → a = .obj x := by
  refine AV.casesOn a ?_ ?_ ?_ ?_ ?_ ?_ ?_ (fun _ h => congrArg AV.obj (Option.some.inj h)) ?_ ?_ ?_ <;> intros <;> exact nz ‹_›
theorem fnA_is {a : AV} {x : Addr} : fnA a = some x → a = .fn x := by
  refine AV.casesOn a ?_ ?_ ?_ ?_ ?_ ?_ ?_ ?_ (fun _ h => congrArg AV.fn (Option.some.inj h)) ?_ ?_ <;> intros <;> exact nz ‹_›
theorem sdA_is {a : AV} {x : List (Str × AV)} : sdA a = some x → a = .sdic x := by
  refine AV.casesOn a ?_ ?_ ?_ ?_ ?_ (fun _ h => congrArg AV.sdic (Option.some.inj h)) ?_ ?_ ?_ ?_ ?_ <;> intros <;> exact nz ‹_›
theorem fz {p : Prop} (h : false = true) : p := nomatch h
theorem isNoneA_is {a : AV} : isNoneA a = true → a = .d .none := by
  refine AV.casesOn a (fun x => ?_) ?_ ?_ ?_ ?_ ?_ ?_ ?_ ?_ ?_ ?_
  · refine D.casesOn x (fun _ => rfl) ?_ ?_ ?_ ?_ ?_ ?_ <;> intros <;> exact fz ‹_›
  all_goals intros; exact fz ‹_›
theorem two_is {α β : Type} {f : β → Option α} {a b : β} {p : α × α} (h : two f a b = some p) : f a = some p.1 ∧ f b = some p.2 := by
  obtain ⟨x, h1, h2⟩ := Option.bind_eq_some_iff.mp h
  obtain ⟨y, h3, h4⟩ := Option.map_eq_some_iff.mp h2
  subst h4
  exact ⟨h1, h3⟩
theorem aoL_is {a : AO} {x : List AV} : aoL a = some x → a = .lst x := by
  refine AO.casesOn a (fun _ h => congrArg AO.lst (Option.some.inj h)) ?_ ?_ ?_ ?_ ?_ ?_ ?_ ?_ ?_ <;> intros <;> exact nz ‹_›
theorem aoS_is {a : AO} {x : List D} : aoS a = some x → a = .sym x := by
  refine AO.casesOn a ?_ (fun _ h => congrArg AO.sym (Option.some.inj h)) ?_ ?_ ?_ ?_ ?_ ?_ ?_ ?_ <;> intros <;> exact nz ‹_›
theorem aoT_is {a : AO} {x : (Int → Option AV) × Sz} : aoT a = some x → a = .tab x.1 x.2 := by
  refine AO.casesOn a ?_ ?_ (fun _ _ h => congrArg (fun p : (Int → Option AV) × Sz => AO.tab p.1 p.2) (Option.some.inj h)) ?_ ?_ ?_ ?_ ?_ ?_ ?_ <;> intros <;> exact nz ‹_›
theorem aoI_is {a : AO} {x : Addr × Nat} : aoI a = some x → a = .ins x.1 x.2 := by
  refine AO.casesOn a ?_ ?_ ?_ (fun _ _ h => congrArg (fun p : Addr × Nat => AO.ins p.1 p.2) (Option.some.inj h)) ?_ ?_ ?_ ?_ ?_ ?_ <;> intros <;> exact nz ‹_›
theorem aoF_is {a : AO} {x : List (Str × AV)} : aoF a = some x → a = .fld x := by
  refine AO.casesOn a ?_ ?_ ?_ ?_ (fun _ h => congrArg AO.fld (Option.some.inj h)) ?_ ?_ ?_ ?_ ?_ <;> intros <;> exact nz ‹_›
theorem aoC_is {a : AO} {x : Option AV} : aoC a = some x → a = .cell x := by
  refine AO.casesOn a ?_ ?_ ?_ ?_ ?_ (fun _ h => congrArg AO.cell (Option.some.inj h)) ?_ ?_ ?_ ?_ <;> intros <;> exact nz ‹_›
/-- what lies at a slot -/
theorem slot_is {α : Type} {H : Hp} {k : Nat} {f : AO → Option α} {g : α → AO} {x : α} (hf : ∀ {a : AO} {x : α}, f a = some x → a = g x) (h : (H[k]?).bind f = some x) : H[k]? = some (g x) := by
  obtain ⟨a, h1, h2⟩ := Option.bind_eq_some_iff.mp h
  rw [h1, hf h2]
section
variable {w : World} {ρ : List Addr} {R : Led} {v : Value}
theorem VR.int {a : AV} {i : Int} (h : VR w ρ R v a) (e : intA a = some i) : ∃ t, v = .int i t := (intA_is e ▸ h).inv.inv
theorem VR.str {a : AV} {i : Str} (h : VR w ρ R v a) (e : strA a = some i) : ∃ t, v = .str i t := (strA_is e ▸ h).inv.inv
theorem VR.isB {i : Bool} (h : VR w ρ R v (.d (.bool i))) : v = .bool i := h.inv.inv
theorem VR.bool {a : AV} {i : Bool} (h : VR w ρ R v a) (e : boolA a = some i) : v = .bool i := (boolA_is e ▸ h).inv.inv
theorem VR.non {a : AV} (h : VR w ρ R v a) (e : isNoneA a = true) : v = .none := (isNoneA_is e ▸ h).inv.inv
theorem VR.tupl {a : AV} {ds : List D} (h : VR w ρ R v a) (e : tupA a = some ds) : ∃ p vs n, v = .ref p ∧ (p, Mine.tup vs n) ∈ R ∧ DIs R vs ds := (tupA_is e ▸ h).inv.inv
theorem VR.list {a : AV} {xs : List AV} (h : VR w ρ R v a) (e : lsA a = some xs) : ∃ p vs n, v = .ref p ∧ (p, listOf vs.toArray n) ∈ R ∧ VRs w ρ R vs xs := (lsA_is e ▸ h).inv
theorem VR.isO {k : Nat} (h : VR w ρ R v (.obj k)) : ∃ a, v = .ref a ∧ ρ[k]? = some a := h.inv
theorem VR.objx {a : AV} {k : Nat} (h : VR w ρ R v a) (e : objA a = some k) : VR w ρ R v (.obj k) := objA_is e ▸ h
theorem VRs.ofDIs {vs : List Value} {ds : List D} (h : DIs R vs ds) : VRs w ρ R vs (ds.map .d) := by
  induction ds generalizing vs with
  | nil => rw [show vs = [] from h.inv]; exact .nil
  | cons d ds ih => obtain ⟨v, r, rfl, a, b⟩ := h.inv; exact .cons (.d a) (ih b)
theorem VRs.allD {vs : List Value} {xs : List AV} {ds : List D} (h : VRs w ρ R vs xs) (e : allD xs = some ds) : DIs R vs ds := by
  induction xs generalizing vs ds with
  | nil => rw [show vs = [] from h.inv, ← Option.some.inj e]; exact .nil
  | cons x xs ih =>
    obtain ⟨v, r, rfl, a, b⟩ := h.inv
    obtain ⟨y, h1, h2⟩ := Option.bind_eq_some_iff.mp e
    obtain ⟨z, h3, h4⟩ := Option.map_eq_some_iff.mp h2
    subst h4
    exact .cons (dA_is h1 ▸ a).inv (ih b h3)
/-- a tuple's parts -/
theorem VR.seq {a : AV} {xs : List AV} (h : VR w ρ R v a) (e : seqA a = some xs) : ∃ p vs n, v = .ref p ∧ (p, Mine.tup vs n) ∈ R ∧ VRs w ρ R vs xs := by
  revert h e
  refine AV.casesOn a (fun x h e => ?_) (fun ys h e => (Option.some.inj e) ▸ h.inv) ?_ ?_ ?_ ?_ ?_ ?_ ?_ ?_ ?_
  · obtain ⟨ds, h1, h2⟩ := Option.map_eq_some_iff.mp e
    obtain ⟨p, vs, n, rfl, hm, hs⟩ : DInv R v (.tup ds) := (tupD_is h1 ▸ h.inv).inv
    exact ⟨_, _, _, rfl, hm, h2 ▸ .ofDIs hs⟩
  all_goals intros; exact nz ‹_›
end
theorem size_ok {n : Nat} (h : n < 1800) : n ≤ sizeLine := by rw [sizeLine_eq]; omega
section
variable {c : Ctx} {ek : EK} {lm : Lm} {H : Hp} {n : Nat} {a : Wd} {E : Value → Shared → Prop} {P : AV → Hp → Prop}
/-- a new object that stands still -/
theorem newS {v : Value} {av : AV} {D : Addr} {o : Obj} {h' : Heap} {t : Nat} (st' : St c ek a.ρ ((D, o) :: a.R) lm H h') (vr : VR c.w a.ρ ((D, o) :: a.R) v av) (p : P av H) : PP a (VΦ c ek lm P) v { a.s with heap := h', toks := t } :=
  PP.ret (b := ⟨{ a.s with heap := h', toks := t }, a.ρ, (D, o) :: a.R⟩) ⟨⟨_, _, rfl⟩, List.prefix_refl _, fun _ h => .tail _ h⟩ ⟨av, H, p, st', vr⟩
/-- a new object that may change -/
theorem newO {D : Addr} {ao : AO} {h' : Heap} {t : Nat} (el : a.ρ.length = H.length) (st' : St c ek (a.ρ ++ [D]) a.R lm (H ++ [ao]) h') (p : P (.obj H.length) (H ++ [ao])) : PP a (VΦ c ek lm P) (.ref D) { a.s with heap := h', toks := t } :=
  PP.ret (b := ⟨{ a.s with heap := h', toks := t }, a.ρ ++ [D], a.R⟩) ⟨⟨_, _, rfl⟩, List.prefix_append _ _, fun _ h => h⟩ ⟨_, _, p, st', .obj (by show (a.ρ ++ [D])[H.length]? = some D; rw [← el]; simp)⟩
/-- a slot is changed -/
theorem putO {v : Value} {av : AV} {k : Nat} {ao : AO} {h' : Heap} {t : Nat} (st' : St c ek a.ρ a.R lm (H.set k ao) h') (vr : VR c.w a.ρ a.R v av) (p : P av (H.set k ao)) : PP a (VΦ c ek lm P) v { a.s with heap := h', toks := t } :=
  PP.ret (b := ⟨{ a.s with heap := h', toks := t }, a.ρ, a.R⟩) ⟨⟨_, _, rfl⟩, List.prefix_refl _, fun _ h => h⟩ ⟨av, _, p, st', vr⟩
theorem ltne {news : Led} {D : Addr} (l : ∀ p ∈ news, p.1 < D) : ∀ p ∈ news, p.1 ≠ D := fun p hp => Nat.ne_of_lt (l p hp)
/-- the state with a new object -/
structure Nw (c : Ctx) (ek : EK) (lm : Lm) (H : Hp) (a : Wd) (m : Str → Option Value) (news : Led) : Prop where
  F : Fr c.h₀ c.L a.s.heap m
  N : News c.h₀ c.L a.s.heap news
  sub : ∀ p ∈ a.R, p ∈ news
  ghs : ∀ p ∈ c.gh, p ∈ news
  rho : ∀ x ∈ a.ρ, ∃ o, (x, o) ∈ news
  all : ∀ p ∈ news, p.1 ∈ a.ρ ∨ p ∈ a.R ∨ p ∈ c.gh
  still : ∀ D o h', Fr c.h₀ c.L h' m → News c.h₀ c.L h' ((D, o) :: news) → (∀ p ∈ news, p.1 ≠ D) → St c ek a.ρ ((D, o) :: a.R) lm H h'
  alloc : ∀ D o ao h', Fr c.h₀ c.L h' m → News c.h₀ c.L h' ((D, o) :: news) → (∀ p ∈ news, p.1 ≠ D) → OR c.w (a.ρ ++ [D]) a.R D o ao → St c ek (a.ρ ++ [D]) a.R lm (H ++ [ao]) h'
  same : ∀ h', Fr c.h₀ c.L h' m → News c.h₀ c.L h' news → St c ek a.ρ a.R lm H h'
  el : a.ρ.length = H.length
  sl : ∀ (k : Nat) ao, H[k]? = some ao → ∃ ad o, a.ρ[k]? = some ad ∧ (ad, o) ∈ news ∧ OR c.w a.ρ a.R ad o ao
  lo : LmOK c ek a.ρ a.R m lm
theorem St.nw (st : St c ek a.ρ a.R lm H a.s.heap) : ∃ m news, Nw c ek lm H a m news := by
  obtain ⟨m, os, F, N, x⟩ := st.raw
  refine ⟨m, _, F, N, fun p hp => List.mem_append_right _ (List.mem_append_left _ hp), fun p hp => List.mem_append_right _ (List.mem_append_right _ hp), fun y hy => ?_, fun p hp => ?_, fun D o h' F' N' l => St.still F' N' x l, fun D o ao h' F' N' l r => St.alloc F' N' x l r, fun h' F' N' => x.st F' N', x.el.trans x.O.length, fun k ao e => ?_, x.lo⟩
  · obtain ⟨j, hj⟩ := List.mem_iff_getElem?.mp hy
    have jl : j < os.length := by rcases Nat.lt_or_ge j a.ρ.length with l | l; exact x.el ▸ l; rw [List.getElem?_eq_none l] at hj; cases hj
    exact ⟨os[j], List.mem_append_left _ (zip_in hj (by simp [jl]))⟩
  · rcases List.mem_append.mp hp with hp | hp
    · exact .inl (List.of_mem_zip (a := p.1) (b := p.2) hp).1
    · exact .inr (List.mem_append.mp hp)
  · obtain ⟨ad, o, ha, eo, r⟩ := x.O.get e
    exact ⟨_, o, ha, List.mem_append_left _ (zip_in ha eo), r⟩
section
variable {m : Str → Option Value} {news : Led} (W : Nw c ek lm H a m news)
include W
theorem Nw.stl {D : Addr} {o : Obj} {h' : Heap} (F' : Fr c.h₀ c.L h' m) (N' : News c.h₀ c.L h' ((D, o) :: news)) (l1 : ∀ p ∈ news, p.1 < D) : St c ek a.ρ ((D, o) :: a.R) lm H h' := W.still D o h' F' N' fun p hp => Nat.ne_of_lt (l1 p hp)
theorem Nw.newL {vs : List Value} {xs : List AV} {mu : Bool} (vr : VRs c.w a.ρ a.R vs xs) (p : newL mu xs H P) {D : Addr} {h' : Heap} {t k : Nat} (F' : Fr c.h₀ c.L h' m) (N' : News c.h₀ c.L h' ((D, listOf vs.toArray k) :: news)) (l1 : ∀ p ∈ news, p.1 ≠ D) : PP a (VΦ c ek lm P) (.ref D) { a.s with heap := h', toks := t } := by
  rcases iB_ok p with ⟨_, p⟩ | ⟨_, p⟩
  · exact newO W.el (W.alloc D _ (.lst xs) h' F' N' l1 (.lst (vr.up (List.prefix_append _ _) fun _ h => h))) p
  · exact newS (W.still D _ h' F' N' l1) (.lst (.head _) (vr.up (List.prefix_refl _) fun _ h => .tail _ h)) p
theorem Nw.newY {vs : List Value} {ds : List D} {mu : Bool} (vr : DIs a.R vs ds) (p : newY mu ds H P) {D : Addr} {h' : Heap} {t k : Nat} (F' : Fr c.h₀ c.L h' m) (N' : News c.h₀ c.L h' ((D, listOf vs.toArray k) :: news)) (l1 : ∀ p ∈ news, p.1 ≠ D) : PP a (VΦ c ek lm P) (.ref D) { a.s with heap := h', toks := t } := by
  rcases iB_ok p with ⟨_, p⟩ | ⟨_, p⟩
  · exact newO W.el (W.alloc D _ (.sym ds) h' F' N' l1 (.sym vr)) p
  · exact newS (W.still D _ h' F' N' l1) (.slst (.head _) (vr.mono fun _ h => .tail _ h)) p
theorem Nw.newT {kvs : List (Int × Value)} {f : Int → Option AV} {z : Sz} {mu : Bool} (hz : z.ok kvs) (hj : ∀ j, OV c.w a.ρ a.R (valueAt kvs j) (f j)) (p : newT mu f z H P) {D : Addr} {o : Obj} {h' : Heap} {t : Nat} (F' : Fr c.h₀ c.L h' m) (N' : News c.h₀ c.L h' ((D, o) :: news)) (l1 : ∀ p ∈ news, p.1 ≠ D) (d : o.IsDictOf (PySem.intKind prg c.w) kvs) (hn : (D == sysModules) = false) : PP a (VΦ c ek lm P) (.ref D) { a.s with heap := h', toks := t } := by
  rcases iB_ok p with ⟨_, p⟩ | ⟨_, p⟩
  · exact newO W.el (W.alloc D _ (.tab f z) h' F' N' l1 (.tab d hz (fun j => (hj j).up (List.prefix_append _ _) fun _ h => h) hn)) p
  · exact newS (W.still D _ h' F' N' l1) (.tab (.head _) d hz (fun j => (hj j).up (List.prefix_refl _) fun _ h => .tail _ h) hn) p
/-- what lies at an object -/
theorem Nw.at {v : Value} {k : Nat} {ao : AO} (hx : VR c.w a.ρ a.R v (.obj k)) (hk : H[k]? = some ao) : ∃ ad o, v = .ref ad ∧ (ad, o) ∈ news ∧ OR c.w a.ρ a.R ad o ao := by
  obtain ⟨ad, rfl, e1⟩ := hx.isO
  obtain ⟨ad', o, e2, hm, r⟩ := W.sl k _ hk
  cases Option.some.inj (e1.symm.trans e2)
  exact ⟨ad, o, rfl, hm, r⟩
theorem Nw.ls {v : Value} {av : AV} (hx : VR c.w a.ρ a.R v av) {xs : List AV} (e : lsIn av H = some xs) : ∃ p vs k, v = .ref p ∧ (p, listOf vs.toArray k) ∈ news ∧ VRs c.w a.ρ a.R vs xs := by
  revert hx e
  refine AV.casesOn av ?_ ?_ (fun ys hx e => ?_) ?_ ?_ ?_ ?_ (fun k hx e => ?_) ?_ ?_ ?_
  case refine_3 =>
    obtain ⟨p, vs, k, h1, hm, hv⟩ := hx.inv
    exact ⟨p, vs, k, h1, W.sub _ hm, Option.some.inj e ▸ hv⟩
  case refine_8 =>
    obtain ⟨ad, o, rfl, hm, r⟩ := W.at hx (slot_is aoL_is e)
    obtain ⟨vs, n, rfl, hv⟩ := r.inv
    exact ⟨_, _, _, rfl, hm, hv⟩
  all_goals intros; exact nz ‹_›
theorem Nw.sy {v : Value} {av : AV} (hx : VR c.w a.ρ a.R v av) {ds : List D} (e : syIn av H = some ds) : ∃ p vs k, v = .ref p ∧ (p, listOf vs.toArray k) ∈ news ∧ DIs a.R vs ds := by
  revert hx e
  refine AV.casesOn av ?_ ?_ ?_ (fun ys hx e => ?_) ?_ ?_ ?_ (fun k hx e => ?_) ?_ ?_ ?_
  case refine_4 =>
    obtain ⟨p, vs, k, h1, hm, hv⟩ := hx.inv
    exact ⟨p, vs, k, h1, W.sub _ hm, Option.some.inj e ▸ hv⟩
  case refine_8 =>
    obtain ⟨ad, o, rfl, hm, r⟩ := W.at hx (slot_is aoS_is e)
    obtain ⟨vs, n, rfl, hv⟩ := r.inv
    exact ⟨_, _, _, rfl, hm, hv⟩
  all_goals intros; exact nz ‹_›
/-- a table -/
structure IsT (c : Ctx) (a : Wd) (news : Led) (v : Value) (q : (Int → Option AV) × Sz) (p : Addr) (o : Obj) (kvs : List (Int × Value)) : Prop where
  e : v = .ref p
  m : (p, o) ∈ news
  d : o.IsDictOf (PySem.intKind prg c.w) kvs
  z : q.2.ok kvs
  j : ∀ j, OV c.w a.ρ a.R (valueAt kvs j) (q.1 j)
  n : (p == sysModules) = false
theorem Nw.tb {v : Value} {av : AV} (hx : VR c.w a.ρ a.R v av) {q : (Int → Option AV) × Sz} (e : tbIn av H = some q) : ∃ p o kvs, IsT c a news v q p o kvs := by
  revert hx e
  refine AV.casesOn av ?_ ?_ ?_ ?_ (fun f z hx e => ?_) ?_ ?_ (fun k hx e => ?_) ?_ ?_ ?_
  case refine_5 =>
    obtain ⟨p, o, kvs, h1, hm, hd, hz, hj, hn⟩ := hx.inv
    rw [← Option.some.inj e]
    exact ⟨_, _, _, h1, W.sub _ hm, hd, hz, hj, hn⟩
  case refine_8 =>
    obtain ⟨ad, o, rfl, hm, r⟩ := W.at hx (slot_is (g := fun p : (Int → Option AV) × Sz => AO.tab p.1 p.2) aoT_is e)
    obtain ⟨kvs, hd, hz, hj, hn⟩ := r.inv
    exact ⟨_, _, _, rfl, hm, hd, hz, hj, hn⟩
  all_goals intros; exact nz ‹_›
/-- an object of a class -/
theorem Nw.fl {v : Value} {av : AV} (hx : VR c.w a.ρ a.R v av) {q : Addr × List (Str × AV)} (e : flIn av H = some q) : ∃ p d es k, v = .ref p ∧ (p, instObj q.1 d) ∈ news ∧ (d, dictOf es k) ∈ news ∧ VFs c.w a.ρ a.R es q.2 := by
  revert hx e
  refine AV.casesOn av ?_ ?_ ?_ ?_ ?_ ?_ (fun C fs hx e => ?_) (fun k hx e => ?_) ?_ ?_ ?_
  case refine_7 =>
    obtain ⟨p, d, es, k, h1, hm, hd, hv⟩ := hx.inv
    rw [← Option.some.inj e]
    exact ⟨_, _, _, _, h1, W.sub _ hm, W.sub _ hd, hv⟩
  case refine_8 =>
    obtain ⟨x, h1, h2⟩ := Option.bind_eq_some_iff.mp e
    obtain ⟨y, h3, h4⟩ := Option.map_eq_some_iff.mp h2
    subst h4
    obtain ⟨ad, o, rfl, hm, r⟩ := W.at hx (slot_is (g := fun p : Addr × Nat => AO.ins p.1 p.2) aoI_is h1)
    obtain ⟨d, rfl, e3⟩ := r.inv
    obtain ⟨ad2, o2, e4, hm2, r2⟩ := W.sl _ _ (slot_is aoF_is h3)
    cases Option.some.inj (e3.symm.trans e4)
    obtain ⟨es, n, rfl, h3⟩ := r2.inv
    exact ⟨_, _, _, _, rfl, hm, hm2, h3⟩
  all_goals intros; exact nz ‹_›
end
theorem ntd {p : Prop} [Decidable p] (h : (!decide p) = true) : ¬ p := fun q => by rw [decide_eq_true q] at h; exact fz h
theorem bin_ok (st : St c ek a.ρ a.R lm H a.s.heap) {x y : Value} {av bv : AV} (hx : VR c.w a.ρ a.R x av) (hy : VR c.w a.ρ a.R y bv) {o : Operator} {mu : Bool} (h : binX o av bv H mu P) : WP c (binaryOp o x y) a (VΦ c ek lm P) E := by
  have two9 : ∀ {p : Int × Int}, two intA av bv = some p → ∃ t u, x = .int p.1 t ∧ y = .int p.2 u := fun e => by
    obtain ⟨e1, e2⟩ := two_is e
    obtain ⟨t, h1⟩ := hx.int e1
    obtain ⟨u, h2⟩ := hy.int e2
    exact ⟨t, u, h1, h2⟩
  obtain ⟨m, news, W⟩ := st.nw
  cases o with
  | Add =>
    rcases eX_ok h with ⟨p, e, h⟩ | h
    · obtain ⟨t, u, rfl, rfl⟩ := two9 e
      exact add_int (vretk _ h st (.d (.int _ _)))
    rcases eX_ok h with ⟨p, e, h⟩ | h
    · obtain ⟨e1, e2⟩ := two_is e
      obtain ⟨p1, vs, n1, rfl, hm, hv⟩ := hx.tupl e1
      obtain ⟨q1, us, n2, rfl, hq, hu⟩ := hy.tupl e2
      obtain ⟨b, h⟩ := gB_ok h
      simp only [Bool.and_eq_true, Bool.not_eq_true', List.isEmpty_eq_false_iff] at b
      obtain ⟨b1, b2, b3⟩ := b
      have b3 := Nat.le_of_ble_eq_true b3
      have l1 := hv.length; have l2 := hu.length
      refine kde_addT W.F W.N (News.isTup W.N (W.sub _ hm)) (News.isTup W.N (W.sub _ hq)) (fun q => ?_) (fun q => ?_) ?_ rfl fun D h' F' N' l => newS (W.stl F' N' l) (.d (.tup (n := 0) (.head _) ((hv.append hu).mono fun _ h => .tail _ h))) h
      · have : vs = [] := q; subst this; exact b1 (List.length_eq_zero_iff.mp l1.symm)
      · have : us = [] := q; subst this; exact b2 (List.length_eq_zero_iff.mp l2.symm)
      · show vs.length + us.length ≤ _; omega
    obtain ⟨ys, e, h⟩ := oX_ok h
    obtain ⟨q, us, n2, rfl, hq, hu⟩ := hy.list e
    rcases eX_ok h with ⟨xs, e1, h⟩ | h
    · obtain ⟨z1, h⟩ := ltB_ok h
      obtain ⟨z2, h⟩ := ltB_ok h
      obtain ⟨p, vs, n1, rfl, hm, hv⟩ := W.ls hx e1
      refine kmk_add_lit W.F W.N (News.isList W.N hm) (News.isList W.N (W.sub _ hq)) rfl (fun D h' F' N' l => W.newL (hv.append hu) h F' N' (ltne l)) ?_
      show vs.length + us.length ≤ _
      exact size_ok (by rw [hv.length, hu.length]; omega)
    · obtain ⟨ds, e1, h⟩ := oX_ok h
      obtain ⟨es, e2, ⟨z1, z2⟩, h⟩ := oX_ok h
      obtain ⟨p, vs, n1, rfl, hm, hv⟩ := W.sy hx e1
      have hu := hu.allD e2
      refine kmk_add_lit W.F W.N (News.isList W.N hm) (News.isList W.N (W.sub _ hq)) rfl (fun D h' F' N' l => W.newY (hv.append hu) h F' N' (ltne l)) ?_
      show vs.length + us.length ≤ _
      exact size_ok (by rw [hv.length, hu.length]; omega)
  | Sub =>
    obtain ⟨p, e, h⟩ := oX_ok h
    obtain ⟨t, u, rfl, rfl⟩ := two9 e
    exact sub_int (vretk _ h st (.d (.int _ _)))
  | Mult =>
    rcases eX_ok h with ⟨p, e, h⟩ | h
    · obtain ⟨t, u, rfl, rfl⟩ := two9 e
      exact mul_int (vretk _ h.2 st (.d (.int _ _))) h.1
    · obtain ⟨xs, e, h⟩ := oX_ok h
      obtain ⟨j, e2, h⟩ := oX_ok h
      obtain ⟨p, vs, n1, rfl, hm, hv⟩ := hx.list e
      obtain ⟨t, rfl⟩ := hy.int e2
      obtain ⟨b, h⟩ := gB_ok h
      simp only [Bool.and_eq_true, decide_eq_true_eq] at b
      obtain ⟨b1, b2, b3⟩ := b
      have b3 := Nat.le_of_ble_eq_true b3
      have rep : ∀ n : Nat, VRs c.w a.ρ a.R (List.replicate n vs).flatten (List.replicate n xs).flatten := fun n => by
        induction n with
        | zero => exact .nil
        | succ n ih => rw [List.replicate_succ, List.replicate_succ, List.flatten_cons, List.flatten_cons]; exact hv.append ih
      exact KMa.mul W.F W.N (News.isList W.N (W.sub _ hm)) (by omega) (by omega) (by rw [hv.length]; exact b3) rfl fun D h' F' N' l => W.newL (rep j.toNat) h F' N' (ltne l)
  | FloorDiv =>
    obtain ⟨p, e, h⟩ := oX_ok h
    obtain ⟨t, u, rfl, rfl⟩ := two9 e
    obtain ⟨b, h⟩ := gB_ok h
    exact floordiv_int (ntd b) (vretk _ h.2 st (.d (.int _ _))) (.inl h.1)
  | Mod =>
    obtain ⟨p, e, h⟩ := oX_ok h
    obtain ⟨t, u, rfl, rfl⟩ := two9 e
    obtain ⟨b, h⟩ := gB_ok h
    exact mod_int' (ntd b) (vretk _ h st (.d (.int _ _)))
  | Pow =>
    obtain ⟨p, e, h⟩ := oX_ok h
    obtain ⟨t, u, rfl, rfl⟩ := two9 e
    obtain ⟨b, h⟩ := gB_ok h
    rw [Bool.and_eq_true, Bool.and_eq_true, decide_eq_true_eq] at b
    exact pow_int_small b.1 (by have := Nat.le_of_ble_eq_true b.2.1; omega) (Nat.le_of_ble_eq_true b.2.2) (vretk _ h st (.d (.int _ _)))
  | _ => exact False.elim h
theorem un_ok (st : St c ek a.ρ a.R lm H a.s.heap) {x : Value} {av : AV} (hx : VR c.w a.ρ a.R x av) {o : UnaryOp} (h : unX o av H P) : WP c (unaryOp o x) a (VΦ c ek lm P) E := by
  cases o with
  | USub =>
    obtain ⟨i, e, h⟩ := oX_ok h
    obtain ⟨t, rfl⟩ := hx.int e
    exact neg_int (vretk _ h st (.d (.int _ _)))
  | Not =>
    obtain ⟨i, e, h⟩ := oX_ok h
    cases hx.bool e
    exact not_of (wpAny_truthy_bool (vret Le.refl h st (.d (.bool _))))
  | _ => exact False.elim h
theorem tru_ok {P : Bool → Hp → Prop} (st : St c ek a.ρ a.R lm H a.s.heap) {x : Value} {av : AV} (hx : VR c.w a.ρ a.R x av) (h : oX (boolA av) fun b => P b H) : WP c (truthy x) a (BΦ c ek lm P) E := by
  obtain ⟨i, e, h⟩ := oX_ok h
  cases hx.bool e
  exact wpAny_truthy_bool (PP.ret Le.refl ⟨H, h, st⟩)
end
theorem VRs.reverse {w : World} {ρ : List Addr} {R : Led} {vs : List Value} {as : List AV} (h : VRs w ρ R vs as) : VRs w ρ R vs.reverse as.reverse := by
  induction as generalizing vs with
  | nil => rw [show vs = [] from h.inv]; exact .nil
  | cons a as ih =>
    obtain ⟨v, r, rfl, x, y⟩ := h.inv
    rw [List.reverse_cons, List.reverse_cons]
    exact (ih y).append (.cons x .nil)
end
section
theorem mapO_cons {α β : Type} {f : α → Option β} {x : α} {r : List α} {l : List β} (h : mapO f (x :: r) = some l) : ∃ y ys, f x = some y ∧ mapO f r = some ys ∧ l = y :: ys := by
  obtain ⟨y, h1, h2⟩ := Option.bind_eq_some_iff.mp h
  obtain ⟨ys, h3, h4⟩ := Option.map_eq_some_iff.mp h2
  exact ⟨y, ys, h1, h3, h4.symm⟩
section
variable {w : World} {ρ : List Addr} {R : Led}
theorem strsD_are {vs : List Value} {ds : List D} {ys : List Str} (h : DIs R vs ds) (e : mapO strD ds = some ys) : StrsAre vs ys := by
  induction ds generalizing vs ys with
  | nil => rw [show vs = [] from h.inv, ← Option.some.inj e]; exact .nil
  | cons d ds ih =>
    obtain ⟨v, r, rfl, a, b⟩ := h.inv
    obtain ⟨y, zs, h1, h2, rfl⟩ := mapO_cons e
    obtain ⟨t, rfl⟩ := (strD_is h1 ▸ a).inv
    exact .cons _ _ (ih b h2)
theorem strsA_are {vs : List Value} {ds : List AV} {ys : List Str} (h : VRs w ρ R vs ds) (e : mapO strA ds = some ys) : StrsAre vs ys := by
  induction ds generalizing vs ys with
  | nil => rw [show vs = [] from h.inv, ← Option.some.inj e]; exact .nil
  | cons d ds ih =>
    obtain ⟨v, r, rfl, a, b⟩ := h.inv
    obtain ⟨y, zs, h1, h2, rfl⟩ := mapO_cons e
    obtain ⟨t, rfl⟩ := a.str h1
    exact .cons _ _ (ih b h2)
theorem intsA_are {vs : List Value} {ds : List AV} {ys : List Int} (h : VRs w ρ R vs ds) (e : mapO intA ds = some ys) : IntsAre vs ys := by
  induction ds generalizing vs ys with
  | nil => rw [show vs = [] from h.inv, ← Option.some.inj e]; exact .nil
  | cons d ds ih =>
    obtain ⟨v, r, rfl, a, b⟩ := h.inv
    obtain ⟨y, zs, h1, h2, rfl⟩ := mapO_cons e
    obtain ⟨t, rfl⟩ := a.int h1
    exact .cons _ _ (ih b h2)
end
theorem kf_ints_of {vs : List Value} {ns : List Int} (h : IntsAre vs ns) (i : Int) : kf_ints vs = true ∧ vs.any (isInt i) = ns.any fun j => decide (j = i) := by
  induction h with
  | nil => exact ⟨rfl, rfl⟩
  | cons k t _ ih =>
    refine ⟨ih.1, ?_⟩
    rw [List.any_cons, List.any_cons, ih.2]
    congr 1
theorem topStrs_is {t : Addr} {ys : List Str} (e : topStrs t = some ys) (w : World) : ∃ od items n sl, (KH w).lookup t = some ⟨.type "tuple", od, .seq items n, sl⟩ ∧ StrsAre items.toList ys := by
  unfold topStrs at e
  cases h : Nat.beq t 222 with
  | true =>
    rw [h] at e; cases Nat.eq_of_beq_eq_true h; cases e
    exact ⟨_, _, _, _, rfl, by repeat constructor⟩
  | false =>
    rw [h] at e
    cases h : Nat.beq t 223 with
    | true =>
      rw [h] at e; cases Nat.eq_of_beq_eq_true h; cases e
      exact ⟨_, _, _, _, rfl, by repeat constructor⟩
    | false => rw [h] at e; exact nz e
theorem beqD {α : Type} [BEq α] [LawfulBEq α] [DecidableEq α] (x y : α) : (x == y) = decide (x = y) := by rw [Bool.eq_iff_iff]; simp
theorem OV.isSome {w : World} {ρ : List Addr} {R : Led} {v : Option Value} {x : Option AV} (h : OV w ρ R v x) : v.isSome = x.isSome := OV.casesOn (motive_3 := fun v x _ => v.isSome = x.isSome) h rfl fun _ => rfl
section
variable {c : Ctx} {ek : EK} {lm : Lm} {H : Hp} {n : Nat} {a : Wd} {E : Value → Shared → Prop} {P : Bool → Hp → Prop}
noncomputable abbrev CΦ (c : Ctx) (ek : EK) (lm : Lm) (P : Bool → Hp → Prop) : Value → Wd → Prop := VΦ c ek lm fun v H => ∃ b, v = .d (.bool b) ∧ P b H
theorem bret (st : St c ek a.ρ a.R lm H a.s.heap) {b : Bool} (p : P b H) : PP a (CΦ c ek lm P) (.bool b) a.s := PP.ret Le.refl ⟨_, H, ⟨b, rfl, p⟩, st, .d (.bool b)⟩
theorem bretk (st : St c ek a.ρ a.R lm H a.s.heap) {b : Bool} (t : Nat) (p : P b H) : PP a (CΦ c ek lm P) (.bool b) { a.s with toks := t } := PP.ret (b := a.tk t) Le.tk ⟨_, H, ⟨b, rfl, p⟩, st, .d (.bool b)⟩
theorem mapO_reads {h : Heap} {f : AV → Option PyData} {w : World} {ρ : List Addr} {R : Led} (hf : ∀ {v : Value} {a : AV} {p : PyData}, VR w ρ R v a → f a = some p → ∃ as, Reads h v p as) {vs : List Value} {xs : List AV} {ps : List PyData} (hv : VRs w ρ R vs xs) (e : mapO f xs = some ps) : ∃ as, ReadsAll h vs ps as := by
  induction xs generalizing vs ps with
  | nil => rw [show vs = [] from hv.inv, ← Option.some.inj e]; exact ⟨_, .nil⟩
  | cons d ds ih =>
    obtain ⟨v, r, rfl, a, b⟩ := hv.inv
    obtain ⟨y, zs, h1, h2, rfl⟩ := mapO_cons e
    obtain ⟨as, q⟩ := hf a h1
    obtain ⟨bs, q'⟩ := ih b h2
    exact ⟨_, .cons q q'⟩
theorem pyV_reads {m : Str → Option Value} {news : Led} (W : Nw c ek lm H a m news) (T : TopD a.s.heap) {n : Nat} {v : Value} {x : AV} {p : PyData} (hv : VR c.w a.ρ a.R v x) (e : pyV H n x = some p) : ∃ as, Reads a.s.heap v p as := by
  have NR : News c.h₀ c.L a.s.heap a.R := fun p hp => W.N p (W.sub p hp)
  have dd : ∀ {v : Value} {x : AV} {p : PyData}, VR c.w a.ρ a.R v x → (dA x).bind pyD = some p → ∃ as, Reads a.s.heap v p as := fun hv e => by
    obtain ⟨d, h1, h2⟩ := Option.bind_eq_some_iff.mp e
    obtain ⟨as, r⟩ := (dA_is h1 ▸ hv).inv.reads NR T
    unfold pyD at h2
    cases q : d.ok with
    | true => rw [q] at h2; exact ⟨as, Option.some.inj h2 ▸ r⟩
    | false => rw [q] at h2; exact nz h2
  induction n generalizing v x p with
  | zero => exact dd hv e
  | succ n ih =>
    unfold pyV at e
    cases q : lsIn x H with
    | none => rw [q] at e; exact dd hv e
    | some xs =>
      rw [q] at e
      obtain ⟨ps, h1, h2⟩ := Option.map_eq_some_iff.mp e
      subst h2
      obtain ⟨q, vs, k, rfl, hm, hs⟩ := W.ls hv q
      obtain ⟨as, r⟩ := mapO_reads (fun h1 h2 => ih h1 h2) hs h1
      exact ⟨_, .list (W.N _ hm).1 rfl rfl r⟩
theorem eq_ok (st : St c ek a.ρ a.R lm H a.s.heap) (ok : c.OK n) {x y : Value} {av bv : AV} (hx : VR c.w a.ρ a.R x av) (hy : VR c.w a.ρ a.R y bv) {ne : Bool} (h : eqX av bv H ne fun b => P b H) :
    WP c (compareOp (if ne then .NotEq else .Eq) x y) a (CΦ c ek lm P) E := by
  have hu : c.A.units + 64 < cLine := by have := ok.hu; show c.un + 64 < cLine; omega
  obtain ⟨m, news, W⟩ := st.nw
  have T : TopD a.s.heap := TopD.of W.F ok.X
  rcases eX_ok h with ⟨p, e, h⟩ | h
  · obtain ⟨e1, e2⟩ := two_is e
    obtain ⟨t, rfl⟩ := hx.str e1; obtain ⟨u, rfl⟩ := hy.str e2
    cases ne with
    | false => exact eq_str (bret st (by rw [beqD]; exact h))
    | true => exact ne_str (bret st (by rw [bne, beqD]; exact h))
  rcases eX_ok h with ⟨p, e, h⟩ | h
  · obtain ⟨e1, e2⟩ := two_is e
    obtain ⟨t, rfl⟩ := hx.int e1; obtain ⟨u, rfl⟩ := hy.int e2
    cases ne with
    | false => exact eq_int (bret st (by rw [beqD]; exact h))
    | true => exact ne_int (bret st (by rw [bne, beqD]; exact h))
  rcases eX_ok h with ⟨p, e, h⟩ | h
  · obtain ⟨e1, e2⟩ := two_is e
    cases hx.bool e1; cases hy.bool e2
    cases ne with
    | false => exact eq_bool (bret st h)
    | true => exact ne_bool (bret st h)
  rcases eX_ok h with ⟨p, e, h⟩ | h
  · obtain ⟨e1, e2⟩ := two_is e
    obtain ⟨⟨q, hz⟩, h⟩ := h
    obtain ⟨p1, vs, k1, rfl, hm, hv⟩ := W.sy hx e1
    obtain ⟨p2, us, k2, rfl, hq, hw⟩ := W.sy hy e2
    obtain ⟨as, r1⟩ := listReads W.N T hm (hv.mono W.sub)
    obtain ⟨bs, r2⟩ := listReads W.N T hq (hw.mono W.sub)
    rw [← q] at r2
    have eqv : PyData.eqv (.list (D.pys p.1)) (.list (D.pys p.1)) = true := SeqAt.eqv_refl _ (SeqAt.canLay_of_shaped (listOk hz))
    cases ne with
    | false => exact eq_dataH r1 r2 (listOk hz) (listOk hz) hu (by rw [eqv]; exact bret st h)
    | true => exact ne_dataH r1 r2 (listOk hz) (listOk hz) hu (by rw [eqv]; exact bret st h)
  obtain ⟨p, e1, h⟩ := oX_ok h
  obtain ⟨q, e2, h⟩ := oX_ok h
  obtain ⟨hs, h⟩ := gB_ok h
  obtain ⟨s1, s2⟩ := Bool.and_eq_true_iff.mp hs
  obtain ⟨as, r1⟩ := pyV_reads W T hx e1
  obtain ⟨bs, r2⟩ := pyV_reads W T hy e2
  cases ne with
  | false => exact eq_dataH r1 r2 s1 s2 hu (bret st h)
  | true => exact ne_dataH r1 r2 s1 s2 hu (bret st h)
theorem any_no (vs : List Value) : (vs.toArray.any fun _ => false) = false := by
  rw [List.any_toArray]
  induction vs with
  | nil => rfl
  | cons _ _ ih => rw [List.any_cons, ih]; rfl
theorem plainNN_is {A : Around} {s : Shared} {w : World} {ρ : List Addr} {R : Led} {v : Value} {a : AV} (h : VR w ρ R v a) (e : plainNN a = true) : SeqAt.EqAt A s v .none false := by
  revert h e
  refine AV.casesOn a (fun x => ?_) ?_ ?_ ?_ ?_ ?_ ?_ ?_ ?_ ?_ ?_
  · refine D.casesOn x ?_ (fun b h _ => ?_) (fun i h _ => ?_) ?_ ?_ ?_ ?_
    case refine_2 => rw [h.isB]; exact SeqAt.EqAt.bool_none _
    case refine_3 => obtain ⟨t, rfl⟩ := h.inv.inv; exact SeqAt.EqAt.int_none _ _
    all_goals intros; exact fz ‹_›
  all_goals intros; exact fz ‹_›
theorem noNone_at {A : Around} {s : Shared} {w : World} {ρ : List Addr} {R : Led} {vs : List Value} {xs : List AV} (h : VRs w ρ R vs xs) (e : xs.all plainNN = true) : ∀ y ∈ vs, SeqAt.EqAt A s y .none false := by
  induction xs generalizing vs with
  | nil => rw [show vs = [] from h.inv]; exact fun _ h => nomatch h
  | cons x xs ih =>
    obtain ⟨v, r, rfl, a, b⟩ := h.inv
    rw [List.all_cons, Bool.and_eq_true] at e
    exact List.forall_mem_cons.mpr ⟨plainNN_is a e.1, ih b e.2⟩
theorem strs_ok (st : St c ek a.ρ a.R lm H a.s.heap) (ok : c.OK n) {y : Value} {bv : AV} (hy : VR c.w a.ρ a.R y bv) {ys : List Str} (e : strsIn bv = some ys) : ∃ p, y = .ref p ∧ ((∃ items, IsTup a.s.heap p items ∧ StrsAre items.toList ys) ∨ ∃ vs : List Value, a.s.heap.IsList p vs.toArray ∧ StrsAre vs ys) := by
  obtain ⟨m, news, W⟩ := st.nw
  revert hy e
  refine AV.casesOn bv (fun x hy e => ?_) ?_ (fun xs hy e => ?_) ?_ ?_ ?_ ?_ ?_ (fun t hy e => ?_) ?_ ?_
  case refine_1 =>
    obtain ⟨ds, h1, h2⟩ := Option.bind_eq_some_iff.mp e
    obtain ⟨p, vs, n1, rfl, hm, hv⟩ := (tupD_is h1 ▸ hy.inv).inv
    exact ⟨p, rfl, .inl ⟨_, News.isTup W.N (W.sub _ hm), strsD_are hv h2⟩⟩
  case refine_3 =>
    obtain ⟨p, vs, n1, rfl, hm, hv⟩ := hy.inv
    exact ⟨p, rfl, .inr ⟨_, News.isList W.N (W.sub _ hm), strsA_are hv e⟩⟩
  case refine_9 =>
    obtain ⟨od, items, n1, sl1, hl, hs⟩ := topStrs_is e c.w
    exact ⟨t, hy.inv, .inl ⟨_, ⟨_, W.F.keep _ _ (ok.X _ _ hl), rfl, n1, rfl⟩, hs⟩⟩
  all_goals intros; exact nz ‹_›
theorem in_ok (st : St c ek a.ρ a.R lm H a.s.heap) (ok : c.OK n) {x y : Value} {av bv : AV} (hx : VR c.w a.ρ a.R x av) (hy : VR c.w a.ρ a.R y bv) (h : inX av bv H fun b => P b H) :
    WP c (compareOp .In x y) a (CΦ c ek lm P) E := by
  obtain ⟨m, news, W⟩ := st.nw
  rcases eX_ok h with ⟨p, e, h⟩ | h
  · obtain ⟨t, rfl⟩ := hx.str e
    obtain ⟨ys, e, h⟩ := oX_ok h
    obtain ⟨q, rfl, ⟨its, h1, h2⟩ | ⟨vs, h1, h2⟩⟩ := strs_ok st ok hy e
    · exact in_tuple_strs h1 h2 (bret st h)
    · exact in_list_strs h1 h2 (bret st h)
  rcases eX_ok h with ⟨p, e, h⟩ | h
  · obtain ⟨t, rfl⟩ := hx.int e
    obtain ⟨q, e, h⟩ := oX_ok h
    obtain ⟨ad, o, kvs, T⟩ := W.tb hy e
    rw [T.e]
    exact kda_in (knd := PySem.intKind _ _) W.N T.m T.d T.n (intKind_is _ _ _ _) _ rfl (bretk st _ (by rw [(T.j _).isSome]; exact h))
  obtain ⟨e, h⟩ := gB_ok h
  cases hx.non e
  obtain ⟨xs, e, h⟩ := oX_ok h
  obtain ⟨e2, h⟩ := gB_ok h
  obtain ⟨p, vs, n1, rfl, hm, hv⟩ := hy.list e
  have k := noNone_at (A := c.A.in1) (s := a.s) hv e2
  exact SeqAt.in_listAt (fun _ => false) (News.isList W.N (W.sub _ hm)) (fun y hy => k y (by simpa using hy)) (bret st (by rw [any_no]; exact h))
theorem nin_ok (st : St c ek a.ρ a.R lm H a.s.heap) (ok : c.OK n) {x y : Value} {av bv : AV} (hx : VR c.w a.ρ a.R x av) (hy : VR c.w a.ρ a.R y bv) (h : ninX av bv H fun b => P b H) :
    WP c (compareOp .NotIn x y) a (CΦ c ek lm P) E := by
  obtain ⟨m, news, W⟩ := st.nw
  rcases eX_ok h with ⟨p, e, h⟩ | h
  · obtain ⟨t, rfl⟩ := hx.str e
    obtain ⟨ys, e, h⟩ := oX_ok h
    obtain ⟨q, rfl, ⟨its, h1, h2⟩ | ⟨vs, h1, h2⟩⟩ := strs_ok st ok hy e
    · exact notin_tuple_strs h1 h2 (bret st h)
    · exact notin_list_strs h1 h2 (bret st h)
  obtain ⟨i, e, h⟩ := oX_ok h
  obtain ⟨t, rfl⟩ := hx.int e
  rcases eX_ok h with ⟨q, e, h⟩ | h
  · obtain ⟨ad, o, kvs, T⟩ := W.tb hy e
    rw [T.e]
    exact wpAny_notIn_of (intKind_is _ _ _ _) T.n (kda_dict W.N T.m T.d).mapOf (bretk st _ (by rw [(T.j _).isSome]; exact h))
  obtain ⟨xs, e, h⟩ := oX_ok h
  obtain ⟨ns, e2, h⟩ := oX_ok h
  obtain ⟨p, vs, n1, rfl, hm, hv⟩ := W.ls hy e
  obtain ⟨k1, k2⟩ := kf_ints_of (intsA_are hv e2) i
  exact kf_notin W.N hm k1 rfl (bret st (by rw [k2]; exact h))
theorem isNoneX_is {ρ : List Addr} {R : Led} {w : World} {v : Value} {x : AV} {b : Bool} (h : VR w ρ R v x) (e : isNoneX x = some b) : (b = true ∧ v = .none) ∨ (b = false ∧ ((∃ c, v = .bool c) ∨ (∃ i t, v = .int i t) ∨ ∃ p, v = .ref p)) := by
  have rf : ∀ {p : Addr} {q : Prop}, v = .ref p → isNoneX x = some false → (b = true ∧ v = .none) ∨ (b = false ∧ ((∃ c, v = .bool c) ∨ (∃ i t, v = .int i t) ∨ ∃ p, v = .ref p)) := fun h1 h2 => .inr ⟨Option.some.inj (e.symm.trans h2), .inr (.inr ⟨_, h1⟩)⟩
  revert h e rf
  refine AV.casesOn x (fun x => ?_) ?_ ?_ ?_ ?_ ?_ ?_ ?_ ?_ (fun _ _ e => nz e) ?_
  case refine_1 =>
    refine D.casesOn x (fun h e _ => .inl ⟨(Option.some.inj e).symm, h.inv.inv⟩) (fun _ h e _ => .inr ⟨(Option.some.inj e).symm, .inl ⟨_, h.isB⟩⟩) (fun _ h e _ => .inr ⟨(Option.some.inj e).symm, ?_⟩) (fun _ _ e => nz e) (fun _ h e rf => ?_) (fun h e rf => rf (q := True) h.inv.inv rfl) (fun h e rf => rf (q := True) h.inv.inv rfl)
    · obtain ⟨t, h⟩ := h.inv.inv; exact .inr (.inl ⟨_, t, h⟩)
    · obtain ⟨p, _, _, h, _⟩ := h.inv.inv; exact rf (q := True) h rfl
  case refine_2 => intro _ h _ rf; obtain ⟨p, _, _, h, _⟩ := h.inv; exact rf (q := True) h rfl
  case refine_3 => intro _ h _ rf; obtain ⟨p, _, _, h, _⟩ := h.inv; exact rf (q := True) h rfl
  case refine_4 => intro _ h _ rf; obtain ⟨p, _, _, h, _⟩ := h.inv; exact rf (q := True) h rfl
  case refine_5 => intro _ _ h _ rf; obtain ⟨p, _, _, h, _⟩ := h.inv; exact rf (q := True) h rfl
  case refine_6 => intro _ h _ rf; obtain ⟨p, _, _, h, _⟩ := h.inv; exact rf (q := True) h rfl
  case refine_7 => intro _ _ h _ rf; obtain ⟨p, _, _, _, h, _⟩ := h.inv; exact rf (q := True) h rfl
  case refine_8 => intro _ h _ rf; obtain ⟨p, h, _⟩ := h.inv; exact rf (q := True) h rfl
  case refine_9 => intro _ h _ rf; exact rf (q := True) h.inv rfl
  case refine_10 => intro _ h _ rf; obtain ⟨p, _, h, _⟩ := h.inv; exact rf (q := True) h rfl
theorem cmp_ok (st : St c ek a.ρ a.R lm H a.s.heap) (ok : c.OK n) {x y : Value} {av bv : AV} (hx : VR c.w a.ρ a.R x av) (hy : VR c.w a.ρ a.R y bv) {o : CmpOp} (h : cmpX o av bv H fun b => P b H) :
    WP c (compareOp o x y) a (CΦ c ek lm P) E := by
  have two9 : ∀ {F : Int × Int → Prop} {G : Bool × Bool → Prop}, eX (two intA av bv) F (oX (two boolA av bv) G) → (∃ p t u, x = .int p.1 t ∧ y = .int p.2 u ∧ F p) ∨ ∃ p, x = .bool p.1 ∧ y = .bool p.2 ∧ G p := fun h => by
    rcases eX_ok h with ⟨p, e, h⟩ | h
    · obtain ⟨e1, e2⟩ := two_is e
      obtain ⟨t, h1⟩ := hx.int e1
      obtain ⟨u, h2⟩ := hy.int e2
      exact .inl ⟨p, t, u, h1, h2, h⟩
    · obtain ⟨p, e, h⟩ := oX_ok h
      obtain ⟨e1, e2⟩ := two_is e
      exact .inr ⟨p, hx.bool e1, hy.bool e2, h⟩
  cases o with
  | Eq => exact eq_ok (ne := false) st ok hx hy h
  | NotEq => exact eq_ok (ne := true) st ok hx hy h
  | Is =>
    obtain ⟨e, h⟩ := gB_ok h
    cases hy.non e
    obtain ⟨b, e, h⟩ := oX_ok h
    rcases isNoneX_is hx e with ⟨rfl, rfl⟩ | ⟨rfl, ⟨b, rfl⟩ | ⟨i, t, rfl⟩ | ⟨p, rfl⟩⟩
    · exact is_none_none (bret st h)
    · exact is_bool_none (bret st h)
    · exact is_int_none (bret st h)
    · exact is_ref_none (bret st h)
  | IsNot =>
    obtain ⟨e, h⟩ := gB_ok h
    cases hy.non e
    obtain ⟨b, e, h⟩ := oX_ok h
    rcases isNoneX_is hx e with ⟨rfl, rfl⟩ | ⟨rfl, ⟨b, rfl⟩ | ⟨i, t, rfl⟩ | ⟨p, rfl⟩⟩
    · exact isnot_none_none (bret st h)
    · exact isnot_bool_none (bret st h)
    · exact isnot_int_none (bret st h)
    · exact isnot_ref_none (bret st h)
  | In => exact in_ok st ok hx hy h
  | NotIn => exact nin_ok st ok hx hy h
  | Lt =>
    rcases two9 h with ⟨p, t, u, rfl, rfl, h⟩ | ⟨p, rfl, rfl, h⟩
    · exact lt_int (bret st h)
    · exact lt_bool (bret st h)
  | LtE =>
    rcases two9 h with ⟨p, t, u, rfl, rfl, h⟩ | ⟨p, rfl, rfl, h⟩
    · exact le_int (bret st h)
    · exact le_bool (bret st h)
  | Gt =>
    rcases two9 h with ⟨p, t, u, rfl, rfl, h⟩ | ⟨p, rfl, rfl, h⟩
    · exact gt_int (bret st h)
    · exact gt_bool (bret st h)
  | GtE =>
    rcases two9 h with ⟨p, t, u, rfl, rfl, h⟩ | ⟨p, rfl, rfl, h⟩
    · exact ge_int (bret st h)
    · exact ge_bool (bret st h)
end
end
section
theorem sub_plain {sl : Expr} (h : notSl sl = true) (o i : Value) : subscripted sl false o i = operate [o, i] (getItem o i) := by
  revert h
  refine Expr.casesOn sl ?_ ?_ ?_ ?_ ?_ ?_ ?_ ?_ ?_ ?_ ?_ ?_ ?_ ?_ ?_ ?_ ?_ ?_ ?_ ?_ ?_ ?_ ?_ ?_ ?_ ?_ ?_ <;> intros <;> first | rfl | exact fz ‹_›
theorem getB_all (w : World) : ∀ p ∈ bitsL, ∃ t, nsIn (KH w) 55 p.1 = some (some (.int p.2 t)) := by
  have one9 : ∀ {x : Str} {i : Int} {t : Tok} {l : List (Str × Int)}, nsIn (KH w) 55 x = some (some (.int i t)) → (∀ p ∈ l, ∃ t, nsIn (KH w) 55 p.1 = some (some (.int p.2 t))) → ∀ p ∈ (x, i) :: l, ∃ t, nsIn (KH w) 55 p.1 = some (some (.int p.2 t)) := fun h k => List.forall_mem_cons.mpr ⟨⟨_, h⟩, k⟩
  exact one9 rfl (one9 rfl (one9 rfl (one9 rfl (one9 rfl (one9 rfl (one9 rfl (one9 rfl (one9 rfl fun _ h => nomatch h))))))))
theorem getB_mem {x : Str} {n : Int} : ∀ {l : List (Str × Int)}, getB x l = some n → (x, n) ∈ l := fun {l} h => by
  induction l with
  | nil => exact nz h
  | cons p r ih =>
    unfold getB at h
    by_cases e : p.1 = x
    · rw [if_pos e] at h; cases h; subst e; exact .head _
    · rw [if_neg e] at h; exact .tail _ (ih h)
theorem bits_dict (w : World) : ∃ es n, (KH w).lookup 55 = some { cls := .type "dict", data := .dict es n } ∧ KeysLit w.params es.toList := ⟨_, _, rfl, by k_keys⟩
theorem seq_lo {i : Int} {n j : Nat} (e : seqIndex? i n = some j) (hz : n < 900) : -2 ^ 63 ≤ i ∧ i < 2 ^ 63 := by
  unfold seqIndex? at e
  split at e
  · dsimp only at e
    split at e
    · rename_i h1 h2
      simp only [Bool.and_eq_true, decide_eq_true_eq] at h2
      omega
    · cases e
  · dsimp only at e
    split at e
    · rename_i h1 h2
      simp only [Bool.and_eq_true, decide_eq_true_eq] at h2
      omega
    · cases e
theorem getS_at {w : World} {ρ : List Addr} {R : Led} {kvs : List (Str × Value)} {es : List (Str × AV)} (h : SVs w ρ R kvs es) (x : Str) : OV w ρ R (valueAt kvs x) (getS x es) := by
  induction es generalizing kvs with
  | nil => rw [show kvs = [] from h.inv]; exact .none
  | cons p es ih =>
    obtain ⟨v, r, rfl, a, b⟩ := h.inv
    have step : valueAt ((p.1, v) :: r) x = if p.1 = x then some v else valueAt r x := by
      unfold valueAt
      rw [List.find?_cons]
      by_cases q : p.1 = x
      · rw [if_pos q, decide_eq_true q]; rfl
      · rw [if_neg q, decide_eq_false q]
    rw [step]
    unfold getS
    by_cases q : p.1 = x
    · rw [if_pos q, if_pos q]; exact .some a
    · rw [if_neg q, if_neg q]; exact ih b
section
variable {c : Ctx} {ek : EK} {lm : Lm} {H : Hp} {n : Nat} {a : Wd} {E : Value → Shared → Prop} {P : AV → Hp → Prop} {value sl : Expr}
theorem topTD_is {a : AV} {l : List Str} (e : (dA a).bind topTD = some l) : (a = .d .bit ∧ l = [S "bool"]) ∨ (a = .d .long ∧ l = [S "int", S "i64"]) := by
  obtain ⟨d, h1, h2⟩ := Option.bind_eq_some_iff.mp e
  rw [dA_is h1]
  revert h2
  refine D.casesOn d ?_ ?_ ?_ ?_ ?_ (fun h => .inl ⟨rfl, (Option.some.inj h).symm⟩) (fun h => .inr ⟨rfl, (Option.some.inj h).symm⟩) <;> intros <;> exact nz ‹_›
theorem item_ok (st : St c ek a.ρ a.R lm H a.s.heap) (ok : c.OK n) (hs : notSl sl = true) {x y : Value} {av bv : AV} (hx : VR c.w a.ρ a.R x av) (hy : VR c.w a.ρ a.R y bv) (h : itemX av bv H fun v => P v H) :
    WP c (subscriptTail value sl x y) a (VΦ c ek lm P) E := by
  obtain ⟨m, news, W⟩ := st.nw
  have sp := sub_plain hs
  refine kba_turn (value' := .Name (S "_") ⟨0, 0, 0, 0⟩) (fun _ => rfl) ?_
  rcases eX_ok h with ⟨i, e, h⟩ | h
  · obtain ⟨t, rfl⟩ := hy.int e
    rcases eX_ok h with ⟨xs, e, h⟩ | h
    · obtain ⟨p, vs, n1, rfl, hm, hv⟩ := hx.seq e
      obtain ⟨x, hb, h⟩ := oX_ok h
      obtain ⟨z, h⟩ := ltB_ok h
      obtain ⟨j, h1, h2⟩ := Option.bind_eq_some_iff.mp hb
      obtain ⟨v, e, d⟩ := hv.get h2
      obtain ⟨b1, b2⟩ := seq_lo h1 z
      exact kim_tup W.N (W.sub _ hm) rfl rfl b1 b2 (by rw [hv.length]; exact h1) e (vret Le.refl h st d) (sp _ _) fun _ => rfl
    rcases eX_ok h with ⟨xs, e, h⟩ | h
    · obtain ⟨p, vs, n1, rfl, hm, hv⟩ := W.ls hx e
      obtain ⟨h0, h⟩ := gB_ok h
      obtain ⟨x, hb, h⟩ := oX_ok h
      obtain ⟨z, h⟩ := ltB_ok h
      obtain ⟨v, e, d⟩ := hv.get hb
      have hl : i.toNat < xs.length := by rcases Nat.lt_or_ge i.toNat xs.length with l | l; exact l; rw [List.getElem?_eq_none l] at hb; exact nz hb
      exact kim_list W.N hm rfl rfl (of_decide_eq_true h0) (by omega) e (vret Le.refl h st d) (sp _ _) fun _ => rfl
    rcases eX_ok h with ⟨q, e, h⟩ | h
    · obtain ⟨p, o, kvs, T⟩ := W.tb hx e
      obtain ⟨b, e, h⟩ := oX_ok h
      rw [T.e]
      obtain ⟨u, ev, vr⟩ := (e ▸ T.j i).inv
      exact kda_item (knd := PySem.intKind _ _) W.N T.m T.d (intKind_is _ _ _ _) ev (vretk _ h st vr) (sp _ _) fun _ => rfl
    rcases eX_ok h with ⟨q, e, h⟩ | h
    · obtain ⟨u, rfl⟩ := hx.str e
      obtain ⟨b, h9⟩ := gB_ok h
      rw [Bool.and_eq_true, decide_eq_true_eq] at b
      obtain ⟨rfl, hl⟩ := b
      have hl' := Nat.le_of_ble_eq_true hl
      exact item_str (by decide) (by omega) (by omega) (fun _ => vretk _ h9 st (.d (.str _ _))) (sp _ _) fun _ => rfl
    obtain ⟨l, e7, h⟩ := oX_ok h
    obtain ⟨h0, h⟩ := gB_ok h
    obtain ⟨x, hb, h9⟩ := oX_ok h
    have h0 := of_decide_eq_true h0
    obtain ⟨j, rfl⟩ := Int.eq_ofNat_of_zero_le h0
    rcases topTD_is e7 with ⟨rfl, rfl⟩ | ⟨rfl, rfl⟩
    · cases hx.inv.inv
      cases j with
      | zero => cases hb; exact topTup_K (l := [.str (S "bool") _]) (j := 0) W.F ok.X rfl (by decide) (by decide) rfl rfl (vret Le.refl h9 st (.d (.str _ _))) (sp _ _)
      | succ j => exact nz hb
    · cases hx.inv.inv
      cases j with
      | zero => cases hb; exact topTup_K (l := [.str (S "int") _, .str (S "i64") _]) (j := 0) W.F ok.X rfl (by decide) (by decide) rfl rfl (vret Le.refl h9 st (.d (.str _ _))) (sp _ _)
      | succ j =>
        cases j with
        | zero => cases hb; exact topTup_K (l := [.str (S "int") _, .str (S "i64") _]) (j := 1) W.F ok.X rfl (by decide) (by decide) rfl rfl (vret Le.refl h9 st (.d (.str _ _))) (sp _ _)
        | succ j => exact nz hb
  obtain ⟨k, e, h⟩ := oX_ok h
  obtain ⟨t, rfl⟩ := hy.str e
  rcases eX_ok h with ⟨es, e, h⟩ | h
  · obtain ⟨p, o, kvs, rfl, hm, hd, hv, hn⟩ := (sdA_is e ▸ hx).inv
    obtain ⟨b, e, h⟩ := oX_ok h
    obtain ⟨u, ev, vr⟩ := (e ▸ getS_at hv k).inv
    exact kdt_tail (knd := PySem.strKind _ _) W.N (W.sub _ hm) hd (kdt_getItem W.N (W.sub _ hm) hd (strKind_is _ _ _ _) ev (vretk _ h st vr)) (sp _ _)
  obtain ⟨f, e, h⟩ := oX_ok h
  obtain ⟨h0, h⟩ := gB_ok h
  obtain ⟨b, e2, h9⟩ := oX_ok h
  cases Nat.eq_of_beq_eq_true h0
  cases (fnA_is e ▸ hx).inv
  obtain ⟨t, e⟩ := getB_all c.w _ (getB_mem e2)
  obtain ⟨es, n1, l, k⟩ := bits_dict c.w
  exact topItem_K W.F ok.X l k e (vretk _ h9 st (.d (.int _ _))) (sp _ _)
end
/-- attributes -/
theorem cls_all (w : World) : clsL.all (fun p => (plainGet (KH w) p.1 p.2 && hasDictIn (KH w) p.1) && ((findIn (KH w) (.ref p.1) p.2 == some none) && (findIn (KH w) (.ref p.1) (Str.ofString "__setattr__") == some (some (.builtin "object.__setattr__")) && plainOver (KH w) p.1))) = true := by kernel_rfl!
theorem plainCls_is {C : Addr} {x : Str} (e : plainCls C x = true) (w : World) : plainGet (KH w) C x = true ∧ hasDictIn (KH w) C = true ∧ findIn (KH w) (.ref C) x = some none ∧ findIn (KH w) (.ref C) (Str.ofString "__setattr__") = some (some (.builtin "object.__setattr__")) ∧ plainOver (KH w) C = true := by
  obtain ⟨p, hp, h⟩ := List.any_eq_true.mp e
  rw [Bool.and_eq_true, decide_eq_true_eq] at h
  have := List.all_eq_true.mp (cls_all w) p hp
  rw [Nat.eq_of_beq_eq_true h.1, h.2] at this
  simp only [Bool.and_eq_true, beq_iff_eq] at this
  exact ⟨this.1.1, this.1.2, this.2.1, this.2.2.1, this.2.2.2⟩
theorem handed_of {w : World} {ρ : List Addr} {R : Led} {v : Value} {a : AV} (h : VR w ρ R v a) (e : handA a = true) : handedIn v = true := by
  revert e
  exact VR.casesOn (motive_1 := fun v a _ => handA a = true → handedIn v = true) h (fun h _ => h.handed) (fun _ _ _ => rfl) (fun _ _ _ => rfl) (fun _ _ _ => rfl) (fun _ _ _ _ _ _ => rfl) (fun _ _ _ _ _ => rfl) (fun _ _ _ _ => rfl) (fun _ _ => rfl) (fun _ _ => rfl) (fun _ e => fz e) (fun _ _ _ _ => rfl)
theorem isStr_iff {x y : Str} {t : Tok} : Value.isStr (.str x t) y = true ↔ x = y := by
  constructor
  · intro h
    have := h
    simp [Value.isStr] at this
    exact this
  · rintro rfl
    simp [Value.isStr]
theorem getL_of {w : World} {ρ : List Addr} {R : Led} {es : List DictEntry} {fs : List (Str × AV)} (h : VFs w ρ R es fs) (x : Str) : ∃ o, getL x es = some o ∧ OV w ρ R o (getS x fs) := by
  induction fs generalizing es with
  | nil => rw [show es = [] from h.inv]; exact ⟨none, rfl, .none⟩
  | cons p fs ih =>
    obtain ⟨hh, t, v, r, rfl, a, b⟩ := h.inv
    unfold getS
    by_cases q : p.1 = x
    · rw [if_pos q]
      refine ⟨some v, ?_, .some a⟩
      unfold getL
      rw [List.find?_cons_of_pos (by exact isStr_iff.mpr q)]
    · rw [if_neg q]
      have ne : Value.isStr (.str p.1 t) x = false := by
        cases hq : Value.isStr (.str p.1 t) x with
        | false => rfl
        | true => exact absurd (isStr_iff.mp hq) q
      have step : getL x (⟨hh, .str p.1 t, v⟩ :: r) = getL x r := by
        unfold getL
        rw [List.find?_cons_of_neg (by simpa using ne)]
        cases r.find? fun e => e.key.isStr x with
        | some e => rfl
        | none => simp [DictEntry.refKey]
      rw [step]
      exact ih b
theorem putL_of {w : World} {ρ : List Addr} {R : Led} {x : Str} {hh : Int} {t : Tok} {v : Value} {a : AV} (hv : VR w ρ R v a) {es : List DictEntry} {fs : List (Str × AV)} (h : VFs w ρ R es fs) : VFs w ρ R (putL x hh (.str x t) v es) (setA x a fs) := by
  induction fs generalizing es with
  | nil => rw [show es = [] from h.inv]; exact .cons hv .nil
  | cons p fs ih =>
    obtain ⟨h', t', u, r, rfl, k, b⟩ := h.inv
    unfold putL setA
    by_cases q : p.1 = x
    · rw [if_pos (isStr_iff.mpr q), if_pos q]
      exact .cons hv b
    · rw [if_neg (fun h => q (isStr_iff.mp h)), if_neg q]
      exact .cons k (ih b)
theorem VFs.length {w : World} {ρ : List Addr} {R : Led} {es : List DictEntry} {fs : List (Str × AV)} (h : VFs w ρ R es fs) : es.length = fs.length := by
  induction fs generalizing es with
  | nil => rw [show es = [] from h.inv]; rfl
  | cons p fs ih => obtain ⟨_, _, _, r, rfl, _, b⟩ := h.inv; exact congrArg (· + 1) (ih b)
theorem putL_len (x : Str) (hh : Int) (k v : Value) (es : List DictEntry) : (putL x hh k v es).length ≤ es.length + 1 := by
  induction es with
  | nil => exact Nat.le_refl _
  | cons e r ih =>
    unfold putL
    split
    · exact Nat.le_succ _
    · exact Nat.succ_le_succ ih
section
variable {c : Ctx} {ek : EK} {lm : Lm} {H : Hp} {n : Nat} {a : Wd} {E : Value → Shared → Prop} {P : AV → Hp → Prop}
theorem attr_ok (st : St c ek a.ρ a.R lm H a.s.heap) (ok : c.OK n) {x : Value} {av : AV} (hx : VR c.w a.ρ a.R x av) {nm : Str} {ex : Bool} (h : attrX av nm H fun v => P v H) :
    WP c (getAttr x nm ex) a (VΦ c ek lm P) E := by
  obtain ⟨m, news, W⟩ := st.nw
  obtain ⟨q, e, h⟩ := oX_ok h
  obtain ⟨v, e2, h⟩ := oX_ok h
  obtain ⟨hc, h⟩ := gB_ok h
  obtain ⟨c1, c2⟩ := Bool.and_eq_true_iff.mp hc
  obtain ⟨p1, p2, p3, _⟩ := plainCls_is c1 c.w
  obtain ⟨p, d, es, k, rfl, h1, h2, h3⟩ := W.fl hx e
  obtain ⟨o, e, ho⟩ := getL_of h3 nm
  obtain ⟨u, rfl, vr⟩ := (e2 ▸ ho).inv
  exact get_own W.F ok.X (InstAt.of_news W.N h1 h2) p1 p2 p3 rfl e (handed_of vr c2) (vretk _ h st vr)
end
end
section
noncomputable def UΦ (c : Ctx) (ek : EK) (lm : Lm) (P : Hp → Prop) : Unit → Wd → Prop := fun _ b => ∃ H, P H ∧ St c ek b.ρ b.R lm H b.s.heap
theorem valueAt_stored (kvs : List (Int × Value)) (k j : Int) (v : Value) : valueAt (stored kvs k v) j = if j = k then some v else valueAt kvs j := by
  unfold stored
  split
  · rename_i h
    unfold valueAt
    induction kvs with
    | nil => simp at h
    | cons p r ih =>
      simp only [List.map_cons, List.find?_cons]
      by_cases hp : p.1 = k
      · by_cases hj : j = k
        · simp [hp, hj]
        · have hkj : ¬ k = j := fun e => hj e.symm
          have e2 : List.find? (fun kv => decide (kv.1 = j)) (List.map (fun kv => if kv.1 = k then (kv.1, v) else kv) r) = List.find? (fun kv => decide (kv.1 = j)) r := by
            clear ih h
            induction r with
            | nil => rfl
            | cons q r ih =>
              simp only [List.map_cons, List.find?_cons]
              by_cases hq : q.1 = k
              · simp [hq, hkj, ih]
              · by_cases hqj : q.1 = j
                · simp [hqj, hj]
                · simp [hq, hqj, ih]
          simp [hp, hj, hkj, e2]
      · have h' : (r.any fun kv => decide (kv.1 = k)) = true := by simpa [hp] using h
        by_cases hj : p.1 = j
        · have hjk : ¬ j = k := fun e => hp (hj.trans e)
          simp [hj, hjk]
        · simp only [hp, if_false, hj, decide_false, Bool.false_eq_true]
          exact ih h'
  · rename_i h
    unfold valueAt
    rw [List.find?_append]
    by_cases hj : j = k
    · subst hj
      have e : kvs.find? (fun kv => decide (kv.1 = j)) = none := by
        rw [List.find?_eq_none]
        intro x hx hx2
        exact h (List.any_eq_true.mpr ⟨x, hx, hx2⟩)
      simp [e]
    · have hkj : ¬ k = j := fun e => hj e.symm
      simp [hj, hkj]
theorem valueAt_without (kvs : List (Int × Value)) (k j : Int) : valueAt (without kvs k) j = if j = k then none else valueAt kvs j := by
  unfold valueAt without
  induction kvs with
  | nil => split <;> rfl
  | cons p r ih =>
    by_cases hp : p.1 = k
    · rw [List.filter_cons_of_neg (by simp [hp])]
      rw [ih]
      by_cases hj : j = k
      · simp [hj]
      · have hpj : ¬ p.1 = j := fun e => hj (e.symm.trans hp)
        simp [hj, hpj]
    · rw [List.filter_cons_of_pos (by simp [hp])]
      simp only [List.find?_cons]
      by_cases hj : p.1 = j
      · have : ¬ j = k := fun e => hp (hj.trans e)
        simp [hj, this]
      · simp only [hj, decide_false]
        exact ih
theorem Sz.ltX_ok {z : Sz} {P : Prop} {kvs : List (Int × Value)} (h : z.ltX P) (ok : z.ok kvs) : kvs.length < 900 ∧ P := by
  cases z with
  | le n => exact ⟨Nat.lt_of_le_of_lt ok h.1, h.2⟩
  | ks l =>
    obtain ⟨a, b⟩ := ltB_ok h
    have : kvs.length = l.length := by rw [← (ok : kvs.map (·.1) = l), List.length_map]
    exact ⟨by omega, b⟩
theorem any_keys (i : Int) : ∀ kvs : List (Int × Value), (kvs.map (·.1)).any (fun j => decide (j = i)) = kvs.any fun kv => decide (kv.1 = i)
  | [] => rfl
  | p :: r => by rw [List.map_cons, List.any_cons, List.any_cons, any_keys i r]
theorem Sz.ok_set {z : Sz} {kvs : List (Int × Value)} {i : Int} {v : Value} (ok : z.ok kvs) : (z.set i).ok (stored kvs i v) := by
  cases z with
  | le n => exact Nat.le_trans (stored_length_le _ _ _) (Nat.succ_le_succ ok)
  | ks l =>
    subst ok
    show (stored kvs i v).map (·.1) = if (kvs.map (·.1)).any (fun j => decide (j = i)) then kvs.map (·.1) else kvs.map (·.1) ++ [i]
    rw [any_keys]
    unfold stored
    split
    · rw [List.map_map]
      apply List.map_congr_left
      intro p _
      simp only [Function.comp]
      split <;> rfl
    · simp
theorem Sz.ok_pop {z : Sz} {kvs : List (Int × Value)} {i : Int} (ok : z.ok kvs) : (z.pop i).ok (without kvs i) := by
  cases z with
  | le n => exact Nat.le_trans (List.length_filter_le _ _) ok
  | ks l =>
    subst ok
    show (without kvs i).map (·.1) = (kvs.map (·.1)).filter fun j => !decide (j = i)
    unfold without
    induction kvs with
    | nil => rfl
    | cons p r ih =>
      rw [List.map_cons]
      by_cases q : p.1 = i
      · rw [List.filter_cons_of_neg (by simp [q]), List.filter_cons_of_neg (by simp [q])]; exact ih
      · rw [List.filter_cons_of_pos (by simp [q]), List.filter_cons_of_pos (by simp [q]), List.map_cons, ih]
theorem OV.set {w : World} {ρ : List Addr} {R : Led} {kvs : List (Int × Value)} {f : Int → Option AV} {i : Int} {v : Value} {x : AV} (h : ∀ j, OV w ρ R (valueAt kvs j) (f j)) (hv : VR w ρ R v x) (j : Int) : OV w ρ R (valueAt (stored kvs i v) j) (if j = i then Option.some x else f j) := by
  rw [valueAt_stored]
  split
  · exact .some hv
  · exact h j
theorem OV.pop {w : World} {ρ : List Addr} {R : Led} {kvs : List (Int × Value)} {f : Int → Option AV} {i : Int} (h : ∀ j, OV w ρ R (valueAt kvs j) (f j)) (j : Int) : OV w ρ R (valueAt (without kvs i) j) (if j = i then Option.none else f j) := by
  rw [valueAt_without]
  split
  · exact .none
  · exact h j
section
variable {c : Ctx} {ek : EK} {lm : Lm} {H : Hp} {n : Nat} {a : Wd} {E : Value → Shared → Prop}
theorem uret {P : Hp → Prop} {k : Nat} {ao : AO} {h' : Heap} {t : Nat} (st' : St c ek a.ρ a.R lm (H.set k ao) h') (p : P (H.set k ao)) : PP a (UΦ c ek lm P) () { a.s with heap := h', toks := t } :=
  PP.ret (b := ⟨{ a.s with heap := h', toks := t }, a.ρ, a.R⟩) ⟨⟨_, _, rfl⟩, List.prefix_refl _, fun _ h => h⟩ ⟨_, p, st'⟩
/-- a slot opened, to change what lies there -/
structure Op (c : Ctx) (ek : EK) (lm : Lm) (H : Hp) (a : Wd) (k : Nat) (ad : Addr) (o : Obj) (m : Str → Option Value) (rest : Led) : Prop where
  F : Fr c.h₀ c.L a.s.heap m
  N : News c.h₀ c.L a.s.heap ((ad, o) :: rest)
  nr : ∀ p ∈ rest, p.1 ≠ ad
  sub : ∀ p ∈ a.R, p ∈ rest
  put : ∀ h' o' ao', Fr c.h₀ c.L h' m → News c.h₀ c.L h' ((ad, o') :: rest) → OR c.w a.ρ a.R ad o' ao' → St c ek a.ρ a.R lm (H.set k ao') h'
theorem St.op (st : St c ek a.ρ a.R lm H a.s.heap) {v : Value} {k : Nat} {ao : AO} (hx : VR c.w a.ρ a.R v (.obj k)) (hk : H[k]? = some ao) (hd : ao ≠ .dead) : ∃ m ad o rest, v = .ref ad ∧ OR c.w a.ρ a.R ad o ao ∧ Op c ek lm H a k ad o m rest := by
  obtain ⟨ad, rfl, e1⟩ := hx.isO
  obtain ⟨m, ad', o, rest, F, N, nr, sub, e2, r, oth, put, frz⟩ := st.at hk hd
  cases Option.some.inj (e1.symm.trans e2)
  exact ⟨m, ad, o, rest, rfl, r, F, N, nr, sub, put⟩
theorem set_ok {P : Hp → Prop} (st : St c ek a.ρ a.R lm H a.s.heap) {x y z : Value} {av bv vv : AV} (hx : VR c.w a.ρ a.R x av) (hy : VR c.w a.ρ a.R y bv) (hz : VR c.w a.ρ a.R z vv) (h : setX av bv vv H P) : WP c (setItem x y z) a (UΦ c ek lm P) E := by
  obtain ⟨k, e, h⟩ := oX_ok h
  obtain ⟨i, e2, h⟩ := oX_ok h
  obtain ⟨t, rfl⟩ := hy.int e2
  rcases eX_ok h with ⟨xs, e, h⟩ | h
  · obtain ⟨m, ad, o, rest, rfl, r, O⟩ := st.op (hx.objx ‹_›) (slot_is aoL_is e) (fun q => nomatch q)
    obtain ⟨b, h⟩ := gB_ok h
    obtain ⟨hlt, h⟩ := ltB_ok h
    rw [Bool.and_eq_true, decide_eq_true_eq] at b
    obtain ⟨h0, h1⟩ := b
    have h1 := Nat.le_of_ble_eq_true h1
    obtain ⟨vs, n1, rfl, hv⟩ := r.inv
    have z := O.N _ (.head _)
    have hl := hv.length
    refine ki_setAt (n := n1) z.1 h0 (by omega) (by simp; omega) (uret (O.put _ (listOf (vs.set i.toNat _).toArray n1) _ (O.F.change (Heap.SameBut.update ..) z.2.1 z.2.2) ?_ (.lst (hv.set hz))) h)
    refine ki_turn (pre := []) (post := rest) _ O.N (fun _ h => nomatch h) O.nr ?_ (by simp)
    show vs.toArray.setIfInBounds i.toNat _ = (vs.set i.toNat _).toArray
    apply Array.toList_inj.mp
    simp
  · obtain ⟨q, e, h⟩ := oX_ok h
    obtain ⟨m, ad, o, rest, rfl, r, O⟩ := st.op (hx.objx ‹_›) (slot_is (g := fun p : (Int → Option AV) × Sz => AO.tab p.1 p.2) aoT_is e) (fun q => nomatch q)
    obtain ⟨kvs, hd, hz', hj, hn⟩ := r.inv
    obtain ⟨hl, h⟩ := q.2.ltX_ok h hz'
    exact kda_set (knd := PySem.intKind _ _) O.F O.N (.head O.nr) hd (intKind_is _ _ _ _) (size_ok (by omega)) fun h' o' F' N' d' => uret (O.put h' o' _ F' N' (.tab d' (Sz.ok_set hz') (OV.set hj hz) hn)) h
end
end
section
theorem listCopy {prog : Program} {w : World} {A : Around} {E : Value → Shared → Prop} {s : Shared} {h₀ : Heap} {L a : Addr} {m : Str → Option Value} {news : Led} {vs : List Value} {n : Nat} {Q : Value → Shared → Prop} (F : Fr h₀ L s.heap m) (N : News h₀ L s.heap news) (hm : (a, listOf vs.toArray n) ∈ news) (hz : vs.length < 1000)
    (h : ∀ D c h', Fr h₀ L h' m → News h₀ L h' ((D, listOf vs.toArray c) :: news) → (∀ q ∈ news, q.1 < D) → Q (.ref D) { s with heap := h' }) : wpAny (model prog w) A (call (.type "list") [.ref a]) Q E s :=
  list_copyK F N (N.isList hm) h (by rw [sizeLine_eq, List.size_toArray]; omega)
theorem klLast (q : List Value) (y : Value) : kl_last (q ++ [y]) = some (q, y) := by
  induction q with
  | nil => rfl
  | cons x r ih => simp [kl_last, ih]
section
variable {prog : Program} {w : World} {A : Around} {E : Value → Shared → Prop} {s : Shared} {h₀ : Heap} {L D : Addr} {m : Str → Option Value} {news news' : Led}
theorem popLast {q : List Value} {y : Value} {n : Nat} {Q : Value → Shared → Prop} (F : Fr h₀ L s.heap m) (N : News h₀ L s.heap news) (U : Upd D (listOf (q ++ [y]).toArray n) (listOf q.toArray (n + 1)) news news') (hz : q.length < 1000) (h : ∀ h', Fr h₀ L h' m → News h₀ L h' news' → Q y { s with heap := h' }) :
    wpAny (model prog w) A (call (.builtin "list.pop") [.ref D]) Q E s :=
  kl_pop F N (by simpa using klLast q y) U (by rw [sizeLine_eq]; simp; omega) h
theorem appendL {ys : List Value} {x : Value} {n : Nat} {Q : Value → Shared → Prop}
    (F : Fr h₀ L s.heap m) (N : News h₀ L s.heap news) (U : Upd D (listOf ys.toArray n) (listOf (ys ++ [x]).toArray (n + 1)) news news') (hz : ys.length < 1000)
    (h : ∀ h', Fr h₀ L h' m → News h₀ L h' news' → Q .none { s with heap := h' }) : wpAny (model prog w) A (call (.builtin "list.append") [.ref D, x]) Q E s := by
  have e : (ys ++ [x]).toArray = ys.toArray.push x := by simp
  rw [e] at U
  exact append_K F N U h (by simp only [List.size_toArray]; rw [sizeLine_eq]; omega)
end
theorem VRs.snoc {w : World} {ρ : List Addr} {R : Led} {vs : List Value} {xs : List AV} {x : AV} (h : VRs w ρ R vs (xs ++ [x])) : ∃ ws v, vs = ws ++ [v] ∧ VRs w ρ R ws xs ∧ VR w ρ R v x := by
  induction xs generalizing vs with
  | nil => obtain ⟨v, r, rfl, a, b⟩ := h.inv; rw [show r = [] from b.inv]; exact ⟨[], v, rfl, .nil, a⟩
  | cons y xs ih =>
    obtain ⟨v, r, rfl, a, b⟩ := h.inv
    obtain ⟨ws, v', rfl, p, q⟩ := ih b
    exact ⟨v :: ws, v', rfl, .cons a p, q⟩
theorem one_is {as : List AV} {v : AV} (h : one as = some v) : as = [v] := by
  cases as with
  | nil => exact nz h
  | cons x r => cases r with
    | nil => exact congrArg (fun x => [x]) (Option.some.inj h)
    | cons _ _ => exact nz h
theorem VRs.one {w : World} {ρ : List Addr} {R : Led} {vs : List Value} {as : List AV} {x : AV} (h : VRs w ρ R vs as) (e : Mine.one as = some x) : ∃ v, vs = [v] ∧ VR w ρ R v x := by
  obtain ⟨v, r, rfl, a, b⟩ := (one_is e ▸ h).inv
  exact ⟨v, congrArg (v :: ·) (show r = [] from b.inv), a⟩
theorem pair2_is {as : List AV} {q : AV × AV} (h : pair2 as = some q) : as = [q.1, q.2] := by
  cases as with
  | nil => exact nz h
  | cons x r => cases r with
    | nil => exact nz h
    | cons y s => cases s with
      | nil => exact congrArg (fun q : AV × AV => [q.1, q.2]) (Option.some.inj h)
      | cons _ _ => exact nz h
theorem VRs.pair2 {w : World} {ρ : List Addr} {R : Led} {vs : List Value} {as : List AV} {q : AV × AV} (h : VRs w ρ R vs as) (e : Mine.pair2 as = some q) : ∃ v u, vs = [v, u] ∧ VR w ρ R v q.1 ∧ VR w ρ R u q.2 := by
  obtain ⟨v, r, rfl, a, b⟩ := (pair2_is e ▸ h).inv
  obtain ⟨u, s, rfl, b, d⟩ := b.inv
  exact ⟨v, u, congrArg (fun x => v :: u :: x) (show s = [] from d.inv), a, b⟩
noncomputable def BM.id : BM → String
  | .append => "list.append"
  | .pop => "list.pop"
  | .get => "dict.get"
  | .dpop => "dict.pop"
  | .sget => "dict.get"
section
variable {c : Ctx} {ek : EK} {lm : Lm} {H : Hp} {n : Nat} {a : Wd} {E : Value → Shared → Prop} {P : AV → Hp → Prop}
theorem if_is {α : Type} {p : Prop} [Decidable p] {x : α} {o : Option α} {y : α} (h : (if p then some x else o) = some y) : (p ∧ x = y) ∨ o = some y := by
  by_cases q : p
  · rw [if_pos q] at h; exact .inl ⟨q, Option.some.inj h⟩
  · rw [if_neg q] at h; exact .inr h
/-- a builtin method is looked up -/
theorem meth_ok {Q : Value × List Value → Shared → Prop} {pl : Sem Bool} (st : St c ek a.ρ a.R lm H a.s.heap) {x : Value} {av : AV} (hx : VR c.w a.ρ a.R x av) {nm : Str} {m : BM} (e : bmAt av nm H = some m) (h : Q (.builtin m.id, [x]) a.s) : wpAny (model prg c.w) c.A (getMethod x nm pl) Q E a.s := by
  obtain ⟨m0, news, W⟩ := st.nw
  unfold bmAt at e
  cases q : (lsIn av H).isSome || (syIn av H).isSome with
  | true =>
    rw [q] at e
    have : ∃ p vs k, x = .ref p ∧ (p, listOf (vs : List Value).toArray k) ∈ news := by
      rcases Bool.or_eq_true_iff.mp q with q | q
      · obtain ⟨xs, q⟩ := Option.isSome_iff_exists.mp q
        obtain ⟨p, vs, k, h1, h2, _⟩ := W.ls hx q
        exact ⟨p, vs, k, h1, h2⟩
      · obtain ⟨xs, q⟩ := Option.isSome_iff_exists.mp q
        obtain ⟨p, vs, k, h1, h2, _⟩ := W.sy hx q
        exact ⟨p, vs, k, h1, h2⟩
    obtain ⟨p, vs, k, rfl, hm⟩ := this
    rcases if_is e with ⟨rfl, rfl⟩ | e
    · exact kl_method W.N hm PySem.F.slot_list_append PySem.F.type_list_append h
    · rcases if_is e with ⟨rfl, rfl⟩ | e
      · exact kl_method W.N hm PySem.F.slot_list_pop PySem.F.type_list_pop h
      · exact nz e
  | false =>
    rw [q] at e
    cases q : (tbIn av H).isSome with
    | true =>
      rw [q] at e
      obtain ⟨y, q⟩ := Option.isSome_iff_exists.mp q
      obtain ⟨p, o, kvs, T⟩ := W.tb hx q
      cases T.e
      rcases if_is e with ⟨rfl, rfl⟩ | e
      · exact kdg_method (knd := PySem.intKind _ _) W.N T.m T.d h
      · rcases if_is e with ⟨rfl, rfl⟩ | e
        · exact kob_method (knd := PySem.intKind _ _) PySem.F.slot_dict_pop PySem.F.type_dict_pop W.N T.m T.d h
        · exact nz e
    | false =>
      rw [q] at e
      cases q : (sdA av).isSome with
      | true =>
        rw [q] at e
        obtain ⟨y, q⟩ := Option.isSome_iff_exists.mp q
        obtain ⟨p, o, kvs, rfl, hm, hd, hv, hn⟩ := (sdA_is q ▸ hx).inv
        rcases if_is e with ⟨rfl, rfl⟩ | e
        · exact kdg_method (knd := PySem.strKind _ _) W.N (W.sub _ hm) hd h
        · exact nz e
      | false => rw [q] at e; exact nz e
theorem OV.getD {w : World} {ρ : List Addr} {R : Led} {v : Option Value} {x : Option AV} (h : OV w ρ R v x) : VR w ρ R (v.getD .none) (x.getD (.d .none)) := OV.casesOn (motive_3 := fun v x _ => VR w ρ R (v.getD .none) (x.getD (.d .none))) h (.d .none) fun h => h
theorem without_none {kvs : List (Int × Value)} {i : Int} (hvv : valueAt kvs i = none) : without kvs i = kvs := by
  unfold without
  apply List.filter_eq_self.mpr
  intro p hp
  have : p.1 ≠ i := fun q => by
    unfold valueAt at hvv
    rw [Option.map_eq_none_iff, List.find?_eq_none] at hvv
    exact hvv p hp (by simpa using q)
  simpa using this
theorem bm_ok (st : St c ek a.ρ a.R lm H a.s.heap) {x : Value} {av : AV} (hx : VR c.w a.ρ a.R x av) {vs : List Value} {as : List AV} (hv : VRs c.w a.ρ a.R vs as) {m : BM} (h : bmX m av as H P) : WP c (call (.builtin m.id) (x :: vs)) a (VΦ c ek lm P) E := by
  cases m with
  | append =>
    obtain ⟨k, e, h⟩ := oX_ok h
    obtain ⟨v, e1, h⟩ := oX_ok h
    obtain ⟨u, rfl, hu⟩ := hv.one e1
    rcases eX_ok h with ⟨xs, e2, h⟩ | h
    · obtain ⟨m, ad, o, rest, rfl, r, O⟩ := st.op (hx.objx e) (slot_is aoL_is e2) (fun q => nomatch q)
      obtain ⟨z, h⟩ := ltB_ok h
      obtain ⟨ws, n1, rfl, hw⟩ := r.inv
      exact appendL O.F O.N (.head O.nr) (by rw [hw.length]; omega) fun h' F' N' => putO (O.put h' _ _ F' N' (.lst (hw.append (.cons hu .nil)))) (.d .none) h
    · obtain ⟨ds, e2, h⟩ := oX_ok h
      obtain ⟨d, e3, z, h⟩ := oX_ok h
      obtain ⟨m, ad, o, rest, rfl, r, O⟩ := st.op (hx.objx e) (slot_is aoS_is e2) (fun q => nomatch q)
      obtain ⟨ws, n1, rfl, hw⟩ := r.inv
      exact appendL O.F O.N (.head O.nr) (by rw [hw.length]; omega) fun h' F' N' => putO (O.put h' _ _ F' N' (.sym (hw.append (.cons (dA_is e3 ▸ hu).inv .nil)))) (.d .none) h
  | pop =>
    obtain ⟨b, h⟩ := gB_ok h
    rw [List.isEmpty_iff] at b
    subst b
    rw [show vs = [] from hv.inv]
    obtain ⟨k, e, h⟩ := oX_ok h
    obtain ⟨xs, e2, h⟩ := oX_ok h
    obtain ⟨v, hl, h⟩ := oX_ok h
    obtain ⟨hz, h⟩ := ltB_ok h
    obtain ⟨m, ad, o, rest, rfl, r, O⟩ := st.op (hx.objx e) (slot_is aoL_is e2) (fun q => nomatch q)
    obtain ⟨ws, n1, rfl, hw⟩ := r.inv
    obtain ⟨ys, rfl⟩ := List.getLast?_eq_some_iff.mp hl
    obtain ⟨ws, y, rfl, q1, q2⟩ := hw.snoc
    rw [List.dropLast_concat] at h
    exact popLast O.F O.N (.head O.nr) (by rw [q1.length]; simp at hz; omega) fun h' F' N' => putO (O.put h' _ _ F' N' (.lst q1)) q2 h
  | get =>
    obtain ⟨k, e, h⟩ := oX_ok h
    obtain ⟨u, rfl, hu⟩ := hv.one e
    obtain ⟨i, e, h⟩ := oX_ok h
    obtain ⟨t, rfl⟩ := hu.int e
    obtain ⟨q, e, h⟩ := oX_ok h
    obtain ⟨m, news, W⟩ := st.nw
    obtain ⟨p, o, kvs, T⟩ := W.tb hx e
    cases T.e
    exact kdg_get1 (knd := PySem.intKind _ _) W.N T.m T.d T.n (intKind_is _ _ _ _) _ rfl (vretk _ h st (T.j i).getD)
  | dpop =>
    obtain ⟨q, e, h⟩ := oX_ok h
    obtain ⟨v, u, rfl, h1, h2⟩ := hv.pair2 e
    obtain ⟨e, h⟩ := gB_ok h
    cases h2.non e
    obtain ⟨i, e, h⟩ := oX_ok h
    obtain ⟨t, rfl⟩ := h1.int e
    obtain ⟨k, e, h⟩ := oX_ok h
    obtain ⟨q, e2, h⟩ := oX_ok h
    obtain ⟨m, ad, o, rest, rfl, r, O⟩ := st.op (hx.objx e) (slot_is (g := fun p : (Int → Option AV) × Sz => AO.tab p.1 p.2) aoT_is e2) (fun q => nomatch q)
    obtain ⟨kvs, hd, hz, hj, hn⟩ := r.inv
    obtain ⟨hl, h⟩ := q.2.ltX_ok h hz
    have oj := (hj i).getD
    have new : ∀ {o' : Obj}, o'.IsDictOf (PySem.intKind prg c.w) (without kvs i) → OR c.w a.ρ a.R ad o' (.tab (fun j => if j = i then none else q.1 j) (q.2.pop i)) := fun d' => .tab d' (Sz.ok_pop hz) (OV.pop hj) hn
    cases hvv : valueAt kvs i with
    | some v =>
      rw [hvv] at oj
      exact kob_pop (knd := PySem.intKind _ _) (more := [_]) O.F O.N (.head O.nr) hd (intKind_is _ _ _ _) (.inr ⟨_, rfl⟩) (by rfl) (PySem.F.args_dict_pop_3 _ _ _) hvv (size_ok (by omega)) fun h' o' F' N' d' => putO (O.put h' o' _ F' N' (new d')) oj h
    | none =>
      rw [hvv] at oj
      have hD : a.s.heap.DictOf (PySem.intKind _ _) ad kvs := Heap.dictOf_iff.mpr ⟨o, (O.N _ (.head _)).1, hd⟩
      exact call_meetsIn PySem.F.slot_dict_pop hD.typeIs PySem.F.entry_dict_pop (PySem.F.args_dict_pop_3 _ _ _) (meets_dict_pop_default (PySem.intKind prg c.w) ad (intKind_is _ _ _ _) hn (by rfl) .none) ⟨kvs, hD, hvv, putO (O.put a.s.heap o _ O.F O.N (new ((without_none hvv).symm ▸ hd))) oj h⟩
  | sget =>
    obtain ⟨k, e, h⟩ := oX_ok h
    obtain ⟨u, rfl, hu⟩ := hv.one e
    obtain ⟨i, e, h⟩ := oX_ok h
    obtain ⟨t, rfl⟩ := hu.str e
    obtain ⟨q, e, h⟩ := oX_ok h
    obtain ⟨m, news, W⟩ := st.nw
    obtain ⟨p, o, kvs, rfl, hm, hd, hw, hn⟩ := (sdA_is e ▸ hx).inv
    exact kdg_get1 (knd := PySem.strKind _ _) W.N (W.sub _ hm) hd hn (strKind_is _ _ _ _) _ rfl (vretk _ h st (getS_at hw i).getD)
end
end
section
theorem isIntKey {prog : Program} {w : World} {k : Int} {v : Value} (h : (PySem.intKind prog w).is k v = true) : ∃ t, v = .int k t := by
  cases v <;> simp [PySem.intKind, Value.isInt] at h
  subst h
  exact ⟨_, rfl⟩
section
variable {w : World} {A : Around} {E : Value → Shared → Prop} {s : Shared} {h₀ : Heap} {L d : Addr} {m : Str → Option Value} {news : Led} {o : Obj} {kvs : List (Int × Value)}
theorem ints_of_keys {prog : Program} {kvs : List (Int × Value)} : ∀ {vs : List Value}, vs.length = kvs.length → (∀ (j : Nat) (v : Value), vs[j]? = some v → ∃ k x, kvs[j]? = some (k, x) ∧ (PySem.intKind prog w).is k v = true) → IntsAre vs (kvs.map (·.1)) := by
  induction kvs with
  | nil => intro vs e _; cases vs with | nil => exact .nil | cons _ _ => cases e
  | cons p r ih =>
    intro vs e h
    cases vs with
    | nil => cases e
    | cons v vs =>
      obtain ⟨k, x, hk, hv⟩ := h 0 v rfl
      cases hk
      obtain ⟨t, rfl⟩ := isIntKey hv
      exact .cons _ _ (ih (by simpa using e) fun j u hu => h (j + 1) u hu)
theorem sortedD (F : Fr h₀ L s.heap m) (N : News h₀ L s.heap news) (hm : (d, o) ∈ news) (hk : o.IsDictOf (PySem.intKind prg w) kvs) (lo : (d == sysModules) = false) (hh : A.handled = none) (hz : kvs.length < 64) {Q : Value → Shared → Prop}
    (h : ∀ B vs ns c h' tk, Fr h₀ L h' m → News h₀ L h' ((B, listOf vs.toArray c) :: news) → (∀ q ∈ news, q.1 < B) → IntsAre vs ns → ns.Perm (kvs.map (·.1)) → ns.Pairwise (· ≤ ·) → Q (.ref B) { s with heap := h', toks := tk }) :
    wpAny (model prg w) A (call (.builtin "sorted") [.ref d]) Q E s := by
  have hD := kda_dict N hm hk
  obtain ⟨ep, hat⟩ := hD.dictAt
  refine kdu_sorted (kdl_dict (knd := PySem.intKind _ _) (kvs := kvs) (ep := ep) lo) hh F N hat (kdl_size (by omega)) fun B h' tk vs F' N' l1 hlen hv => ?_
  have hi : IntsAre vs (kvs.map (·.1)) := ints_of_keys hlen hv
  refine ksk_lsort (news' := fun o => (B, o) :: news) F' N' (fun o => .head fun p hp => Nat.ne_of_lt (l1 p hp)) rfl hi (by simpa using hz) fun vs' ns' c h'' F'' N'' hi' _ hp ho _ => ?_
  exact h B vs' ns' c h'' tk F'' N'' l1 hi' hp ho
end
theorem VRs.ofInts {w : World} {ρ : List Addr} {R : Led} {vs : List Value} {ns : List Int} (h : IntsAre vs ns) : VRs w ρ R vs (ns.map fun i => .d (.int i)) := by
  induction h with
  | nil => exact .nil
  | cons k t _ ih => exact .cons (.d (.int _ _)) ih
theorem insI_perm (x : Int) : ∀ l : List Int, (insI x l).Perm (x :: l) := fun l => by
  induction l with
  | nil => exact .refl _
  | cons y r ih =>
    unfold insI
    by_cases q : x ≤ y
    · rw [if_pos q]
    · rw [if_neg q]; exact (ih.cons y).trans (.swap x y r)
theorem insI_sorted (x : Int) {l : List Int} (h : l.Pairwise (· ≤ ·)) : (insI x l).Pairwise (· ≤ ·) := by
  induction l with
  | nil => exact List.pairwise_singleton _ _
  | cons y r ih =>
    obtain ⟨h1, h2⟩ := List.pairwise_cons.mp h
    unfold insI
    by_cases q : x ≤ y
    · rw [if_pos q]
      exact List.pairwise_cons.mpr ⟨fun z hz => by
        rcases List.mem_cons.mp hz with rfl | hz
        · exact q
        · exact Int.le_trans q (h1 z hz), h⟩
    · rw [if_neg q]
      exact List.pairwise_cons.mpr ⟨fun z hz => by
        rcases List.mem_cons.mp ((insI_perm x r).mem_iff.mp hz) with rfl | hz
        · exact Int.le_of_not_le q
        · exact h1 z hz, ih h2⟩
theorem srtI_is (l : List Int) : (srtI l).Perm l ∧ (srtI l).Pairwise (· ≤ ·) := by
  induction l with
  | nil => exact ⟨.refl _, .nil⟩
  | cons x r ih => exact ⟨(insI_perm x _).trans (ih.1.cons x), insI_sorted x ih.2⟩
theorem sort_uniq {l ns : List Int} (hp : ns.Perm l) (ho : ns.Pairwise (· ≤ ·)) : srtI l = ns :=
  ((srtI_is l).1.trans hp.symm).eq_of_pairwise (le := fun a b => a ≤ b) (fun a b _ _ h1 h2 => Int.le_antisymm h1 h2) (srtI_is l).2 ho
theorem tupX_is {w : World} {ρ : List Addr} {R : Led} {vs : List Value} {xs : List AV} (h : VRs w ρ R vs xs) {a : Addr} {n : Nat} (hm : (a, Mine.tup vs n) ∈ R) : VR w ρ R (.ref a) (tupX xs) := by
  unfold tupX
  cases e : Mine.allD xs with
  | some ds => exact .d (.tup hm (h.allD e))
  | none => exact .tup hm h
theorem rng_obj {a : Addr} {n : Int} {t u v : Tok} {h : Heap} (e : h.get? a = some { cls := .type "range", data := .fields #[.int 0 t, .int n u, .int 1 v] }) : IsRange h a 0 n 1 t u v := e
theorem ksOf_ok {z : Sz} {l : List Int} {kvs : List (Int × Value)} (k : z.ok kvs) (h : ksOf z = some l) : kvs.map (·.1) = l := by
  cases z with
  | le _ => exact nz h
  | ks _ => exact (show kvs.map (·.1) = _ from k).trans (Option.some.inj h)
theorem ksOf_is {z : Sz} {l : List Int} (h : ksOf z = some l) : z = .ks l := by
  cases z with
  | le _ => exact nz h
  | ks _ => exact congrArg Sz.ks (Option.some.inj h)
section
variable {c : Ctx} {ek : EK} {lm : Lm} {H : Hp} {n : Nat} {a : Wd} {E : Value → Shared → Prop} {P : AV → Hp → Prop}
theorem blt_ok (st : St c ek a.ρ a.R lm H a.s.heap) (ok : c.OK n) {b : Bt} {vs : List Value} {as : List AV} (hv : VRs c.w a.ρ a.R vs as) {mu : Bool} (h : bltX b as H mu P) : WP c (call b.val vs) a (VΦ c ek lm P) E := by
  obtain ⟨av, e, h⟩ := oX_ok h
  obtain ⟨x, rfl, hx⟩ := hv.one e
  obtain ⟨m, news, W⟩ := st.nw
  cases b with
  | int =>
    rcases eX_ok h with ⟨i, e, h⟩ | h
    · obtain ⟨t, rfl⟩ := hx.int e
      exact call_int_int (vret Le.refl h st (.d (.int _ _)))
    · obtain ⟨i, e, h⟩ := oX_ok h
      cases hx.bool e
      exact call_int_bool (vretk _ h st (.d (.int _ _)))
  | list =>
    rcases eX_ok h with ⟨ds, e, h⟩ | h
    · obtain ⟨hz, h⟩ := ltB_ok h
      obtain ⟨p, us, k, rfl, hm, hu⟩ := hx.tupl e
      exact kup_listOfT W.F W.N (W.sub _ hm) rfl (fun D c' h' F' N' l => W.newL (VRs.ofDIs hu) h F' N' (ltne l)) (size_ok (by show us.length < _; rw [hu.length]; omega))
    rcases eX_ok h with ⟨xs, e, h⟩ | h
    · obtain ⟨hz, h⟩ := ltB_ok h
      obtain ⟨p, us, k, rfl, hm, hu⟩ := W.ls hx e
      exact listCopy W.F W.N hm (by rw [hu.length]; omega) fun D c' h' F' N' l => W.newL hu h F' N' (ltne l)
    · obtain ⟨ds, e, hz, h⟩ := oX_ok h
      obtain ⟨p, us, k, rfl, hm, hu⟩ := W.sy hx e
      exact listCopy W.F W.N hm (by rw [hu.length]; omega) fun D c' h' F' N' l => W.newY hu h F' N' (ltne l)
  | tuple =>
    rcases eX_ok h with ⟨ds, e, h⟩ | h
    · obtain ⟨p, us, k, rfl, hm, hu⟩ := hx.tupl e
      exact call_tuple_tup (News.isTup W.N (W.sub _ hm)) (vret Le.refl h st (tupA_is e ▸ hx))
    · obtain ⟨xs, e, h⟩ := oX_ok h
      obtain ⟨hz, h⟩ := ltB_ok h
      obtain ⟨p, us, k, rfl, hm, hu⟩ := hx.list e
      exact kde_tupleOf W.F W.N (News.isList W.N (W.sub _ hm)) (by have := hu.length; simp; omega) rfl fun D h' F' N' l => newS (W.stl F' N' l) (tupX_is (n := 0) (hu.up (List.prefix_refl _) fun _ h => .tail _ h) (.head _)) h
  | range =>
    obtain ⟨i, e, h⟩ := oX_ok h
    obtain ⟨hz, h⟩ := gB_ok h
    rw [Bool.and_eq_true, decide_eq_true_eq] at hz
    obtain ⟨t, rfl⟩ := hx.int e
    have e9 : ((i.toNat : Nat) : Int) = i := Int.toNat_of_nonneg hz.1
    exact call_range_1 (newS (W.stl (W.F.push _) (News.push W.F W.N _) fun p hp => Heap.lt_size (W.N p hp).1) (.rng (Nat.le_of_ble_eq_true hz.2) (.head _) fun h e => ⟨a.s.toks, t, a.s.toks + 1, by rw [e9]; exact rng_obj e⟩) h)
  | dict =>
    obtain ⟨q, e, h⟩ := oX_ok h
    obtain ⟨p, o, kvs, T⟩ := W.tb hx e
    cases T.e
    obtain ⟨hl, h⟩ := q.2.ltX_ok h T.z
    refine kt_call_dict (knd := PySem.intKind _ _) T.n (kda_dict W.N T.m T.d) (size_ok (by omega)) fun h' hm' hs => ?_
    obtain ⟨o', ho', hd'⟩ := Heap.dictOf_iff.mp hm'
    have N1 := News.push W.F W.N { cls := .type "dict", data := .dict #[] }
    exact W.newT T.z T.j h ((W.F.push _).change hs (N1 _ (.head _)).2.1 (N1.fresh (.head _))) (N1.setHead W.N.apart hs ho') (ltne fun p hp => Heap.lt_size (W.N p hp).1) hd' (W.F.notModules (modules_low ok.T.nolimit))
  | abs =>
    obtain ⟨i, e, h⟩ := oX_ok h
    obtain ⟨t, rfl⟩ := hx.int e
    exact call_abs_int fun u tk => vretk _ h st (.d (.int _ _))
  | len =>
    rcases eX_ok h with ⟨xs, e, h⟩ | h
    · obtain ⟨hz, h⟩ := ltB_ok h
      obtain ⟨p, us, k, rfl, hm, hu⟩ := W.ls hx e
      have hl := hu.length
      refine Calls.call_len_list (News.isList W.N hm) (by simp; omega) ?_
      have e2 : us.toArray.size = xs.length := by simp [hl]
      rw [e2]
      exact vretk _ h st (.d (.int _ _))
    · obtain ⟨q, e, h⟩ := oX_ok h
      obtain ⟨l, e2, h⟩ := oX_ok h
      obtain ⟨hz, h⟩ := ltB_ok h
      obtain ⟨p, o, kvs, T⟩ := W.tb hx e
      cases T.e
      have hz' : kvs.map (·.1) = l := ksOf_ok T.z e2
      have hlen : kvs.length = l.length := by rw [← hz', List.length_map]
      refine kda_len W.N T.m T.d T.n (by omega) ?_
      rw [hlen]
      exact vretk _ h st (.d (.int _ _))
  | sorted =>
    obtain ⟨q, e, h⟩ := oX_ok h
    obtain ⟨l, e2, h⟩ := oX_ok h
    obtain ⟨hz, h⟩ := gB_ok h
    have hz := Nat.le_of_ble_eq_true hz
    obtain ⟨p, o, kvs, T⟩ := W.tb hx e
    cases T.e
    have hz' : kvs.map (·.1) = l := ksOf_ok T.z e2
    have hlen : kvs.length = l.length := by rw [← hz', List.length_map]
    refine sortedD W.F W.N T.m T.d T.n rfl (by omega) fun B vs ns k h' tk F' N' l1 hi hp ho => ?_
    rw [hz'] at hp
    rw [sort_uniq hp ho] at h
    exact newS (W.stl F' N' l1) (.lst (.head _) ((VRs.ofInts hi).up (List.prefix_refl _) fun _ h => .tail _ h)) h
end
end
section
noncomputable def Off (c : Ctx) (ρ : List Addr) (R : Led) (X : Addr) : Prop := X ≠ c.L ∧ c.h₀.get? X = none ∧ X ∉ ρ ∧ (∀ q ∈ R, q.1 ≠ X) ∧ ∀ q ∈ c.gh, q.1 ≠ X
noncomputable abbrev Ctx.gho (c : Ctx) (g : Led) : Ctx := { c with gh := g ++ c.gh }
section
variable {c : Ctx} {ek : EK} {lm : Lm} {H : Hp} {n : Nat} {ρ : List Addr} {R : Led} {h : Heap}
theorem St.fresh {a : Wd} (st : St c ek a.ρ a.R lm H a.s.heap) {X : Addr} (hX : @LE.le Nat _ a.s.heap.objs.size X) : Off c a.ρ a.R X := by
  obtain ⟨m, news, W⟩ := st.nw
  have lt : ∀ {p : Addr × Obj}, p ∈ news → @Ne Nat p.1 X := fun {p} hp => by
    have : @LT.lt Nat _ p.1 a.s.heap.objs.size := Heap.lt_size (W.N p hp).1
    omega
  refine ⟨fun q => ?_, ?_, fun q => ?_, fun q hq => lt (W.sub q hq), fun q hq => lt (W.ghs q hq)⟩
  · have : @LT.lt Nat _ c.L a.s.heap.objs.size := W.F.ns.lt
    have q' : @Eq Nat X c.L := q
    omega
  · cases e : c.h₀.get? X with
    | none => rfl
    | some o =>
      have : @LT.lt Nat _ X a.s.heap.objs.size := Heap.lt_size (W.F.keep X o e)
      omega
  · obtain ⟨o, ho⟩ := W.rho X q
    exact lt ho rfl
theorem St.but (st : St c ek ρ R lm H h) {X : Addr} (o : Off c ρ R X) {h' : Heap} (k : ∀ b ob, b ≠ X → h.get? b = some ob → h'.get? b = some ob) : St c ek ρ R lm H h' := by
  obtain ⟨m, os, F, N, x⟩ := st.raw
  have k' : ∀ b ob, b ∉ [X] → h.get? b = some ob → h'.get? b = some ob := fun b ob hb e => k b ob (by simpa using hb) e
  refine x.st (LCg.fr_but F k' (Ne.symm o.1) o.2.1) (LCg.news_but N k' fun p hp => ?_)
  rcases List.mem_append.mp hp with hp | hp
  · exact fun q => o.2.2.1 (q ▸ (List.of_mem_zip (a := p.1) (b := p.2) hp).1)
  · rcases List.mem_append.mp hp with hp | hp
    · exact o.2.2.2.1 p hp
    · exact o.2.2.2.2 p hp
theorem St.ext (st : St c ek ρ R lm H h) {h' : Heap} (k : ∀ b ob, h.get? b = some ob → h'.get? b = some ob) : St c ek ρ R lm H h' := by
  obtain ⟨m, os, F, N, x⟩ := st.raw
  exact x.st (F.keeps k) (N.grown k)
/-- things of the machine's are put by, to stand still for a while -/
theorem St.hide (st : St c ek ρ R lm H h) {ek' : EK} {lm' : Lm} {g : Led} (hg : ∀ p ∈ g, h.get? p.1 = some p.2 ∧ Off c ρ R p.1) (hl : ∀ m, LmOK c ek ρ R m lm → LmOK (c.gho g) ek' ρ R m lm') : St (c.gho g) ek' ρ R lm' H h := by
  obtain ⟨m, os, F, N, x⟩ := st.raw
  refine ⟨m, os, F, fun p hp => ?_, x.O, x.el, x.nd, x.of, fun p hp => ?_, hl m x.lo⟩
  · rcases List.mem_append.mp hp with hp | hp
    · exact N p (List.mem_append_left _ hp)
    · rcases List.mem_append.mp hp with hp | hp
      · exact N p (List.mem_append_right _ (List.mem_append_left _ hp))
      · rcases List.mem_append.mp hp with hp | hp
        · exact ⟨(hg p hp).1, (hg p hp).2.1, (hg p hp).2.2.1⟩
        · exact N p (List.mem_append_right _ (List.mem_append_right _ hp))
  · rcases List.mem_append.mp hp with hp | hp
    · exact ⟨(hg p hp).2.2.2.1, (hg p hp).2.2.2.2.1⟩
    · exact x.gd p hp
/-- they are taken up again -/
theorem St.show' {g : Led} (st : St (c.gho g) ek ρ R lm H h) {ek' : EK} {lm' : Lm} (hg : ∀ p ∈ g, ∀ q ∈ c.gh, q.1 ≠ p.1) (hl : ∀ m, LmOK (c.gho g) ek ρ R m lm → LmOK c ek' ρ R m lm') : St c ek' ρ R lm' H h ∧ ∀ p ∈ g, h.get? p.1 = some p.2 ∧ Off c ρ R p.1 := by
  obtain ⟨m, os, F, N, x⟩ := st.raw
  refine ⟨⟨m, os, F, fun p hp => ?_, x.O, x.el, x.nd, x.of, fun p hp => x.gd p (List.mem_append_right _ hp), hl m x.lo⟩, fun p hp => ?_⟩
  · rcases List.mem_append.mp hp with hp | hp
    · exact N p (List.mem_append_left _ hp)
    · rcases List.mem_append.mp hp with hp | hp
      · exact N p (List.mem_append_right _ (List.mem_append_left _ hp))
      · exact N p (List.mem_append_right _ (List.mem_append_right _ (List.mem_append_right _ hp)))
  · have n := N p (List.mem_append_right _ (List.mem_append_right _ (List.mem_append_left _ hp)))
    have g' := x.gd p (List.mem_append_left _ hp)
    exact ⟨n.1, n.2.1, n.2.2, g'.1, g'.2, hg p hp⟩
end
/-- a new thing that lies off the ledger -/
theorem Nw.add {c : Ctx} {ek : EK} {lm : Lm} {H : Hp} {a : Wd} {m : Str → Option Value} {news : Led} (W : Nw c ek lm H a m news) {D : Addr} {ob : Obj} (o : Off c a.ρ a.R D) (g : a.s.heap.get? D = some ob) : News c.h₀ c.L a.s.heap ((D, ob) :: news) ∧ ∀ p ∈ news, p.1 ≠ D := by
  refine ⟨fun p hp => ?_, fun p hp => ?_⟩
  · rcases List.mem_cons.mp hp with rfl | hp
    · exact ⟨g, o.1, o.2.1⟩
    · exact W.N p hp
  · rcases W.all p hp with h | h | h
    · exact fun q => o.2.2.1 (q ▸ h)
    · exact o.2.2.2.1 p h
    · exact o.2.2.2.2 p h
theorem Nw.off {c : Ctx} {ek : EK} {lm : Lm} {H : Hp} {a : Wd} {m : Str → Option Value} {news : Led} (W : Nw c ek lm H a m news) {D : Addr} {ob : Obj} {h' : Heap} (N' : News c.h₀ c.L h' ((D, ob) :: news)) (l : ∀ p ∈ news, p.1 ≠ D) : Off c a.ρ a.R D :=
  ⟨(N' _ (.head _)).2.1, (N' _ (.head _)).2.2, fun h => (W.rho D h).elim fun _ ho => l _ ho rfl, fun q hq => l q (W.sub q hq), fun q hq => l q (W.ghs q hq)⟩
theorem Ctx.OK.gh {c : Ctx} {n : Nat} (ok : c.OK n) (g : Led) : (c.gho g).OK n := ⟨ok.B, ok.X, ok.T, ok.hk, ok.hd, ok.hu⟩
theorem LmOK.gho {c : Ctx} {ek : EK} {ρ : List Addr} {R : Led} {m : Str → Option Value} {lm : Lm} (h : LmOK c ek ρ R m lm) (g : Led) : LmOK (c.gho g) ek ρ R m lm := by
  cases ek with
  | df => exact h
  | cp sc cl C l₀ => obtain ⟨e0, e, oC, m₂, a, b, k⟩ := h; exact ⟨e0, e, oC, m₂, List.mem_append_right _ a, b, k⟩
theorem LmOK.ogh {c : Ctx} {ek : EK} {ρ : List Addr} {R : Led} {m : Str → Option Value} {lm : Lm} {g : Led} (h : LmOK (c.gho g) ek ρ R m lm) (k : ∀ sc cl C l₀, ek = .cp sc cl C l₀ → ∀ p ∈ g, p.1 ≠ C) : LmOK c ek ρ R m lm := by
  cases ek with
  | df => exact h
  | cp sc cl C l₀ =>
    obtain ⟨e0, e, oC, m₂, a, b, q⟩ := h
    refine ⟨e0, e, oC, m₂, ?_, b, q⟩
    rcases List.mem_append.mp a with a | a
    · exact absurd rfl (k sc cl C l₀ rfl _ a)
    · exact a
end
section
theorem star_cons {e : Expr} {rest : List Expr} {env : Env} : notSt e = true → starEach (e :: rest) env = (false, eval e env) :: starEach rest env := by
  refine Expr.casesOn e ?_ ?_ ?_ ?_ ?_ ?_ ?_ ?_ ?_ ?_ ?_ ?_ ?_ ?_ ?_ ?_ ?_ ?_ ?_ ?_ ?_ ?_ ?_ ?_ ?_ ?_ ?_ <;> intros <;> first | rfl | exact fz ‹_›
theorem star_any {env : Env} {pos : Pos} : ∀ {es : List Expr}, es.all notSt = true → (backTo pos (starEach es env)).any (·.1) = false
  | [], _ => rfl
  | e :: es, h => by
    rw [List.all_cons, Bool.and_eq_true] at h
    rw [star_cons h.1]
    exact star_any (es := es) h.2
theorem fas_keep (w : World) : fas.all (fun f => keepIn (KH w) (.ref f)) = true := by kernel_rfl!
theorem isFa_keep {a : Addr} (h : isFa a = true) (w : World) : keepIn (KH w) (.ref a) = true := by
  obtain ⟨x, hx, e⟩ := List.any_eq_true.mp h
  rw [Nat.eq_of_beq_eq_true e]
  exact List.all_eq_true.mp (fas_keep w) x hx
theorem meth_all (w : World) : methTab.all (fun p => plainGet (KH w) p.1 p.2.1 && (findIn (KH w) (.ref p.1) p.2.1 == some (some (.ref p.2.2)) && isFn (KH w) (.ref p.2.2))) = true := by kernel_rfl!
theorem methAt_is {C : Addr} {x : Str} {f : Addr} (e : methAt C x = some f) (w : World) : plainGet (KH w) C x = true ∧ findIn (KH w) (.ref C) x = some (some (.ref f)) ∧ isFn (KH w) (.ref f) = true := by
  obtain ⟨p, h1, h2⟩ := Option.map_eq_some_iff.mp e
  have hp := List.find?_some h1
  rw [Bool.and_eq_true, decide_eq_true_eq] at hp
  have := List.all_eq_true.mp (meth_all w) _ (List.mem_of_find?_eq_some h1)
  rw [Nat.eq_of_beq_eq_true hp.1, hp.2, h2] at this
  simp only [Bool.and_eq_true, beq_iff_eq] at this
  exact ⟨this.1, this.2.1, this.2.2⟩
theorem init_all (w : World) : initL.all (fun p => makesIn (KH w) p.1 && (findIn (KH w) (.ref p.1) (Str.ofString "__init__") == some (some (.ref p.2)) && isFn (KH w) (.ref p.2))) = true := by kernel_rfl!
theorem initAt_is {C i : Addr} (e : initAt C = some i) (w : World) : makesIn (KH w) C = true ∧ findIn (KH w) (.ref C) (Str.ofString "__init__") = some (some (.ref i)) ∧ isFn (KH w) (.ref i) = true := by
  obtain ⟨p, h1, h2⟩ := Option.map_eq_some_iff.mp e
  have hp := List.find?_some h1
  have := List.all_eq_true.mp (init_all w) _ (List.mem_of_find?_eq_some h1)
  rw [Nat.eq_of_beq_eq_true hp, h2] at this
  simp only [Bool.and_eq_true, beq_iff_eq] at this
  exact ⟨this.1, this.2.1, this.2.2⟩
section
variable {c : Ctx} {ek : EK} {lm : Lm} {H : Hp} {n : Nat} {r : Rec} {k mu : Bool}
theorem argsY_ok (S : Snd c.w n r) (ok : c.OK n) (hk : k = true → ek = .df) {pos : Pos} {es : List Expr} : ∀ {H : Hp} {P : List AV → Hp → Prop}, es.all notSt = true → argsY r k lm H es P → JL c ek lm H (spliced (backTo pos (starEach es (ek.env c)))) P := by
  induction es with
  | nil => exact fun _ h a E st => args_nil (PP.ret Le.refl ⟨_, _, h, st, .nil⟩)
  | cons e es ih =>
    intro H P ha h a E st
    rw [List.all_cons, Bool.and_eq_true] at ha
    refine args_cons ((S.e rfl ok hk h a E st).then fun v b l ⟨av, H', h', st', vr⟩ => ?_) (star_cons ha.1)
    exact (ih ha.2 h' b E st').then fun vs b2 l2 ⟨as, H2, h2, st2, vrs⟩ => PP.ret (l.trans l2) ⟨_, _, h2, st2, .cons (vr.up l2.p l2.R) vrs⟩
theorem args_ok (S : Snd c.w n r) (ok : c.OK n) (hk : k = true → ek = .df) {pos : Pos} {es : List Expr} {P : List AV → Hp → Prop} (h : argsX r k lm H es P) : JL c ek lm H (spliced (backTo pos (starEach es (ek.env c)))) P :=
  argsY_ok S ok hk (gB_ok h).1 (gB_ok h).2
theorem St.kin {a : Wd} (st : St c ek a.ρ a.R lm H a.s.heap) (ok : c.OK n) : (KH c.w).In a.s.heap := by
  obtain ⟨m, news, W⟩ := st.nw
  exact ok.X.keeps W.F.keep
end
theorem cu9 (a : Args) : (Code.builtin "type.__call__" a).cUnits ≤ 6 := Nat.le_of_ble_eq_true (by kernel_rfl!)
section
variable {c : Ctx} {ek : EK} {lm : Lm} {H : Hp} {n : Nat} {r : Rec} {k mu : Bool} {a : Wd} {E : Value → Shared → Prop} {P : AV → Hp → Prop}
theorem St.alloc2 {ρ : List Addr} {R : Led} {h : Heap} (st : St c ek ρ R lm H h) : ∃ m news, Fr c.h₀ c.L h m ∧ News c.h₀ c.L h news ∧ ∀ x dx C h', Fr c.h₀ c.L h' m → News c.h₀ c.L h' ((x, instObj C dx) :: (dx, dictOf [] 0) :: news) → (∀ p ∈ news, p.1 < dx) → dx < x → St c ek (ρ ++ [dx] ++ [x]) R lm (H ++ [.fld []] ++ [.ins C H.length]) h' := by
  obtain ⟨m, os, F, N, x0⟩ := st.raw
  refine ⟨m, _, F, N, fun x dx C h' F' N' l1 l2 => ?_⟩
  have eH : ρ.length = H.length := x0.el.trans x0.O.length
  obtain ⟨m1, os1, F1, N1, x1⟩ := (St.alloc F' (fun p hp => N' p (.tail _ hp)) x0 (fun p hp => Nat.ne_of_lt (l1 p hp)) (.fld .nil)).raw
  refine St.alloc (o := instObj C dx) (d := x) F1 (fun p hp => ?_) x1 (fun p hp => Nat.ne_of_lt ?_) (.ins ?_)
  · rcases List.mem_cons.mp hp with rfl | hp
    · exact N' _ (.head _)
    · exact N1 p hp
  · rcases List.mem_append.mp hp with hp | hp
    · rcases List.mem_append.mp (List.of_mem_zip (a := p.1) (b := p.2) hp).1 with hq | hq
      · obtain ⟨j, hj⟩ := List.mem_iff_getElem?.mp hq
        have jl : j < os.length := by rcases Nat.lt_or_ge j ρ.length with l | l; exact x0.el ▸ l; rw [List.getElem?_eq_none l] at hj; cases hj
        exact Nat.lt_trans (l1 (p.1, os[j]) (List.mem_append_left _ (zip_in hj (by simp [jl])))) l2
      · rw [List.mem_singleton.mp hq]; exact l2
    · exact Nat.lt_trans (l1 p (List.mem_append_right _ hp)) l2
  · rw [← eH]; simp
theorem class_ok (S : Snd c.w n r) (ok : c.OK n) (st : St c ek a.ρ a.R lm H a.s.heap) {vs : List Value} {as : List AV} (vr : VRs c.w a.ρ a.R vs as) {C i : Addr} (e : initAt C = some i) (h : classX r C i as H P) : WP c (call (.ref C) vs) a (VΦ c ek lm P) E := by
  obtain ⟨m, news, F, N, al⟩ := st.alloc2
  obtain ⟨e1, e2, e3⟩ := initAt_is e c.w
  refine call_cls F ok.X N e1 e2 e3 fun x dx h' F' N' l1 l2 => ?_
  have st2 := al x dx C h' F' N' l1 l2
  have eH : a.ρ.length = H.length := by obtain ⟨_, _, W⟩ := st.nw; exact W.el
  have l : Le a ⟨{ a.s with heap := h' }, a.ρ ++ [dx] ++ [x], a.R⟩ := ⟨⟨_, _, rfl⟩, by rw [List.append_assoc]; exact List.prefix_append _ _, fun _ h => h⟩
  have hx : (a.ρ ++ [dx] ++ [x])[H.length + 1]? = some x := by rw [← eH]; simp
  refine S.c h c ek lm _ ⟨{ a.s with heap := h' }, a.ρ ++ [dx] ++ [x], a.R⟩ (.ref x :: vs) _ rfl ok rfl rfl (by show c.dp + 1 ≤ _; omega) (by show _ ≤ c.un + 6; exact Nat.add_le_add_left (m := 6) (cu9 _) _) st2 (.cons (.obj hx) (vr.up l.p l.R)) fun v b2 lb ⟨rv, H2, h2, st3, vr3⟩ => ?_
  obtain ⟨hn, h2⟩ := gB_ok h2
  cases vr3.non hn
  exact ⟨rfl, PP.ret (l.trans lb) ⟨_, _, h2, st3, .obj (pre_get lb.p hx)⟩⟩
theorem apply_ok (S : Snd c.w n r) (ok : c.OK n) (st : St c ek a.ρ a.R lm H a.s.heap) {fv : Value} {f : AV} (vf : VR c.w a.ρ a.R fv f) {vs : List Value} {as : List AV} (vr : VRs c.w a.ρ a.R vs as) (h : applyX r mu f as H P) : WP c (call fv vs) a (VΦ c ek lm P) E := by
  revert vf h
  refine AV.casesOn f ?_ ?_ ?_ ?_ ?_ ?_ ?_ ?_ (fun t vf h => ?_) (fun b vf h => ?_) ?_
  case refine_9 =>
    cases vf.inv
    rcases eX_ok h with ⟨i, e, h⟩ | h
    · exact class_ok S ok st vr e h
    · exact S.call rfl ok h st vr
  case refine_10 => cases vf.inv; exact blt_ok st ok vr h
  all_goals intros; exact False.elim ‹_›
theorem callK (S : Snd c.w n r) (ok : c.OK n) (hk : k = true → ek = .df) (st : St c ek a.ρ a.R lm H a.s.heap) {pos : Pos} {f : Addr} (hf : isFa f = true) {first : List Value} {es : List Expr} {Pa : List AV → Hp → Prop} (h : argsX r k lm H es Pa)
    (go : ∀ vs as H' b, Le a b → Pa as H' → St c ek b.ρ b.R lm H' b.s.heap → VRs c.w b.ρ b.R vs as → WP c (call (.ref f) (first ++ vs)) b (VΦ c ek lm P) E) : WP c (callWith pos (.ref f) first (backTo pos (starEach es (ek.env c))) []) a (VΦ c ek lm P) E := by
  cases es with
  | nil => exact callWith_K0 (st.kin ok) (isFa_keep hf c.w) (go [] [] H a Le.refl (gB_ok h).2 st .nil)
  | cons e es =>
    have ha2 := (gB_ok h).1
    rw [List.all_cons, Bool.and_eq_true] at ha2
    exact callWith_K ok.X (isFa_keep hf c.w) ((args_ok S ok hk h a E st).then fun vs b l ⟨as, H', p, st', vr⟩ => ⟨st'.kin ok, WP.le l (go vs as H' b l p st' vr)⟩) (star_cons ha2.1) (star_any ha2.2)
theorem callW_ok (S : Snd c.w n r) (ok : c.OK n) (hk : k = true → ek = .df) (st : St c ek a.ρ a.R lm H a.s.heap) {pos : Pos} {fv : Value} {f : AV} (vf : VR c.w a.ρ a.R fv f) (hf : keepF f = true) {es : List Expr} (h : argsX r k lm H es fun as H => applyX r mu f as H P) : WP c (callWith pos fv [] (backTo pos (starEach es (ek.env c))) []) a (VΦ c ek lm P) E := by
  have all : ∀ {b : Wd} {vs : List Value} {as : List AV} {H' : Hp}, Le a b → applyX r mu f as H' P → St c ek b.ρ b.R lm H' b.s.heap → VRs c.w b.ρ b.R vs as → wpAny (model prg c.w) c.A (call fv vs) (PP a (VΦ c ek lm P)) E b.s := fun {b vs as H'} l p st' vr => WP.le l (apply_ok S ok st' (vf.up l.p l.R) vr p)
  revert vf hf h all
  refine AV.casesOn f ?_ ?_ ?_ ?_ ?_ ?_ ?_ ?_ (fun t vf hf h all => ?_) (fun b vf hf h all => ?_) ?_
  case refine_9 =>
    cases vf.inv
    exact callK S ok hk st hf h fun vs as H' b l p st' vr => apply_ok S ok st' (.fn _) vr p
  case refine_10 =>
    cases vf.inv
    cases es with
    | nil => have h := (gB_ok h).2; unfold argsY applyX bltX at h; obtain ⟨_, e, _⟩ := oX_ok h; exact nz e
    | cons e es =>
      have ha2 := (gB_ok h).1
      rw [List.all_cons, Bool.and_eq_true] at ha2
      have go := (args_ok (pos := pos) S ok hk h a E st).then (Q := fun vs s' => wpAny (model prg c.w) c.A (call b.val vs) (PP a (VΦ c ek lm P)) E s') fun vs b' l ⟨as, H', p, st', vr⟩ => all l p st' vr
      cases b with
      | abs => exact PyProof.Rows.callWith_builtin1 go (star_cons ha2.1) (star_any ha2.2)
      | len => exact PyProof.Rows.callWith_builtin1 go (star_cons ha2.1) (star_any ha2.2)
      | sorted => exact PyProof.Rows.callWith_builtin1 go (star_cons ha2.1) (star_any ha2.2)
      | _ => exact Pv.callWith_type1 go (star_cons ha2.1) (star_any ha2.2)
  all_goals intros; exact fz ‹_›
end
end
section
section
variable {c : Ctx} {ek : EK} {lm : Lm} {H : Hp} {n : Nat} {r : Rec} {k mu : Bool} {a : Wd} {E : Value → Shared → Prop} {P : AV → Hp → Prop}
noncomputable def PsΦ (c : Ctx) (ek : EK) (lm : Lm) (P : List AV → List AV → Hp → Prop) : List (Value × Value) → Wd → Prop := fun ps b => ∃ as bs H, P as bs H ∧ St c ek b.ρ b.R lm H b.s.heap ∧ VRs c.w b.ρ b.R (ps.map (·.1)) as ∧ VRs c.w b.ρ b.R (ps.map (·.2)) bs
theorem head_is {α : Type} {l : List α} {x : α} (h : l.head? = some x) : l = x :: l.tail := by
  cases l with
  | nil => exact nz h
  | cons y r => rw [Option.some.inj h]; rfl
theorem pairs_ok (S : Snd c.w n r) (ok : c.OK n) (hk : k = true → ek = .df) {pos : Pos} {ks : List Expr} : ∀ {vs : List Expr} {H : Hp} {P : List AV → List AV → Hp → Prop} {a : Wd}, pairsX r k lm H ks vs P → St c ek a.ρ a.R lm H a.s.heap → WP c (evalPairs (pairTrees (ks.map some) vs (ek.env c) pos)) a (PsΦ c ek lm P) E := by
  induction ks with
  | nil =>
    intro vs H P a h st
    obtain ⟨e, h⟩ := gB_ok h
    rw [List.isEmpty_iff] at e
    subst e
    exact pairTrees_nil_walk (PP.ret Le.refl ⟨_, _, _, h, st, .nil, .nil⟩)
  | cons ke ks ih =>
    intro vs H P a h st
    obtain ⟨ve, e, h⟩ := oX_ok h
    rw [head_is e]
    refine pairTrees_cons_walk ((S.e rfl ok hk h a E st).then fun v b l ⟨av, H1, h1, st1, vr1⟩ => ?_)
    refine (S.e rfl ok hk h1 b E st1).then fun v2 b2 l2 ⟨bv, H2, h2, st2, vr2⟩ => ?_
    exact (ih h2 st2).then fun ps b3 l3 ⟨as, bs, H3, h3, st3, r1, r2⟩ => PP.ret (l.trans (l2.trans l3)) ⟨_, _, _, h3, st3, .cons (vr1.up (l2.trans l3).p (l2.trans l3).R) r1, .cons (vr2.up l3.p l3.R) r2⟩
theorem zip_cons {α : Type} {f : AV → Option α} {x y : AV} {as bs : List AV} {es : List (α × AV)} (e : zipX f (x :: as) (y :: bs) = some es) : ∃ z zs, f x = some z ∧ zipX f as bs = some zs ∧ es = (z, y) :: zs := by
  obtain ⟨z, h1, h2⟩ := Option.bind_eq_some_iff.mp e
  obtain ⟨zs, h3, h4⟩ := Option.map_eq_some_iff.mp h2
  exact ⟨z, zs, h1, h3, h4.symm⟩
theorem keysS_of {w : World} {ρ : List Addr} {R : Led} {ps : List (Value × Value)} : ∀ {as bs : List AV} {es : List (Str × AV)}, VRs w ρ R (ps.map (·.1)) as → VRs w ρ R (ps.map (·.2)) bs → zipX strA as bs = some es → allStrKeys ps = true ∧ SVs w ρ R (strPairs ps) es ∧ (strPairs ps).map (·.1) = es.map (·.1) := by
  induction ps with
  | nil =>
    intro as bs es h1 h2 e
    cases h1; cases h2
    rw [← Option.some.inj e]
    exact ⟨rfl, .nil, rfl⟩
  | cons p ps ih =>
    intro as bs es h1 h2 e
    obtain ⟨u, v⟩ := p
    cases h1 with
    | cons x1 r1 =>
      cases h2 with
      | cons x2 r2 =>
        obtain ⟨z, zs, h1, h2, rfl⟩ := zip_cons e
        obtain ⟨t, ht⟩ := x1.str h1
        have ht : u = _ := ht
        subst ht
        obtain ⟨i1, i2, i3⟩ := ih r1 r2 h2
        exact ⟨i1, .cons x2 i2, congrArg (_ :: ·) i3⟩
theorem keysI_of {w : World} {ρ : List Addr} {R : Led} {ps : List (Value × Value)} : ∀ {as bs : List AV} {es : List (Int × AV)}, VRs w ρ R (ps.map (·.1)) as → VRs w ρ R (ps.map (·.2)) bs → zipX intA as bs = some es → allIntKeys ps = true ∧ (∀ j, OV w ρ R (valueAt (intKeyPairs ps) j) (getI j es)) ∧ (intKeyPairs ps).map (·.1) = es.map (·.1) := by
  induction ps with
  | nil =>
    intro as bs es h1 h2 e
    cases h1; cases h2
    rw [← Option.some.inj e]
    exact ⟨rfl, fun _ => .none, rfl⟩
  | cons p ps ih =>
    intro as bs es h1 h2 e
    obtain ⟨u, v⟩ := p
    cases h1 with
    | cons x1 r1 =>
      cases h2 with
      | cons x2 r2 =>
        obtain ⟨z, zs, h1, h2, rfl⟩ := zip_cons e
        obtain ⟨t, ht⟩ := x1.int h1
        have ht : u = _ := ht
        subst ht
        obtain ⟨i1, i2, i3⟩ := ih r1 r2 h2
        refine ⟨i1, fun j => ?_, congrArg (_ :: ·) i3⟩
        show OV w ρ R (valueAt ((_, v) :: intKeyPairs ps) j) (if _ then _ else _)
        unfold valueAt
        rw [List.find?_cons]
        split
        · rename_i q
          rw [if_pos (of_decide_eq_true q)]
          exact .some x2
        · rename_i q
          rw [if_neg (of_decide_eq_false q)]
          exact i2 j
theorem someAll_is {ks : List (Option Expr)} : ∀ {ks' : List Expr}, mapO idO ks = some ks' → ks = ks'.map some := by
  induction ks with
  | nil => intro ks' e; rw [← Option.some.inj e]; rfl
  | cons x r ih =>
    intro ks' e
    obtain ⟨y, ys, h1, h2, rfl⟩ := mapO_cons e
    rw [ih h2, show x = some y from h1]
    rfl
theorem env_gh (c : Ctx) (ek : EK) (g : Led) : ek.env (c.gho g) = ek.env c := by cases ek <;> rfl
/-- the pairs of a display, the dict put by -/
theorem pairs_hid (S : Snd c.w n r) (ok : c.OK n) (hk : k = true → ek = .df) {m : Str → Option Value} {news : Led} (W : Nw c ek lm H a m news) {ks vs : List Expr} {pos : Pos} {Pp : List AV → List AV → Hp → Prop} (h : pairsX r k lm H ks vs Pp) {d : Addr} {o : Obj} {h' : Heap} (F' : Fr c.h₀ c.L h' m) (N' : News c.h₀ c.L h' ((d, o) :: news)) (l1 : ∀ p ∈ news, p.1 < d) {Q : List (Value × Value) → Shared → Prop}
    (q : ∀ ps b as bs H2 m3 news3, Le a b → Pp as bs H2 → Nw c ek lm H2 b m3 news3 → News c.h₀ c.L b.s.heap ((d, o) :: news3) → (∀ p ∈ news3, p.1 ≠ d) → VRs c.w b.ρ b.R (ps.map (·.1)) as → VRs c.w b.ρ b.R (ps.map (·.2)) bs → Q ps b.s) :
    wpAny (model prg c.w) c.A (evalPairs (pairTrees (ks.map some) vs (ek.env c) pos)) Q E { a.s with heap := h' } := by
  have od := W.off N' (ltne l1)
  have one9 : ∀ {F : Addr × Obj → Prop}, F (d, o) → ∀ p ∈ [(d, o)], F p := fun h p hp => List.mem_singleton.mp hp ▸ h
  have st1 : St (c.gho [(d, o)]) ek a.ρ a.R lm H h' := (W.same h' F' fun p hp => N' p (.tail _ hp)).hide (one9 ⟨(N' _ (.head _)).1, od⟩) fun m lo => lo.gho _
  rw [← env_gh c ek [(d, o)]]
  refine wpAny_mono (pairs_ok (c := c.gho [(d, o)]) (a := ⟨{ a.s with heap := h' }, a.ρ, a.R⟩) S (ok.gh _) hk h st1) (fun ps s' ⟨b, e, l, as, bs, H2, h2, st2, r1, r2⟩ => ?_) fun _ _ e => e
  subst e
  obtain ⟨st3, g3⟩ := st2.show' (ek' := ek) (lm' := lm) (one9 od.2.2.2.2) fun m' lo => lo.ogh fun sc cl C l₀ e => one9 (by
    have := W.lo
    subst e
    obtain ⟨_, _, oC, _, hC, _⟩ := this
    exact Ne.symm (od.2.2.2.2 _ hC))
  obtain ⟨g4, o4⟩ := g3 (d, o) (.head _)
  obtain ⟨m3, news3, W3⟩ := st3.nw
  obtain ⟨N3, ne⟩ := W3.add o4 g4
  exact q ps b as bs H2 m3 news3 (Le.trans (b := ⟨{ a.s with heap := h' }, a.ρ, a.R⟩) ⟨⟨_, _, rfl⟩, List.prefix_refl _, fun _ h => h⟩ l) h2 W3 N3 ne r1 r2
theorem dict_ok (S : Snd c.w n r) (ok : c.OK n) (hk : k = true → ek = .df) (st : St c ek a.ρ a.R lm H a.s.heap) {ks vs : List Expr} {pos : Pos} (h : dictX r k mu lm H ks vs P) : WP c (eval (.Dict (ks.map some) vs pos) (ek.env c)) a (VΦ c ek lm P) E := by
  obtain ⟨m, news, W⟩ := st.nw
  cases ks with
  | nil =>
    obtain ⟨e, h⟩ := gB_ok h
    rw [List.isEmpty_iff] at e
    subst e
    exact newDict_K W.F W.N ok.T.nolimit fun d h' o F' N' l1 lo d1 _ d2 _ => W.newT (z := .ks []) (f := fun _ => none) (kvs := []) rfl (fun _ => .none) h F' N' (ltne l1) d2 lo
  | cons ke ks' =>
    obtain ⟨hz, h⟩ := gB_ok h
    rw [Bool.and_eq_true] at hz
    have hz1 := Nat.le_of_ble_eq_true hz.1
    have hl := Nat.eq_of_beq_eq_true hz.2
    cases e : strKey ke with
    | true =>
      refine kdn_eval (knd := PySem.strKind _ _) W.F W.N ok.T.nolimit (by simp) (by simpa using hl) (by simp) (by simp; omega) fun d h' o F' N' l1 lo hd => ?_
      refine pairs_hid S ok hk W h F' N' l1 fun ps b as bs H2 m3 news3 l h2 W3 N3 ne r1 r2 => ?_
      rw [e] at h2
      obtain ⟨es, e1, h2⟩ := oX_ok (show oX _ _ from h2)
      obtain ⟨hn, h2⟩ := gB_ok h2
      obtain ⟨q1, q2, q3⟩ := keysS_of r1 r2 e1
      exact kdn_made_str W3.F N3 (.head ne) hd q1 (by rw [q3]; exact of_decide_eq_true hn) fun h4 o4 F4 N4 hd4 => PP.up l (newS (W3.still d o4 h4 F4 N4 ne) (.sdic (.head _) hd4 (q2.up (List.prefix_refl _) fun _ h => .tail _ h) lo) h2)
    | false =>
      refine kdn_eval (knd := PySem.intKind _ _) W.F W.N ok.T.nolimit (by simp) (by simpa using hl) (by simp) (by simp; omega) fun d h' o F' N' l1 lo hd => ?_
      refine pairs_hid S ok hk W h F' N' l1 fun ps b as bs H2 m3 news3 l h2 W3 N3 ne r1 r2 => ?_
      rw [e] at h2
      obtain ⟨es, e1, h2⟩ := oX_ok (show oX _ _ from h2)
      obtain ⟨hn, h2⟩ := gB_ok h2
      obtain ⟨q1, q2, q3⟩ := keysI_of r1 r2 e1
      have q3' : Sz.ok (intKeyPairs ps) (.ks (es.map fun p => p.1)) := q3
      exact kdn_made_int W3.F N3 (.head ne) hd q1 (by rw [q3]; exact of_decide_eq_true hn) fun h4 o4 F4 N4 hd4 => PP.up l (W3.newT q3' q2 h2 F4 N4 ne hd4 lo)
end
end
section
theorem nt {b : Bool} (h : (!b) = true) : b = false := by cases b with | false => rfl | true => exact fz h
theorem DIs.drop {R : Led} {vs : List Value} {ds : List D} (n : Nat) (h : DIs R vs ds) : DIs R (vs.drop n) (ds.drop n) := by
  induction n generalizing vs ds with
  | zero => exact h
  | succ n ih =>
    cases ds with
    | nil => rw [show vs = [] from h.inv]; exact .nil
    | cons d ds => obtain ⟨v, r, rfl, a, b⟩ := h.inv; exact ih b
theorem VRs.drop {w : World} {ρ : List Addr} {R : Led} {vs : List Value} {as : List AV} (n : Nat) (h : VRs w ρ R vs as) : VRs w ρ R (vs.drop n) (as.drop n) := by
  induction n generalizing vs as with
  | zero => exact h
  | succ n ih =>
    cases as with
    | nil => rw [show vs = [] from h.inv]; exact .nil
    | cons d ds => obtain ⟨v, r, rfl, a, b⟩ := h.inv; exact ih b
section
variable {c : Ctx} {ek : EK} {lm : Lm} {H : Hp} {n : Nat} {r : Rec} {k mu : Bool} {a : Wd} {E : Value → Shared → Prop} {P : AV → Hp → Prop}
theorem bool_ok (S : Snd c.w n r) (ok : c.OK n) (hk : k = true → ek = .df) {op : BoolOp} {pos : Pos} {es : List Expr} : ∀ {H : Hp} {a : Wd}, boolX r k op lm H es P → St c ek a.ρ a.R lm H a.s.heap → WP c (eval (.BoolOp op es pos) (ek.env c)) a (VΦ c ek lm P) E := by
  induction es with
  | nil => intro H a h; exact False.elim h
  | cons e es ih =>
    intro H a h st
    cases es with
    | nil => exact BoolOp_one (S.e rfl ok hk h a E st)
    | cons e2 es =>
      cases op with
      | And =>
        refine BoolOp_and ((S.e rfl ok hk h a E st).then fun v b l ⟨av, H1, h1, st1, vr⟩ => ?_)
        obtain ⟨cb, e, h1⟩ := oX_ok h1
        cases vr.bool e
        refine wpAny_truthy_bool ?_
        rcases iB_ok h1 with ⟨rfl, h1⟩ | ⟨rfl, h1⟩
        · rw [if_pos rfl]; exact WP.le l (ih h1 st1)
        · rw [if_neg (fun q => nomatch q)]; exact PP.ret l ⟨_, _, h1, st1, vr⟩
      | Or =>
        refine BoolOp_or ((S.e rfl ok hk h a E st).then fun v b l ⟨av, H1, h1, st1, vr⟩ => ?_)
        obtain ⟨cb, e, h1⟩ := oX_ok h1
        cases vr.bool e
        refine wpAny_truthy_bool ?_
        rcases iB_ok h1 with ⟨rfl, h1⟩ | ⟨rfl, h1⟩
        · rw [if_pos rfl]; exact PP.ret l ⟨_, _, h1, st1, vr⟩
        · rw [if_neg (fun q => nomatch q)]; exact WP.le l (ih h1 st1)
theorem cmps_ok (S : Snd c.w n r) (ok : c.OK n) (hk : k = true → ek = .df) (st : St c ek a.ρ a.R lm H a.s.heap) {l : Expr} {ops : List CmpOp} {es : List Expr} {pos : Pos} (h : cmpsX r k lm H l ops es P) : WP c (eval (.Compare l ops es pos) (ek.env c)) a (VΦ c ek lm P) E := by
  cases ops with
  | nil => exact False.elim h
  | cons o ops =>
    cases es with
    | nil => cases ops with
      | nil => exact False.elim h
      | cons _ r => cases r <;> exact False.elim h
    | cons e es =>
      cases ops with
      | nil =>
        cases es with
        | nil =>
          obtain ⟨hb, h⟩ := gB_ok h
          refine wpAny_Compare1 ((S.e rfl ok hk h a E st).then fun v b l ⟨av, H1, h1, st1, vr⟩ => ?_) (nt hb)
          refine (S.e rfl ok hk h1 b E st1).then fun v2 b2 l2 ⟨bv, H2, h2, st2, vr2⟩ => ?_
          refine (cmp_ok (P := fun q H => P (.d (.bool q)) H) st2 ok (vr.up l2.p l2.R) vr2 h2).then fun v3 b3 l3 ⟨cv, H3, ⟨q, e, p⟩, st3, vr3⟩ => ?_
          subst e
          exact PP.ret (l.trans (l2.trans l3)) ⟨_, _, p, st3, vr3⟩
        | cons _ _ => exact False.elim h
      | cons o' ops =>
        cases ops with
        | cons _ _ => exact False.elim h
        | nil =>
          cases es with
          | nil => exact False.elim h
          | cons e' es =>
            cases es with
            | cons _ _ => exact False.elim h
            | nil =>
              obtain ⟨hb, h⟩ := gB_ok h
              refine Compare_chain ((S.e rfl ok hk h a E st).then fun v b l ⟨av, H1, h1, st1, vr⟩ => ?_) (nt hb)
              refine chain_link ((S.e rfl ok hk h1 b E st1).then fun v2 b2 l2 ⟨bv, H2, h2, st2, vr2⟩ => ?_)
              refine (cmp_ok (P := fun q H => iB q (r.e k false lm H e' fun b' H => cmpX o' bv b' H fun c => P (.d (.bool c)) H) (P (.d (.bool false)) H)) st2 ok (vr.up l2.p l2.R) vr2 h2).then fun v3 b3 l3 ⟨cv, H3, ⟨q, e, p⟩, st3, vr3⟩ => ?_
              subst e
              cases vr3.isB
              refine wpAny_truthy_bool ?_
              rcases iB_ok p with ⟨rfl, p⟩ | ⟨rfl, p⟩
              · rw [if_pos rfl]
                refine chain_last ((S.e rfl ok hk p b3 E st3).then fun v4 b4 l4 ⟨dv, H4, h4, st4, vr4⟩ => ?_)
                refine (cmp_ok (P := fun q H => P (.d (.bool q)) H) st4 ok (vr2.up (l3.trans l4).p (l3.trans l4).R) vr4 h4).then fun v5 b5 l5 ⟨cv, H5, ⟨q, e, p⟩, st5, vr5⟩ => ?_
                subst e
                exact PP.ret (l.trans (l2.trans (l3.trans (l4.trans l5)))) ⟨_, _, p, st5, vr5⟩
              · rw [if_neg (fun q => nomatch q)]
                exact PP.ret (l.trans (l2.trans l3)) ⟨_, _, p, st3, vr3⟩
theorem slice_ok (S : Snd c.w n r) (ok : c.OK n) (hk : k = true → ek = .df) (st : St c ek a.ρ a.R lm H a.s.heap) {v lo : Expr} {p1 pos : Pos} (h : r.e k false lm H v fun a H => r.e k false lm H lo fun l H => sliceX a l fun v => P v H) : WP c (eval (.Subscript v (.Slice (some lo) none none p1) pos) (ek.env c)) a (VΦ c ek lm P) E := by
  refine Subscript_ ((S.e rfl ok hk h a E st).then fun x b l ⟨av, H1, h1, st1, vr⟩ => ?_)
  refine wpAny_Slice (evalPart_some_step ((S.e rfl ok hk h1 b E st1).then fun x2 b2 l2 ⟨bv, H2, h2, st2, vr2⟩ => ?_))
  refine evalPart_none_step (evalPart_none_step ?_)
  obtain ⟨i, e2, h2⟩ := oX_ok h2
  obtain ⟨t, rfl⟩ := vr2.int e2
  obtain ⟨m, news, W⟩ := st2.nw
  refine kba_turn (value' := .Name (Str.ofString "_") ⟨0, 0, 0, 0⟩) (fun _ => rfl) ?_
  rcases eX_ok h2 with ⟨ds, e, h2⟩ | h2
  · obtain ⟨hz, h9⟩ := gB_ok h2
    simp only [Bool.and_eq_true, decide_eq_true_eq] at hz
    obtain ⟨rfl, z2, z3⟩ := hz
    have z2 := Nat.le_of_ble_eq_true z2
    have z3 := Nat.le_of_ble_eq_true z3
    obtain ⟨p, us, k9, rfl, hm, hu⟩ := (vr.up l2.p l2.R).tupl e
    have hl := hu.length
    refine slice_tuple_from (a := 2) W.F W.N (News.isTup W.N (W.sub _ hm)) (by decide) (by simp; omega) (fun h' F' N' => ?_) rfl (fun _ => rfl) (by have := size_ok (n := us.length) (by omega); simpa using this)
    have hd : DIs ((_, Mine.tup (us.drop 2) 0) :: b2.R) (us.drop 2) (List.drop 2 _) := (hu.mono fun _ h => .tail (b2.s.heap.objs.size + 1, Mine.tup (us.drop 2) 0) h).drop 2
    exact PP.up (l.trans l2) (newS (W.stl F' N' fun p hp => Nat.lt_succ_of_lt (Heap.lt_size (W.N p hp).1)) (.d (.tup (n := 0) (.head _) hd)) h9)
  · obtain ⟨xs, e, h2⟩ := oX_ok h2
    obtain ⟨hz, h9⟩ := gB_ok h2
    simp only [Bool.and_eq_true, decide_eq_true_eq] at hz
    obtain ⟨rfl, z2, z3⟩ := hz
    have z2 := Nat.le_of_ble_eq_true z2
    have z3 := Nat.le_of_ble_eq_true z3
    obtain ⟨p, us, k9, rfl, hm, hu⟩ := (vr.up l2.p l2.R).list e
    have hl := hu.length
    have pick : kms_pick us (some 1) none = us.drop 1 := by
      have e1 : kms_lo (some 1) us.length = 1 := show min 1 us.length = 1 from by omega
      unfold kms_pick
      rw [e1]
      exact List.take_of_length_le (by rw [List.length_drop]; exact Nat.le_refl _)
    refine kms_slice_lit W.F W.N (News.isList W.N (W.sub _ hm)) (.int 1 t) .none pick (fun D h' F' N' l1 => ?_) rfl (fun _ => rfl) (by have := size_ok (n := us.length) (by omega); simpa using this)
    exact PP.up (l.trans l2) (newS (W.stl F' N' l1) (.lst (.head _) ((hu.drop 1).up (List.prefix_refl _) fun _ h => .tail _ h)) h9)
end
end
section
section
variable {c : Ctx} {ek : EK} {lm : Lm} {H : Hp} {n : Nat} {r : Rec} {k mu : Bool} {a : Wd} {E : Value → Shared → Prop} {P : AV → Hp → Prop}
theorem inst_meth {Q : Value × List Value → Shared → Prop} {pl : Sem Bool} (st : St c ek a.ρ a.R lm H a.s.heap) (ok : c.OK n) {x : Value} {av : AV} (hx : VR c.w a.ρ a.R x av) {nm : Str} {C f : Addr} (e : clsOf av nm H = some C) (em : methAt C nm = some f) (h : Q (.ref f, [x]) a.s) : wpAny (model prg c.w) c.A (getMethod x nm pl) Q E a.s := by
  obtain ⟨m, news, W⟩ := st.nw
  obtain ⟨m1, m2, m3⟩ := methAt_is em c.w
  obtain ⟨q, e1, e2⟩ := Option.bind_eq_some_iff.mp e
  obtain ⟨p, d, es, k, rfl, h1, h2, h3⟩ := W.fl hx e1
  obtain ⟨o, g, ho⟩ := getL_of h3 nm
  cases hg : getS nm q.2 with
  | some _ => rw [hg] at e2; exact nz e2
  | none =>
    rw [hg] at e2 ho
    cases Option.some.inj e2
    cases (show o = none from ho.inv)
    exact method_inst W.F ok.X (InstAt.of_news W.N h1 h2) m1 m2 m3 g h
theorem callM (S : Snd c.w n r) (ok : c.OK n) (hk : k = true → ek = .df) (st : St c ek a.ρ a.R lm H a.s.heap) {pos : Pos} {id : String} {x : Value} {es : List Expr} {Pa : List AV → Hp → Prop} (h : argsX r k lm H es Pa)
    (go : ∀ vs as H' b, Le a b → Pa as H' → St c ek b.ρ b.R lm H' b.s.heap → VRs c.w b.ρ b.R vs as → WP c (call (.builtin id) (x :: vs)) b (VΦ c ek lm P) E) : WP c (callWith pos (.builtin id) [x] (backTo pos (starEach es (ek.env c))) []) a (VΦ c ek lm P) E := by
  cases es with
  | nil => exact callWith_method0 (go [] [] H a Le.refl (gB_ok h).2 st .nil)
  | cons e es =>
    have ha2 := (gB_ok h).1
    rw [List.all_cons, Bool.and_eq_true] at ha2
    exact callWith_method1 ((args_ok S ok hk h a E st).then fun vs b l ⟨as, H', p, st', vr⟩ => WP.le l (go vs as H' b l p st' vr)) (star_cons ha2.1) (star_any ha2.2)
theorem base_eq {o : Expr} (h : plainBase o = true) (attr : Str) (env : Env) (whole : Sem Value) : attributeBase o attr env whole = whole := by
  cases o with
  | Call f as ks p =>
    cases f with
    | Name x q =>
      cases as with
      | nil =>
        cases ks with
        | nil => exact fz h
        | cons _ _ => rfl
      | cons _ _ => rfl
    | _ => rfl
  | _ => rfl
theorem attr_eq {o : Expr} (h : plainBase o = true) (attr : Str) (pos : Pos) (env : Env) : eval (.Attribute o attr pos) env = (do
    let v ← eval o env
    standAt pos.atName
    let r ← holding [v] (getAttr v attr true)
    letTemporaryGo o v r
    pure r) := by
  have : eval (.Attribute o attr pos) env = (do
    let v ← attributeBase o attr env (eval o env)
    standAt pos.atName
    let r ← holding [v] (getAttr v attr true)
    letTemporaryGo o v r
    pure r) := rfl
  rw [this, base_eq h]
theorem form_ok {es : List Expr} {pos : Pos} {env : Env} (ha : es.all notSt = true) (hl : es.length < 30) : methodCallForm (es.length + 0) (backTo pos (starEach es env)) [] = true := by
  unfold methodCallForm
  have h1 := star_any (env := env) (pos := pos) ha
  have h2 : (backTo pos (starEach es env)).all (fun x => !x.1) = true := by
    rw [List.any_eq_false] at h1
    exact List.all_eq_true.mpr fun x hx => by simpa using h1 x hx
  rw [h2]
  simpa using hl
theorem mcall_eq {o : Expr} {es : List Expr} {nm : Str} {ap pos : Pos} {env : Env} (h : plainBase o = true) (ha : es.all notSt = true) (hl : es.length < 30) (he : (ap.endLine == pos.line) = true) : eval (.Call (.Attribute o nm ap) es [] pos) env = (do
    let ov ← eval o env
    standAt ap.atName
    let x ← holding [ov] (getMethod ov nm (do return (← importBound o env).getD true))
    match x with
    | (f, first) => callWith pos f first (backTo pos (starEach es env)) []) := by
  have : eval (.Call (.Attribute o nm ap) es [] pos) env = (do
    let ov ← attributeBase o nm env (eval o env)
    standAt ap.atName
    methodCall o nm ap pos env ov (es.length + 0) (backTo pos (starEach es env)) (backToKw pos (keywordEach [] env))) := rfl
  rw [this, base_eq h]
  have e2 : backToKw pos (keywordEach [] env) = [] := rfl
  rw [e2]
  unfold methodCall
  rw [form_ok ha hl]
  unfold methodCallPos
  rw [he]
  rfl
theorem call_ok (S : Snd c.w n r) (ok : c.OK n) (hk : k = true → ek = .df) (st : St c ek a.ρ a.R lm H a.s.heap) {f : Expr} {as : List Expr} {pos : Pos} (h : callX r k mu lm H f as pos P) : WP c (eval (.Call f as [] pos) (ek.env c)) a (VΦ c ek lm P) E := by
  cases f with
  | Name x p =>
    refine Call_ ((S.e rfl ok hk h a E st).then fun fv b l ⟨f, H1, h1, st1, vf⟩ => ?_)
    obtain ⟨hf, h1⟩ := gB_ok h1
    exact WP.le l (callW_ok S ok hk st1 vf hf h1)
  | Attribute o x ap =>
    obtain ⟨hc, h⟩ := gB_ok h
    simp only [Bool.and_eq_true] at hc
    obtain ⟨c1, c2, c3, c4⟩ := hc
    refine MethodCall_ ((S.e rfl ok hk h a E st).then fun xv b l ⟨av, H1, h1, st1, vx⟩ => ?_) (mcall_eq c1 c2 (Nat.lt_succ_of_le (Nat.le_of_ble_eq_true c3)) c4)
    rcases eX_ok h1 with ⟨C, hc, h1⟩ | h1
    · obtain ⟨fm, hm, h1⟩ := oX_ok h1
      obtain ⟨hf, h1⟩ := gB_ok h1
      refine inst_meth st1 ok vx hc hm ?_
      exact WP.le l (callK S ok hk st1 hf h1 fun vs as H' b2 l2 p st' vr => S.call rfl ok p st' (.cons (vx.up l2.p l2.R) vr))
    · obtain ⟨m, hm, h1⟩ := oX_ok h1
      refine meth_ok st1 vx hm ?_
      exact WP.le l (callM S ok hk st1 h1 fun vs as H' b2 l2 p st' vr => bm_ok st' (vx.up l2.p l2.R) vr p)
  | _ => exact False.elim h
end
end
section
theorem lookup_relabel {env : Env} {x : Str} {k : NameKind} : ∀ {names : List (Str × NameKind)}, names.lookup x = some k → (names.map fun (n, k) => if (k == NameKind.free && env.scope.kind == .function && env.kindOf n == some .cell) then (n, NameKind.cell) else (n, k)).lookup x = some (if (k == NameKind.free && env.scope.kind == .function && env.kindOf x == some .cell) then .cell else k)
  | [], h => by simp at h
  | (n, k') :: r, h => by
    have ih := @lookup_relabel env x k r
    rw [List.lookup_cons] at h
    rw [List.map_cons]
    by_cases e : x = n
    · subst e
      rw [beq_self_eq_true] at h
      cases h
      dsimp only
      split <;> simp [*]
    · have e' : (x == n) = false := by simpa using e
      rw [e'] at h
      dsimp only
      have : ∀ q : NameKind, List.lookup x ((n, q) :: (r.map fun (n, k) => if (k == NameKind.free && env.scope.kind == .function && env.kindOf n == some .cell) then (n, NameKind.cell) else (n, k))) = List.lookup x (r.map fun (n, k) => if (k == NameKind.free && env.scope.kind == .function && env.kindOf n == some .cell) then (n, NameKind.cell) else (n, k)) := fun q => by rw [List.lookup_cons, e']
      split
      · rw [this]; exact ih h
      · rw [this]; exact ih h
noncomputable def cloOf (env : Env) (names : List (Str × NameKind)) (cs : List (Str × Addr)) : List (Str × Addr) := names.foldl (fun cs p => if p.2 == .free then (p.1, (env.cells.lookup p.1).getD 0) :: cs else cs) cs
theorem closure_is {sc : Scope} {env : Env} (h : ∀ p ∈ sc.names, p.2 = .free → (env.cells.lookup p.1).isSome = true) : closureFor sc env = pure (cloOf env sc.names []) := by
  unfold closureFor
  have : ∀ (names : List (Str × NameKind)) (cs : List (Str × Addr)), (∀ p ∈ names, p.2 = .free → (env.cells.lookup p.1).isSome = true) → (forIn names cs fun x r => (if (x.2 == NameKind.free) = true then do
      let a ← cellOf env x.1
      pure (ForInStep.yield ((x.1, a) :: r)) else pure (ForInStep.yield r) : Sem (ForInStep (List (Str × Addr))))) = pure (cloOf env names cs) := by
    intro names
    induction names with
    | nil => intro cs _; rfl
    | cons p r ih =>
      intro cs h
      obtain ⟨n, k⟩ := p
      rw [List.forIn_cons]
      have h2 := h (n, k) (.head _)
      unfold cloOf
      rw [List.foldl_cons]
      by_cases e : k = .free
      · subst e
        obtain ⟨ad, ha⟩ := Option.isSome_iff_exists.mp (h2 rfl)
        simp only [beq_self_eq_true, if_true]
        have ec : cellOf env n = pure ad := by unfold cellOf; rw [ha]
        rw [ec, pure_bind, pure_bind]
        have := ih ((n, ad) :: cs) fun p hp => h p (.tail _ hp)
        simp only [ha, Option.getD_some]
        exact this
      · have e' : (k == NameKind.free) = false := by simpa using e
        simp only [e', Bool.false_eq_true, if_false]
        rw [pure_bind]
        exact ih cs fun p hp => h p (.tail _ hp)
  have e := this sc.names [] h
  simpa using e
theorem lookup_same {x : Str} {a : Addr} : ∀ {l : List (Str × Addr)}, (∀ p ∈ l, p.1 = x → p.2 = a) → (∃ p ∈ l, p.1 = x) → l.lookup x = some a
  | [], _, ⟨_, h, _⟩ => nomatch h
  | (n, b) :: r, h, hx => by
    rw [List.lookup_cons]
    by_cases e : x = n
    · subst e; rw [beq_self_eq_true]; exact congrArg some (h _ (.head _) rfl)
    · have e' : (x == n) = false := by simpa using e
      rw [e']
      refine lookup_same (fun p hp => h p (.tail _ hp)) ?_
      obtain ⟨p, hp, q⟩ := hx
      rcases List.mem_cons.mp hp with rfl | hp
      · exact absurd q.symm e
      · exact ⟨p, hp, q⟩
theorem clo_mem {env : Env} : ∀ {names : List (Str × NameKind)} {cs : List (Str × Addr)} {p : Str × Addr}, p ∈ cloOf env names cs → p ∈ cs ∨ p.2 = (env.cells.lookup p.1).getD 0
  | [], _, _, h => .inl h
  | (n, k) :: r, cs, p, h => by
    unfold cloOf at h
    rw [List.foldl_cons] at h
    rcases clo_mem (names := r) h with h | h
    · dsimp only at h
      split at h
      · rcases List.mem_cons.mp h with rfl | h
        · exact .inr rfl
        · exact .inl h
      · exact .inl h
    · exact .inr h
theorem clo_sub {env : Env} : ∀ {names : List (Str × NameKind)} {cs : List (Str × Addr)} {p : Str × Addr}, p ∈ cs → p ∈ cloOf env names cs
  | [], _, _, h => h
  | (n, k) :: r, cs, p, h => by
    unfold cloOf
    rw [List.foldl_cons]
    refine clo_sub (names := r) ?_
    dsimp only
    split
    · exact .tail _ h
    · exact h
theorem clo_has {env : Env} {x : Str} : ∀ {names : List (Str × NameKind)} {cs : List (Str × Addr)}, (x, NameKind.free) ∈ names → ∃ p ∈ cloOf env names cs, p.1 = x
  | (n, k) :: r, cs, h => by
    rcases List.mem_cons.mp h with e | h
    · cases e
      exact ⟨(x, (env.cells.lookup x).getD 0), by unfold cloOf; rw [List.foldl_cons]; exact clo_sub (names := r) (.head _), rfl⟩
    · unfold cloOf
      rw [List.foldl_cons]
      exact clo_has (names := r) h
theorem clo_at {env : Env} {names : List (Str × NameKind)} {x : Str} {ad : Addr} (hm : (x, NameKind.free) ∈ names) (e : env.cells.lookup x = some ad) : (cloOf env names []).lookup x = some ad := by
  refine lookup_same (fun p hp q => ?_) (clo_has hm)
  rcases clo_mem hp with h | h
  · cases h
  · rw [h, q, e]; rfl
end
section
/-- what a name of the top stands for -/
noncomputable def valOf : AV → Value
  | .fn a => .ref a
  | .blt b => b.val
  | .d .bit => .ref 408
  | .d .long => .ref 409
  | _ => .none
noncomputable def plainTop : AV → Bool
  | .fn _ => true
  | .blt _ => true
  | .d .bit => true
  | .d .long => true
  | _ => false
theorem valOf_is {w : World} {a : AV} (h : plainTop a = true) : VR w [] [] (valOf a) a := by
  unfold plainTop at h
  split at h
  · exact .fn _
  · exact .blt _
  · exact .d .bit
  · exact .d .long
  · cases h
noncomputable def topAt (w : World) (p : Str × AV) : Bool := plainTop p.2 && (nsIn (KH w) mainGlobals p.1 == some (some (valOf p.2)) || (nsIn (KH w) mainGlobals p.1 == some none && (bootBuiltins p.1 == some (valOf p.2) && !(p.1 == Str.ofString "__name__"))))
theorem glob_all (w : World) : globL.all (topAt w) = true := by kernel_rfl!
theorem getS_mem {x : Str} {a : AV} : ∀ {l : List (Str × AV)}, getS x l = some a → (x, a) ∈ l
  | [], h => nomatch h
  | (y, b) :: r, h => by
    unfold getS at h
    by_cases e : y = x
    · rw [if_pos e] at h; cases h; subst e; exact .head _
    · rw [if_neg e] at h; exact .tail _ (getS_mem h)
theorem glob_is {x : Str} {a : AV} (h : glob x = some a) (w : World) : GlAt w x a := by
  have := List.all_eq_true.mp (glob_all w) _ (getS_mem h)
  unfold topAt at this
  simp only [Bool.and_eq_true, Bool.or_eq_true, beq_iff_eq, Bool.not_eq_true', beq_eq_false_iff_ne] at this
  obtain ⟨h1, h2⟩ := this
  refine ⟨valOf a, valOf_is h1, ?_⟩
  rcases h2 with h2 | ⟨h2, h3, h4⟩
  · exact .inl h2
  · exact .inr ⟨h2, h3, h4⟩
end
section
noncomputable abbrev IterCls (o : Obj) : Prop := o.cls = .type "list_iterator" ∨ o.cls = .type "tuple_iterator" ∨ o.cls = .type "range_iterator" ∨ o.cls = .type "dict_keyiterator"
/-- a loop's source: its iterator at I -/
structure Wkr (c : Ctx) (src : AV) (ρ : List Addr) (R : Led) (I : Addr) (Zo : Nat → Obj → Prop) : Prop where
  io : ∀ {i o}, Zo i o → IterCls o
  self : ∀ {i o} {s : Shared} {Q : Value → Shared → Prop} {E : Value → Shared → Prop}, s.heap.get? I = some o → Zo i o → Q (.ref I) s → wpAny (model prg c.w) c.A (pyIter (.ref I)) Q E s
  item : ∀ {lm : Lm} {H : Hp} {b : Wd} {i o} {x : AV} {Q : Option Value → Shared → Prop} {E : Value → Shared → Prop}, St c .df b.ρ b.R lm H b.s.heap → ρ <+: b.ρ → (∀ p ∈ R, p ∈ b.R) → b.s.heap.get? I = some o → Zo i o → srcX src H i = some (some x) →
    (∀ v h' tk o', VR c.w b.ρ b.R v x → h'.get? I = some o' → Zo (i + 1) o' → (∀ y ob, y ≠ I → b.s.heap.get? y = some ob → h'.get? y = some ob) → Q (some v) { b.s with heap := h', toks := tk }) → wpAny (model prg c.w) c.A (pyNext (.ref I)) Q E b.s
  done : ∀ {lm : Lm} {H : Hp} {b : Wd} {i o} {Q : Option Value → Shared → Prop} {E : Value → Shared → Prop}, St c .df b.ρ b.R lm H b.s.heap → ρ <+: b.ρ → (∀ p ∈ R, p ∈ b.R) → b.s.heap.get? I = some o → Zo i o → srcX src H i = some none →
    (∀ h' tk, (∀ y ob, y ≠ I → b.s.heap.get? y = some ob → h'.get? y = some ob) → Q none { b.s with heap := h', toks := tk }) → wpAny (model prg c.w) c.A (pyNext (.ref I)) Q E b.s
section
variable {c : Ctx} {ek : EK} {lm : Lm} {H : Hp} {n : Nat} {a : Wd} {E : Value → Shared → Prop}
theorem VRs.at {w : World} {ρ : List Addr} {R : Led} {vs : List Value} {as : List AV} (h : VRs w ρ R vs as) (i : Nat) : OV w ρ R vs[i]? as[i]? := by
  cases e : as[i]? with
  | some x => obtain ⟨v, e2, r⟩ := h.get e; rw [e2]; exact .some r
  | none =>
    have : as.length ≤ i := List.getElem?_eq_none_iff.mp e
    rw [List.getElem?_eq_none (by rw [h.length]; exact this)]; exact .none
/-- over a list: what lies there now -/
theorem list_wkr {src : AV} {ρ : List Addr} {R : Led} {I p : Addr} (cur : ∀ {lm : Lm} {H : Hp} {b : Wd} {i : Nat} {x : Option AV}, St c .df b.ρ b.R lm H b.s.heap → ρ <+: b.ρ → (∀ q ∈ R, q ∈ b.R) → srcX src H i = some x → ∃ vs : List Value, b.s.heap.IsList p vs.toArray ∧ OV c.w b.ρ b.R vs[i]? x) :
    Wkr c src ρ R I fun i o => o.cls = .type "list_iterator" ∧ o.data = .fields #[.ref p, .int i 0] where
  io := fun z => .inl z.1
  self := fun e z q => wpAny_pyIter_listiter ⟨_, e, z.1, z.2⟩ q
  item := fun {lm H b i o x Q E} st hp hs e z hx k => by
    obtain ⟨vs, hl, ov⟩ := cur st hp hs hx
    obtain ⟨v, ev, vr⟩ := ov.inv
    refine wpAny_pyNext_list_item ⟨_, e, z.1, z.2⟩ hl (x := v) (by simpa using ev) fun h' hit hsb => ?_
    obtain ⟨o', e', z1, z2⟩ := hit
    exact k v h' b.s.toks o' vr e' ⟨z1, z2⟩ fun y ob hy => hsb.extBut y ob hy
  done := fun {lm H b i o Q E} st hp hs e z hx k => by
    obtain ⟨vs, hl, ov⟩ := cur st hp hs hx
    exact wpAny_pyNext_list_end rfl ⟨_, e, z.1, z.2⟩ hl (by have : vs[i]? = none := ov.inv; simpa using this) fun h' he => k h' b.s.toks fun y ob hy => he y ob hy
theorem tup_wkr {src : AV} {ρ : List Addr} {R : Led} {I p : Addr} {vs : List Value} {k : Nat} {xs : List AV} (hm : (p, Mine.tup vs k) ∈ R) (hv : VRs c.w ρ R vs xs) (hx : ∀ H i, srcX src H i = some xs[i]?) :
    Wkr c src ρ R I fun i o => o.cls = .type "tuple_iterator" ∧ o.data = .fields #[.ref p, .int i 0] where
  io := fun z => .inr (.inl z.1)
  self := fun e z q => wpAny_pyIter_tupleiter ⟨_, e, z.1, z.2⟩ q
  item := fun {lm H b i o x Q E} st hp hs e z hx2 k => by
    obtain ⟨m, news, W⟩ := st.nw
    rw [hx] at hx2
    obtain ⟨v, ev, vr⟩ := (hv.up hp hs).get (Option.some.inj hx2)
    refine wpAny_pyNext_tuple_item ⟨_, e, z.1, z.2⟩ ⟨_, (W.N _ (W.sub _ (hs _ hm))).1, rfl, _, rfl⟩ (x := v) (by simpa using ev) fun h' hit hsb => ?_
    obtain ⟨o', e', z1, z2⟩ := hit
    exact k v h' b.s.toks o' vr e' ⟨z1, z2⟩ fun y ob hy => hsb.extBut y ob hy
  done := fun {lm H b i o Q E} st hp hs e z hx2 k => by
    obtain ⟨m, news, W⟩ := st.nw
    rw [hx] at hx2
    have ov := Option.some.inj hx2 ▸ hv.at i
    exact wpAny_pyNext_tuple_end rfl ⟨_, e, z.1, z.2⟩ ⟨_, (W.N _ (W.sub _ (hs _ hm))).1, rfl, _, rfl⟩ (by have : vs[i]? = none := ov.inv; simpa using this) fun h' he => k h' b.s.toks fun y ob hy => he y ob hy
theorem rng_wkr {ρ : List Addr} {R : Led} {I : Addr} {n : Nat} : Wkr c (.rng n) ρ R I fun i o => o.cls = .type "range_iterator" ∧ ∀ h : Heap, h.get? I = some o → IsRangeIter h I (0 + (i : Nat)) ((n : Int) - (i : Nat)) 1 where
  io := fun z => .inr (.inr (.inl z.1))
  self := fun e z q => wpAny_pyIter_rangeiter (z.2 _ e) q
  item := fun {lm H b i o x Q E} st hp hs e z hx k => by
    have hx : (bif Nat.blt i n then some (AV.d (.int (0 + (i : Nat)))) else none) = some x := Option.some.inj hx
    cases q : Nat.blt i n with
    | false => rw [q] at hx; exact nz hx
    | true =>
      rw [q] at hx
      cases hx
      have hlt : i < n := Nat.le_of_ble_eq_true q
      refine wpAny_pyNext_range_item (z.2 _ e) (by omega) fun h' hit hsb => ?_
      have e1 : (0 : Int) + ((i + 1 : Nat) : Int) = 0 + (i : Int) + 1 := by omega
      have e2 : (n : Int) - ((i + 1 : Nat) : Int) = (n : Int) - (i : Int) - 1 := by omega
      refine k _ h' _ _ (.d (.int _ _)) hit ⟨rfl, fun h g => ?_⟩ fun y ob hy => hsb.extBut y ob hy
      rw [e1, e2]; exact g
  done := fun {lm H b i o Q E} st hp hs e z hx k => by
    have hx : (bif Nat.blt i n then some (AV.d (.int (0 + (i : Nat)))) else none) = none := Option.some.inj hx
    cases q : Nat.blt i n with
    | true => rw [q] at hx; exact nz hx.symm
    | false =>
      have hge : ¬ i < n := fun l => by rw [show Nat.blt i n = true from Nat.ble_eq_true_of_le l] at q; exact Bool.noConfusion q
      exact wpAny_pyNext_range_end rfl (z.2 _ e) (by omega) fun h' he => k h' b.s.toks fun y ob hy => he y ob hy
theorem key_wkr {ρ : List Addr} {R : Led} {I p : Addr} {o₀ : Obj} {kvs : List (Int × Value)} {f : Int → Option AV} {z : Sz} {ep : Nat} (hm : (p, o₀) ∈ R) (hat : ∀ h : Heap, h.get? p = some o₀ → h.DictAt (PySem.intKind prg c.w) p kvs ep) (hz : z.ok kvs) :
    Wkr c (.tab f z) ρ R I fun i o => o.cls = .type "dict_keyiterator" ∧ o.data = .fields #[.ref p, .int i 0, .int kvs.length 0, .int ep 0] where
  io := fun z => .inr (.inr (.inr z.1))
  self := fun e z q => wpAny_pyIter_keyiter ⟨_, e, z.1, z.2⟩ q
  item := fun {lm H b i o x Q E} st hp hs e y hx k => by
    obtain ⟨m, news, W⟩ := st.nw
    obtain ⟨l, h1, h2⟩ := Option.map_eq_some_iff.mp hx
    obtain ⟨j, h3, rfl⟩ := Option.map_eq_some_iff.mp h2
    rw [← ksOf_ok hz h1, List.getElem?_map] at h3
    obtain ⟨⟨j', v⟩, h4, rfl⟩ := Option.map_eq_some_iff.mp h3
    refine wpAny_pyNext_dict_item ⟨_, e, y.1, y.2⟩ (hat _ (W.N _ (W.sub _ (hs _ hm))).1) h4 fun key h' hk hit hsb => ?_
    obtain ⟨o', e', z1, z2⟩ := hit
    obtain ⟨t, rfl⟩ := isIntKey hk
    exact k _ h' b.s.toks o' (.d (.int _ _)) e' ⟨z1, z2⟩ fun y ob hy => hsb.extBut y ob hy
  done := fun {lm H b i o Q E} st hp hs e y hx k => by
    obtain ⟨m, news, W⟩ := st.nw
    obtain ⟨l, h1, h2⟩ := Option.map_eq_some_iff.mp hx
    rw [Option.map_eq_none_iff, ← ksOf_ok hz h1, List.getElem?_map, Option.map_eq_none_iff] at h2
    exact wpAny_pyNext_dict_end rfl ⟨_, e, y.1, y.2⟩ (hat _ (W.N _ (W.sub _ (hs _ hm))).1) h2 fun h' he => k h' b.s.toks fun y ob hy => he y ob hy
/-- the iterator is made -/
theorem iter_ok (st : St c .df a.ρ a.R lm H a.s.heap) {v : Value} {src : AV} (vr : VR c.w a.ρ a.R v src) (e : (srcX src H 0).isSome = true) {Q : Value → Shared → Prop}
    (k : ∀ Zo h' o, (∀ b ob, a.s.heap.get? b = some ob → h'.get? b = some ob) → h'.objs.size = a.s.heap.objs.size + 1 → Wkr c src a.ρ a.R a.s.heap.objs.size Zo → h'.get? a.s.heap.objs.size = some o → Zo 0 o → Q (.ref a.s.heap.objs.size) { a.s with heap := h' }) : wpAny (model prg c.w) c.A (pyIter v) Q E a.s := by
  obtain ⟨m, news, W⟩ := st.nw
  have up : ∀ ob : Obj, ∀ b o, a.s.heap.get? b = some o → (a.s.heap.push ob).get? b = some o := fun ob b o e => Heap.get?_push_of_some _ e
  have tupc : ∀ {xs : List AV}, seqA src = some xs → (∀ H i, srcX src H i = some xs[i]?) → wpAny (model prg c.w) c.A (pyIter v) Q E a.s := fun {xs} q hx => by
    obtain ⟨p, vs, k9, rfl, hm, hv⟩ := vr.seq q
    exact wpAny_pyIter_tuple ⟨_, (W.N _ (W.sub _ hm)).1, rfl, _, rfl⟩ (k _ _ _ (up _) (Heap.size_push ..) (tup_wkr hm hv hx) (Heap.get?_push_size _ rfl) ⟨rfl, rfl⟩)
  revert vr e k tupc
  refine AV.casesOn src (fun x vr e k tupc => ?_) (fun xs vr e k tupc => tupc rfl fun _ _ => rfl) (fun xs vr e k tupc => ?_) (fun _ _ e => fz e) (fun f z vr e k tupc => ?_) (fun _ _ e => fz e) (fun _ _ _ e => fz e) (fun i vr e k tupc => ?_) (fun _ _ e => fz e) (fun _ _ e => fz e) (fun i vr e k tupc => ?_)
  · cases q : tupD x with
    | none => have : srcX (.d x) H 0 = ((tupD x).map fun ds => ds.map AV.d).map fun xs => xs[0]? := rfl
              rw [this, q] at e; exact fz e
    | some ds => exact tupc (xs := ds.map .d) (by show (tupD x).map _ = _; rw [q]; rfl) fun _ _ => by show ((tupD x).map _).map _ = _; rw [q]; rfl
  · obtain ⟨p, vs, k9, rfl, hm, hv⟩ := vr.inv
    refine wpAny_pyIter_list (News.isList W.N (W.sub _ hm)) (k _ _ _ (up _) (Heap.size_push ..) (list_wkr (p := p) fun {lm H b i x} st hp hs hx => ?_) (Heap.get?_push_size _ rfl) ⟨rfl, rfl⟩)
    obtain ⟨m, news, W⟩ := st.nw
    exact ⟨vs, News.isList W.N (W.sub _ (hs _ hm)), Option.some.inj hx ▸ (hv.up hp hs).at i⟩
  · obtain ⟨p, o, kvs, rfl, hm, hd, hz, hj, hn⟩ := vr.inv
    obtain ⟨ep, hat⟩ := (kda_dict W.N (W.sub _ hm) hd).dictAt
    have hat2 : ∀ h : Heap, h.get? p = some o → h.DictAt (PySem.intKind prg c.w) p kvs ep := fun h g => hat.at' fun o₂ e₂ => by
      rw [(W.N _ (W.sub _ hm)).1] at e₂; cases e₂; exact g
    exact wpAny_pyIter_dict hn hat (k _ _ _ (up _) (Heap.size_push ..) (key_wkr hm hat2 hz) (Heap.get?_push_size _ rfl) ⟨rfl, rfl⟩)
  · have cur : ∀ {lm : Lm} {H : Hp} {b : Wd} {j : Nat} {x : Option AV}, St c .df b.ρ b.R lm H b.s.heap → a.ρ <+: b.ρ → (∀ q ∈ a.R, q ∈ b.R) → srcX (.obj i) H j = some x → ∃ p, v = .ref p ∧ ∃ vs : List Value, b.s.heap.IsList p vs.toArray ∧ OV c.w b.ρ b.R vs[j]? x := fun {lm H b j x} st hp hs hx => by
      obtain ⟨m, news, W⟩ := st.nw
      have vb := vr.up hp hs
      have hx : (match (H[i]?).bind aoS with
        | some ds => some ((ds[j]?).map .d)
        | none => ((H[i]?).bind aoL).map fun xs => xs[j]?) = some x := hx
      cases q : (H[i]?).bind aoS with
      | some ds =>
        rw [q] at hx
        obtain ⟨ad, o, rfl, hm, r⟩ := W.at vb (slot_is aoS_is q)
        obtain ⟨vs, n, rfl, hv⟩ := r.inv
        refine ⟨ad, rfl, vs, News.isList W.N hm, ?_⟩
        rw [← Option.some.inj hx, ← List.getElem?_map]
        exact (VRs.ofDIs hv).at j
      | none =>
        rw [q] at hx
        obtain ⟨xs, q, rfl⟩ := Option.map_eq_some_iff.mp hx
        obtain ⟨ad, o, rfl, hm, r⟩ := W.at vb (slot_is aoL_is q)
        obtain ⟨vs, n, rfl, hv⟩ := r.inv
        exact ⟨ad, rfl, vs, News.isList W.N hm, hv.at j⟩
    obtain ⟨x, hx⟩ := Option.isSome_iff_exists.mp e
    obtain ⟨p, rfl, vs, hl, _⟩ := cur st (List.prefix_refl _) (fun _ h => h) hx
    refine wpAny_pyIter_list hl (k _ _ _ (up _) (Heap.size_push ..) (list_wkr (p := p) fun {lm H b i x} st hp hs hx => ?_) (Heap.get?_push_size _ rfl) ⟨rfl, rfl⟩)
    obtain ⟨p', e, vs, hl, ov⟩ := cur st hp hs hx
    cases e
    exact ⟨vs, hl, ov⟩
  · obtain ⟨p, o, rfl, hn, hm, hr⟩ := vr.inv
    obtain ⟨t, u, v9, hR⟩ := hr _ (W.N _ (W.sub _ hm)).1
    have hs : Builtin.Range.small 0 (i : Int) 1 = true := small_one (by decide) (by decide) (by omega) (by omega)
    have hsz : Builtin.Range.rangeSize 0 (i : Int) 1 = ((i : Nat) : Int) := by rw [rangeSize_nat]; simp
    refine wpAny_pyIter_range hR hs (k _ _ _ (up _) (Heap.size_push ..) rng_wkr (Heap.get?_push_size _ rfl) ⟨rfl, fun h g => ?_⟩)
    rw [hsz] at g
    simpa using g
end
end
section
theorem compLm_ok {c : Ctx} {ρ : List Addr} {R : Led} {sc : Scope} {lm : Lm} {m m₂ : Str → Option Value} {cl : List (Str × Addr)} (cok : compOK sc lm = true) (hk : c.cs.kind = .function) (lo : ∀ p ∈ lm, SlD c ρ R m p.1 p.2) (hcl : ∀ x ad, (x, NameKind.free) ∈ sc.names → c.cl.lookup x = some ad → cl.lookup x = some ad) : ∀ p ∈ compLm lm sc.names, SlC c ρ R sc cl m₂ p.1 p.2 := by
  unfold compOK at cok
  rw [Bool.and_eq_true, List.all_eq_true] at cok
  have all : ∀ p ∈ sc.names, (relabel sc c.env).names.lookup p.1 = some (if (p.2 == NameKind.free && c.env.scope.kind == .function && c.env.kindOf p.1 == some .cell) then .cell else p.2) ∧ noDbg p.1 := fun p hp => by
    have := cok.2 p hp
    simp only [Bool.and_eq_true, beq_iff_eq, Bool.not_eq_true'] at this
    exact ⟨lookup_relabel this.1.1, this.1.2⟩
  have go : ∀ names : List (Str × NameKind), (∀ p ∈ names, p ∈ sc.names) → ∀ p ∈ compLm lm names, SlC c ρ R sc cl m₂ p.1 p.2 := by
    intro names
    induction names with
    | nil => intro _ p hp; nomatch hp
    | cons q r ih =>
      intro hs p hp
      obtain ⟨x, k⟩ := q
      have hq := hs (x, k) (.head _)
      have ih := ih fun p hp => hs p (.tail _ hp)
      obtain ⟨a1, a2⟩ := all _ hq
      cases k with
      | «local» =>
        rcases List.mem_cons.mp hp with rfl | hp
        · exact ⟨a1, a2⟩
        · exact ih p hp
      | free =>
        unfold compLm at hp
        cases e : getSl x lm with
        | none => simp only [e] at hp; exact ih p hp
        | some sl =>
          cases sl with
          | cell kk =>
            simp only [e] at hp
            rcases List.mem_cons.mp hp with rfl | hp
            · obtain ⟨⟨k1, k2⟩, ad, k3, k4⟩ := lo _ (getSl_mem e)
              refine ⟨⟨?_, a2⟩, ad, hcl x ad hq k3, k4⟩
              have e1 : c.env.kindOf x = some .cell := k1
              have e2 : c.env.scope.kind = .function := hk
              dsimp only at a1
              rw [a1, e1, e2]
              rfl
            · exact ih p hp
          | _ => simp only [e] at hp; exact ih p hp
      | globalImplicit =>
        unfold compLm at hp
        cases e : glob x with
        | none => simp only [e] at hp; exact ih p hp
        | some aa =>
          simp only [e] at hp
          rcases List.mem_cons.mp hp with rfl | hp
          · exact ⟨⟨a1, a2⟩, glob_is e c.w⟩
          · exact ih p hp
      | cell => exact ih p hp
      | globalExplicit => exact ih p hp
  exact go sc.names fun _ h => h
/-- a comprehension under way -/
structure CS (c : Ctx) (lm : Lm) (I C D : Addr) (ob : Obj) (ρ : List Addr) (R : Led) (H : Hp) (m₂ : Str → Option Value) (h : Heap) : Prop where
  st : St c .df ρ R lm H h
  oI : Off c ρ R I
  oC : Off c ρ R C
  oD : Off c ρ R D
  ns : h.Ns C m₂
  hD : h.get? D = some ob
structure Ne3 (I C D : Addr) : Prop where
  ic : @Ne Nat I C
  id : @Ne Nat I D
  cd : @Ne Nat C D
section
variable {c : Ctx} {lm lm1 : Lm} {I C D : Addr} {ob oI oC : Obj} {ρ ρ' : List Addr} {R R' : Led} {H H' : Hp} {m₂ : Str → Option Value} {h h' : Heap} {sc : Scope} {cl : List (Str × Addr)} {E : Value → Shared → Prop}
theorem CS.cp (x : CS c lm I C D ob ρ R H m₂ h) (eI : h.get? I = some oI) (kf : sc.kind = .function) (hl : ∀ p ∈ lm1, SlC c ρ R sc cl m₂ p.1 p.2) : ∃ oC, LCg.NsObj oC m₂ ∧ St (c.gho [(I, oI), (C, oC), (D, ob)]) (.cp sc cl C lm) ρ R lm1 H h := by
  obtain ⟨oC, eC, hC⟩ := LCg.ns_obj x.ns
  refine ⟨oC, hC, x.st.hide (fun p hp => ?_) fun m lo => ⟨lo, kf, oC, m₂, .tail _ (.head _), hC, hl⟩⟩
  rcases List.mem_cons.mp hp with rfl | hp
  · exact ⟨eI, x.oI⟩
  · rcases List.mem_cons.mp hp with rfl | hp
    · exact ⟨eC, x.oC⟩
    · rw [List.mem_singleton.mp hp]; exact ⟨x.hD, x.oD⟩
theorem CS.back (x : CS c lm I C D ob ρ R H m₂ h) (hC : LCg.NsObj oC m₂) (st : St (c.gho [(I, oI), (C, oC), (D, ob)]) (.cp sc cl C lm) ρ' R' lm1 H' h') : CS c lm I C D ob ρ' R' H' m₂ h' ∧ h'.get? I = some oI := by
  obtain ⟨st', hg⟩ := st.show' (ek' := .df) (lm' := lm) (fun p hp => by
    rcases List.mem_cons.mp hp with rfl | hp
    · exact x.oI.2.2.2.2
    · rcases List.mem_cons.mp hp with rfl | hp
      · exact x.oC.2.2.2.2
      · rw [List.mem_singleton.mp hp]; exact x.oD.2.2.2.2) fun m lo => lo.1
  have hI := hg (I, oI) (.head _)
  have hCC := hg (C, oC) (.tail _ (.head _))
  have hDD := hg (D, ob) (.tail _ (.tail _ (.head _)))
  exact ⟨⟨st', hI.2, hCC.2, hDD.2, hC.ns hCC.1, hDD.1⟩, hI.1⟩
theorem CS.ext (x : CS c lm I C D ob ρ R H m₂ h) (k : ∀ b o, h.get? b = some o → h'.get? b = some o) : CS c lm I C D ob ρ R H m₂ h' := ⟨x.st.ext k, x.oI, x.oC, x.oD, x.ns.at' fun o e => k _ o e, k _ _ x.hD⟩
theorem putSl_mem {x : Str} {sl : Slot} {lm : Lm} : ∀ {p : Str × Slot}, p ∈ putSl x sl lm → (p = (x, sl) ∧ ∃ o, (x, o) ∈ lm) ∨ (p ∈ lm ∧ p.1 ≠ x) := by
  induction lm with
  | nil => intro p h; nomatch h
  | cons q r ih =>
    intro p h
    unfold putSl at h
    have tl : p ∈ putSl x sl r → (p = (x, sl) ∧ ∃ o, (x, o) ∈ q :: r) ∨ (p ∈ q :: r ∧ p.1 ≠ x) := fun h => by
      rcases ih h with ⟨h1, o, h2⟩ | ⟨h1, h2⟩
      · exact .inl ⟨h1, o, .tail _ h2⟩
      · exact .inr ⟨.tail _ h1, h2⟩
    by_cases e : q.1 = x
    · rw [if_pos e] at h
      rcases List.mem_cons.mp h with rfl | h
      · exact .inl ⟨by rw [e], q.2, by rw [← e]; exact .head _⟩
      · exact tl h
    · rw [if_neg e] at h
      rcases List.mem_cons.mp h with rfl | h
      · exact .inr ⟨.head _, e⟩
      · exact tl h
theorem stoC_ok (kf : sc.kind = .function) (ne : Ne3 I C D) {x : Str} {px : Pos} {v : Value} {a : AV} {Pn : Lm → Prop} {s : Shared} {Q : Unit → Shared → Prop} (h : stoC x a lm1 Pn) (vr : VR c.w ρ R v a) (hl : ∀ p ∈ lm1, SlC c ρ R sc cl m₂ p.1 p.2) (cs : CS c lm I C D ob ρ R H m₂ s.heap)
    (k : ∀ lm2 m₃ h' tk, Pn lm2 → (∀ p ∈ lm2, SlC c ρ R sc cl m₃ p.1 p.2) → CS c lm I C D ob ρ R H m₃ h' → (∀ b o, b ≠ C → s.heap.get? b = some o → h'.get? b = some o) → Q () { s with heap := h', toks := tk }) :
    wpAny (model prg c.w) c.A (assign (.Name x px) (compEnvC sc cl C c.env) v) Q E s := by
  have go : ((relabel sc c.env).names.lookup x = some .local ∧ noDbg x) → Pn (putSl x (.av a) lm1) → wpAny (model prg c.w) c.A (assign (.Name x px) (compEnvC sc cl C c.env) v) Q E s := fun hx hp => by
    refine wpAny_assign_Name (wpAny_storeName_local hx.1 cs.ns (fun h' hn hs => ?_) (by simp [compEnvC, relabel, kf]))
    refine k _ _ h' _ hp (fun p hp => ?_) ⟨cs.st.but cs.oC fun b o hb e => hs.extBut b o hb e, cs.oI, cs.oC, cs.oD, hn, hs.extBut _ _ (Ne.symm ne.cd) cs.hD⟩ fun b o hb e => hs.extBut b o hb e
    rcases putSl_mem hp with ⟨rfl, _⟩ | ⟨hp, hne⟩
    · exact ⟨hx, v, by simp, vr⟩
    · have q := hl p hp
      obtain ⟨y, sl⟩ := p
      cases sl with
      | av b =>
        obtain ⟨q1, u, q2, q3⟩ := q
        exact ⟨q1, u, by show (if y = x then some v else m₂ y) = some u; rw [if_neg (show y ≠ x from hne)]; exact q2, q3⟩
      | un => exact q
      | cell k => exact q
      | gl b => exact q
  obtain ⟨s, e, h⟩ := oX_ok h
  have q := hl _ (getSl_mem e)
  cases s with
  | un => exact go q h
  | av _ => exact go q.1 h
  | cell _ => exact False.elim h
  | gl _ => exact False.elim h
inductive Nms : List Expr → List Str → Prop
  | nil : Nms [] []
  | cons {x : Str} {p : Pos} {ts : List Expr} {xs : List Str} : Nms ts xs → Nms (.Name x p :: ts) (x :: xs)
theorem nmE_is {e : Expr} {x : Str} (h : nmE e = some x) : ∃ p, e = .Name x p := by
  cases e with
  | Name y p => exact ⟨p, by rw [show y = x from Option.some.inj h]⟩
  | _ => exact nz h
theorem namesOf_is {ts : List Expr} : ∀ {xs : List Str}, namesOf ts = some xs → Nms ts xs := by
  induction ts with
  | nil => intro xs h; rw [← Option.some.inj h]; exact .nil
  | cons e r ih =>
    intro xs h
    obtain ⟨y, ys, h1, h2, rfl⟩ := mapO_cons h
    obtain ⟨p, rfl⟩ := nmE_is h1
    exact .cons (ih h2)
theorem Nms.len {ts : List Expr} {xs : List Str} (x : Nms ts xs) (env : Env) : (assignEach ts env).length = xs.length ∧ (assignEach ts env).findIdx? (·.1) = none := by
  induction x with
  | nil => exact ⟨rfl, rfl⟩
  | cons _ ih =>
    refine ⟨by show _ + 1 = _ + 1; rw [ih.1], ?_⟩
    show List.findIdx? _ ((false, _) :: _) = none
    rw [List.findIdx?_cons]
    simp [ih.2]
/-- what is unpacked -/
theorem parts_ok {c : Ctx} {ek : EK} {lm : Lm} {H : Hp} {a : Wd} (st : St c ek a.ρ a.R lm H a.s.heap) {v : Value} {av : AV} {as : List AV} (vr : VR c.w a.ρ a.R v av) (e : partsX av = some as) : ∃ p vs, v = .ref p ∧ VRs c.w a.ρ a.R vs as ∧ (IsTup a.s.heap p vs.toArray ∨ a.s.heap.IsList p vs.toArray) := by
  obtain ⟨m, news, W⟩ := st.nw
  have tupc : seqA av = some as → ∃ p vs, v = .ref p ∧ VRs c.w a.ρ a.R vs as ∧ (IsTup a.s.heap p vs.toArray ∨ a.s.heap.IsList p vs.toArray) := fun q => by
    obtain ⟨p, vs, k9, rfl, hm, hv⟩ := vr.seq q
    exact ⟨p, vs, rfl, hv, .inl (News.isTup W.N (W.sub _ hm))⟩
  cases av with
  | lst xs =>
    obtain ⟨p, us, k9, ev, hm, hu⟩ := vr.inv
    exact ⟨p, us, ev, Option.some.inj e ▸ hu, .inr (News.isList W.N (W.sub _ hm))⟩
  | _ => exact tupc e
theorem unpack_ok {prog : Program} {w : World} {A : Around} {E : Value → Shared → Prop} {s : Shared} {env : Env} (hh : A.handled = none) {ts : List Expr} {kk : Nat} {tp : Pos} {p : Addr} {vs : List Value} {xs : List Str} (nm : Nms ts xs) (hz : xs.length = vs.length) (ho : IsTup s.heap p vs.toArray ∨ s.heap.IsList p vs.toArray) {Q : Unit → Shared → Prop}
    (k : ∀ h', (∀ b o, s.heap.get? b = some o → h'.get? b = some o) → wpAny (model prog w) A (assignInOrder ((assignEach ts env).map (·.2)) vs) Q E { s with heap := h' }) : wpAny (model prog w) A (assign (.Tuple ts kk tp) env (.ref p)) Q E s := by
  obtain ⟨l1, l2⟩ := nm.len env
  have fin : ∀ {h' : Heap}, Heap.ExtBut s.heap.objs.size s.heap h' → wpAny (model prog w) A (assignInOrder ((assignEach ts env).map (·.2)) vs) Q E { s with heap := h' } := fun he => k _ fun b o e => he b o (Nat.ne_of_lt (Heap.lt_size e)) e
  have hn : (assignEach ts env).length = vs.toArray.size := by rw [l1, hz]; simp
  rcases ho with ho | ho
  · exact assign_Tuple_tuple hh ho hn l2 fun h' he => fin he
  · rw [assign_Tuple]
    refine wpAny_bind (wpAny_standAt ?_)
    unfold PySem.unpack
    rw [hn, l2]
    exact wpAny_bind (wpAny_holding (kun_itemsOf hh ho fun h' he => fin he))
theorem stoCs_ok (kf : sc.kind = .function) (ne : Ne3 I C D) {Pn : Lm → Prop} {ts : List Expr} {xs : List Str} (nm : Nms ts xs) : ∀ {vs : List Value} {as : List AV} {lm1 : Lm} {m₂ : Str → Option Value} {s : Shared} {Q : Unit → Shared → Prop}, stoCs xs as lm1 Pn → VRs c.w ρ R vs as → (∀ p ∈ lm1, SlC c ρ R sc cl m₂ p.1 p.2) → CS c lm I C D ob ρ R H m₂ s.heap →
    (∀ lm2 m₃ h' tk, Pn lm2 → (∀ p ∈ lm2, SlC c ρ R sc cl m₃ p.1 p.2) → CS c lm I C D ob ρ R H m₃ h' → (∀ b o, b ≠ C → s.heap.get? b = some o → h'.get? b = some o) → Q () { s with heap := h', toks := tk }) →
    wpAny (model prg c.w) c.A (assignInOrder ((assignEach ts (compEnvC sc cl C c.env)).map (·.2)) vs) Q E s := by
  induction nm with
  | nil =>
    intro vs as lm1 m₂ s Q h vr hl cs k
    exact assignInOrder_nil (k _ _ _ s.toks h hl cs fun _ _ _ e => e)
  | cons _ ih =>
    intro vs as lm1 m₂ s Q h vr hl cs k
    obtain ⟨x, e, h⟩ := oX_ok h
    rw [head_is e] at vr
    obtain ⟨u, r, rfl, v1, v2⟩ := vr.inv
    exact assignInOrder_cons (stoC_ok kf ne h v1 hl cs fun lm2 m₃ h' tk p hl2 cs2 up => ih p v2 hl2 cs2 fun lm3 m₄ h'' tk' p3 hl3 cs3 up3 => k lm3 m₄ h'' tk' p3 hl3 cs3 fun b o hb e => up3 b o hb (up b o hb e))
theorem bindC_ok (kf : sc.kind = .function) (ne : Ne3 I C D) {tgt : Expr} {v : Value} {a : AV} {Pn : Lm → Prop} {s : Shared} {Q : Unit → Shared → Prop} (h : bindC tgt a lm1 Pn) (vr : VR c.w ρ R v a) (hl : ∀ p ∈ lm1, SlC c ρ R sc cl m₂ p.1 p.2) (cs : CS c lm I C D ob ρ R H m₂ s.heap)
    (k : ∀ lm2 m₃ h' tk, Pn lm2 → (∀ p ∈ lm2, SlC c ρ R sc cl m₃ p.1 p.2) → CS c lm I C D ob ρ R H m₃ h' → (∀ b o, b ≠ C → s.heap.get? b = some o → h'.get? b = some o) → Q () { s with heap := h', toks := tk }) :
    wpAny (model prg c.w) c.A (assign tgt (compEnvC sc cl C c.env) v) Q E s := by
  cases tgt with
  | Name x p => exact stoC_ok kf ne h vr hl cs k
  | Tuple ts kk tp =>
    obtain ⟨xs, hn, h⟩ := oX_ok h
    obtain ⟨as, hp, h⟩ := oX_ok h
    obtain ⟨hz, h⟩ := gB_ok h
    have nm := namesOf_is hn
    obtain ⟨p, vs, rfl, hv, ho⟩ := parts_ok (a := ⟨s, ρ, R⟩) cs.st vr hp
    exact unpack_ok rfl nm ((Nat.eq_of_beq_eq_true hz).trans hv.length.symm) ho fun h' up => stoCs_ok kf ne nm h hv hl (cs.ext up) fun lm2 m₃ h'' tk p hl2 cs2 up2 => k lm2 m₃ h'' tk p hl2 cs2 fun b o hb e => up2 b o hb (up b o e)
  | _ => exact False.elim h
theorem bindC_tgt {tgt : Expr} {av : AV} {Pn : Lm → Prop} (h : bindC tgt av lm1 Pn) : (∃ x p, tgt = .Name x p) ∨ ∃ ts k p, tgt = .Tuple ts k p := by
  cases tgt with
  | Name x p => exact .inl ⟨_, _, rfl⟩
  | Tuple ts kk tp => exact .inr ⟨_, _, _, rfl⟩
  | _ => exact False.elim h
end
end
section
theorem iter_cls {o : Obj} (hc : IterCls o) : ∃ id, o.cls = .type id ∧ (["enumerate", "zip", "dict_itemiterator", "dict_reverseitemiterator", "odict_iterator", "itertools.zip_longest", "itertools.pairwise"].contains id) = false := by
  rcases hc with hc | hc | hc | hc <;> exact ⟨_, hc, by decide⟩
theorem skip_ok {prog : Program} {w : World} {A : Around} {E : Value → Shared → Prop} {s : Shared} {tgt : Expr} {I : Addr} {o : Obj} {v : Value} {Q : Unit → Shared → Prop} (ho : s.heap.get? I = some o) (hc : IterCls o) (hn : (∃ x p, tgt = .Name x p) ∨ ∃ ts k p, tgt = .Tuple ts k p) (h : Q () s) :
    wpAny (model prog w) A (letOwnedTupleGo tgt (.ref I) v) Q E s := by
  rcases hn with ⟨x, p, rfl⟩ | ⟨ts, k, p, rfl⟩
  · exact wpAny_pure h
  · unfold letOwnedTupleGo
    cases v with
    | ref a =>
      refine wpAny_bind (wpAny_load ho ?_)
      obtain ⟨id, hc, e⟩ := iter_cls hc
      rw [hc]
      cases o.data with
      | fields vs =>
        simp only [e, Bool.false_and, Bool.false_eq_true, if_false]
        exact wpAny_pure h
      | _ => exact wpAny_pure h
    | _ => exact wpAny_pure h
theorem compLoop_any {prog : Program} {w : World} {A : Around} {s : Shared} {elt target iter : Expr} {ifs : List Expr} {scope : Scope} {pos : Pos} {it acc : Value} {env : Env} {R : Result → Shared → Prop} (I : Nat → Shared → Prop)
    (turn : ∀ n s, I n s → wpAny (model prog w) A (pyNext it) (fun r s₁ => match r with
      | none => R (.ok .next) s₁
      | some v => wpAny (model prog w) A (letOwnedTupleGo target it v) (fun _ s₁' => wpAny (model prog w) A (assign target env v) (fun _ s₂ =>
          wpAny (model prog w) A (forIn ifs true fun c r => if r = true then do let ok ← PySem.isTrue c env (eval c env); pure (ForInStep.yield ok) else pure (ForInStep.yield r)) (fun ok s₃ =>
            if ok = true then wpAny (model prog w) A (eval elt env) (fun x s₄ =>
              wpAny (model prog w) A (call (.builtin "list.append") [acc, x]) (fun _ s₅ => ∃ m, m < n ∧ I m s₅) (notedBy (model prog w) A env fun e s' => R (.error e) s') s₄) (notedBy (model prog w) A env fun e s' => R (.error e) s') s₃
            else ∃ m, m < n ∧ I m s₃) (notedBy (model prog w) A env fun e s' => R (.error e) s') s₂) (notedBy (model prog w) A env fun e s' => R (.error e) s') s₁') (notedBy (model prog w) A env fun e s' => R (.error e) s') s₁) (notedBy (model prog w) A env fun e s' => R (.error e) s') s)
    (n : Nat) (h : I n s) : codeAny (model prog w) A (.compLoop (.ListComp elt [⟨target, iter, ifs, 0⟩] scope pos) 0 it acc env) R s := by
  refine codeAny_loop rfl I (fun n s hI => ?_) n h
  show wpAny _ A ((compTurn (.ListComp elt [⟨target, iter, ifs, 0⟩] scope pos) 0 it acc env).onRaise (fun x => do noteFrame x env; theTreesLotGoes x)) _ _ s
  refine wpAny_noted ?_
  rw [compTurn_list]
  refine wpAny_bind (wpAny_standAt (wpAny_bind (wpAny_mono (turn n s hI) (fun r s₁ h₁ => ?_) fun _ _ h' => h')))
  cases r with
  | none => exact wpAny_pure h₁
  | some v =>
    refine wpAny_bind (wpAny_mono h₁ (fun _ s₁' h₁' => ?_) fun _ _ h' => h')
    refine wpAny_bind (wpAny_mono h₁' (fun _ s₂ h₂ => wpAny_bind (wpAny_mono h₂ (fun ok s₃ h₃ => ?_) fun _ _ h' => h')) fun _ _ h' => h')
    cases ok with
    | false => exact wpAny_pure ⟨rfl, h₃⟩
    | true =>
      exact wpAny_bind (wpAny_bind (wpAny_mono h₃ (fun x s₄ h₄ => wpAny_bind (wpAny_mono h₄ (fun _ s₅ h₅ => wpAny_pure (wpAny_pure ⟨rfl, h₅⟩)) fun _ _ h' => h')) fun _ _ h' => h'))
section
variable {c : Ctx} {lm lm1 : Lm} {I C D : Addr} {ob oI : Obj} {H : Hp} {m₂ : Str → Option Value} {sc : Scope} {cl : List (Str × Addr)} {E : Value → Shared → Prop} {n : Nat} {r : Rec} {b : Wd}
theorem CS.eval (S : Snd c.w n r) (ok : c.OK n) (x : CS c lm I C D ob b.ρ b.R H m₂ b.s.heap) (eI : b.s.heap.get? I = some oI) (kf : sc.kind = .function) (hl : ∀ p ∈ lm1, SlC c b.ρ b.R sc cl m₂ p.1 p.2) {mu : Bool} {e : Expr} {P : AV → Hp → Prop} (h : r.e false mu lm1 H e P) {Q : Value → Shared → Prop}
    (k : ∀ v b' av H', Le b b' → P av H' → VR c.w b'.ρ b'.R v av → CS c lm I C D ob b'.ρ b'.R H' m₂ b'.s.heap → b'.s.heap.get? I = some oI → Q v b'.s) : wpAny (model prg c.w) c.A (PySem.eval e (compEnvC sc cl C c.env)) Q E b.s := by
  obtain ⟨oC, hC, st⟩ := x.cp eI kf hl
  refine wpAny_mono (S.e (c := c.gho [(I, oI), (C, oC), (D, ob)]) (ek := .cp sc cl C lm) (k := false) rfl (ok.gh _) (fun q => nomatch q) h b E st) (fun v s' ⟨b', e, l, av, H', p, st', vr⟩ => ?_) fun _ _ e => e
  subst e
  obtain ⟨x', eI'⟩ := x.back hC st'
  exact k v b' av H' l p vr x' eI'
theorem CS.test (S : Snd c.w n r) (ok : c.OK n) (x : CS c lm I C D ob b.ρ b.R H m₂ b.s.heap) (eI : b.s.heap.get? I = some oI) (kf : sc.kind = .function) (hl : ∀ p ∈ lm1, SlC c b.ρ b.R sc cl m₂ p.1 p.2) {e : Expr} {P : Bool → Hp → Prop} (h : r.t false lm1 H e P) {Q : Bool → Shared → Prop}
    (k : ∀ v b' H', Le b b' → P v H' → CS c lm I C D ob b'.ρ b'.R H' m₂ b'.s.heap → b'.s.heap.get? I = some oI → Q v b'.s) : wpAny (model prg c.w) c.A (PySem.isTrue e (compEnvC sc cl C c.env) (PySem.eval e (compEnvC sc cl C c.env))) Q E b.s := by
  obtain ⟨oC, hC, st⟩ := x.cp eI kf hl
  refine wpAny_mono (S.t (c := c.gho [(I, oI), (C, oC), (D, ob)]) (ek := .cp sc cl C lm) (k := false) rfl (ok.gh _) (fun q => nomatch q) h b E st) (fun v s' ⟨b', e, l, H', p, st'⟩ => ?_) fun _ _ e => e
  subst e
  obtain ⟨x', eI'⟩ := x.back hC st'
  exact k v b' H' l p x' eI'
end
end
section
section
variable {c : Ctx} {lm lm1 : Lm} {I C D : Addr} {ob oI : Obj} {H : Hp} {m₂ : Str → Option Value} {sc : Scope} {cl : List (Str × Addr)} {E : Value → Shared → Prop} {n : Nat} {r : Rec} {a b : Wd}
theorem CS.but (x : CS c lm I C D ob b.ρ b.R H m₂ b.s.heap) (ne : Ne3 I C D) {h' : Heap} (k : ∀ b' o, b' ∉ [I] → b.s.heap.get? b' = some o → h'.get? b' = some o) : CS c lm I C D ob b.ρ b.R H m₂ h' :=
  ⟨x.st.but x.oI fun b o hb e => k b o (by simpa using hb) e, x.oI, x.oC, x.oD, x.ns.at' fun o e => k _ o (by simpa using Ne.symm ne.ic) e, k _ _ (by simpa using Ne.symm ne.id) x.hD⟩
/-- the list made so far gets one more -/
theorem CS.app (x : CS c lm I C D (LCg.lst ys) b.ρ b.R H m₂ b.s.heap) (ne : Ne3 I C D) {h' : Heap} (hs : Heap.SameBut D b.s.heap h') {ob' : Obj} (e : h'.get? D = some ob') : CS c lm I C D ob' b.ρ b.R H m₂ h' :=
  ⟨x.st.but x.oD fun b o hb e => hs.extBut b o hb e, x.oI, x.oC, x.oD, x.ns.sameBut hs ne.cd, e⟩
theorem SlC.ups {ρ ρ' : List Addr} {R R' : Led} (hp : ρ <+: ρ') (hs : ∀ p ∈ R, p ∈ R') (h : ∀ p ∈ lm1, SlC c ρ R sc cl m₂ p.1 p.2) : ∀ p ∈ lm1, SlC c ρ' R' sc cl m₂ p.1 p.2 := fun p hq => (h p hq).up hp hs
/-- a comprehension's tests -/
theorem tst_ok (S : Snd c.w n r) (ok : c.OK n) (x : CS c lm I C D ob b.ρ b.R H m₂ b.s.heap) (eI : b.s.heap.get? I = some oI) (kf : sc.kind = .function) (hl : ∀ p ∈ lm1, SlC c b.ρ b.R sc cl m₂ p.1 p.2) {ifs : List Expr} {P : Bool → Hp → Prop} (h : tstX r ifs lm1 H P) {Q : Bool → Shared → Prop}
    (k : ∀ v b' H', Le b b' → P v H' → CS c lm I C D ob b'.ρ b'.R H' m₂ b'.s.heap → b'.s.heap.get? I = some oI → Q v b'.s) :
    wpAny (model prg c.w) c.A (forIn ifs true fun e r => if r = true then do let ok ← PySem.isTrue e (compEnvC sc cl C c.env) (PySem.eval e (compEnvC sc cl C c.env)); pure (ForInStep.yield ok) else pure (ForInStep.yield r)) Q E b.s := by
  cases ifs with
  | nil => exact wpAny_tests_nil (k true b H Le.refl h x eI)
  | cons t ts =>
    cases ts with
    | nil => exact wpAny_tests_one (CS.test S ok x eI kf hl h k)
    | cons _ _ => exact False.elim h
/-- a comprehension's loop -/
theorem listLoop (S : Snd c.w n r) (ok : c.OK n) (ne : Ne3 I C D) (cok : compOK sc lm = true) (hcl : ∀ x ad, (x, NameKind.free) ∈ sc.names → c.cl.lookup x = some ad → cl.lookup x = some ad) {elt tgt it : Expr} {ifs : List Expr} {pos : Pos} {src : AV} {Zo : Nat → Obj → Prop} (W : Wkr c src a.ρ a.R I Zo) {Pf : List AV → Hp → Prop} {RR : Result → Shared → Prop}
    (h : compX r elt tgt ifs (compLm lm sc.names) src Pf 800 0 [] H) (l : Le a b) (cs : CS c lm I C D (LCg.lst []) b.ρ b.R H m₂ b.s.heap) {oI : Obj} (eI : b.s.heap.get? I = some oI) (z0 : Zo 0 oI)
    (fin : ∀ b' ys as H' m₃, Le a b' → Pf as H' → VRs c.w b'.ρ b'.R ys as → CS c lm I C D (LCg.lst ys) b'.ρ b'.R H' m₃ b'.s.heap → RR (.ok .next) b'.s) :
    codeAny (model prg c.w) c.A (.compLoop (.ListComp elt [⟨tgt, it, ifs, 0⟩] sc pos) 0 (.ref I) (.ref D) (compEnvC sc cl C c.env)) RR b.s := by
  have kf : sc.kind = .function := by unfold compOK at cok; rw [Bool.and_eq_true, beq_iff_eq] at cok; exact cok.1
  refine compLoop_any (fun k s' => ∃ b' i ys as H' m₃ o', b'.s = s' ∧ Le a b' ∧ ys.length + k ≤ 800 ∧ VRs c.w b'.ρ b'.R ys as ∧ CS c lm I C D (LCg.lst ys) b'.ρ b'.R H' m₃ b'.s.heap ∧ b'.s.heap.get? I = some o' ∧ Zo i o' ∧ compX r elt tgt ifs (compLm lm sc.names) src Pf k i as H') ?_ 800 ⟨b, 0, [], [], H, m₂, oI, rfl, l, Nat.le_refl _, .nil, cs, eI, z0, h⟩
  rintro k s' ⟨b', i, ys, as, H', m₃, o', rfl, l', hyl, vys, cs', eI', z', h'⟩
  cases k with
  | zero => exact False.elim h'
  | succ k =>
    obtain ⟨x, hx, h'⟩ := oX_ok h'
    cases x with
    | none => exact W.done cs'.st l'.p l'.R eI' z' hx fun h₂ tk₂ k₂ => fin ⟨{ b'.s with heap := h₂, toks := tk₂ }, b'.ρ, b'.R⟩ ys as H' m₃ (l'.trans ⟨⟨_, _, rfl⟩, List.prefix_refl _, fun _ h => h⟩) h' vys (cs'.but ne fun y ob hy e => k₂ y ob (by simpa using hy) e)
    | some x =>
      refine W.item cs'.st l'.p l'.R eI' z' hx fun v h₂ tk₂ o₂ vx e₂ z₂ k₂ => ?_
      have cs₂ := cs'.but ne fun y ob hy e => k₂ y ob (by simpa using hy) e
      refine skip_ok e₂ (W.io z₂) (bindC_tgt h') ?_
      have hl₀ : ∀ p ∈ compLm lm sc.names, SlC c b'.ρ b'.R sc cl m₃ p.1 p.2 := by
        obtain ⟨m, _, W0⟩ := cs'.st.nw
        exact compLm_ok cok ok.hk W0.lo hcl
      refine bindC_ok (s := { b'.s with heap := h₂, toks := tk₂ }) kf ne h' vx hl₀ cs₂ fun lm2 m₄ h₃ tk₃ hp hl₂ cs₃ up₃ => ?_
      have eI₃ : h₃.get? I = some o₂ := up₃ I o₂ ne.ic e₂
      refine tst_ok (b := ⟨{ b'.s with heap := h₃, toks := tk₃ }, b'.ρ, b'.R⟩) S ok cs₃ eI₃ kf hl₂ hp fun q b₄ H₄ l₄ h₄ cs₄ eI₄ => ?_
      have l₃ : Le a b₄ := l'.trans (Le.trans (b := ⟨{ b'.s with heap := h₃, toks := tk₃ }, b'.ρ, b'.R⟩) ⟨⟨_, _, rfl⟩, List.prefix_refl _, fun _ h => h⟩ l₄)
      rcases iB_ok h₄ with ⟨rfl, h₄⟩ | ⟨rfl, h₄⟩
      · rw [if_pos rfl]
        refine cs₄.eval S ok eI₄ kf (SlC.ups l₄.p l₄.R hl₂) h₄ fun y b₅ yv H₅ l₅ h₅ vy cs₅ eI₅ => ?_
        refine append_at (hsz := by have := size_ok (n := ys.length) (by omega); simpa using this) cs₅.hD fun h₆ hs₆ hD₆ => ?_
        have cs₆ := cs₅.app ne hs₆ (hD₆.trans (congrArg some (LCg.lst_snoc ys y)))
        exact ⟨k, Nat.lt_succ_self _, ⟨{ b₅.s with heap := h₆ }, b₅.ρ, b₅.R⟩, i + 1, ys ++ [y], as ++ [yv], H₅, m₄, o₂, rfl, l₃.trans (l₅.trans ⟨⟨_, _, rfl⟩, List.prefix_refl _, fun _ h => h⟩), by simp; omega, (vys.up (l₄.trans l₅).p (l₄.trans l₅).R).append (.cons vy .nil), cs₆, hs₆.extBut _ _ ne.id eI₅, z₂, h₅⟩
      · rw [if_neg (fun q => nomatch q)]
        exact ⟨k, Nat.lt_succ_self _, b₄, i + 1, ys, as, H₄, m₄, o₂, rfl, l₃, by omega, vys.up l₄.p l₄.R, cs₄, eI₄, z₂, h₄⟩
end
end
section
theorem eX_some {α : Type} {x : α} {F : α → Prop} {G : Prop} (h : eX (some x) F G) : F x := h
section
variable {c : Ctx} {lm lm1 : Lm} {I C D : Addr} {ob oI : Obj} {H : Hp} {m₂ : Str → Option Value} {sc : Scope} {cl : List (Str × Addr)} {E : Value → Shared → Prop} {n : Nat} {r : Rec} {a b : Wd}
/-- the free names' cells -/
theorem clo_ok (cok : compOK sc lm = true) {ρ : List Addr} {R : Led} {m : Str → Option Value} (lo : ∀ p ∈ lm, SlD c ρ R m p.1 p.2) : closureFor sc c.env = pure (cloOf c.env sc.names []) ∧ ∀ x ad, (x, NameKind.free) ∈ sc.names → c.cl.lookup x = some ad → (cloOf c.env sc.names []).lookup x = some ad := by
  unfold compOK at cok
  rw [Bool.and_eq_true, List.all_eq_true] at cok
  refine ⟨closure_is fun p hp hf => ?_, fun x ad hx e => clo_at hx e⟩
  have := cok.2 p hp
  rw [hf] at this
  simp only [Bool.and_eq_true] at this
  have h2 : isCell p.1 lm = true := this.2
  unfold isCell at h2
  cases e : getSl p.1 lm with
  | none => rw [e] at h2; exact fz h2
  | some sl =>
    rw [e] at h2
    cases sl with
    | cell kk => obtain ⟨_, ad, k3, _⟩ := lo _ (getSl_mem e); exact Option.isSome_iff_exists.mpr ⟨ad, k3⟩
    | _ => exact fz h2
theorem comp_names (cok : compOK sc lm = true) : (∀ x ∈ sc.names, x.2 = .local → sc.names.lookup x.1 = some .local) ∧ (∀ x ∈ sc.names, x.2 ≠ .cell) ∧ sc.kind = .function := by
  unfold compOK at cok
  rw [Bool.and_eq_true, List.all_eq_true, beq_iff_eq] at cok
  refine ⟨fun p hp hf => ?_, fun p hp hf => ?_, cok.1⟩
  · have := cok.2 p hp
    simp only [Bool.and_eq_true, beq_iff_eq] at this
    rw [this.1.1, hf]
  · have := cok.2 p hp
    rw [hf] at this
    simp at this
theorem listComp_core (S : Snd c.w n r) (ok : c.OK n) (st : St c .df a.ρ a.R lm H a.s.heap) (cok : compOK sc lm = true) {elt tgt it : Expr} {ifs : List Expr} {pos : Pos} {v : Value} {src : AV} (vr : VR c.w a.ρ a.R v src) {Pf : List AV → Hp → Prop} {RR : Value → Addr → Result → Shared → Prop}
    (h : compX r elt tgt ifs (compLm lm sc.names) src Pf 800 0 [] H)
    (fin : ∀ D C b' ys as H' m₃, Le a b' → Pf as H' → VRs c.w b'.ρ b'.R ys as → CS c lm a.s.heap.objs.size C D (LCg.lst ys) b'.ρ b'.R H' m₃ b'.s.heap → Ne3 a.s.heap.objs.size C D → RR (.ref D) C (.ok .next) b'.s) :
    wpAny (model prg c.w) c.A (pyIter v) (fun it' s₂ => wpAny (model prg c.w) c.A (newList []) (fun acc s₃ => wpAny (model prg c.w) c.A (newFunctionEnv sc c.env.globals (cloOf c.env sc.names []) [] c.env.qual none .none (some c.env)) (fun cenv s₄ =>
      codeAny (model prg c.w) c.A (.compStart (.ListComp elt [⟨tgt, it, ifs, 0⟩] sc pos) 0 it' acc { cenv with scope := relabel sc c.env }) (RR acc cenv.locals) s₄) E s₃) E s₂) E a.s := by
  obtain ⟨_, hcell, hkind⟩ := comp_names cok
  have e0 : (srcX src H 0).isSome = true := by obtain ⟨x, e, _⟩ := oX_ok h; rw [e]; rfl
  refine iter_ok st vr e0 fun Zo h₁ oI up₁ hs₁ W eI₁ z₁ => ?_
  refine wpAny_newObj_type (wpAny_newFunctionEnv hcell (by intro z hz; simp at hz) (fun h₂ hns hsb => ?_) hkind)
  dsimp only at hns hsb ⊢
  generalize hG : h₁.push { cls := .type "list", dict := none, data := .seq ([] : List Value).toArray } = G at hns hsb ⊢
  generalize hDd : h₁.objs.size = Dd at *
  generalize hCc : G.objs.size = Cc at *
  have hC : @Eq Nat Cc (Dd + 1) := by rw [← hCc, ← hG, Heap.size_push, hDd]
  have hD : @Eq Nat Dd (a.s.heap.objs.size + 1) := hs₁
  have ne : Ne3 a.s.heap.objs.size Cc Dd := ⟨by omega, by omega, by omega⟩
  have up₂ : ∀ b o, a.s.heap.get? b = some o → h₂.get? b = some o := fun b o e => hsb.extBut b o (by
    have : @LT.lt Nat _ b a.s.heap.objs.size := Heap.lt_size e
    intro q
    have q' : @Eq Nat b Cc := q
    omega) (Heap.get?_push_of_some _ (hG ▸ Heap.get?_push_of_some _ (up₁ b o e)))
  have cs : CS c lm a.s.heap.objs.size Cc Dd (LCg.lst []) a.ρ a.R H (fun x => List.lookup x ([] : List (Str × Value)).reverse) h₂ := by
    refine ⟨st.ext up₂, st.fresh (Nat.le_refl _), st.fresh (by omega), st.fresh (by omega), hns, ?_⟩
    exact hsb.extBut _ _ (Ne.symm ne.cd) (Heap.get?_push_of_some _ (by rw [← hG, ← hDd]; exact Heap.get?_push_size _ rfl))
  have eI₂ : h₂.get? a.s.heap.objs.size = some oI := hsb.extBut _ _ ne.ic (Heap.get?_push_of_some _ (hG ▸ Heap.get?_push_of_some _ eI₁))
  obtain ⟨m, _, W0⟩ := st.nw
  have hcl := (clo_ok cok W0.lo).2
  have loop : codeAny (model prg c.w) c.A (.compLoop (.ListComp elt [⟨tgt, it, ifs, 0⟩] sc pos) 0 (.ref a.s.heap.objs.size) (.ref Dd) (compEnvC sc (cloOf c.env sc.names []) Cc c.env)) (RR (.ref Dd) Cc) { a.s with heap := h₂, toks := a.s.toks + ([] : List (Str × Value)).length } :=
    listLoop (a := a) (b := ⟨{ a.s with heap := h₂, toks := a.s.toks + ([] : List (Str × Value)).length }, a.ρ, a.R⟩) S ok ne cok hcl W h ⟨⟨_, _, rfl⟩, List.prefix_refl _, fun _ h => h⟩ cs eI₂ z₁ fun b' ys as H' m₃ l p vys cs' => fin Dd Cc b' ys as H' m₃ l p vys cs' ne
  exact codeAny_compStart_list loop (W.self (s := { a.s with heap := h₂, toks := _ }) eI₂ z₁ loop)
theorem Off.snoc {ρ : List Addr} {R : Led} {X D : Addr} (hX : X ≠ D) (o : Off c ρ R X) : Off c (ρ ++ [D]) R X := ⟨o.1, o.2.1, fun q => by
  rcases List.mem_append.mp q with q | q
  · exact o.2.2.1 q
  · exact hX (List.mem_singleton.mp q), o.2.2.2⟩
theorem Off.cons {ρ : List Addr} {R : Led} {X D : Addr} {ob : Obj} (hX : X ≠ D) (o : Off c ρ R X) : Off c ρ ((D, ob) :: R) X := ⟨o.1, o.2.1, o.2.2.1, fun q hq => by
  rcases List.mem_cons.mp hq with rfl | hq
  · exact Ne.symm hX
  · exact o.2.2.2.1 q hq, o.2.2.2.2⟩
/-- the made thing is there -/
theorem made_ok {ob : Obj} {ao : AO} {av : AV} {P : AV → Hp → Prop} {mu : Bool} {s : Shared} (st : St c .df b.ρ b.R lm H s.heap) (oD : Off c b.ρ b.R D) (hD : s.heap.get? D = some ob) (rO : OR c.w b.ρ b.R D ob ao) (rV : VR c.w b.ρ ((D, ob) :: b.R) (.ref D) av) (h : iB mu (P (.obj H.length) (H ++ [ao])) (P av H)) (l : Le a ⟨s, b.ρ, b.R⟩) : ∃ b' : Wd, b'.s = s ∧ Le a b' ∧ VΦ c .df lm P (.ref D) b' ∧ ∀ X, X ≠ D → Off c b.ρ b.R X → Off c b'.ρ b'.R X := by
  obtain ⟨m, news, W⟩ := St.nw (a := ⟨s, b.ρ, b.R⟩) st
  obtain ⟨N', nR⟩ := W.add oD hD
  rcases iB_ok h with ⟨_, h⟩ | ⟨_, h⟩
  · have st' := W.alloc D ob ao s.heap W.F N' nR (rO.up (List.prefix_append _ _) fun _ h => h)
    have el : b.ρ.length = H.length := W.el
    exact ⟨⟨s, b.ρ ++ [D], b.R⟩, rfl, l.trans ⟨⟨_, _, rfl⟩, List.prefix_append _ _, fun _ h => h⟩, ⟨_, _, h, st', .obj (by rw [← el]; simp)⟩, fun X hX o => Off.snoc hX o⟩
  · exact ⟨⟨s, b.ρ, (D, ob) :: b.R⟩, rfl, l.trans ⟨⟨_, _, rfl⟩, List.prefix_refl _, fun _ h => .tail _ h⟩, ⟨_, _, h, W.still D ob s.heap W.F N' nR, rV⟩, fun X hX o => Off.cons hX o⟩
theorem made_list {ys : List Value} {as : List AV} {P : AV → Hp → Prop} {mu : Bool} {s : Shared} (st : St c .df b.ρ b.R lm H s.heap) (oD : Off c b.ρ b.R D) (hD : s.heap.get? D = some (LCg.lst ys)) (vys : VRs c.w b.ρ b.R ys as) (h : newL mu as H P) (l : Le a ⟨s, b.ρ, b.R⟩) : ∃ b' : Wd, b'.s = s ∧ Le a b' ∧ VΦ c .df lm P (.ref D) b' ∧ ∀ X, X ≠ D → Off c b.ρ b.R X → Off c b'.ρ b'.R X :=
  made_ok st oD hD (.lst (n := ys.length) vys) (.lst (n := ys.length) (.head _) (vys.up (List.prefix_refl _) fun _ h => .tail _ h)) h l
theorem notSet_is {e : Expr} (h : notSet e = true) (env : Env) (x : Value) : foldedSetIterable e env x = pure x := by
  revert h
  refine Expr.casesOn e ?_ ?_ ?_ ?_ ?_ ?_ ?_ ?_ ?_ ?_ ?_ ?_ ?_ ?_ ?_ ?_ ?_ ?_ ?_ ?_ ?_ ?_ ?_ ?_ ?_ ?_ ?_ <;> intros <;> first | rfl | exact fz ‹_›
theorem list_ok (S : Snd c.w n r) (ok : c.OK n) (st : St c .df a.ρ a.R lm H a.s.heap) {elt tgt it : Expr} {ifs : List Expr} {pos : Pos} {mu : Bool} {P : AV → Hp → Prop} (h : listX r mu lm H elt tgt it ifs sc P) : WP c (PySem.eval (.ListComp elt [⟨tgt, it, ifs, 0⟩] sc pos) c.env) a (VΦ c .df lm P) E := by
  obtain ⟨hc, h⟩ := gB_ok h
  rw [Bool.and_eq_true] at hc
  obtain ⟨cok, hs⟩ := hc
  obtain ⟨hnames, hcell, hkind⟩ := comp_names cok
  obtain ⟨m, _, W0⟩ := st.nw
  show wpAny _ _ _ _ _ _
  rw [eval_ListComp]
  refine wpAny_comprehension_free (use := none) rfl (notSet_is hs _) (clo_ok cok W0.lo).1 hkind hnames ((S.e (ek := .df) rfl ok (fun _ => rfl) h a _ st).then fun v b l ⟨av, H1, h1, st1, vr⟩ => ?_)
  refine listComp_core S ok st1 cok vr h1 fun D C b' ys as H' m₃ l' p vys cs ne => ?_
  refine ⟨m₃, cs.ns, fun h'' hs'' => ?_⟩
  have k : ∀ b o, b ≠ C → b'.s.heap.get? b = some o → h''.get? b = some o := fun b o hb e => hs''.extBut b o hb e
  obtain ⟨b9, e9, l9, q9, _⟩ := made_list (b := b') (s := { b'.s with heap := h'' }) (cs.st.but cs.oC k) cs.oD (k _ _ (Ne.symm ne.cd) cs.hD) vys p (l.trans (l'.trans ⟨⟨_, _, rfl⟩, List.prefix_refl _, fun _ h => h⟩))
  exact ⟨b9, e9, l9, q9⟩
end
end
section
section
variable {c : Ctx} {lm lm1 : Lm} {I C D : Addr} {ob oI : Obj} {H : Hp} {m₂ : Str → Option Value} {sc : Scope} {cl : List (Str × Addr)} {E : Value → Shared → Prop} {n : Nat} {r : Rec} {a b : Wd}
theorem CS.app' {ob ob' : Obj} (x : CS c lm I C D ob b.ρ b.R H m₂ b.s.heap) (ne : Ne3 I C D) {h' : Heap} (hs : Heap.SameBut D b.s.heap h') (e : h'.get? D = some ob') : CS c lm I C D ob' b.ρ b.R H m₂ h' :=
  ⟨x.st.but x.oD fun b o hb e => hs.extBut b o hb e, x.oI, x.oC, x.oD, x.ns.sameBut hs ne.cd, e⟩
theorem dictLoop (S : Snd c.w n r) (ok : c.OK n) (ne : Ne3 I C D) (cok : compOK sc lm = true) (hcl : ∀ x ad, (x, NameKind.free) ∈ sc.names → c.cl.lookup x = some ad → cl.lookup x = some ad) {ke ve it t : Expr} {x : Str} {px : Pos} {pos : Pos} {src : AV} {Zo : Nat → Obj → Prop} (W : Wkr c src a.ρ a.R I Zo) {Pf : (Int → Option AV) → Sz → Hp → Prop} {RR : Result → Shared → Prop}
    (h : compD r ke ve x t (compLm lm sc.names) src Pf 800 0 (fun _ => none) (.ks []) H) (l : Le a b) (cs : CS c lm I C D ob b.ρ b.R H m₂ b.s.heap) (hob : ob.IsDictOf (PySem.intKind prg c.w) []) {oI : Obj} (eI : b.s.heap.get? I = some oI) (z0 : Zo 0 oI)
    (fin : ∀ b' o' kvs f z H' m₃, Le a b' → Pf f z H' → o'.IsDictOf (PySem.intKind prg c.w) kvs → z.ok kvs → (∀ j, OV c.w b'.ρ b'.R (valueAt kvs j) (f j)) → CS c lm I C D o' b'.ρ b'.R H' m₃ b'.s.heap → RR (.ok .next) b'.s) :
    codeAny (model prg c.w) c.A (.compLoop (.DictComp ke ve [⟨.Name x px, it, [t], 0⟩] sc pos) 0 (.ref I) (.ref D) (compEnvC sc cl C c.env)) RR b.s := by
  have kf : sc.kind = .function := (comp_names cok).2.2
  refine codeAny_compLoop_testsD (fun k s' => ∃ b' i kvs o' f z H' m₃ o₁, b'.s = s' ∧ Le a b' ∧ kvs.length + k ≤ 800 ∧ Obj.IsDictOf (PySem.intKind prg c.w) o' kvs ∧ Sz.ok kvs z ∧ (∀ j, OV c.w b'.ρ b'.R (valueAt kvs j) (f j)) ∧ CS c lm I C D o' b'.ρ b'.R H' m₃ b'.s.heap ∧ b'.s.heap.get? I = some o₁ ∧ Zo i o₁ ∧ compD r ke ve x t (compLm lm sc.names) src Pf k i f z H') ?_ 800 ⟨b, 0, [], ob, (fun _ => none), (.ks []), H, m₂, oI, rfl, l, Nat.le_refl _, hob, rfl, fun _ => .none, cs, eI, z0, h⟩
  rintro k s' ⟨b', i, kvs, o', f, z, H', m₃, o₁, rfl, l', hyl, hd', hz', hj, cs', eI', z', h'⟩
  cases k with
  | zero => exact False.elim h'
  | succ k =>
    obtain ⟨xa, hx, h'⟩ := oX_ok h'
    cases xa with
    | none => exact W.done cs'.st l'.p l'.R eI' z' hx fun h₂ tk₂ k₂ => fin ⟨{ b'.s with heap := h₂, toks := tk₂ }, b'.ρ, b'.R⟩ o' kvs f z H' m₃ (l'.trans ⟨⟨_, _, rfl⟩, List.prefix_refl _, fun _ h => h⟩) h' hd' hz' hj (cs'.but ne fun y ob hy e => k₂ y ob (by simpa using hy) e)
    | some xa =>
      refine W.item cs'.st l'.p l'.R eI' z' hx fun v h₂ tk₂ o₂ vx e₂ z₂ k₂ => ?_
      have cs₂ := cs'.but ne fun y ob hy e => k₂ y ob (by simpa using hy) e
      have hl₀ : ∀ p ∈ compLm lm sc.names, SlC c b'.ρ b'.R sc cl m₃ p.1 p.2 := by
        obtain ⟨m, _, W0⟩ := cs'.st.nw
        exact compLm_ok cok ok.hk W0.lo hcl
      replace h' := eX_some h'
      refine stoC_ok (s := { b'.s with heap := h₂, toks := tk₂ }) kf ne h' vx hl₀ cs₂ fun lm2 m₄ h₃ tk₃ hp hl₂ cs₃ up₃ => ?_
      have eI₃ : h₃.get? I = some o₂ := up₃ I o₂ ne.ic e₂
      refine wpAny_tests_one ?_
      refine CS.test (b := ⟨{ b'.s with heap := h₃, toks := tk₃ }, b'.ρ, b'.R⟩) S ok cs₃ eI₃ kf hl₂ hp fun q b₄ H₄ l₄ h₄ cs₄ eI₄ => ?_
      have l₃ : Le a b₄ := l'.trans (Le.trans (b := ⟨{ b'.s with heap := h₃, toks := tk₃ }, b'.ρ, b'.R⟩) ⟨⟨_, _, rfl⟩, List.prefix_refl _, fun _ h => h⟩ l₄)
      rcases iB_ok h₄ with ⟨rfl, h₄⟩ | ⟨rfl, h₄⟩
      · rw [if_pos rfl]
        refine CS.eval (b := b₄) S ok cs₄ eI₄ kf (SlC.ups l₄.p l₄.R hl₂) h₄ fun kv b₅ ka H₅ l₅ h₅ vk cs₅ eI₅ => ?_
        refine CS.eval (b := b₅) S ok cs₅ eI₅ kf (SlC.ups (l₄.trans l₅).p (l₄.trans l₅).R hl₂) h₅ fun vv b₆ va H₆ l₆ h₆ vv' cs₆ eI₆ => ?_
        obtain ⟨key, ek, h₆⟩ := oX_ok h₆
        obtain ⟨tk, rfl⟩ := vk.int ek
        refine wpAny_dictSet_pairs (hsz := size_ok (by omega)) (intKind_is _ _ _ _) (Heap.dictOf_iff.mpr ⟨o', cs₆.hD, hd'⟩) fun h₇ hl₇ hs₇ => ?_
        obtain ⟨o₇, ho₇, hd₇⟩ := Heap.dictOf_iff.mp hl₇
        have l46 := l₄.trans (l₅.trans l₆)
        refine ⟨k, Nat.lt_succ_self _, ⟨{ b₆.s with heap := h₇, toks := b₆.s.toks + 1 }, b₆.ρ, b₆.R⟩, i + 1, _, o₇, _, _, H₆, m₄, o₂, rfl, (l₃.trans (l₅.trans l₆)).trans ⟨⟨_, _, rfl⟩, List.prefix_refl _, fun _ h => h⟩, ?_, hd₇, Sz.ok_set hz', OV.set (fun j => (hj j).up l46.p l46.R) vv', cs₆.app' ne hs₇ ho₇, hs₇.extBut _ _ ne.id eI₆, z₂, h₆⟩
        have := stored_length_le kvs key vv
        omega
      · rw [if_neg (fun q => nomatch q)]
        exact ⟨k, Nat.lt_succ_self _, b₄, i + 1, kvs, o', f, z, H₄, m₄, o₂, rfl, l₃, by omega, hd', hz', fun j => (hj j).up l₄.p l₄.R, cs₄, eI₄, z₂, h₄⟩
theorem dictComp_core (S : Snd c.w n r) (ok : c.OK n) (st : St c .df a.ρ a.R lm H a.s.heap) (cok : compOK sc lm = true) {ke ve it t : Expr} {x : Str} {px pos : Pos} {v : Value} {src : AV} (vr : VR c.w a.ρ a.R v src) {Pf : (Int → Option AV) → Sz → Hp → Prop} {RR : Value → Addr → Result → Shared → Prop}
    (h : compD r ke ve x t (compLm lm sc.names) src Pf 800 0 (fun _ => none) (.ks []) H)
    (fin : ∀ D C b' o' kvs f z H' m₃, Le a b' → Pf f z H' → o'.IsDictOf (PySem.intKind prg c.w) kvs → z.ok kvs → (∀ j, OV c.w b'.ρ b'.R (valueAt kvs j) (f j)) → (D == sysModules) = false → CS c lm a.s.heap.objs.size C D o' b'.ρ b'.R H' m₃ b'.s.heap → Ne3 a.s.heap.objs.size C D → RR (.ref D) C (.ok .next) b'.s) :
    wpAny (model prg c.w) c.A (pyIter v) (fun it' s₂ => wpAny (model prg c.w) c.A newDict (fun acc s₃ => wpAny (model prg c.w) c.A (newFunctionEnv sc c.env.globals (cloOf c.env sc.names []) [] c.env.qual none .none (some c.env)) (fun cenv s₄ =>
      codeAny (model prg c.w) c.A (.compStart (.DictComp ke ve [⟨.Name x px, it, [t], 0⟩] sc pos) 0 it' acc { cenv with scope := relabel sc c.env }) (RR acc cenv.locals) s₄) E s₃) E s₂) E a.s := by
  obtain ⟨_, hcell, hkind⟩ := comp_names cok
  have e0 : (srcX src H 0).isSome = true := by obtain ⟨x, e, _⟩ := oX_ok h; rw [e]; rfl
  refine iter_ok st vr e0 fun Zo h₁ oI up₁ hs₁ W eI₁ z₁ => ?_
  refine wpAny_newObj_type (wpAny_newFunctionEnv hcell (by intro z hz; simp at hz) (fun h₂ hns hsb => ?_) hkind)
  dsimp only at hns hsb ⊢
  obtain ⟨m, _, W0⟩ := st.nw
  have hD1 : (h₁.objs.size == sysModules) = false := (W0.F.keeps up₁).notModules (modules_low ok.T.nolimit)
  have hnew : (h₁.push { cls := .type "dict", dict := none, data := .dict #[] }).DictOf (PySem.intKind prg c.w) h₁.objs.size [] := Heap.DictOf.new h₁
  generalize hG : h₁.push { cls := .type "dict", dict := none, data := .dict #[] } = G at hns hsb hnew ⊢
  generalize hDd : h₁.objs.size = Dd at *
  generalize hCc : G.objs.size = Cc at *
  have hC : @Eq Nat Cc (Dd + 1) := by rw [← hCc, ← hG, Heap.size_push, hDd]
  have hD : @Eq Nat Dd (a.s.heap.objs.size + 1) := hs₁
  have ne : Ne3 a.s.heap.objs.size Cc Dd := ⟨by omega, by omega, by omega⟩
  have up₂ : ∀ b o, a.s.heap.get? b = some o → h₂.get? b = some o := fun b o e => hsb.extBut b o (by
    have : @LT.lt Nat _ b a.s.heap.objs.size := Heap.lt_size e
    intro q
    have q' : @Eq Nat b Cc := q
    omega) (Heap.get?_push_of_some _ (hG ▸ Heap.get?_push_of_some _ (up₁ b o e)))
  have hacc : h₂.DictOf (PySem.intKind prg c.w) Dd [] := hnew.at fun o e => hsb.extBut _ _ (Ne.symm ne.cd) (Heap.get?_push_of_some _ e)
  obtain ⟨ob, hob, hdb⟩ := Heap.dictOf_iff.mp hacc
  have cs : CS c lm a.s.heap.objs.size Cc Dd ob a.ρ a.R H (fun x => List.lookup x ([] : List (Str × Value)).reverse) h₂ := ⟨st.ext up₂, st.fresh (Nat.le_refl _), st.fresh (by omega), st.fresh (by omega), hns, hob⟩
  have eI₂ : h₂.get? a.s.heap.objs.size = some oI := hsb.extBut _ _ ne.ic (Heap.get?_push_of_some _ (hG ▸ Heap.get?_push_of_some _ eI₁))
  have hcl := (clo_ok cok W0.lo).2
  have loop : codeAny (model prg c.w) c.A (.compLoop (.DictComp ke ve [⟨.Name x px, it, [t], 0⟩] sc pos) 0 (.ref a.s.heap.objs.size) (.ref Dd) (compEnvC sc (cloOf c.env sc.names []) Cc c.env)) (RR (.ref Dd) Cc) { a.s with heap := h₂, toks := a.s.toks + ([] : List (Str × Value)).length } :=
    dictLoop (a := a) (b := ⟨{ a.s with heap := h₂, toks := a.s.toks + ([] : List (Str × Value)).length }, a.ρ, a.R⟩) S ok ne cok hcl W h ⟨⟨_, _, rfl⟩, List.prefix_refl _, fun _ h => h⟩ cs hdb eI₂ z₁ fun b' o' kvs f z H' m₃ l p hd hz hj cs' => fin Dd Cc b' o' kvs f z H' m₃ l p hd hz hj hD1 cs' ne
  exact codeAny_compStart_dict loop (W.self (s := { a.s with heap := h₂, toks := _ }) eI₂ z₁ loop)
theorem made_tab {o : Obj} {kvs : List (Int × Value)} {f : Int → Option AV} {z : Sz} {P : AV → Hp → Prop} {mu : Bool} {s : Shared} (st : St c .df b.ρ b.R lm H s.heap) (oD : Off c b.ρ b.R D) (hD : s.heap.get? D = some o) (hd : o.IsDictOf (PySem.intKind prg c.w) kvs) (hz : z.ok kvs) (hj : ∀ j, OV c.w b.ρ b.R (valueAt kvs j) (f j)) (hn : (D == sysModules) = false) (h : newT mu f z H P) (l : Le a ⟨s, b.ρ, b.R⟩) : ∃ b' : Wd, b'.s = s ∧ Le a b' ∧ VΦ c .df lm P (.ref D) b' ∧ ∀ X, X ≠ D → Off c b.ρ b.R X → Off c b'.ρ b'.R X :=
  made_ok st oD hD (.tab hd hz hj hn) (.tab (.head _) hd hz (fun j => (hj j).up (List.prefix_refl _) fun _ h => .tail _ h) hn) h l
theorem dictc_ok (S : Snd c.w n r) (ok : c.OK n) (st : St c .df a.ρ a.R lm H a.s.heap) {ke ve it t : Expr} {x : Str} {px pos : Pos} {mu : Bool} {P : AV → Hp → Prop} (h : dictcX r mu lm H ke ve it t x sc P) : WP c (PySem.eval (.DictComp ke ve [⟨.Name x px, it, [t], 0⟩] sc pos) c.env) a (VΦ c .df lm P) E := by
  obtain ⟨hc, h⟩ := gB_ok h
  rw [Bool.and_eq_true] at hc
  obtain ⟨cok, hs⟩ := hc
  obtain ⟨hnames, hcell, hkind⟩ := comp_names cok
  obtain ⟨m, _, W0⟩ := st.nw
  show wpAny _ _ _ _ _ _
  rw [arm_eval_DictComp]
  refine wpAny_comprehension_free (use := none) rfl (notSet_is hs _) (clo_ok cok W0.lo).1 hkind hnames ((S.e (ek := .df) rfl ok (fun _ => rfl) h a _ st).then fun v b l ⟨av, H1, h1, st1, vr⟩ => ?_)
  refine dictComp_core S ok st1 cok vr h1 fun D C b' o' kvs f z H' m₃ l' p hd hz' hj hn cs ne => ?_
  refine ⟨m₃, cs.ns, fun h'' hs'' => ?_⟩
  have k : ∀ b o, b ≠ C → b'.s.heap.get? b = some o → h''.get? b = some o := fun b o hb e => hs''.extBut b o hb e
  obtain ⟨b9, e9, l9, q9, _⟩ := made_tab (b := b') (s := { b'.s with heap := h'' }) (cs.st.but cs.oC k) cs.oD (k _ _ (Ne.symm ne.cd) cs.hD) hd hz' hj hn p (l.trans (l'.trans ⟨⟨_, _, rfl⟩, List.prefix_refl _, fun _ h => h⟩))
  exact ⟨b9, e9, l9, q9⟩
end
end
section
section
variable {c : Ctx} {lm lm1 : Lm} {I C D : Addr} {ob oI : Obj} {H : Hp} {m₂ : Str → Option Value} {sc : Scope} {cl : List (Str × Addr)} {E : Value → Shared → Prop} {n : Nat} {r : Rec} {a b : Wd}
theorem setL {h h' : Heap} {m : Str → Option Value} {v : Value} {x : Str} {news : Led} (F : Fr c.h₀ c.L h m) (N : News c.h₀ c.L h news) (hn : h'.Ns c.L (fun y => if y = x then some v else m y)) (hs : Heap.SameBut c.L h h') : Fr c.h₀ c.L h' (fun y => if y = x then some v else m y) ∧ News c.h₀ c.L h' news := by
  have hL₀ : c.h₀.get? c.L = none := Heap.get?_none_of_le F.above
  exact ⟨⟨hn, fun b o e => hs.extBut b o (fun q => by rw [q, hL₀] at e; cases e) (F.keep b o e), F.above⟩, fun p hp => ⟨hs.extBut _ _ (N p hp).2.1 (N p hp).1, (N p hp).2⟩⟩
theorem putD {ρ : List Addr} {R : Led} {m : Str → Option Value} {x : Str} {v : Value} {av : AV} (lo : ∀ p ∈ lm, SlD c ρ R m p.1 p.2) (hx : c.cs.names.lookup x = some .local ∧ noDbg x) (vr : VR c.w ρ R v av) : ∀ p ∈ putSl x (.av av) lm, SlD c ρ R (fun y => if y = x then some v else m y) p.1 p.2 := fun p hp => by
  rcases putSl_mem hp with ⟨rfl, _⟩ | ⟨hp, hne⟩
  · exact ⟨hx, v, by simp, vr⟩
  · have q := lo p hp
    obtain ⟨y, sl⟩ := p
    cases sl with
    | av b =>
      obtain ⟨q1, u, q2, q3⟩ := q
      exact ⟨q1, u, by show (if y = x then some v else m y) = some u; rw [if_neg (show y ≠ x from hne)]; exact q2, q3⟩
    | un => exact q
    | cell k => exact q
    | gl b => exact q
/-- a name of the frame is set -/
theorem stoL_ok (ok : c.OK n) (st : St c .df a.ρ a.R lm H a.s.heap) {x : Str} {v : Value} {av : AV} (hx : c.cs.names.lookup x = some .local ∧ noDbg x) (vr : VR c.w a.ρ a.R v av) {Q : Unit → Shared → Prop}
    (k : ∀ h' tk, St c .df a.ρ a.R (putSl x (.av av) lm) H h' → (∀ b o, b ≠ c.L → a.s.heap.get? b = some o → h'.get? b = some o) → Q () { a.s with heap := h', toks := tk }) : wpAny (model prg c.w) c.A (storeName c.env x v) Q E a.s := by
  obtain ⟨m, os, F, N, x0⟩ := st.raw
  refine wpAny_storeName_local hx.1 F.ns (fun h' hn hs => ?_) (by show (c.cs.kind == .class || (c.cs.kind == .module && _)) = false; rw [ok.hk]; rfl)
  obtain ⟨F', N'⟩ := setL F N hn hs
  exact k h' _ ⟨_, os, F', N', x0.O, x0.el, x0.nd, x0.of, x0.gd, putD x0.lo hx vr⟩ fun b o hb e => hs.extBut b o hb e
/-- a name of the frame is set: its own, or one that a comprehension reads too -/
theorem sto_ok (ok : c.OK n) (st : St c .df a.ρ a.R lm H a.s.heap) {x : Str} {v : Value} {av : AV} (vr : VR c.w a.ρ a.R v av) {Pn : Lm → Hp → Prop} (h : stoX x av lm H Pn) {Q : Unit → Shared → Prop}
    (k : ∀ lm' H' h' tk, Pn lm' H' → St c .df a.ρ a.R lm' H' h' → Q () { a.s with heap := h', toks := tk }) : wpAny (model prg c.w) c.A (storeName c.env x v) Q E a.s := by
  obtain ⟨m, _, W⟩ := st.nw
  obtain ⟨s, e, h⟩ := oX_ok h
  have q := W.lo _ (getSl_mem e)
  cases s with
  | un => exact stoL_ok ok st q vr fun h' tk st' _ => k _ _ h' tk h st'
  | av _ => exact stoL_ok ok st q.1 vr fun h' tk st' _ => k _ _ h' tk h st'
  | cell kk =>
    obtain ⟨⟨k1, k2⟩, ad, k3, k4⟩ := q
    obtain ⟨ov, hk, h⟩ := oX_ok h
    obtain ⟨m3, ad', o3, rest, F3, N3, ne, sub3, e3, r3, _, put, _⟩ := st.at (slot_is aoC_is hk) (fun q => nomatch q)
    cases Option.some.inj (e3.symm.trans k4)
    obtain ⟨v₀, hd, _⟩ := r3.inv
    refine storeX_C F3 N3 k3 (.head ne) hd (fun h' o' F' N' d' => ?_) ok.hk k1
    exact k _ _ h' a.s.toks h (put h' o' (.cell (some av)) F' N' (.cell d' vr))
  | gl _ => exact False.elim h
end
end
section
section
variable {c : Ctx} {ek : EK} {lm lm1 : Lm} {H : Hp} {sc : Scope} {E : Value → Shared → Prop} {n : Nat} {r : Rec} {a b : Wd} {k mu : Bool} {P : AV → Hp → Prop}
theorem gen1_is {gs : List Comprehension} {g : Expr × Expr × List Expr} (h : gen1 gs = some g) : gs = [⟨g.1, g.2.1, g.2.2, 0⟩] := by
  cases gs with
  | nil => exact nz h
  | cons x r =>
    cases r with
    | cons _ _ => exact nz h
    | nil =>
      rcases if_is h with ⟨q, rfl⟩ | h
      · obtain ⟨t, i, f, s⟩ := x; rw [show s = 0 from q]
      · exact nz h
theorem oneE_is {ts : List Expr} {t : Expr} (h : oneE ts = some t) : ts = [t] := by
  cases ts with
  | nil => exact nz h
  | cons x r => cases r with
    | nil => rw [show x = t from Option.some.inj h]
    | cons _ _ => exact nz h
theorem sub_ok (S : Snd c.w n r) (ok : c.OK n) (hk : k = true → ek = .df) (st : St c ek a.ρ a.R lm H a.s.heap) {v sl : Expr} {pos : Pos} (h : subX r k lm H v sl P) : WP c (PySem.eval (.Subscript v sl pos) (ek.env c)) a (VΦ c ek lm P) E := by
  have go : notSl sl = true → (r.e k false lm H v fun a H => r.e k false lm H sl fun i H => itemX a i H fun v => P v H) → WP c (PySem.eval (.Subscript v sl pos) (ek.env c)) a (VΦ c ek lm P) E := fun hs h => by
    refine Subscript_ ((S.e rfl ok hk h a E st).then fun v b l ⟨av, H1, h1, st1, vr⟩ => ?_)
    refine (S.e rfl ok hk h1 b E st1).then fun v2 b2 l2 ⟨bv, H2, h2, st2, vr2⟩ => ?_
    exact WP.le (l.trans l2) (item_ok st2 ok hs (vr.up l2.p l2.R) vr2 h2)
  cases sl with
  | Slice lo hi stp p =>
    cases lo with
    | none => cases hi <;> cases stp <;> exact False.elim h
    | some lo =>
      cases hi with
      | some _ => cases stp <;> exact False.elim h
      | none =>
        cases stp with
        | some _ => exact False.elim h
        | none => exact slice_ok S ok hk st h
  | _ => exact go rfl h
theorem e_ok (S : Snd c.w n r) (ok : c.OK n) (hk : k = true → ek = .df) {e : Expr} (h : stepE r k mu lm H e P) : JE c ek lm H (PySem.eval e (ek.env c)) P := by
  intro a E st
  cases e with
  | Name x p => exact name_ok ok h a E st
  | Constant x i p => exact const_ok h a E st
  | Tuple es i p =>
    refine Tuple_ ((args_ok S ok hk h a E st).then fun vs b l ⟨as, H1, h1, st1, vr⟩ => ?_)
    obtain ⟨hz, h1⟩ := ltB_ok h1
    obtain ⟨m, news, W⟩ := st1.nw
    exact kup_newTuple W.F W.N (fun D h' F' N' l1 => PP.up l (newS (W.stl F' N' l1) (tupX_is (n := 0) (vr.up (List.prefix_refl _) fun _ h => .tail _ h) (.head _)) h1)) (size_ok (by have := vr.length; omega))
  | List es p =>
    refine List_ ((args_ok S ok hk h a E st).then fun vs b l ⟨as, H1, h1, st1, vr⟩ => ?_)
    obtain ⟨hz, h1⟩ := ltB_ok h1
    obtain ⟨m, news, W⟩ := st1.nw
    exact newList_K W.F W.N (fun D h' F' N' l1 => PP.up l (W.newL vr h1 F' N' (ltne l1))) (size_ok (by have := vr.length; omega))
  | Dict ks vs p =>
    obtain ⟨ks', e, h⟩ := oX_ok h
    rw [someAll_is e]
    exact dict_ok S ok hk st h
  | BinOp l o r' p =>
    refine wpAny_BinOp ((S.e rfl ok hk h a E st).then fun v b l ⟨av, H1, h1, st1, vr⟩ => ?_)
    refine (S.e rfl ok hk h1 b E st1).then fun v2 b2 l2 ⟨bv, H2, h2, st2, vr2⟩ => ?_
    exact WP.le (l.trans l2) (bin_ok st2 (vr.up l2.p l2.R) vr2 h2)
  | UnaryOp o x p =>
    refine UnaryOp_ ((S.e rfl ok hk h a E st).then fun v b l ⟨av, H1, h1, st1, vr⟩ => ?_)
    exact WP.le l (un_ok st1 vr h1)
  | BoolOp op es p => exact bool_ok S ok hk h st
  | Compare l ops es p => exact cmps_ok S ok hk st h
  | IfExp t b o p =>
    refine IfExp_ ((S.t rfl ok hk h a E st).then fun q b l ⟨H1, h1, st1⟩ => ?_)
    rcases iB_ok h1 with ⟨rfl, h1⟩ | ⟨rfl, h1⟩
    · rw [if_pos rfl]; exact WP.le l (S.e rfl ok hk h1 b E st1)
    · rw [if_neg (fun q => nomatch q)]; exact WP.le l (S.e rfl ok hk h1 b E st1)
  | Attribute v x p =>
    obtain ⟨hb, h⟩ := gB_ok h
    refine Attribute_any_ ((S.e rfl ok hk h a E st).then fun v b l ⟨av, H1, h1, st1, vr⟩ => ?_) (attr_eq hb _ _ _)
    exact WP.le l (attr_ok st1 ok vr h1)
  | Subscript v sl p => exact sub_ok S ok hk st h
  | Call f as kw p =>
    obtain ⟨e, h⟩ := gB_ok h
    rw [List.isEmpty_iff] at e
    subst e
    exact call_ok S ok hk st h
  | ListComp elt gs sc p =>
    obtain ⟨e, h⟩ := gB_ok h
    obtain ⟨g, e2, h⟩ := oX_ok h
    cases hk e
    rw [gen1_is e2]
    exact list_ok S ok st h
  | DictComp ke ve gs sc p =>
    obtain ⟨e, h⟩ := gB_ok h
    obtain ⟨g, e2, h⟩ := oX_ok h
    obtain ⟨x, e3, h⟩ := oX_ok h
    obtain ⟨t, e4, h⟩ := oX_ok h
    cases hk e
    obtain ⟨px, e3⟩ := nmE_is e3
    rw [gen1_is e2, e3, oneE_is e4]
    exact dictc_ok S ok st h
  | _ => exact False.elim h
end
end
section
section
variable {c : Ctx} {ek : EK} {lm lm1 : Lm} {H : Hp} {sc : Scope} {E : Value → Shared → Prop} {n : Nat} {r : Rec} {a b : Wd} {k mu : Bool} {P : Bool → Hp → Prop}
theorem all_ok (S : Snd c.w n r) (ok : c.OK n) (hk : k = true → ek = .df) {op : BoolOp} {pos : Pos} {whole : Sem Value} {es : List Expr} : ∀ {H : Hp} {a : Wd}, allX r k op lm H es P → St c ek a.ρ a.R lm H a.s.heap → WP c (PySem.isTrue (.BoolOp op es pos) (ek.env c) whole) a (BΦ c ek lm P) E := by
  induction es with
  | nil =>
    intro H a h st
    cases op with
    | And => exact isTrue_and_nil (PP.ret Le.refl ⟨_, h, st⟩)
    | Or => exact isTrue_or_nil (PP.ret Le.refl ⟨_, h, st⟩)
  | cons e es ih =>
    intro H a h st
    cases op with
    | And =>
      refine isTrue_and ((S.t rfl ok hk h a E st).then fun q b l ⟨H1, h1, st1⟩ => ?_)
      rcases iB_ok h1 with ⟨rfl, h1⟩ | ⟨rfl, h1⟩
      · rw [if_pos rfl]; exact WP.le l (ih h1 st1)
      · rw [if_neg (fun q => nomatch q)]; exact PP.ret l ⟨_, h1, st1⟩
    | Or =>
      refine isTrue_or ((S.t rfl ok hk h a E st).then fun q b l ⟨H1, h1, st1⟩ => ?_)
      rcases iB_ok h1 with ⟨rfl, h1⟩ | ⟨rfl, h1⟩
      · rw [if_pos rfl]; exact PP.ret l ⟨_, h1, st1⟩
      · rw [if_neg (fun q => nomatch q)]; exact WP.le l (ih h1 st1)
theorem t_ok (S : Snd c.w n r) (ok : c.OK n) (hk : k = true → ek = .df) {e : Expr} (h : stepT r k lm H e P) : JB c ek lm H (PySem.isTrue e (ek.env c) (PySem.eval e (ek.env c))) P := by
  intro a E st
  have pl : PySem.isTrue e (ek.env c) (PySem.eval e (ek.env c)) = (do let v ← PySem.eval e (ek.env c); standAt e.pos; holding [v] (truthy v)) → (r.e k false lm H e fun a H => oX (boolA a) fun c => P c H) → WP c (PySem.isTrue e (ek.env c) (PySem.eval e (ek.env c))) a (BΦ c ek lm P) E := fun he h => by
    refine isTrue_plain ((S.e rfl ok hk h a E st).then fun v b l ⟨av, H1, h1, st1, vr⟩ => ?_) he
    exact WP.le l (tru_ok st1 vr h1)
  cases e with
  | UnaryOp o x p =>
    cases o with
    | Not => exact wpAny_isTrue_Not ((S.t rfl ok hk h a E st).then fun q b l ⟨H1, h1, st1⟩ => PP.ret l ⟨_, h1, st1⟩)
    | _ => exact False.elim h
  | BoolOp op es p => exact all_ok S ok hk h st
  | IfExp t b o p => exact False.elim h
  | Compare l ops es p =>
    cases ops with
    | nil => exact False.elim h
    | cons o ops =>
      cases ops with
      | cons _ _ => exact False.elim h
      | nil =>
        cases es with
        | nil => exact False.elim h
        | cons r' es =>
          cases es with
          | cons _ _ => exact False.elim h
          | nil =>
            obtain ⟨hb, h⟩ := gB_ok h
            refine wpAny_isTrue_Compare1 ((S.e rfl ok hk h a E st).then fun v b l ⟨av, H1, h1, st1, vr⟩ => ?_) (nt hb)
            refine (S.e rfl ok hk h1 b E st1).then fun v2 b2 l2 ⟨bv, H2, h2, st2, vr2⟩ => ?_
            refine (cmp_ok (P := fun q H => P q H) st2 ok (vr.up l2.p l2.R) vr2 h2).then fun v3 b3 l3 ⟨cv, H3, ⟨q, e, p⟩, st3, vr3⟩ => ?_
            subst e
            cases vr3.isB
            exact wpAny_truthy_bool (PP.ret (l.trans (l2.trans l3)) ⟨_, p, st3⟩)
  | _ => exact pl rfl h
end
end
section
section
variable {c : Ctx} {lm lm1 : Lm} {H : Hp} {E : Value → Shared → Prop} {n : Nat} {r : Rec} {a b : Wd}
noncomputable abbrev AfterS (c : Ctx) (a : Wd) (Pn : Lm → Hp → Prop) (Q : Unit → Shared → Prop) : Prop := ∀ lm' H' h' tk, Pn lm' H' → St c .df a.ρ a.R lm' H' h' → Q () { a.s with heap := h', toks := tk }
theorem stoAll_ok (ok : c.OK n) {Pn : Lm → Hp → Prop} {ts : List Expr} {xs : List Str} (nm : Nms ts xs) : ∀ {vs : List Value} {as : List AV} {lm : Lm} {H : Hp} {a : Wd} {Q : Unit → Shared → Prop}, stoAll xs as lm H Pn → VRs c.w a.ρ a.R vs as → St c .df a.ρ a.R lm H a.s.heap →
    AfterS c a Pn Q → wpAny (model prg c.w) c.A (assignInOrder ((assignEach ts c.env).map (·.2)) vs) Q E a.s := by
  induction nm with
  | nil =>
    intro vs as lm H a Q h vr st k
    exact assignInOrder_nil (k _ _ _ a.s.toks h st)
  | cons _ ih =>
    intro vs as lm H a Q h vr st k
    obtain ⟨x, e, h⟩ := oX_ok h
    rw [head_is e] at vr
    obtain ⟨u, r, rfl, v1, v2⟩ := vr.inv
    exact assignInOrder_cons (wpAny_assign_Name (sto_ok ok st v1 h fun lm' H' h' tk p st' => ih (a := ⟨{ a.s with heap := h', toks := tk }, a.ρ, a.R⟩) p v2 st' k))
theorem stoNames_ok (ok : c.OK n) {Pn : Lm → Hp → Prop} {xs : List Str} : ∀ {vs : List Value} {as : List AV} {lm : Lm} {H : Hp} {a : Wd} {Q : Unit → Shared → Prop}, stoAll xs as lm H Pn → VRs c.w a.ρ a.R vs as → St c .df a.ρ a.R lm H a.s.heap →
    AfterS c a Pn Q → wpAny (model prg c.w) c.A (assignInOrder (xs.map fun n => bindName c.env n) vs) Q E a.s := by
  induction xs with
  | nil =>
    intro vs as lm H a Q h vr st k
    exact assignInOrder_nil (k _ _ _ a.s.toks h st)
  | cons x xs ih =>
    intro vs as lm H a Q h vr st k
    obtain ⟨y, e, h⟩ := oX_ok h
    rw [head_is e] at vr
    obtain ⟨u, r, rfl, v1, v2⟩ := vr.inv
    exact assignInOrder_cons (bindName_ (sto_ok ok st v1 h fun lm' H' h' tk p st' => ih (a := ⟨{ a.s with heap := h', toks := tk }, a.ρ, a.R⟩) p v2 st' k))
theorem bindX_ok (ok : c.OK n) {tgt : Expr} {v : Value} {av : AV} {Pn : Lm → Hp → Prop} (h : bindX tgt av lm H Pn) (vr : VR c.w a.ρ a.R v av) (st : St c .df a.ρ a.R lm H a.s.heap) {Q : Unit → Shared → Prop}
    (k : AfterS c a Pn Q) : wpAny (model prg c.w) c.A (assign tgt c.env v) Q E a.s := by
  cases tgt with
  | Name x p => exact wpAny_assign_Name (sto_ok ok st vr h k)
  | Tuple ts kk tp =>
    obtain ⟨xs, hn, h⟩ := oX_ok h
    obtain ⟨as, hp, h⟩ := oX_ok h
    obtain ⟨hz, h⟩ := gB_ok h
    have nm := namesOf_is hn
    obtain ⟨p, vs, rfl, hv, ho⟩ := parts_ok st vr hp
    exact unpack_ok rfl nm ((Nat.eq_of_beq_eq_true hz).trans hv.length.symm) ho fun h' up => stoAll_ok ok nm (a := ⟨{ a.s with heap := h' }, a.ρ, a.R⟩) h hv (st.ext up) k
  | _ => exact False.elim h
theorem bindX_tgt {tgt : Expr} {av : AV} {Pn : Lm → Hp → Prop} (h : bindX tgt av lm1 H Pn) : (∃ x p, tgt = .Name x p) ∨ ∃ ts k p, tgt = .Tuple ts k p := by
  cases tgt with
  | Name x p => exact .inl ⟨_, _, rfl⟩
  | Tuple ts kk tp => exact .inr ⟨_, _, _, rfl⟩
  | _ => exact False.elim h
end
/-- nothing here speaks of a slot beyond m -/
noncomputable def AV.low (m : Nat) (a : AV) : Prop := ∀ (w : World) (ρ : List Addr) (R : Led) (v : Value), VR w ρ R v a → VR w (ρ.take m) R v a
noncomputable def AO.low (m : Nat) (a : AO) : Prop := ∀ (w : World) (ρ : List Addr) (R : Led) (ad : Addr) (o : Obj), OR w ρ R ad o a → OR w (ρ.take m) R ad o a
noncomputable def Slot.low (m : Nat) : Slot → Prop
  | .av a => a.low m
  | .cell k => k < m
  | _ => True
structure Cut (m : Nat) (lm : Lm) (H : Hp) : Prop where
  l : ∀ p ∈ lm, p.2.low m
  o : ∀ x ∈ H, x.low m
theorem take_get {α : Type} {l : List α} {m k : Nat} (h : k < m) : (l.take m)[k]? = l[k]? := by rw [List.getElem?_take]; exact if_pos h
theorem ORs.take {w : World} {ρ : List Addr} {R : Led} {m : Nat} {ads : List Addr} {os : List Obj} {as : List AO} (h : ORs w ρ R ads os as) : ∀ (k : Nat), (∀ x ∈ as.take k, x.low m) → ORs w (ρ.take m) R (ads.take k) (os.take k) (as.take k) := by
  induction h with
  | nil => intro k _; rw [List.take_nil, List.take_nil, List.take_nil]; exact .nil
  | cons r _ ih =>
    intro k hk
    cases k with
    | zero => exact .nil
    | succ k => exact .cons (hk _ (.head _) _ _ _ _ _ r) (ih k fun x hx => hk x (.tail _ hx))
theorem St.cut {c : Ctx} {ρ : List Addr} {R : Led} {lm : Lm} {H : Hp} {h : Heap} {m : Nat} (st : St c .df ρ R lm H h) (x : Cut m lm (H.take m)) : St c .df (ρ.take m) R lm (H.take m) h := by
  obtain ⟨m', os, F, N, y⟩ := st.raw
  refine Raw.st (m := m') (os := os.take m) ⟨y.O.take m x.o, by rw [List.length_take, List.length_take, y.el], y.nd.sublist (List.take_sublist _ _), fun p hp k hk => ?_, fun p hp => ⟨fun q => (y.gd p hp).1 (List.mem_of_mem_take q), (y.gd p hp).2⟩, fun p hp => ?_⟩ F fun p hp => ?_
  · rcases Nat.lt_or_ge k m with l | l
    · rw [take_get l] at hk ⊢; exact y.of p hp k hk
    · rw [List.getElem?_eq_none (by rw [List.length_take]; omega)] at hk; exact nz hk
  · have q := y.lo p hp
    have q2 := x.l p hp
    obtain ⟨z, sl⟩ := p
    cases sl with
    | un => exact q
    | av b => obtain ⟨q1, v, q3, q4⟩ := q; exact ⟨q1, v, q3, q2 _ _ _ _ q4⟩
    | cell k => obtain ⟨q1, ad, q3, q4⟩ := q; exact ⟨q1, ad, q3, (take_get q2).trans q4⟩
    | gl b => exact q
  · rcases List.mem_append.mp hp with hp | hp
    · refine N p (List.mem_append_left _ ?_)
      obtain ⟨i, hi⟩ := List.mem_iff_getElem?.mp hp
      obtain ⟨i1, i2⟩ := List.getElem?_zip_eq_some.mp hi
      rcases Nat.lt_or_ge i m with l | l
      · rw [take_get l] at i1 i2; exact zip_in i1 i2
      · rw [List.getElem?_eq_none (by rw [List.length_take]; omega)] at i1; exact nz i1
    · exact N p (List.mem_append_right _ hp)
section
variable {c : Ctx} {lm lm1 : Lm} {H : Hp} {E : Value → Shared → Prop} {n : Nat} {r : Rec} {a b : Wd}
/-- after a turn: on with the loop, what the turn has left behind may be cut off -/
noncomputable def NextT (m₀ : Nat) (T : Lm → Hp → Prop) (lm : Lm) (H : Hp) : Prop := T lm H ∨ ∃ m, m₀ ≤ m ∧ Cut m lm (H.take m) ∧ T lm (H.take m)
/-- a loop, by what holds ahead of each turn -/
theorem for_core (ok : c.OK n) (pe : PassesOwn (model prg c.w) c.A c.env E) (st : St c .df a.ρ a.R lm H a.s.heap) {v : Value} {src : AV} (vr : VR c.w a.ρ a.R v src) {tgt : Expr} {body : List Stmt} {Pn : Lm → Hp → Prop} {Pr : AV → Hp → Prop} (e0 : (srcX src H 0).isSome = true) {T : Nat → Nat → Lm → Hp → Prop} {k₀ : Nat} (h0 : T k₀ 0 lm H)
    (turn : ∀ k i lm' H', T k i lm' H' → ∃ x, srcX src H' i = some x ∧ match x with
      | none => Pn lm' H'
      | some x => ∃ k', k' < k ∧ bindX tgt x lm' H' fun lm₁ H₁ => ∀ c' : Ctx, c'.w = c.w → c'.OK n → JS c' lm₁ H₁ (execs body c'.env) (NextT H.length (T k' (i + 1))) Pr) :
    wpAny (model prg c.w) c.A (pyIter v) (fun it s₂ => codeAny (model prg c.w) c.A (.forLoop tgt it body [] c.env) (fun r s' => match r with | .ok f => PP a (FΦ c Pn Pr) f s' | .error e => cameBackBy (model prg c.w) c.A c.env E e s') s₂) E a.s := by
  have eH : a.ρ.length = H.length := by obtain ⟨_, _, W⟩ := st.nw; exact W.el
  refine iter_ok st vr e0 fun Zo h₁ oI up₁ hs₁ W eI₁ z₁ => ?_
  have oI₀ := st.fresh (Nat.le_refl a.s.heap.objs.size)
  generalize hI : a.s.heap.objs.size = I at *
  refine codeAny_forLoop_any (fun k s' => ∃ b' i lm' H' o', b'.s = s' ∧ Le a b' ∧ St c .df b'.ρ b'.R lm' H' b'.s.heap ∧ Off c b'.ρ b'.R I ∧ b'.s.heap.get? I = some o' ∧ Zo i o' ∧ T k i lm' H') ?_ k₀ ⟨⟨{ a.s with heap := h₁ }, a.ρ, a.R⟩, 0, lm, H, oI, rfl, ⟨⟨_, _, rfl⟩, List.prefix_refl _, fun _ h => h⟩, st.ext up₁, oI₀, eI₁, z₁, h0⟩
  rintro k s' ⟨b', i, lm', H', o', rfl, l', st', off', eI', z', h'⟩
  obtain ⟨x, hx, h'⟩ := turn k i lm' H' h'
  cases x with
  | none =>
    refine W.done st' l'.p l'.R eI' z' hx fun h₂ tk₂ k₂ => ?_
    refine wpAny_execs_nil ?_
    exact PP.ret (b := ⟨{ b'.s with heap := h₂, toks := tk₂ }, b'.ρ, b'.R⟩) (l'.trans ⟨⟨_, _, rfl⟩, List.prefix_refl _, fun _ h => h⟩) ⟨lm', H', h', st'.but off' k₂⟩
  | some x =>
    obtain ⟨k', hk, h'⟩ := h'
    refine W.item st' l'.p l'.R eI' z' hx fun v h₂ tk₂ o₂ vx e₂ z₂ k₂ => ?_
    refine skip_ok e₂ (W.io z₂) (bindX_tgt h') ?_
    have st₃ : St (c.gho [(I, o₂)]) .df b'.ρ b'.R lm' H' h₂ := (st'.but off' k₂).hide (fun p hp => by rw [List.mem_singleton.mp hp]; exact ⟨e₂, off'⟩) fun m lo => lo
    refine wpAny_passesOwn pe (bindX_ok (c := c.gho [(I, o₂)]) (a := ⟨{ b'.s with heap := h₂, toks := tk₂ }, b'.ρ, b'.R⟩) (ok.gh _) h' vx st₃ fun lm2 H2 h₃ tk₃ hp st₄ => ?_)
    refine wpAny_passesOwn pe (wpAny_mono (hp (c.gho [(I, o₂)]) rfl (ok.gh _) ⟨{ b'.s with heap := h₃, toks := tk₃ }, b'.ρ, b'.R⟩ E pe st₄) (fun f s' ⟨b₅, e, l₅, q⟩ => ?_) fun _ _ e => e)
    subst e
    have l₆ : Le a b₅ := l'.trans (Le.trans (b := ⟨{ b'.s with heap := h₃, toks := tk₃ }, b'.ρ, b'.R⟩) ⟨⟨_, _, rfl⟩, List.prefix_refl _, fun _ h => h⟩ l₅)
    have back : ∀ {lm' : Lm} {H' : Hp}, St (c.gho [(I, o₂)]) .df b₅.ρ b₅.R lm' H' b₅.s.heap → St c .df b₅.ρ b₅.R lm' H' b₅.s.heap ∧ b₅.s.heap.get? I = some o₂ ∧ Off c b₅.ρ b₅.R I := fun {lm' H'} st => by
      obtain ⟨st', hg⟩ := st.show' (ek' := .df) (lm' := lm') (fun p hp => by rw [List.mem_singleton.mp hp]; exact off'.2.2.2.2) fun m lo => lo
      exact ⟨st', (hg (I, o₂) (.head _)).1, (hg (I, o₂) (.head _)).2⟩
    cases f with
    | next =>
      obtain ⟨lm6, H6, h6, st6⟩ := q
      obtain ⟨st7, g7, o7⟩ := back st6
      rcases h6 with h6 | ⟨m, hm, hc, h6⟩
      · exact ⟨k', hk, b₅, i + 1, lm6, H6, o₂, rfl, l₆, st7, o7, g7, z₂, h6⟩
      · refine ⟨k', hk, ⟨b₅.s, b₅.ρ.take m, b₅.R⟩, i + 1, lm6, _, o₂, rfl, ⟨l₆.s, ?_, l₆.R⟩, st7.cut hc, ⟨o7.1, o7.2.1, fun q => o7.2.2.1 (List.mem_of_mem_take q), o7.2.2.2⟩, g7, z₂, h6⟩
        exact List.prefix_take_iff.mpr ⟨l₆.p, eH ▸ hm⟩
    | ret v =>
      obtain ⟨lm6, av6, H6, h6, st6, vr6⟩ := q
      exact PP.ret l₆ ⟨lm6, av6, H6, h6, (back st6).1, vr6⟩
    | _ => exact q.elim
theorem stoX_mono {x : Str} {av : AV} {Pn Pn' : Lm → Hp → Prop} (h : stoX x av lm H Pn) (k : ∀ lm H, Pn lm H → Pn' lm H) : stoX x av lm H Pn' := by
  obtain ⟨s, e, h⟩ := oX_ok h
  unfold stoX
  rw [e]
  cases s with
  | un => exact k _ _ h
  | av _ => exact k _ _ h
  | cell kk =>
    obtain ⟨o, e, h⟩ := oX_ok h
    show oX ((H[kk]?).bind aoC) _
    rw [e]
    exact k _ _ h
  | gl _ => exact False.elim h
theorem bindX_mono {tgt : Expr} {av : AV} {Pn Pn' : Lm → Hp → Prop} (h : bindX tgt av lm H Pn) (k : ∀ lm H, Pn lm H → Pn' lm H) : bindX tgt av lm H Pn' := by
  cases tgt with
  | Name x p => exact stoX_mono h k
  | Tuple ts kk tp =>
    obtain ⟨xs, hn, h⟩ := oX_ok h
    obtain ⟨as, hp, h⟩ := oX_ok h
    obtain ⟨hz, h⟩ := gB_ok h
    have go : ∀ {xs : List Str} {as : List AV} {lm : Lm} {H : Hp}, stoAll xs as lm H Pn → stoAll xs as lm H Pn' := fun {xs} => by
      induction xs with
      | nil => intro as lm H h; exact k _ _ h
      | cons x xs ih =>
        intro as lm H h
        obtain ⟨y, e, h⟩ := oX_ok h
        unfold stoAll
        rw [e]
        exact stoX_mono h fun _ _ h => ih h
    show oX (namesOf ts) _
    rw [hn]
    show oX (partsX av) _
    rw [hp]
    show gB _ _
    rw [hz]
    exact go h
  | _ => exact False.elim h
theorem JS.mono {t : Sem Flow} {Pn Pn' : Lm → Hp → Prop} {Pr : AV → Hp → Prop} (h : JS c lm H t Pn Pr) (k : ∀ lm H, Pn lm H → Pn' lm H) : JS c lm H t Pn' Pr := fun a E pe st => (h a E pe st).then fun f b l q => PP.ret l (by
  cases f with
  | next => obtain ⟨lm', H', h', st'⟩ := q; exact ⟨lm', H', k _ _ h', st'⟩
  | ret v => exact q
  | _ => exact False.elim q)
/-- a loop over what is known -/
theorem for_ok (S : Snd c.w n r) (ok : c.OK n) (pe : PassesOwn (model prg c.w) c.A c.env E) (st : St c .df a.ρ a.R lm H a.s.heap) {tgt it : Expr} {body : List Stmt} {pos : Pos} {Pn : Lm → Hp → Prop} {Pr : AV → Hp → Prop} (hs : notSet it = true)
    (h : r.e true false lm H it fun a H => gB (srcX a H 0).isSome (iB (isSym a H || r.ls pos.line) (r.l pos.line tgt body a lm H Pn Pr) (forX r tgt body a Pn Pr 800 0 lm H))) : WP c (exec (.For tgt it body [] pos) c.env) a (FΦ c Pn Pr) E := by
  refine wpAny_For ((S.e (ek := .df) rfl ok (fun _ => rfl) h a E st).then fun v a1 l ⟨av, H1, h1, st1, vr⟩ => ?_) (notSet_is hs _)
  obtain ⟨e0, h1⟩ := gB_ok h1
  have up : ∀ {t : Sem Value} {G : Wd → Result → Shared → Prop}, wpAny (model prg c.w) c.A t (fun it s₂ => codeAny (model prg c.w) c.A (.forLoop tgt it body [] c.env) (fun r s' => match r with | .ok f => PP a1 (FΦ c Pn Pr) f s' | .error e => cameBackBy (model prg c.w) c.A c.env E e s') s₂) E a1.s →
      wpAny (model prg c.w) c.A t (fun it s₂ => codeAny (model prg c.w) c.A (.forLoop tgt it body [] c.env) (fun r s' => match r with | .ok f => PP a (FΦ c Pn Pr) f s' | .error e => cameBackBy (model prg c.w) c.A c.env E e s') s₂) E a1.s := fun q => wpAny_mono q (fun it s₂ q => codeAny_mono q fun r s' q => by
        cases r with
        | ok f => exact PP.up l q
        | error e => exact q) fun _ _ e => e
  refine up (G := fun _ _ _ => True) ?_
  rcases iB_ok h1 with ⟨_, h1⟩ | ⟨_, h1⟩
  · exact S.l h1 c a1 v E rfl ok pe st1 vr
  · refine for_core (T := fun k i lm H => forX r tgt body av Pn Pr k i lm H) ok pe st1 vr e0 h1 fun k i lm' H' h' => ?_
    cases k with
    | zero => exact False.elim h'
    | succ k =>
      obtain ⟨x, hx, h'⟩ := oX_ok h'
      refine ⟨x, hx, ?_⟩
      cases x with
      | none => exact h'
      | some x => exact ⟨k, Nat.lt_succ_self _, bindX_mono h' fun lm₁ H₁ h₁ c' hw ok' => JS.mono (S.s hw ok' h₁) fun _ _ h => .inl h⟩
theorem while_ok (S : Snd c.w n r) (ok : c.OK n) (pe : PassesOwn (model prg c.w) c.A c.env E) (st : St c .df a.ρ a.R lm H a.s.heap) {t : Expr} {body : List Stmt} {pos : Pos} {Pn : Lm → Hp → Prop} {Pr : AV → Hp → Prop} {fu : Nat}
    (h : whileX r t body fu lm H Pn Pr) : WP c (exec (.While t body [] pos) c.env) a (FΦ c Pn Pr) E := by
  refine wpAny_While (codeAny_whileLoop (fun k s' => ∃ b' lm' H', b'.s = s' ∧ Le a b' ∧ St c .df b'.ρ b'.R lm' H' b'.s.heap ∧ whileX r t body k lm' H' Pn Pr) ?_ fu ⟨a, lm, H, rfl, Le.refl, st, h⟩)
  rintro k s' ⟨b', lm', H', rfl, l', st', h'⟩
  cases k with
  | zero => exact False.elim h'
  | succ k =>
    refine wpAny_passesOwn pe ((S.t (ek := .df) rfl ok (fun _ => rfl) h' b' E st').then fun q b l ⟨H1, h1, st1⟩ => ?_)
    rcases iB_ok h1 with ⟨rfl, h1⟩ | ⟨rfl, h1⟩
    · rw [if_pos rfl]
      refine wpAny_passesOwn pe ((S.s rfl ok h1 b E pe st1).then fun f b2 l2 q => ?_)
      cases f with
      | next =>
        obtain ⟨lm6, H6, h6, st6⟩ := q
        exact ⟨k, Nat.lt_succ_self _, b2, lm6, H6, rfl, l'.trans (l.trans l2), st6, h6⟩
      | ret v =>
        obtain ⟨lm6, av6, H6, h6, st6, vr6⟩ := q
        exact PP.ret (l'.trans (l.trans l2)) ⟨lm6, av6, H6, h6, st6, vr6⟩
      | _ => exact q.elim
    · rw [if_neg (fun q => nomatch q)]
      exact wpAny_execs_nil (PP.ret (l'.trans l) ⟨lm', H1, h1, st1⟩)
end
end
section
section
variable {prog : Program} {w : World} {A : Around} {E : Value → Shared → Prop} {s : Shared}
theorem li_ok {a : Addr} {o : Obj} {xs : Array Value} {n : Nat} {Q : Array Value → Shared → Prop} (ho : s.heap.get? a = some o) (hd : o.data = .seq xs n) (h : Q xs s) : wpAny (model prog w) A (Builtin.List.listItems (.ref a)) Q E s := by
  unfold Builtin.List.listItems
  exact wpAny_bind (wpAny_seqItems ho hd (wpAny_pure h))
theorem lai_ok {a : Addr} {o : Obj} {xs : Array Value} {n : Nat} {m : String} {Q : Array Value → Shared → Prop} (T : s.TypeIs (.ref a) "list") (ho : s.heap.get? a = some o) (hd : o.data = .seq xs n) (h : Q xs s) : wpAny (model prog w) A (Builtin.List.listAllItems (.ref a) m) Q E s := by
  unfold Builtin.List.listAllItems
  refine wpAny_bind (wpAny_typeOf T ?_)
  rw [if_pos (by decide)]
  exact li_ok ho hd h
/-- all of a list is stored anew: xs[:] = ys -/
theorem setSlice_all {l b sl : Addr} {its new : Array Value} {n : Nat} {Q : Unit → Shared → Prop} (ho : s.heap.get? l = some (listOf its n)) (hb : s.heap.IsList b new) (hne : l ≠ b) (hs : s.heap.IsSliceOf sl .none .none .none) (hz : its.size ≤ 1000) (hz2 : new.size ≤ 1000)
    (h : ∀ f : Array Value → Array Value, f its = new → Q () { s with heap := s.heap.update l (Obj.mapSeq f) }) : wpAny (model prog w) A (setItem (.ref l) (.ref sl) (.ref b)) Q E s := by
  have hl : s.heap.IsList l its := PySem.IsL.isList (n := n) ho
  have hlm : its.size ≤ sizeLine := by rw [sizeLine_eq]; omega
  obtain ⟨ob, hob, hcb, nb, hdb⟩ := id hb
  obtain ⟨os, hos, hcs, hds⟩ := id hs
  have hTs : s.TypeIs (.ref sl) "slice" := ⟨os, hos, hcs⟩
  unfold setItem
  try with_reducible refine wpAny_holding ?_
  first | refine wpAny_bind (wpAny_pure ?_) | skip
  refine wpAny_bind (wpAny_sequenceKey hl.typeIs (by decide) ?_)
  refine wpAny_bind (wpAny_callSpecial?_slot (name := Str.ofString "__setitem__") hl.typeIs slot_list_setitem
    (wpAny_call_entry slot_list_setitem hl.typeIs entry_list_setitem ?_ (args_list_setitem _ _ _)))
  show wpAny _ _ (Builtin.List.listSubscript? (.ref sl) >>= _) _ _ s
  refine wpAny_bind ?_
  unfold Builtin.List.listSubscript?
  refine wpAny_bind (wpAny_specialOf hTs slice_no_index ?_)
  simp only [Option.isNone_none, if_true]
  refine wpAny_pure ?_
  show wpAny _ _ (typeOf (.ref sl) >>= _) _ _ s
  refine wpAny_bind (wpAny_typeOf hTs ?_)
  rw [if_neg (by decide)]
  rw [listSliceParts_eq]
  refine wpAny_bind (wpAny_bind (wpAny_field hos hds (x := .none) rfl (wpAny_bind (wpAny_listPart .none ?_))))
  rw [if_neg (show ¬ ((rawPart none == rawInt 0) = true) from Bool.false_ne_true)]
  refine wpAny_bind (wpAny_field hos hds (x := .none) rfl (wpAny_bind (wpAny_listPart .none ?_)))
  refine wpAny_bind (wpAny_field hos hds (x := .none) rfl (wpAny_bind (wpAny_listPart .none (wpAny_pure ?_))))
  have T : s.TypeIs (.ref b) "list" := ⟨ob, hob, hcb⟩
  rw [if_neg (show ¬ Builtin.List.listSameRef (.ref l) (.ref b) = true from fun q => hne (by simpa [Builtin.List.listSameRef] using q))]
  refine wpAny_bind (lai_ok T hob hdb ?_)
  refine wpAny_bind (li_ok ho rfl ?_)
  refine wpAny_bind (wpAny_of_eq (sliceIndices_raw none none none its.size (by simp)) ?_)
  have e1 : sliceBounds none none none its.size = ((0 : Int), (its.size : Int), 1) := by simp [sliceBounds]
  rw [e1]
  rw [if_pos (by rfl)]
  refine wpAny_bind (wpAny_rule ?_)
  rw [if_neg (show ¬ Builtin.List.listTooLong (its.size + new.size) = true from fun q => by
    have : its.size + new.size > sizeLine := of_decide_eq_true q
    rw [sizeLine_eq] at this; omega)]
  have e2 : its.extract 0 (0 : Int).toNat ++ new ++ its.extract (max (0 : Int) (its.size : Int)).toNat its.size = new := by
    have : (max (0 : Int) (its.size : Int)).toNat = its.size := by omega
    rw [this]; simp
  refine wpAny_bind (wpAny_updateSeq (xs := its) (n := n) ho rfl ?_ hlm ?_)
  · exact wpAny_bind (wpAny_letGo (wpAny_pure ⟨.none, rfl, wpAny_pure (h _ e2)⟩))
  · rw [e2, sizeLine_eq]; omega
end
end
section
section
variable {c : Ctx} {lm lm1 : Lm} {H : Hp} {E : Value → Shared → Prop} {n : Nat} {r : Rec} {a b : Wd}
theorem lcl_kind {ρ : List Addr} {R : Led} {m : Str → Option Value} (lo : ∀ p ∈ lm, SlD c ρ R m p.1 p.2) {line : Nat} {x : Str} {p : Pos} (h : lclAt lm line (.Name x p) = true) : c.env.kindOf x = some .local ∧ (p.line == line) = true := by
  unfold lclAt at h
  dsimp only at h
  cases e : getSl x lm with
  | none => rw [e] at h; exact fz h
  | some sl =>
    rw [e] at h
    cases sl with
    | un => exact ⟨(lo _ (getSl_mem e)).1, h⟩
    | av _ => exact ⟨(lo _ (getSl_mem e)).1.1, h⟩
    | _ => exact fz h
theorem names_are {ρ : List Addr} {R : Led} {m : Str → Option Value} (lo : ∀ p ∈ lm, SlD c ρ R m p.1 p.2) {line : Nat} {ts : List Expr} {xs : List Str} (nm : Nms ts xs) (h : ts.all (lclAt lm line) = true) : (ts.filterMap fun
    | .Name id pos => if c.env.kindOf id == some .local && pos.line == line then some id else none
    | _ => none) = xs := by
  induction nm with
  | nil => rfl
  | cons nm ih =>
    rw [List.all_cons, Bool.and_eq_true] at h
    obtain ⟨k1, k2⟩ := lcl_kind lo h.1
    rw [List.filterMap_cons]
    dsimp only
    rw [k1, k2]
    simp only [beq_self_eq_true, Bool.and_self, if_true]
    rw [ih h.2]
theorem Nms.len2 {ts : List Expr} {xs : List Str} (nm : Nms ts xs) : xs.length = ts.length := by
  induction nm with
  | nil => rfl
  | cons _ ih => show _ + 1 = _ + 1; rw [ih]
theorem tupE_is {v : Expr} {vs : List Expr} (h : tupE v = some vs) : ∃ k p, v = .Tuple vs k p := by
  cases v with
  | Tuple ws k p => exact ⟨k, p, by rw [show ws = vs from Option.some.inj h]⟩
  | _ => exact nz h
theorem swap_true (ok : c.OK n) {ρ : List Addr} {R : Led} {m : Str → Option Value} (lo : ∀ p ∈ lm, SlD c ρ R m p.1 p.2) {ts vs : List Expr} {xs : List Str} {k k' : Nat} {p p' : Pos} (nm : Nms ts xs) (h : isST (swpX lm ts vs) = true) (hd : (xs.eraseDups.length == xs.length) = true) : swappedStores [.Tuple ts k p] (.Tuple vs k' p') c.env = pure (some xs) := by
  unfold swpX at h
  cases h1 : (ts.length == 2 || ts.length == 3) with
  | false => rw [h1] at h; exact fz h
  | true =>
    rw [h1] at h
    cases h2 : (((vs.length == ts.length && vs.all notSt) && ts.all (lclAt lm ((ts.head?.map (·.pos.line)).getD 0))) && (!(vs.all (foldedForSure 8)) && !(vs.all (constantsAlone 8)))) with
    | false => rw [h2] at h; exact fz h
    | true =>
      simp only [Bool.and_eq_true, Bool.not_eq_true'] at h2
      obtain ⟨⟨⟨a1, a2⟩, a3⟩, a4, a5⟩ := h2
      have e1 := names_are lo nm a3
      have len : xs.length = ts.length := nm.len2
      have bk : c.env.blockKind = .function := by unfold Env.blockKind; show (if c.cs.kind.isAnnotationScope = true then _ else c.cs.kind) = _; rw [ok.hk]; rfl
      have ns : (vs.any fun | .Starred .. => true | _ => false) = false := by
        rw [List.any_eq_false]
        intro x hx
        have := List.all_eq_true.mp a2 x hx
        cases x <;> simp_all [notSt]
      unfold swappedStores
      dsimp only
      have hv : (vs.length != ts.length) = false := by simpa using a1
      have hb : (c.env.blockKind != .function) = false := by rw [bk]; rfl
      rw [h1, hv, hb]
      simp only [Bool.not_true, Bool.or_self, Bool.false_eq_true, if_false]
      refine (if_neg fun q => Bool.noConfusion (ns.symm.trans q)).trans ?_
      have l1 : (xs.length != ts.length) = false := by rw [len]; simp
      have l2 : (xs.eraseDups.length != xs.length) = false := by simpa using hd
      have go : ∀ ys : List Str, ys = xs → (if (ys.length != ts.length || ys.eraseDups.length != ys.length) = true then pure none else if vs.all (foldedForSure 8) = true then pure none else if vs.all (constantsAlone 8) = true then (do unsupported "assign.tuple-of-constant-expressions:order-of-the-stores"; pure (some ys)) else pure (some ys) : Sem (Option (List Str))) = pure (some xs) := by
        rintro _ rfl
        rw [l1, l2, a4, a5]
        rfl
      exact go _ e1
end
end
section
section
variable {c : Ctx} {lm lm1 : Lm} {H : Hp} {E : Value → Shared → Prop} {n : Nat} {r : Rec} {a b : Wd} {sc : Scope}
theorem swap_false {ts vs : List Expr} {k k' : Nat} {p p' : Pos} {env : Env} (h : isSF (swpX lm ts vs) = true) : swappedStores [.Tuple ts k p] (.Tuple vs k' p') env = pure none := by
  unfold swpX at h
  cases h1 : (ts.length == 2 || ts.length == 3) with
  | false =>
    unfold swappedStores
    dsimp only
    rw [h1]
    rfl
  | true =>
    rw [h1] at h
    cases h2 : (((vs.length == ts.length && vs.all notSt) && ts.all (lclAt lm ((ts.head?.map (·.pos.line)).getD 0))) && (!(vs.all (foldedForSure 8)) && !(vs.all (constantsAlone 8)))) with
    | false => rw [h2] at h; exact fz h
    | true => rw [h2] at h; exact fz h
theorem swap_not {ts : List Expr} {v : Expr} {k : Nat} {p : Pos} {env : Env} : tupE v = none → swappedStores [.Tuple ts k p] v env = pure none := by
  refine Expr.casesOn v ?_ ?_ ?_ ?_ ?_ ?_ ?_ ?_ ?_ ?_ ?_ ?_ ?_ ?_ ?_ ?_ ?_ ?_ ?_ ?_ ?_ ?_ ?_ ?_ ?_ ?_ ?_ <;> intros <;> first | rfl | exact nz (Eq.symm ‹_›)
theorem swaps_no {v : Expr} {t : Option Expr} {l : Nat} {env : Env} (h : notComp v = true) : swapsWith v t l env = pure false := by
  revert h
  refine Expr.casesOn v ?_ ?_ ?_ ?_ ?_ ?_ ?_ ?_ ?_ ?_ ?_ ?_ ?_ ?_ ?_ ?_ ?_ ?_ ?_ ?_ ?_ ?_ ?_ ?_ ?_ ?_ ?_ <;> intros <;> first | rfl | exact fz ‹_›
theorem sole_tup {v : Expr} {ts : List Expr} {k l : Nat} {p : Pos} {env : Env} : swapsWithSole [.Tuple ts k p] v l env = pure false := by
  refine Expr.casesOn v ?_ ?_ ?_ ?_ ?_ ?_ ?_ ?_ ?_ ?_ ?_ ?_ ?_ ?_ ?_ ?_ ?_ ?_ ?_ ?_ ?_ ?_ ?_ ?_ ?_ ?_ ?_ <;> intros <;> rfl
theorem swaps_at {v o s : Expr} {l : Nat} {p : Pos} {env : Env} : swapsWith v (some (.Subscript o s p)) l env = pure false := by
  refine Expr.casesOn v ?_ ?_ ?_ ?_ ?_ ?_ ?_ ?_ ?_ ?_ ?_ ?_ ?_ ?_ ?_ ?_ ?_ ?_ ?_ ?_ ?_ ?_ ?_ ?_ ?_ ?_ ?_ <;> intros <;> rfl
theorem swaps_attr {v o : Expr} {s : Str} {l : Nat} {p : Pos} {env : Env} : swapsWith v (some (.Attribute o s p)) l env = pure false := by
  refine Expr.casesOn v ?_ ?_ ?_ ?_ ?_ ?_ ?_ ?_ ?_ ?_ ?_ ?_ ?_ ?_ ?_ ?_ ?_ ?_ ?_ ?_ ?_ ?_ ?_ ?_ ?_ ?_ ?_ <;> intros <;> rfl
/-- the made thing goes to its name, then the comprehension's frame goes -/
theorem usedFin (ok : c.OK n) {C D : Addr} {x : Str} {px : Pos} {Pn : Lm → Hp → Prop} {Pr : AV → Hp → Prop} {m₃ : Str → Option Value} {a b : Wd} (hx : c.cs.names.lookup x = some .local) (l : Le a b) (q : VΦ c .df lm (fun a H => stoX x a lm H Pn) (.ref D) b) (oC : Off c b.ρ b.R C) (ns : b.s.heap.Ns C m₃) :
    wpAny (model prg c.w) c.A (assign (.Name x px) c.env (.ref D)) (fun _ s'' => ∃ m, s''.heap.Ns C m ∧ ∀ h', Heap.SameBut C s''.heap h' → PP a (FΦ c Pn Pr) .next { s'' with heap := h' }) E b.s := by
  obtain ⟨av, H1, h1, st, vr⟩ := q
  obtain ⟨m, _, W⟩ := st.nw
  have go : (c.cs.names.lookup x = some .local ∧ noDbg x) → Pn (putSl x (.av av) lm) H1 → wpAny (model prg c.w) c.A (assign (.Name x px) c.env (.ref D)) (fun _ s'' => ∃ m, s''.heap.Ns C m ∧ ∀ h', Heap.SameBut C s''.heap h' → PP a (FΦ c Pn Pr) .next { s'' with heap := h' }) E b.s := fun hk hp => by
    refine wpAny_assign_Name (stoL_ok ok st hk vr fun h' tk st' up => ?_)
    refine ⟨m₃, ns.at' fun o e => up _ o oC.1 e, fun h'' hs'' => ?_⟩
    exact PP.ret (b := ⟨{ b.s with heap := h'', toks := tk }, b.ρ, b.R⟩) (l.trans ⟨⟨_, _, rfl⟩, List.prefix_refl _, fun _ h => h⟩) ⟨_, _, hp, st'.but oC fun b o hb e => hs''.extBut b o hb e⟩
  obtain ⟨s, e, h1⟩ := oX_ok h1
  have q := W.lo _ (getSl_mem e)
  cases s with
  | un => exact go q h1
  | av _ => exact go q.1 h1
  | cell _ =>
    have := q.1.1
    rw [hx] at this
    cases this
  | gl _ => exact False.elim h1
theorem asgList (S : Snd c.w n r) (ok : c.OK n) (st : St c .df a.ρ a.R lm H a.s.heap) {elt tgt it : Expr} {ifs : List Expr} {x : Str} {px pos spos : Pos} {mu : Bool} {Pn : Lm → Hp → Prop} {Pr : AV → Hp → Prop} (h : listX r mu lm H elt tgt it ifs sc fun a H => stoX x a lm H Pn) : WP c (exec (.Assign [.Name x px] (.ListComp elt [⟨tgt, it, ifs, 0⟩] sc pos) spos) c.env) a (FΦ c Pn Pr) E := by
  obtain ⟨B, hB, hk⟩ : ∃ B, swapsWith (.ListComp elt [⟨tgt, it, ifs, 0⟩] sc pos) (some (.Name x px)) spos.line c.env = pure B ∧ (B = true → c.env.kindOf x = some .local) := ⟨_, rfl, fun q => by simp only [Bool.and_eq_true, beq_iff_eq] at q; exact q.1.1.2⟩
  cases B with
  | false =>
    refine wpAny_Assign_Name ((list_ok S ok st h).then fun v b l ⟨av, H1, h1, st1, vr⟩ => ?_) hB
    exact sto_ok ok st1 vr h1 fun lm' H' h' tk p st' => PP.ret (b := ⟨{ b.s with heap := h', toks := tk }, b.ρ, b.R⟩) (l.trans ⟨⟨_, _, rfl⟩, List.prefix_refl _, fun _ h => h⟩) ⟨_, _, p, st'⟩
  | true =>
    have hx := hk rfl
    · obtain ⟨hc, h⟩ := gB_ok h
      rw [Bool.and_eq_true] at hc
      obtain ⟨cok, hs⟩ := hc
      obtain ⟨hnames, hcell, hkind⟩ := comp_names cok
      obtain ⟨m, _, W⟩ := st.nw
      show wpAny _ _ _ _ _ _
      rw [exec_Assign_Name_used _ _ _ _ hB]
      refine wpAny_bind (wpAny_standAt (wpAny_bind ?_))
      show wpAny _ _ (do let _ ← comprehension (.ListComp elt [⟨tgt, it, ifs, 0⟩] sc pos) sc c.env _ (newList []) false (PySem.eval it c.env) (some (assign (.Name x px) c.env))) _ _ a.s
      refine wpAny_bind (wpAny_mono (wpAny_comprehension_free (use := some (assign (.Name x px) c.env)) (Q := fun _ s' => PP a (FΦ c Pn Pr) .next s') rfl (notSet_is hs _) (clo_ok cok W.lo).1 hkind hnames ((S.e (ek := .df) rfl ok (fun _ => rfl) h a _ st).then fun v b l ⟨av, H1, h1, st1, vr⟩ => ?_)) (fun _ s' hq => wpAny_pure (wpAny_pure hq)) fun _ _ e => e)
      · refine listComp_core S ok st1 cok vr h1 fun D C b' ys as H' m₃ l' p vys cs ne => ?_
        obtain ⟨b9, e9, l9, q9, o9⟩ := made_list (b := b') (s := b'.s) cs.st cs.oD cs.hD vys p (l.trans l')
        rw [← e9]
        exact usedFin ok hx l9 q9 (o9 C ne.cd cs.oC) (e9 ▸ cs.ns)
theorem asgDict (S : Snd c.w n r) (ok : c.OK n) (st : St c .df a.ρ a.R lm H a.s.heap) {ke ve it t : Expr} {x y : Str} {px py pos spos : Pos} {mu : Bool} {Pn : Lm → Hp → Prop} {Pr : AV → Hp → Prop} (h : dictcX r mu lm H ke ve it t y sc fun a H => stoX x a lm H Pn) : WP c (exec (.Assign [.Name x px] (.DictComp ke ve [⟨.Name y py, it, [t], 0⟩] sc pos) spos) c.env) a (FΦ c Pn Pr) E := by
  obtain ⟨B, hB, hk⟩ : ∃ B, swapsWith (.DictComp ke ve [⟨.Name y py, it, [t], 0⟩] sc pos) (some (.Name x px)) spos.line c.env = pure B ∧ (B = true → c.env.kindOf x = some .local) := ⟨_, rfl, fun q => by simp only [Bool.and_eq_true, beq_iff_eq] at q; exact q.1.1.2⟩
  cases B with
  | false =>
    refine wpAny_Assign_Name ((dictc_ok S ok st h).then fun v b l ⟨av, H1, h1, st1, vr⟩ => ?_) hB
    exact sto_ok ok st1 vr h1 fun lm' H' h' tk p st' => PP.ret (b := ⟨{ b.s with heap := h', toks := tk }, b.ρ, b.R⟩) (l.trans ⟨⟨_, _, rfl⟩, List.prefix_refl _, fun _ h => h⟩) ⟨_, _, p, st'⟩
  | true =>
    have hx := hk rfl
    · obtain ⟨hc, h⟩ := gB_ok h
      rw [Bool.and_eq_true] at hc
      obtain ⟨cok, hs⟩ := hc
      obtain ⟨hnames, hcell, hkind⟩ := comp_names cok
      obtain ⟨m, _, W⟩ := st.nw
      show wpAny _ _ _ _ _ _
      rw [exec_Assign_Name_used _ _ _ _ hB]
      refine wpAny_bind (wpAny_standAt (wpAny_bind ?_))
      show wpAny _ _ (do let _ ← comprehension (.DictComp ke ve [⟨.Name y py, it, [t], 0⟩] sc pos) sc c.env _ newDict false (PySem.eval it c.env) (some (assign (.Name x px) c.env))) _ _ a.s
      refine wpAny_bind (wpAny_mono (wpAny_comprehension_free (use := some (assign (.Name x px) c.env)) (Q := fun _ s' => PP a (FΦ c Pn Pr) .next s') rfl (notSet_is hs _) (clo_ok cok W.lo).1 hkind hnames ((S.e (ek := .df) rfl ok (fun _ => rfl) h a _ st).then fun v b l ⟨av, H1, h1, st1, vr⟩ => ?_)) (fun _ s' hq => wpAny_pure (wpAny_pure hq)) fun _ _ e => e)
      · refine dictComp_core S ok st1 cok vr h1 fun D C b' o' kvs f z H' m₃ l' p hd hz' hj hn cs ne => ?_
        obtain ⟨b9, e9, l9, q9, o9⟩ := made_tab (b := b') (s := b'.s) cs.st cs.oD cs.hD hd hz' hj hn p (l.trans l')
        rw [← e9]
        exact usedFin ok hx l9 q9 (o9 C ne.cd cs.oC) (e9 ▸ cs.ns)
end
end
section
section
variable {c : Ctx} {lm lm1 : Lm} {H : Hp} {E : Value → Shared → Prop} {n : Nat} {r : Rec} {a b : Wd} {sc : Scope}
theorem setAttr_ok (ok : c.OK n) (st : St c .df a.ρ a.R lm H a.s.heap) {x : Str} {ov v : Value} {av : AV} {k j : Nat} {C : Addr} {fs : List (Str × AV)} (vo : VR c.w a.ρ a.R ov (.obj k)) (vv : VR c.w a.ρ a.R v av) (hk : H[k]? = some (.ins C j)) (hj : H[j]? = some (.fld fs)) (hc : (plainCls C x && Nat.ble fs.length 100) = true) {Q : Unit → Shared → Prop}
    (q : ∀ h' tk, St c .df a.ρ a.R lm (H.set j (.fld (setA x av fs))) h' → Q () { a.s with heap := h', toks := tk }) : wpAny (model prg c.w) c.A (setAttr ov x v) Q E a.s := by
  rw [Bool.and_eq_true] at hc
  obtain ⟨c1, c2⟩ := hc
  obtain ⟨p1, p2, p3, p4, p5⟩ := plainCls_is c1 c.w
  obtain ⟨m, ad, o, rest, F, N, ne, sub, e1, r1, others, put, _⟩ := st.at hj (fun q => nomatch q)
  have kj : k ≠ j := fun q => by rw [q, hj] at hk; cases hk
  obtain ⟨adk, okk, e2, hm, r2⟩ := others k _ kj hk
  obtain ⟨p, rfl, e3⟩ := vo.isO
  cases Option.some.inj (e3.symm.trans e2)
  obtain ⟨d, rfl, e4⟩ := r2.inv
  cases Option.some.inj (e4.symm.trans e1)
  obtain ⟨es, nn, rfl, vf⟩ := r1.inv
  have tk : takerIn (KH c.w) C x = some none := by unfold takerIn; rw [p3]; rfl
  have gl : (getL x es).isSome = true := by obtain ⟨o, e, _⟩ := getL_of vf x; rw [e]; rfl
  have hl := vf.length
  have c3 := Nat.le_of_ble_eq_true c2
  refine set_dict F ok.X N (InstAt.of_news N (.tail _ hm) (.head _)) rfl p4 p5 tk p2 gl rfl (.head ne) ?_ fun h' F' N' => q h' _ (put h' _ _ F' N' (.fld (putL_of vv vf)))
  have := putL_len x (PyData.keyHash c.w.params x) (Value.str x (a.s.toks + 1)) v es
  omega
theorem lcE_is {v : Expr} {q : Expr × List Comprehension × Scope × Pos} : lcE v = some q → v = .ListComp q.1 q.2.1 q.2.2.1 q.2.2.2 := by
  cases v with
  | ListComp elt gs sc p => intro h; rw [← Option.some.inj h]
  | _ => exact nz
theorem dcE_is {v : Expr} {q : Expr × Expr × List Comprehension × Scope × Pos} : dcE v = some q → v = .DictComp q.1 q.2.1 q.2.2.1 q.2.2.2.1 q.2.2.2.2 := by
  cases v with
  | DictComp ke ve gs sc p => intro h; rw [← Option.some.inj h]
  | _ => exact nz
theorem setSlice_ok (st : St c .df a.ρ a.R lm H a.s.heap) {ov v : Value} {oa av : AV} {ys : List AV} (vo : VR c.w a.ρ a.R ov oa) (vv : VR c.w a.ρ a.R v av) (e : lsA av = some ys) {k : Nat} (ek : objA oa = some k) {xs : List AV} (hk : (H[k]?).bind aoL = some xs) (hz : xs.length < 900) (hz2 : ys.length < 900) {pp : Pos} {Q : Unit → Shared → Prop}
    (q : ∀ h', St c .df a.ρ a.R lm (H.set k (.lst ys)) h' → Q () { a.s with heap := h' }) : wpAny (model prg c.w) c.A (PySem.eval (.Slice none none none pp) c.env) (fun iv s' => wpAny (model prg c.w) c.A (setItem ov iv v) Q E s') E a.s := by
  refine wpAny_Slice (evalPart_none_step (evalPart_none_step (evalPart_none_step ?_)))
  have st' := st.ext (h' := a.s.heap.push { cls := .type "slice", data := .fields #[.none, .none, .none] }) fun b o e => Heap.get?_push_of_some _ e
  obtain ⟨m, ad, o, rest, rfl, r, O⟩ := St.op (a := ⟨{ a.s with heap := a.s.heap.push { cls := .type "slice", data := .fields #[.none, .none, .none] } }, a.ρ, a.R⟩) st' (vo.objx ek) (slot_is aoL_is hk) (fun q => nomatch q)
  obtain ⟨vs, n1, rfl, hv⟩ := r.inv
  obtain ⟨p, us, n2, rfl, hm, hu⟩ := vv.list e
  have z := O.N _ (.head _)
  have zb := O.N _ (.tail _ (O.sub _ hm))
  refine setSlice_all (n := n1) z.1 ⟨_, zb.1, rfl, _, rfl⟩ (Ne.symm (O.nr _ (O.sub _ hm))) (Heap.IsSliceOf.new ..) (by have := hv.length; simp; omega) (by have := hu.length; simp; omega) fun f hf => ?_
  exact q _ (O.put _ (listOf us.toArray _) _ (O.F.change (Heap.SameBut.update ..) z.2.1 z.2.2) (ki_turn (pre := []) (post := rest) f O.N (fun _ h => nomatch h) O.nr hf rfl) (.lst hu))
theorem st1_ok (S : Snd c.w n r) (ok : c.OK n) (pe : PassesOwn (model prg c.w) c.A c.env E) (st : St c .df a.ρ a.R lm H a.s.heap) {s : Stmt} {Pn : Lm → Hp → Prop} {Pr : AV → Hp → Prop} (h : stepS1 r lm H s Pn Pr) : WP c (exec s c.env) a (FΦ c Pn Pr) E := by
  have se : ∀ {b : Wd} {lm : Lm} {H : Hp} {e : Expr} {mu : Bool} {P : AV → Hp → Prop}, r.e true mu lm H e P → St c .df b.ρ b.R lm H b.s.heap → WP c (PySem.eval e c.env) b (VΦ c .df lm P) E := fun h st => S.e (ek := .df) rfl ok (fun _ => rfl) h _ E st
  have nx : ∀ {a b : Wd} {lm' : Lm} {H' : Hp} {h' : Heap} {tk : Nat}, Le a b → Pn lm' H' → St c .df b.ρ b.R lm' H' h' → PP a (FΦ c Pn Pr) .next { b.s with heap := h', toks := tk } := fun {a b lm' H' h' tk} l p st' => PP.ret (b := ⟨{ b.s with heap := h', toks := tk }, b.ρ, b.R⟩) (l.trans ⟨⟨_, _, rfl⟩, List.prefix_refl _, fun _ h => h⟩) ⟨_, _, p, st'⟩
  cases s with
  | Expr v p =>
    obtain ⟨hn, h⟩ := gB_ok h
    refine wpAny_Expr_any ((se h st).then fun v b l ⟨av, H1, h1, st1, vr⟩ => PP.ret l ⟨_, _, h1, st1⟩) ?_ (swaps_no hn)
    unfold interactive
    show (c.cs.kind == .module && _) = false
    rw [ok.hk]; rfl
  | Assign ts v p =>
    obtain ⟨t, e, h⟩ := oX_ok h
    rw [oneE_is e]
    clear e
    cases t with
    | Name x px =>
      rcases eX_ok h with ⟨q, e, h⟩ | h
      · obtain ⟨g, e2, h⟩ := oX_ok h
        rw [lcE_is e, gen1_is e2]
        exact asgList S ok st h
      rcases eX_ok h with ⟨q, e, h⟩ | h
      · obtain ⟨g, e1, h⟩ := oX_ok h
        obtain ⟨y, e2, h⟩ := oX_ok h
        obtain ⟨t, e3, h⟩ := oX_ok h
        obtain ⟨py, e2⟩ := nmE_is e2
        rw [dcE_is e, gen1_is e1, e2, oneE_is e3]
        exact asgDict S ok st h
      obtain ⟨hn, h⟩ := gB_ok h
      refine wpAny_Assign_Name ((se h st).then fun v b l ⟨av, H1, h1, st1, vr⟩ => ?_) (swaps_no hn)
      exact sto_ok ok st1 vr h1 fun lm' H' h' tk p st' => nx l p st'
    | Tuple ts k q =>
      have plain : swappedStores [.Tuple ts k q] v c.env = pure none → (r.e true false lm H v fun a H => bindX (.Tuple ts k q) a lm H Pn) → WP c (exec (.Assign [.Tuple ts k q] v p) c.env) a (FΦ c Pn Pr) E := fun hw h => by
        refine Assign_Tuple ((se h st).then fun v b l ⟨av, H1, h1, st1, vr⟩ => ?_) sole_tup hw
        exact bindX_ok ok h1 vr st1 fun lm' H' h' tk p st' => nx l p st'
      rcases iB_ok h with ⟨hw, h⟩ | ⟨_, h⟩
      · refine plain ?_ h
        cases e : tupE v with
        | none => exact swap_not e
        | some vs =>
          rw [e] at hw
          obtain ⟨k', p', rfl⟩ := tupE_is e
          exact swap_false hw
      · obtain ⟨vs, e, h⟩ := oX_ok h
        obtain ⟨hw, h⟩ := gB_ok h
        obtain ⟨xs, hn, h⟩ := oX_ok h
        obtain ⟨hd, h⟩ := gB_ok h
        obtain ⟨k', p', rfl⟩ := tupE_is e
        obtain ⟨m, _, W⟩ := st.nw
        refine Assign_Tuple_swapped (names := xs) ((se h st).then fun v b l ⟨av, H1, h1, st1, vr⟩ => ?_) sole_tup (swap_true ok W.lo (namesOf_is hn) hw hd)
        obtain ⟨as, hp, h1⟩ := oX_ok h1
        obtain ⟨hz, h1⟩ := gB_ok h1
        have hz := Nat.eq_of_beq_eq_true hz
        obtain ⟨p, vs, rfl, hv, ho⟩ := parts_ok st1 vr hp
        have hl : xs.length = vs.toArray.size := by rw [hz]; simp [hv.length]
        have fin : ∀ {h' : Heap}, St c .df b.ρ b.R lm _ h' → wpAny (model prg c.w) c.A (assignInOrder (xs.reverse.map fun n => bindName c.env n) vs.reverse) (fun _ => PP a (FΦ c Pn Pr) .next) E { b.s with heap := h' } := fun {h'} st' =>
          stoNames_ok ok (a := ⟨{ b.s with heap := h' }, b.ρ, b.R⟩) h1 hv.reverse st' fun lm2 H2 h2 tk2 p2 st2 => nx (l.trans ⟨⟨_, _, rfl⟩, List.prefix_refl _, fun _ h => h⟩) p2 st2
        rw [hl]
        rcases ho with ho | ho
        · obtain ⟨m3, os3, F3, N3, x3⟩ := st1.raw
          exact unpackItemsN_ F3 N3 ho rfl rfl fun h' F' N' => fin (x3.st F' N')
        · exact kun_itemsOf rfl ho fun h' he => fin (st1.ext fun b' o e => he b' o (Nat.ne_of_lt (Heap.lt_size e)) e)
    | Subscript o sl q =>
      have go : (r.e true false lm H v fun a H => r.e true false lm H o fun ov H => r.e true false lm H sl fun i H => setX ov i a H fun H => Pn lm H) → WP c (exec (.Assign [.Subscript o sl q] v p) c.env) a (FΦ c Pn Pr) E := fun h => by
        refine wpAny_Assign_Subscript ((se h st).then fun v b l ⟨av, H1, h1, st1, vr⟩ => ?_) swaps_at
        refine (se h1 st1).then fun v2 b2 l2 ⟨ov, H2, h2, st2, vr2⟩ => ?_
        refine (se h2 st2).then fun v3 b3 l3 ⟨iv, H3, h3, st3, vr3⟩ => ?_
        exact (set_ok st3 (vr2.up l3.p l3.R) vr3 (vr.up (l2.trans l3).p (l2.trans l3).R) h3).then fun _ b4 l4 ⟨H4, h4, st4⟩ => PP.ret (l.trans (l2.trans (l3.trans l4))) ⟨_, _, h4, st4⟩
      cases sl with
      | Slice lo hi stp pp =>
        cases lo with
        | some _ => cases hi <;> cases stp <;> exact False.elim h
        | none =>
          cases hi with
          | some _ => cases stp <;> exact False.elim h
          | none =>
            cases stp with
            | some _ => exact False.elim h
            | none =>
              refine wpAny_Assign_Subscript ((se h st).then fun v b l ⟨av, H1, h1, st1, vr⟩ => ?_) swaps_at
              refine (se h1 st1).then fun v2 b2 l2 ⟨ov, H2, h2, st2, vr2⟩ => ?_
              obtain ⟨ys, e1, h2⟩ := oX_ok h2
              obtain ⟨k, e2, h2⟩ := oX_ok h2
              obtain ⟨xs, e3, h2⟩ := oX_ok h2
              obtain ⟨hz, h2⟩ := gB_ok h2
              rw [Bool.and_eq_true] at hz
              exact setSlice_ok st2 vr2 (vr.up l2.p l2.R) e1 e2 e3 (Nat.le_of_ble_eq_true hz.1) (Nat.le_of_ble_eq_true hz.2) fun h' st' => nx (l.trans l2) h2 st'
      | _ => exact go h
    | Attribute o x q =>
      refine plainObj_wpAny_Assign_Attribute ((se h st).then fun v b l ⟨av, H1, h1, st1, vr⟩ => ?_) swaps_attr
      refine (se h1 st1).then fun v2 b2 l2 ⟨ov, H2, h2, st2, vr2⟩ => ?_
      obtain ⟨k, e1, h2⟩ := oX_ok h2
      obtain ⟨g, e2, h2⟩ := oX_ok h2
      obtain ⟨fs, e3, h2⟩ := oX_ok h2
      obtain ⟨hc, h2⟩ := gB_ok h2
      exact setAttr_ok ok st2 (vr2.objx e1) (vr.up l2.p l2.R) (slot_is (g := fun p : Addr × Nat => AO.ins p.1 p.2) aoI_is e2) (slot_is aoF_is e3) hc fun h' tk st' => nx (l.trans l2) h2 st'
    | _ => exact False.elim h
  | If t b o p =>
    refine wpAny_If ((S.t (ek := .df) rfl ok (fun _ => rfl) h a E st).then fun q b l ⟨H1, h1, st1⟩ => ?_)
    rcases iB_ok h1 with ⟨rfl, h1⟩ | ⟨rfl, h1⟩
    · rw [if_pos rfl]; exact WP.le l (S.s rfl ok h1 b E pe st1)
    · rw [if_neg (fun q => nomatch q)]; exact WP.le l (S.s rfl ok h1 b E pe st1)
  | Return v p =>
    obtain ⟨v, rfl, h⟩ := oX_ok h
    refine wpAny_Return_some ((se h st).then fun v b l ⟨av, H1, h1, st1, vr⟩ => ?_)
    exact PP.ret l ⟨lm, av, H1, h1, st1, vr⟩
  | For tgt it body orelse p =>
    obtain ⟨e, h9⟩ := gB_ok h
    rw [Bool.and_eq_true, List.isEmpty_iff] at e
    obtain ⟨rfl, hs⟩ := e
    exact for_ok S ok pe st hs h9
  | While t body orelse p =>
    obtain ⟨e, h9⟩ := gB_ok h
    rw [List.isEmpty_iff] at e
    subst e
    exact while_ok S ok pe st h9
  | _ => exact False.elim h
theorem s_ok (S : Snd c.w n r) (ok : c.OK n) {ss : List Stmt} : ∀ {lm : Lm} {H : Hp} {Pn : Lm → Hp → Prop} {Pr : AV → Hp → Prop}, stepS r ss lm H Pn Pr → JS c lm H (execs ss c.env) Pn Pr := by
  induction ss with
  | nil => intro lm H Pn Pr h a E pe st; exact wpAny_execs_nil (PP.ret Le.refl ⟨_, _, h, st⟩)
  | cons s ss ih =>
    intro lm H Pn Pr h a E pe st
    refine wpAny_execs_cons ((st1_ok S ok pe st h).then fun f b l q => ?_)
    cases f with
    | next =>
      obtain ⟨lm', H', h', st'⟩ := q
      exact WP.le l (ih h' b E pe st')
    | ret v => exact PP.ret l q
    | _ => exact q.elim
end
end
section
theorem lookup_zip {names : List Str} : ∀ {vs : List Value}, names.Nodup → names.length = vs.length → names.filterMap (fun n => ((names.zip vs).lookup n).map (n, ·)) = names.zip vs ∧ ∀ n ∈ names, ((names.zip vs).lookup n).isNone = false := by
  induction names with
  | nil => intro vs _ h; exact ⟨rfl, fun _ h => nomatch h⟩
  | cons x xs ih =>
    intro vs hn hl
    cases vs with
    | nil => cases hl
    | cons v vs =>
      obtain ⟨hx, hn⟩ := List.nodup_cons.mp hn
      obtain ⟨a, b⟩ := ih (vs := vs) hn (by simpa using hl)
      have other : ∀ n ∈ xs, ((x :: xs).zip (v :: vs)).lookup n = (xs.zip vs).lookup n := fun n h => by
        rw [List.zip_cons_cons, List.lookup_cons]
        have : (n == x) = false := by simp; rintro rfl; exact hx h
        rw [this]
      refine ⟨?_, fun n h => ?_⟩
      · rw [List.filterMap_cons]
        have e1 : ((x :: xs).zip (v :: vs)).lookup x = some v := by rw [List.zip_cons_cons, List.lookup_cons, beq_self_eq_true]
        rw [e1]
        show (x, v) :: _ = (x, v) :: _
        congr 1
        refine Eq.trans ?_ a
        have cg : ∀ ys : List Str, (∀ n ∈ ys, n ∈ xs) → ys.filterMap (fun n => (((x :: xs).zip (v :: vs)).lookup n).map (n, ·)) = ys.filterMap (fun n => ((xs.zip vs).lookup n).map (n, ·)) := by
          intro ys
          induction ys with
          | nil => intro _; rfl
          | cons y ys ih => intro h; rw [List.filterMap_cons, List.filterMap_cons, other y (h y (.head _)), ih fun n hn => h n (.tail _ hn)]
        exact cg xs fun _ h => h
      · rcases List.mem_cons.mp h with rfl | h
        · rw [List.zip_cons_cons, List.lookup_cons, beq_self_eq_true]; rfl
        · rw [other n h]; exact b n h
theorem bind_plain {fd : FuncData} {vs : List Value} (h1 : fd.params.posonlyargs = []) (h2 : fd.params.kwonlyargs = []) (h3 : fd.params.vararg = none) (h4 : fd.params.kwarg = none) (h5 : fd.defaults = .none) (hn : (fd.params.args.map (·.arg)).Nodup) (hl : (fd.params.args.map (·.arg)).length = vs.length) : bindArgs fd ⟨vs, []⟩ = pure ((fd.params.args.map (·.arg)).zip vs) := by
  obtain ⟨a, b⟩ := lookup_zip hn hl
  obtain ⟨name, qual, ⟨po, args, va, ko, kd, ka, df⟩, body, scope, gl, clo, de, kw, doc, pm, an, cd, ct, bu⟩ := fd
  dsimp only at *
  subst h1 h2 h3 h4 h5
  generalize hN : args.map (·.arg) = names at *
  unfold bindArgs
  dsimp only
  rw [hN]
  have e6 : (names.filter fun n => ((names.zip vs).lookup n).isNone) = [] := List.filter_eq_nil_iff.mpr fun n h => by rw [b n h]; exact Bool.false_ne_true
  have e5 : seqItems? .none = pure none := rfl
  simp only [List.map_nil, List.nil_append, List.append_nil, List.forIn_nil, pure_bind, e5, Option.getD_none, List.drop_nil, List.length_nil, Nat.sub_zero, List.drop_length, List.zip_nil_left, List.zip_nil_right, List.take_length, e6, List.isEmpty_nil, Bool.not_true, Bool.false_eq_true, if_false]
  refine (if_neg fun q => ?_).trans (by rw [a])
  rw [hl] at q
  simp at q
end
section
noncomputable def namesOK (sc : Scope) : Bool := (sc.names.all fun p => (sc.names.lookup p.1 == some p.2 && !(p.1 == Str.ofString "__debug__")) && (p.2 == .local || p.2 == .cell || p.2 == .globalImplicit)) && decide ((cellsFrom 0 sc.names []).map (·.1)).Nodup
noncomputable def fdOK (K : Frag) (fd : FuncData) : Bool := (((fd.params.posonlyargs.isEmpty && fd.params.kwonlyargs.isEmpty) && (fd.params.vararg.isNone && fd.params.kwarg.isNone)) && ((fd.globals == mainGlobals && fd.closure.isEmpty) && (fd.builtins == builtinsNs && codeIn K fd.code fd.qualname))) && (((!fd.scope.isCoroutine && !fd.scope.isGenerator) && (fd.scope.kind == .function && namesOK fd.scope)) && (((fd.params.args.map (·.arg)).all fun x => fd.scope.names.lookup x == some .local || fd.scope.names.lookup x == some .cell) && decide (fd.params.args.map (·.arg)).Nodup))
noncomputable def okAt (w : World) (a : Nat) : Bool := match (KH w).lookup a with
  | some ⟨_, _, .func fd, _⟩ => fdOK (KH w) fd && (fd.defaults == .none || Nat.beq a 147)
  | _ => false
theorem defs_ok (w : World) : defs.all (okAt w) = true := by kernel_rfl!
end
section
noncomputable def entLm (bs : List (Str × AV)) : List (Str × NameKind) → Nat → Lm
  | [], _ => []
  | (x, q) :: r, k => match q with
    | .local => (x, match getS x bs with | some a => .av a | none => .un) :: entLm bs r k
    | .cell => (x, .cell k) :: entLm bs r (k + 1)
    | .globalImplicit => (match glob x with
      | some a => (x, .gl a) :: entLm bs r k
      | none => entLm bs r k)
    | _ => entLm bs r k
noncomputable def cellNms : List (Str × NameKind) → List Str
  | [] => []
  | (x, q) :: r => match q with
    | .cell => x :: cellNms r
    | _ => cellNms r
noncomputable def num : Nat → List Str → List (Str × Addr)
  | _, [] => []
  | n, x :: r => (x, n) :: num (n + 1) r
theorem entry_is {bs : List (Str × AV)} {names : List (Str × NameKind)} : ∀ {H : Hp} {P : Lm → Hp → Prop}, entry bs names H P → P (entLm bs names H.length) (H ++ (cellNms names).map fun x => .cell (getS x bs)) := by
  induction names with
  | nil => intro H P h; rw [show cellNms [] = [] from rfl, List.map_nil, List.append_nil]; exact h
  | cons p r ih =>
    intro H P h
    obtain ⟨x, q⟩ := p
    cases q with
    | «local» => exact ih h
    | cell =>
      have := ih h
      rw [List.length_append, List.length_singleton, List.append_assoc] at this
      exact this
    | globalImplicit =>
      have := ih h
      unfold entLm
      show P _ (H ++ (cellNms r).map _)
      cases e : glob x with
      | some a => rw [e] at this; exact this
      | none => rw [e] at this; exact this
    | free => exact False.elim h
    | globalExplicit => exact False.elim h
theorem cellsFrom_is (names : List (Str × NameKind)) : ∀ (n : Nat) (acc : List (Str × Addr)), cellsFrom n names acc = (num n (cellNms names)).reverse ++ acc := by
  induction names with
  | nil => exact fun _ _ => rfl
  | cons p r ih =>
    intro n acc
    obtain ⟨x, k⟩ := p
    cases k with
    | cell =>
      show cellsFrom (n + 1) r ((x, n) :: acc) = ((x, n) :: num (n + 1) (cellNms r)).reverse ++ acc
      rw [ih, List.reverse_cons, List.append_assoc]; rfl
    | _ => exact ih n acc
theorem CellsAre.app {cm : Str → Option Value} {l l' : List (Str × Addr)} {cs cs' : List (Addr × Obj)} (h : CellsAre cm l cs) (h' : CellsAre cm l' cs') : CellsAre cm (l ++ l') (cs ++ cs') := by
  induction h with
  | nil => exact h'
  | cons e _ ih => exact .cons e ih
theorem CellsAre.rev {cm : Str → Option Value} {l : List (Str × Addr)} {cs : List (Addr × Obj)} (h : CellsAre cm l cs) : CellsAre cm l.reverse cs.reverse := by
  induction h with
  | nil => exact .nil
  | cons e _ ih => rw [List.reverse_cons, List.reverse_cons]; exact CellsAre.app ih (.cons e .nil)
theorem cells_st {c : Ctx} {R : Led} {h : Heap} {cm : Str → Option Value} {bs : List (Str × AV)} : ∀ (xs : List Str) (n : Nat) (cells : List (Addr × Obj)) (ρ : List Addr) (H : Hp), CellsAre cm (num n xs) cells → (∀ x ∈ xs, OV c.w ρ R (cm x) (getS x bs)) → News c.h₀ c.L h cells → St c .df ρ R [] H h → (∀ a ∈ ρ, @LT.lt Nat _ a n) → (∀ p ∈ R, @LT.lt Nat _ p.1 n) → (∀ p ∈ c.gh, @LT.lt Nat _ p.1 n) →
    St c .df (ρ ++ (num n xs).map (·.2)) R [] (H ++ xs.map fun x => .cell (getS x bs)) h
  | [], n, cells, ρ, H, _, _, _, st, _, _, _ => by
    rw [show num n [] = [] from rfl, List.map_nil, List.map_nil, List.append_nil, List.append_nil]; exact st
  | x :: xs, n, _, ρ, H, .cons (o := o) e cr, hv, N, st, h1, h2, h3 => by
    obtain ⟨m, os, F, N0, x0⟩ := st.raw
    have lt : ∀ p ∈ ρ.zip os ++ (R ++ c.gh), @LT.lt Nat _ p.1 n := fun p hp => by
      rcases List.mem_append.mp hp with hp | hp
      · exact h1 _ (List.of_mem_zip (a := p.1) (b := p.2) hp).1
      · rcases List.mem_append.mp hp with hp | hp
        · exact h2 p hp
        · exact h3 p hp
    have r : OR c.w (ρ ++ [n]) R n o (.cell (getS x bs)) := by
      have := hv x (.head _)
      cases hq : getS x bs with
      | none =>
        rw [hq] at this
        cases hc : cm x with
        | none => rw [hc] at e; exact .celln e
        | some u => rw [hc] at this; cases this
      | some b =>
        rw [hq] at this
        cases hc : cm x with
        | none => rw [hc] at this; cases this
        | some u =>
          rw [hc] at this e
          cases this with
          | some q => exact .cell e (q.up (List.prefix_append _ _) fun _ h => h)
    have st' := St.alloc (d := n) (o := o) F (fun p hp => by
      rcases List.mem_cons.mp hp with rfl | hp
      · exact N _ (.head _)
      · exact N0 p hp) x0 (fun p hp => Nat.ne_of_lt (lt p hp)) r
    have := cells_st xs (n + 1) _ (ρ ++ [n]) (H ++ [.cell (getS x bs)]) cr (fun y hy => (hv y (.tail _ hy)).up (List.prefix_append _ _) fun _ h => h) (fun p hp => N p (.tail _ hp)) st' (fun a ha => by
      rcases List.mem_append.mp ha with ha | ha
      · exact Nat.lt_succ_of_lt (h1 a ha)
      · rw [List.mem_singleton.mp ha]; exact Nat.lt_succ_self _) (fun p hp => Nat.lt_succ_of_lt (h2 p hp)) fun p hp => Nat.lt_succ_of_lt (h3 p hp)
    rw [List.append_assoc, List.append_assoc] at this
    exact this
theorem bindL_not {kd : Str → Option NameKind} {x : Str} {bs : List (Str × Value)} : ∀ {m : Str → Option Value}, (∀ p ∈ bs, p.1 ≠ x) → bindL kd bs m x = m x := by
  induction bs with
  | nil => exact fun _ => rfl
  | cons p r ih =>
    intro m h
    obtain ⟨n, v⟩ := p
    unfold bindL
    rw [ih fun p hp => h p (.tail _ hp)]
    have : n ≠ x := h (n, v) (.head _)
    split
    · exact if_neg (Ne.symm this)
    · rfl
theorem bindC_not {kd : Str → Option NameKind} {x : Str} {bs : List (Str × Value)} : ∀ {m : Str → Option Value}, (∀ p ∈ bs, p.1 ≠ x) → PySem.bindC kd bs m x = m x := by
  induction bs with
  | nil => exact fun _ => rfl
  | cons p r ih =>
    intro m h
    obtain ⟨n, v⟩ := p
    unfold PySem.bindC
    rw [ih fun p hp => h p (.tail _ hp)]
    have : n ≠ x := h (n, v) (.head _)
    split
    · rfl
    · exact if_neg (Ne.symm this)
theorem zip_not {α : Type} {x : Str} {ns : List Str} {vs : List α} (h : x ∉ ns) : ∀ p ∈ ns.zip vs, p.1 ≠ x := fun p hp q => h (q ▸ (List.of_mem_zip (a := p.1) (b := p.2) hp).1)
theorem bindL_at {w : World} {ρ : List Addr} {R : Led} {kd : Str → Option NameKind} {x : Str} (hk : kd x = some .local) {ns : List Str} : ∀ {vs : List Value} {as : List AV} {m : Str → Option Value} {a : AV}, ns.Nodup → VRs w ρ R vs as → getS x (ns.zip as) = some a → ∃ v, bindL kd (ns.zip vs) m x = some v ∧ VR w ρ R v a := by
  induction ns with
  | nil => intro vs as m a _ _ h; rw [List.zip_nil_left] at h; exact nz h
  | cons n ns ih =>
    intro vs as m a hn hv h
    cases as with
    | nil => rw [List.zip_nil_right] at h; exact nz h
    | cons b as =>
      obtain ⟨v, r, rfl, v1, v2⟩ := hv.inv
      obtain ⟨h1, h2⟩ := List.nodup_cons.mp hn
      rw [List.zip_cons_cons] at h ⊢
      unfold getS at h
      unfold bindL
      by_cases e : n = x
      · subst e
        rw [if_pos rfl] at h
        cases h
        rw [bindL_not (zip_not h1), if_pos hk, if_pos rfl]
        exact ⟨v, rfl, v1⟩
      · rw [if_neg e] at h
        exact ih h2 v2 h
theorem bindC_at {w : World} {ρ : List Addr} {R : Led} {kd : Str → Option NameKind} {x : Str} (hk : kd x ≠ some .local) {ns : List Str} : ∀ {vs : List Value} {as : List AV} {m : Str → Option Value}, ns.Nodup → ns.length = as.length → VRs w ρ R vs as → OV w ρ R (m x) none → OV w ρ R (PySem.bindC kd (ns.zip vs) m x) (getS x (ns.zip as)) := by
  induction ns with
  | nil => intro vs as m _ _ _ h; rw [List.zip_nil_left, List.zip_nil_left]; exact h
  | cons n ns ih =>
    intro vs as m hn hl hv h
    cases as with
    | nil => cases hl
    | cons b as =>
      obtain ⟨v, r, rfl, v1, v2⟩ := hv.inv
      obtain ⟨h1, h2⟩ := List.nodup_cons.mp hn
      rw [List.zip_cons_cons, List.zip_cons_cons]
      unfold getS PySem.bindC
      by_cases e : n = x
      · subst e
        rw [if_pos rfl, bindC_not (zip_not h1), if_neg hk, if_pos rfl]
        exact .some v1
      · rw [if_neg e]
        refine ih h2 (by simpa using hl) v2 ?_
        split
        · exact h
        · show OV w ρ R (if x = n then some v else m x) none
          rw [if_neg (Ne.symm e)]; exact h
end
section
theorem num_fst (xs : List Str) : ∀ n : Nat, (num n xs).map (·.1) = xs := by
  induction xs with
  | nil => exact fun _ => rfl
  | cons x xs ih => intro n; show x :: _ = x :: _; rw [ih]
theorem nodup_fst {x : Str} {a b : Addr} {l : List (Str × Addr)} (hn : (l.map (·.1)).Nodup) (h1 : (x, a) ∈ l) (h2 : (x, b) ∈ l) : a = b := by
  induction l with
  | nil => exact nomatch h1
  | cons p l ih =>
    rw [List.map_cons, List.nodup_cons] at hn
    rcases List.mem_cons.mp h1 with h1 | h1
    · rcases List.mem_cons.mp h2 with h2 | h2
      · rw [← h1] at h2; cases h2; rfl
      · rw [← h1] at hn; exact absurd (List.mem_map_of_mem (f := (·.1)) h2) hn.1
    · rcases List.mem_cons.mp h2 with h2 | h2
      · rw [← h2] at hn; exact absurd (List.mem_map_of_mem (f := (·.1)) h1) hn.1
      · exact ih hn.2 h1 h2
theorem entLm_ok {c : Ctx} {ρ : List Addr} {R : Led} {m : Str → Option Value} {bs : List (Str × AV)} (hok : ∀ p ∈ c.cs.names, c.cs.names.lookup p.1 = some p.2 ∧ noDbg p.1) (hm : ∀ x a, c.cs.names.lookup x = some .local → getS x bs = some a → ∃ v, m x = some v ∧ VR c.w ρ R v a) (r : List (Str × NameKind)) : ∀ (k n : Nat), (∀ p ∈ r, p ∈ c.cs.names) → (∀ (i : Nat) x ad, (num n (cellNms r))[i]? = some (x, ad) → ρ[k + i]? = some ad ∧ c.cl.lookup x = some ad) → ∀ p ∈ entLm bs r k, SlD c ρ R m p.1 p.2 := by
  induction r with
  | nil => intro _ _ _ _ p hp; exact nomatch hp
  | cons q r ih =>
    intro k n hs hc p hp
    obtain ⟨x, kd⟩ := q
    have h0 := hok _ (hs (x, kd) (.head _))
    have hs' : ∀ p ∈ r, p ∈ c.cs.names := fun p hp => hs p (.tail _ hp)
    cases kd with
    | «local» =>
      rcases List.mem_cons.mp hp with rfl | hp
      · cases e : getS x bs with
        | none => exact h0
        | some a =>
          obtain ⟨v, e1, e2⟩ := hm x a h0.1 e
          exact ⟨h0, v, e1, e2⟩
      · exact ih k n hs' hc p hp
    | cell =>
      rcases List.mem_cons.mp hp with rfl | hp
      · obtain ⟨e1, e2⟩ := hc 0 x n rfl
        exact ⟨h0, n, e2, e1⟩
      · refine ih (k + 1) (n + 1) hs' (fun i y ad e => ?_) p hp
        obtain ⟨e1, e2⟩ := hc (i + 1) y ad e
        exact ⟨by rw [← e1]; congr 1; omega, e2⟩
    | globalImplicit =>
      have hp : p ∈ (match glob x with
        | some a => (x, Slot.gl a) :: entLm bs r k
        | none => entLm bs r k) := hp
      cases e : glob x with
      | some a =>
        rw [e] at hp
        rcases List.mem_cons.mp hp with rfl | hp
        · exact ⟨h0, glob_is e c.w⟩
        · exact ih k n hs' hc p hp
      | none => rw [e] at hp; exact ih k n hs' hc p hp
    | free => exact ih k n hs' hc p hp
    | globalExplicit => exact ih k n hs' hc p hp
section
variable {c : Ctx} {ek : EK} {lm : Lm} {H : Hp} {n : Nat} {a b : Wd} {P : AV → Hp → Prop}
theorem frz_ok (st : St c ek b.ρ b.R lm H b.s.heap) {v : Value} {av : AV} (vr : VR c.w b.ρ b.R v av) {n : Nat} (h : frzX n av H P) : ∃ b', b'.s = b.s ∧ Le b b' ∧ VΦ c ek lm P v b' := by
  have same : P av H → ∃ b', b'.s = b.s ∧ Le b b' ∧ VΦ c ek lm P v b' := fun h => ⟨b, rfl, Le.refl, _, _, h, st, vr⟩
  have fz : ∀ {k : Nat} {ao : AO} {bv : AV}, objA av = some k → H[k]? = some ao → ao ≠ .dead → (∀ ad o, OR c.w b.ρ b.R ad o ao → VR c.w b.ρ ((ad, o) :: b.R) (.ref ad) bv) → P bv (H.set k .dead) → ∃ b', b'.s = b.s ∧ Le b b' ∧ VΦ c ek lm P v b' := fun {k ao bv} e hk hd hv h => by
    obtain ⟨m, ad, o, rest, F, N, ne, sub, e1, r1, _, _, fz⟩ := st.at hk hd
    obtain ⟨p, rfl, e2⟩ := (vr.objx e).isO
    cases Option.some.inj (e1.symm.trans e2)
    exact ⟨⟨b.s, b.ρ, (ad, o) :: b.R⟩, rfl, ⟨⟨_, _, rfl⟩, List.prefix_refl _, fun _ h => .tail _ h⟩, _, _, h, fz, hv ad o r1⟩
  rcases eX_ok h with ⟨k, e, h⟩ | h
  · rcases iB_ok h with ⟨_, h⟩ | ⟨_, h⟩
    · rcases eX_ok h with ⟨xs, e2, h⟩ | h
      · exact fz e (slot_is aoL_is e2) (fun q => nomatch q) (fun ad o r => by obtain ⟨vs, n, rfl, hv⟩ := r.inv; exact .lst (.head _) (hv.up (List.prefix_refl _) fun _ h => .tail _ h)) h
      · rcases eX_ok h with ⟨q, e2, h⟩ | h
        · exact fz e (slot_is (g := fun p : (Int → Option AV) × Sz => AO.tab p.1 p.2) aoT_is e2) (fun q => nomatch q) (fun ad o r => by obtain ⟨kvs, hd, hz, hj, hn⟩ := r.inv; exact .tab (.head _) hd hz (fun j => (hj j).up (List.prefix_refl _) fun _ h => .tail _ h) hn) h
        · exact same h
    · exact same h
  · exact same h
end
end
section
theorem Around.eta {A : Around} {fr : List Env} (h1 : A.frames = some fr) (h2 : A.handled = none) (env : Env) : A.deeper env = { handled := none, depth := A.depth + 1, frames := some (env :: fr), guards := A.guards, units := A.units + 3 } := by
  obtain ⟨hd, d, f, g, u⟩ := A
  dsimp only at h1 h2
  subst h1 h2
  rfl
theorem fd_eta {fd : FuncData} {b : List Stmt} (h1 : fd.body = .stmts b) (h2 : fd.globals = mainGlobals) (h3 : fd.closure = []) (h4 : fd.builtins = builtinsNs) : fd = fnOf fd.name fd.qualname fd.params b fd.scope fd.defaults fd.kwdefaults fd.doc fd.pyModule fd.annotations fd.code fd.closureTuple := by
  cases fd
  dsimp only at *
  subst h1 h2 h3 h4
  rfl
noncomputable def fd147 (w : World) : FuncData := match (KH w).lookup 147 with
  | some ⟨_, _, .func fd, _⟩ => fd
  | _ => default
theorem binds4 {w : World} {s : Shared} (X : (KH w).In s.heap) (a b c d : Value) : BindsTo s (fd147 w) ⟨[a, b, c, d], []⟩ (((fd147 w).params.args.map (·.arg)).zip ([a, b, c, d] ++ [.none, .none])) := binds_K (T := 140) (o := { cls := .type "tuple", data := .seq #[.none, .none] }) (items := #[.none, .none]) (n := 0) X (by kernel_rfl!) (by kernel_rfl!) rfl rfl (by kernel_rfl!)
theorem binds6 {w : World} {s : Shared} (X : (KH w).In s.heap) (a b c d e f : Value) : BindsTo s (fd147 w) ⟨[a, b, c, d, e, f], []⟩ (((fd147 w).params.args.map (·.arg)).zip [a, b, c, d, e, f]) := binds_K (T := 140) (o := { cls := .type "tuple", data := .seq #[.none, .none] }) (items := #[.none, .none]) (n := 0) X (by kernel_rfl!) (by kernel_rfl!) rfl rfl (by kernel_rfl!)
end
section
theorem pad_ok {w : World} {ρ : List Addr} {R : Led} {vs : List Value} {as : List AV} {s : Shared} {fd : FuncData} (X : (KH w).In s.heap) (vr : VRs w ρ R vs as) (e : fd = fd147 w) (hl : (fd.params.args.map (·.arg)).length = (pad 147 as).length) (h6 : (fd.params.args.map (·.arg)).length = 6) : ∃ vs', VRs w ρ R vs' (pad 147 as) ∧ BindsTo s fd ⟨vs, []⟩ ((fd.params.args.map (·.arg)).zip vs') := by
  subst e
  have hv := vr.length
  rw [h6] at hl
  have e : pad 147 as = bif Nat.beq as.length 4 then as ++ [.d .none, .d .none] else as := rfl
  rw [e] at hl ⊢
  cases h4 : Nat.beq as.length 4 with
  | true =>
    rw [h4] at hl
    have l4 := hv.trans (Nat.eq_of_beq_eq_true h4)
    obtain ⟨a, r, rfl⟩ := List.exists_cons_of_length_eq_add_one l4
    obtain ⟨b, r, rfl⟩ := List.exists_cons_of_length_eq_add_one (Nat.succ.inj l4)
    obtain ⟨c, r, rfl⟩ := List.exists_cons_of_length_eq_add_one (Nat.succ.inj (Nat.succ.inj l4))
    obtain ⟨d, r, rfl⟩ := List.exists_cons_of_length_eq_add_one (Nat.succ.inj (Nat.succ.inj (Nat.succ.inj l4)))
    obtain rfl : r = [] := List.length_eq_zero_iff.mp (Nat.succ.inj (Nat.succ.inj (Nat.succ.inj (Nat.succ.inj l4))))
    exact ⟨_, vr.append (.cons (.d .none) (.cons (.d .none) .nil)), binds4 X a b c d⟩
  | false =>
    rw [h4] at hl
    have l6 : vs.length = 6 := hv.trans hl.symm
    obtain ⟨a, r, rfl⟩ := List.exists_cons_of_length_eq_add_one l6
    obtain ⟨b, r, rfl⟩ := List.exists_cons_of_length_eq_add_one (Nat.succ.inj l6)
    obtain ⟨c, r, rfl⟩ := List.exists_cons_of_length_eq_add_one (Nat.succ.inj (Nat.succ.inj l6))
    obtain ⟨d, r, rfl⟩ := List.exists_cons_of_length_eq_add_one (Nat.succ.inj (Nat.succ.inj (Nat.succ.inj l6)))
    obtain ⟨e, r, rfl⟩ := List.exists_cons_of_length_eq_add_one (Nat.succ.inj (Nat.succ.inj (Nat.succ.inj (Nat.succ.inj l6))))
    obtain ⟨f, r, rfl⟩ := List.exists_cons_of_length_eq_add_one (Nat.succ.inj (Nat.succ.inj (Nat.succ.inj (Nat.succ.inj (Nat.succ.inj l6)))))
    obtain rfl : r = [] := List.length_eq_zero_iff.mp (Nat.succ.inj (Nat.succ.inj (Nat.succ.inj (Nat.succ.inj (Nat.succ.inj (Nat.succ.inj l6))))))
    exact ⟨_, vr, binds6 X a b c d e f⟩
theorem six (w : World) : ((fd147 w).params.args.map (·.arg)).length = 6 := by kernel_rfl!
theorem cellNms_mem {x : Str} {l : List (Str × NameKind)} (h : x ∈ cellNms l) : (x, NameKind.cell) ∈ l := by
  induction l with
  | nil => exact nomatch h
  | cons p r ih =>
    obtain ⟨y, k⟩ := p
    cases k with
    | cell =>
      rcases List.mem_cons.mp h with rfl | h
      · exact .head _
      · exact .tail _ (ih h)
    | _ => exact .tail _ (ih h)
theorem okAt_is {w : World} {f : Nat} (h : okAt w f = true) : ∃ oc od fd osl, (KH w).lookup f = some ⟨oc, od, .func fd, osl⟩ ∧ (fdOK (KH w) fd && (fd.defaults == .none || Nat.beq f 147)) = true := by
  unfold okAt at h
  cases e : (KH w).lookup f with
  | none => rw [e] at h; exact fz h
  | some o =>
    rw [e] at h
    obtain ⟨oc, od, dt, osl⟩ := o
    cases dt with
    | func fd => exact ⟨oc, od, fd, osl, rfl, h⟩
    | _ => exact fz h
theorem def_ok {w : World} {n : Nat} {r : Rec} (S : Snd w n r) {f : Addr} {as : List AV} {H : Hp} {P : AV → Hp → Prop} (h : gB (defs.any (Nat.beq f)) <| oX (fnAt w f) fun fr => gB (Nat.beq fr.pars.length (pad f as).length) (entry (fr.pars.zip (pad f as)) fr.scope.names H fun lm H1 => r.s lm H1 fr.body (fun _ H' => P (.d .none) H') (fun v H' => frzX H.length v H' P))) : JC (n + 1) w f as H P := by
  intro c ek lm A a vs Rr hw ok hfr hh hdep hun st vr k
  subst hw
  obtain ⟨hdf, h⟩ := gB_ok h
  · obtain ⟨x, hx, ex⟩ := List.any_eq_true.mp hdf
    have ex := Nat.eq_of_beq_eq_true ex
    subst ex
    obtain ⟨oc, od, fd, osl, ho, okA⟩ := okAt_is (List.all_eq_true.mp (defs_ok c.w) f hx)
    · rw [Bool.and_eq_true] at okA
      obtain ⟨okF, okD⟩ := okA
      unfold fdOK at okF
      simp only [Bool.and_eq_true, List.isEmpty_iff, Option.isNone_iff_eq_none, beq_iff_eq, Bool.not_eq_true', decide_eq_true_eq] at okF
      obtain ⟨⟨⟨⟨q1, q2⟩, q3, q4⟩, ⟨q5, q6⟩, q7, q8⟩, ⟨⟨q9, q10⟩, q11, q12⟩, q13, q14⟩ := okF
      cases hb : fd.body with
      | stmts body =>
        have hfn : fnAt c.w f = some ⟨fd.params.args.map (·.arg), body, fd.scope⟩ := by
          unfold fnAt
          rw [ho]
          dsimp only
          rw [hb]
        rw [hfn] at h
        obtain ⟨hlen, h⟩ := gB_ok (show gB _ _ from h)
        · have hlen : (fd.params.args.map (·.arg)).length = (pad f as).length := Nat.eq_of_beq_eq_true hlen
          obtain ⟨m, os, F, N, x0⟩ := st.raw
          have X1 := st.kin ok
          -- what is bound
          obtain ⟨vs', vr', hbind⟩ : ∃ vs', VRs c.w a.ρ a.R vs' (pad f as) ∧ BindsTo a.s fd ⟨vs, []⟩ ((fd.params.args.map (·.arg)).zip vs') := by
            cases h147 : Nat.beq f 147 with
            | true =>
              cases Nat.eq_of_beq_eq_true h147
              have efd : fd = fd147 c.w := by unfold fd147; rw [ho]
              exact pad_ok X1 vr efd hlen (efd ▸ six c.w)
            | false =>
              have ep : pad f as = as := by unfold pad; rw [h147]; rfl
              rw [ep] at hlen ⊢
              refine ⟨vs, vr, BindsTo.of_eq (bind_plain q1 q2 q3 q4 ?_ q14 (hlen.trans vr.length.symm))⟩
              rw [Bool.or_eq_true, beq_iff_eq] at okD
              rcases okD with okD | okD
              · exact okD
              · rw [h147] at okD; exact fz okD
          have hl' : (fd.params.args.map (·.arg)).length = vs'.length := hlen.trans vr'.length.symm
          have efn := fd_eta hb q5 q6 q7
          unfold namesOK at q12
          simp only [Bool.and_eq_true, List.all_eq_true, decide_eq_true_eq, beq_iff_eq, Bool.not_eq_true'] at q12
          obtain ⟨q15, q16⟩ := q12
          rw [efn] at ho hbind
          refine code_defC ok.B F ok.X N ok.T hfr rfl ok.hk ho q8 (by have := ok.hd; omega) hbind ?_ q16 ?_ q9 q10 q11
          · rw [List.all_eq_true]
            intro y hy
            exact List.all_eq_true.mp q13 y.1 (List.of_mem_zip (a := y.1) (b := y.2) hy).1
          · intro g L' h₁ tk cells FG F' N' Y B' X' T' lt
            let c' : Ctx := { w := c.w, mean := c.mean, mg := c.mg, mb := c.mb, dp := A.depth + 1, un := A.units + 3, gd := A.guards, cn := fd.qualname, cs := fd.scope, L := L', a := f, ccd := fd.code, cl := cellsFrom (L' + 1) fd.scope.names [], outer := c.env :: c.outer, A₀ := A, base := c.base, h₀ := g, gh := c.gh }
            have ok' : c'.OK n := ⟨B', X', T', q11, by have := ok.hd; show A.depth + 1 + 2 * n + 4 < _; omega, by have := ok.hu; show A.units + 3 + 10 * n + 100 < _; omega⟩
            have eA : A.deeper (envOfC fd.qualname fd.scope L' f fd.code) = c'.A := Around.eta hfr hh _
            have x1 : Raw c' .df a.ρ a.R [] H (PySem.bindL (envOfC fd.qualname fd.scope L' f fd.code).kindOf ((fd.params.args.map (·.arg)).zip vs') fun _ => none) os := ⟨x0.O, x0.el, x0.nd, x0.of, x0.gd, fun p hp => nomatch hp⟩
            have st1 : St c' .df a.ρ a.R [] H h₁ := x1.st F' fun p hp => N' p (List.mem_append_right _ hp)
            have Y' := CellsAre.rev Y
            rw [cellsFrom_is, List.append_nil, List.reverse_reverse] at Y'
            have ltR : ∀ p ∈ a.R, @LT.lt Nat _ p.1 (L' + 1) := fun p hp => Nat.lt_succ_of_lt (lt p (List.mem_append_right _ (List.mem_append_left _ hp)))
            have ltG : ∀ p ∈ c'.gh, @LT.lt Nat _ p.1 (L' + 1) := fun p hp => Nat.lt_succ_of_lt (lt p (List.mem_append_right _ (List.mem_append_right _ hp)))
            have ltρ : ∀ x ∈ a.ρ, @LT.lt Nat _ x (L' + 1) := fun x hx => by
              obtain ⟨j, hj⟩ := List.mem_iff_getElem?.mp hx
              have jl : j < os.length := by rcases Nat.lt_or_ge j a.ρ.length with l | l; exact x0.el ▸ l; rw [List.getElem?_eq_none l] at hj; cases hj
              exact Nat.lt_succ_of_lt (lt (x, os[j]) (List.mem_append_left _ (zip_in hj (by simp [jl]))))
            have names : ∀ p ∈ fd.scope.names, fd.scope.names.lookup p.1 = some p.2 ∧ noDbg p.1 := fun p hp => (q15 p hp).1
            have cellk : ∀ x ∈ cellNms fd.scope.names, (envOfC fd.qualname fd.scope L' f fd.code).kindOf x ≠ some .local := fun x hx q => by
              have : (x, NameKind.cell) ∈ fd.scope.names := cellNms_mem hx
              have e1 := (names _ this).1
              have q : fd.scope.names.lookup x = some .local := q
              rw [q] at e1
              cases e1
            have st2 := cells_st (c := c') (bs := (fd.params.args.map (·.arg)).zip (pad f as)) (cellNms fd.scope.names) (L' + 1) cells.reverse a.ρ H Y' (fun x hx => bindC_at (cellk x hx) q14 hlen vr' .none) (fun p hp => N' p (List.mem_append_left _ (List.mem_reverse.mp hp))) st1 ltρ ltR ltG
            have h2 := entry_is h
            obtain ⟨m2, os2, F2, N2, x2⟩ := st2.raw
            have nd2 : ((num (L' + 1) (cellNms fd.scope.names)).map (·.1)).Nodup := by
              rw [cellsFrom_is, List.append_nil, List.map_reverse, num_fst] at q16
              rw [num_fst]
              exact (List.reverse_perm _).nodup_iff.mp q16
            have el : a.ρ.length = H.length := x0.el.trans x0.O.length
            have st3 : St c' .df (a.ρ ++ (num (L' + 1) (cellNms fd.scope.names)).map (·.2)) a.R (entLm ((fd.params.args.map (·.arg)).zip (pad f as)) fd.scope.names H.length) _ h₁ := ⟨_, os2, F', N2, x2.O, x2.el, x2.nd, x2.of, x2.gd, entLm_ok (c := c') (m := PySem.bindL (envOfC fd.qualname fd.scope L' f fd.code).kindOf ((fd.params.args.map (·.arg)).zip vs') fun _ => none) names (fun x b e1 e2 => by
                obtain ⟨v, e3, e4⟩ := bindL_at (kd := (envOfC fd.qualname fd.scope L' f fd.code).kindOf) (m := fun _ => none) e1 q14 vr' e2
                exact ⟨v, e3, e4.up (List.prefix_append _ _) fun _ h => h⟩) _ _ (L' + 1) (fun p hp => hp) (fun i x ad e => by
                refine ⟨?_, ?_⟩
                · rw [← el, List.getElem?_append_right (Nat.le_add_right _ _), Nat.add_sub_cancel_left, List.getElem?_map, e]; rfl
                · show (cellsFrom (L' + 1) fd.scope.names []).lookup x = some ad
                  rw [cellsFrom_is, List.append_nil]
                  have hm := List.mem_of_getElem? e
                  exact lookup_same (fun p hp q => by
                    obtain ⟨y, b⟩ := p
                    subst q
                    exact nodup_fst nd2 (List.mem_reverse.mp hp) hm) ⟨_, List.mem_reverse.mpr hm, rfl⟩)⟩
            rw [eA]
            let b0 : Wd := ⟨{ a.s with heap := h₁, toks := tk }, a.ρ ++ (num (L' + 1) (cellNms fd.scope.names)).map (·.2), a.R⟩
            have l0 : Le a b0 := ⟨⟨_, _, rfl⟩, List.prefix_append _ _, fun _ h => h⟩
            have fin : ∀ {b : Wd} {lm' : Lm} {H' : Hp} {v : Value} {av : AV}, Le b0 b → St c' .df b.ρ b.R lm' H' b.s.heap → VR c.w b.ρ b.R v av → frzX H.length av H' P → LeaveK c.h₀ c.L m g Rr v b.s := fun {b lm' H' v av} l st' vr p => by
              obtain ⟨m6, os6, F6, N6, x6⟩ := st'.raw
              refine leaveK_ F6 N6 fun F7 N7 => ?_
              have st7 : St c ek b.ρ b.R lm H' b.s.heap := ⟨m, os6, F7, N7, x6.O, x6.el, x6.nd, x6.of, x6.gd, x0.lo.up (l0.trans l).p (l0.trans l).R⟩
              obtain ⟨b', e', l', q'⟩ := frz_ok st7 vr p
              rw [← e']
              exact k v b' ((l0.trans l).trans l') q'
            refine (S.s (c := c') rfl ok' h2 b0 _ PassesOwn.leaving st3).then fun fl b l q => ?_
            cases fl with
            | next =>
              obtain ⟨lm', H', p, st'⟩ := q
              exact fin l st' (.d .none) (by unfold frzX; exact p)
            | ret v =>
              obtain ⟨lm', av, H', p, st', vr'⟩ := q
              exact fin l st' vr' p
            | _ => exact q.elim
      | _ =>
        have hfn : fnAt c.w f = none := by
          unfold fnAt
          rw [ho]
          dsimp only
          rw [hb]
        rw [hfn] at h
        exact False.elim h
end
section
/-- what a call of the def at f with vs does, within any def's frame, over the ledger news -/
def Claim (w : World) (f : Addr) (vs : List Value) (deep room : Nat) (news : Led) (post : Value → Led → Prop) : Prop :=
  ∀ (mean : ExcName → Option Value) (mg mb : Str → Option Value) (dp un : Nat) (gd : Option (List Code)) (cn : Str) (cs : Scope) (a : Addr) (ccd : Value) (cl : List (Str × Addr)) (outer : List Env) (A₀ : Around) (base h₀ : Heap) (L : Addr) (m : Str → Option Value) (s : Shared) (Q E : Value → Shared → Prop),
    Below A₀ base outer h₀ → Fr h₀ L s.heap m → (top9 w.params).In h₀ → News h₀ L s.heap news → Top view9 lz mean mg mb h₀ → cs.kind = .function → dp + deep < recursionLimit → un + room < cLine →
    (∀ r h' tk' news', Fr h₀ L h' m → News h₀ L h' news' → post r news' → Q r { s with heap := h', toks := tk' }) →
    wpAny (model PySem.Challenge.rw_pf0168_01.prog w) (ktrTop dp un gd cn cs L a ccd cl outer) (call (.ref f) vs) Q E s
theorem Claim.use {w : World} {f : Addr} {vs : List Value} {deep room : Nat} {news ledger : Led} {post : Value → Led → Prop}
    {mean : ExcName → Option Value} {mg mb : Str → Option Value} {dp un : Nat} {gd : Option (List Code)} {cn : Str} {cs : Scope} {a : Addr} {ccd : Value} {cl : List (Str × Addr)} {outer : List Env} {A₀ : Around} {base h₀ : Heap} {L : Addr} {m : Str → Option Value} {s : Shared} {Q E : Value → Shared → Prop}
    (C : Claim w f vs deep room news post) (B : Below A₀ base outer h₀) (F : Fr h₀ L s.heap m) (X : (top9 w.params).In h₀) (N : News h₀ L s.heap ledger) (T : Top view9 lz mean mg mb h₀) (hk : cs.kind = .function)
    (hd : dp + deep < recursionLimit) (hu : un + room < cLine) (hs : ∀ p ∈ news, p ∈ ledger)
    (ret : ∀ r h' tk' news', Fr h₀ L h' m → News h₀ L h' news' → post r news' → Q r { s with heap := h', toks := tk' }) :
    wpAny (model PySem.Challenge.rw_pf0168_01.prog w) (ktrTop dp un gd cn cs L a ccd cl outer) (call (.ref f) vs) Q E s :=
  C mean mg mb dp un gd cn cs a ccd cl outer A₀ base h₀ L m s Q E B F X (fun p hp => N p (hs p hp)) T hk hd hu ret
theorem drop {h₀ h : Heap} {L : Addr} {news news' : Led} (N : News h₀ L h news') (hs : ∀ p ∈ news, p ∈ news') : News h₀ L h news := fun p hp => N p (hs p hp)
structure Lt9 (d : Nat) (l : Led) : Prop where
  h : ∀ p ∈ l, p.1 < d
theorem Lt9.ne {d : Nat} {l l' : Led} (x : Lt9 d l) (hs : ∀ p ∈ l', p ∈ l) : ∀ p ∈ l', p.1 ≠ d := fun p hp => Nat.ne_of_lt (x.h p (hs p hp))
theorem Lt9.gt {d a : Nat} {o : Obj} {l : Led} (x : Lt9 d l) (hs : (a, o) ∈ l) : d ≠ a := Nat.ne_of_gt (x.h _ hs)
theorem Lt9.lt {d a : Nat} {o : Obj} {l : Led} (x : Lt9 d l) (hs : (a, o) ∈ l) : a ≠ d := Nat.ne_of_lt (x.h _ hs)
theorem Lt9.mt {d a : Nat} {o : Obj} {l : Led} (x : Lt9 d l) (hs : (a, o) ∈ l) : a < d := x.h _ hs
section
variable {prog : Program} {w : World} {A : Around} {E : Value → Shared → Prop} {s : Shared} {h₀ : Heap} {L : Addr} {m : Str → Option Value} {news news' : Led}
/-- xs.pop(0) of a list whose first item is known -/
theorem pop0 {D : Addr} {y : Value} {q : List Value} {n : Nat} {u : Tok} {Q : Value → Shared → Prop} (F : Fr h₀ L s.heap m) (N : News h₀ L s.heap news)
    (U : Upd D (listOf (y :: q).toArray n) (listOf q.toArray (n + 1)) news news') (hz : q.length < 1000) (h : ∀ h', Fr h₀ L h' m → News h₀ L h' news' → Q y { s with heap := h' }) :
    wpAny (model prog w) A (call (.builtin "list.pop") [.ref D, .int 0 u]) Q E s := by
  refine kl_popAt (k := 0) (p := []) (q := q) F N (by decide) ?_ rfl U ?_ h
  · show seqIndex? 0 (y :: q).toArray.size = some 0
    simp [seqIndex?]
  · show (y :: q).length ≤ sizeLine
    rw [sizeLine_eq, List.length_cons]; omega
end
theorem iteT {b : Bool} {P Q : Prop} (h : b = true) (p : P) : if b = true then P else Q := by rw [if_pos h]; exact p
theorem iteF {b : Bool} {P Q : Prop} (h : b = false) (q : Q) : if b = true then P else Q := by rw [h, if_neg Bool.false_ne_true]; exact q
theorem pow2_ne (n : Nat) : (2 : Int) ^ n ≠ 0 := Int.ne_of_gt (kbt_pos n)
theorem pow2_log {n : Nat} (h : n < 9000) : ((2 : Int) ^ n).natAbs.log2 < 9000 := by
  rw [Int.natAbs_pow]
  show (2 ^ n).log2 < 9000
  rw [Nat.log2_two_pow]; exact h
theorem fmod_nat {a b : Int} (hb : 0 < b) (hb2 : b < 9000) : (a.fmod b).toNat < 9000 := by
  have h1 := fmod_lo a hb
  have h2 := fmod_hi a hb
  omega
theorem item0 {prog : Program} {w : World} {A : Around} {E : Value → Shared → Prop} {s : Shared} {value slice : PySem.Expr} {x y : Str} {t u : Tok} {Q : Value → Shared → Prop} (hx : Txt.item x 0 = y) (hl : Nat.blt 0 x.length = true)
    (h : Q (.str y s.toks) { s with toks := s.toks + 1 })
    (hs : subscripted slice false (.str x t) (.int 0 u) = operate [.str x t, .int 0 u] (getItem (.str x t) (.int 0 u)))
    (ht : ∀ r, letTemporaryGo value (.str x t) r = pure ()) : wpAny (model prog w) A (subscriptTail value slice (.str x t) (.int 0 u)) Q E s := by
  have hl' : 0 < x.length := Nat.le_of_ble_eq_true hl
  exact item_str (by decide) (by omega) (by omega) (fun _ => hx ▸ h) hs ht
local macro_rules | `(tactic| walk_at "MEM") => do
  let h := Lean.mkIdent `Mine.Sub9.h; let a := Lean.mkIdent `Mine.Ab9.on; let l := Lean.mkIdent `Mine.Lt9.sub
  `(tactic| first | exact List.Mem.head _ | ((fail_if_success (refine' List.Mem.tail _ ?_)); with_reducible_and_instances assumption) | (refine' List.Mem.tail _ ?_; walk_at "MEM") | (refine' List.mem_append_right _ ?_; walk_at "MEM") | ((fail_if_success (refine' List.Mem.tail _ ?_)); refine' $h ?s _ ?m; (case s => with_reducible assumption); (case m => walk_at "MEM")) | ((fail_if_success (refine' List.Mem.tail _ ?_)); refine' $a (by with_reducible assumption) ?m9 ?l9; (case m9 => walk_at "MEM"); (case l9 => exact $l (by assumption) (by first | walk_at "sub1" | walk_at "sub"))) | fail "MEM")

local macro_rules | `(tactic| walk_at "call builtin:list.pop") => `(tactic| (k_here; (with_reducible show wpAny _ _ (call (Value.builtin _) [Value.ref _, Value.int 0 _]) _ _ _); k_dflt (refine' pop0 ?F ?N ?U ?z ?_; (case F => k_asm); (case N => k_asm); (case U => k_upd); (case z => (simp only [List.length_cons] at *; omega))); intro h' F' N'; (try dsimp only [List.nil_append, List.cons_append] at N'); (try k_sweep)))
local macro_rules | `(tactic| walk_at "sub1") => `(tactic| ((intro p9 hp9; repeat (first | exact hp9 | apply List.Mem.tail)); done))
local macro_rules | `(tactic| walk_at "sub") => `(tactic| ((repeat (refine List.forall_mem_cons.mpr ⟨by walk_at "MEM", ?_⟩)) <;> (first | exact List.forall_mem_nil _ | walk_at "sub1" | fail "sub")))
local macro_rules | `(tactic| k_all) => `(tactic| first | assumption | exact Lt9.ne (by assumption) (by walk_at "sub1"))
def TakeP (aS aL : Nat) (top : Int) (rest : Led) (n : Nat) (r : Value) (news' : Led) : Prop :=
  ∃ (x' y' : Int) (t1' t2' : Tok) (n1' n2' : Nat) (vs' : List Value) (ns' : List Int) (c : Int) (t : Tok), IntsAre vs' ns' ∧ r = .int c t ∧ 0 ≤ c ∧ c < top ∧ vs'.length ≤ n ∧ 
      news' = (aS, listOf #[.int x' t1', .int y' t2', .ref aL] n1') :: (aL, listOf vs'.toArray n2') :: rest
theorem TakeP.mk {aS aL : Nat} {top : Int} {rest : Led} {n : Nat} {x' y' : Int} {t1' t2' : Tok} {n1' n2' : Nat} {vs' : List Value} {ns' : List Int} {c : Int} {t : Tok} (hi : IntsAre vs' ns') (h0 : 0 ≤ c) (h1 : c < top) (hl : vs'.length ≤ n) :
    TakeP aS aL top rest n (.int c t) ((aS, listOf #[.int x' t1', .int y' t2', .ref aL] n1') :: (aL, listOf vs'.toArray n2') :: rest) := ⟨_, _, _, _, _, _, _, _, _, _, hi, rfl, h0, h1, hl, rfl⟩
theorem take (w : World) (aS aL : Nat) (x y top : Int) (t1 t2 t3 : Tok) (n1 n2 : Nat) (vs : List Value) (ns : List Int) (rest : Led) (hi : IntsAre vs ns) (hd1 : aS ≠ aL) (ht : 0 < top) (ht2 : top < 1000) (hvl : vs.length < 1000)
   (o1 : ∀ p ∈ rest, p.1 ≠ aS) (o2 : ∀ p ∈ rest, p.1 ≠ aL)
   (mean : ExcName → Option Value) (mg mb : Str → Option Value) (dp un : Nat) (gd : Option (List Code)) (cn : Str) (cs : Scope) (a : Addr) (ccd : Value) (cl : List (Str × Addr)) (outer : List Env) (A₀ : Around) (base h₀ : Heap) (L : Addr) (m : Str → Option Value) (s : Shared) (Q : Value → Shared → Prop) (RR : Result → Shared → Prop)
   (B : Below A₀ base outer h₀) (F : Fr h₀ L s.heap m) (X : (top9 w.params).In h₀) (N : News h₀ L s.heap ((aS, listOf #[.int x t1, .int y t2, .ref aL] n1) :: (aL, listOf vs.toArray n2) :: rest)) (T : Top view9 lz mean mg mb h₀) (hk : cs.kind = .function) (hd : dp + 2 < recursionLimit) (hu : un + 90 < cLine)
   (hret : ∀ r h' tk' news', Fr h₀ L h' m → News h₀ L h' news' → TakeP aS aL top rest vs.length r news' → Q r { s with heap := h', toks := tk' }) (hRR : ∀ v s', Q v s' → RR (.ok (.ret v)) s') :
   codeAny (model PySem.Challenge.rw_pf0168_01.prog w) (ktrTop dp un gd cn cs L a ccd cl outer) (.call (.ref 423) ⟨[.ref aS, .int top t3], []⟩) RR s := by
  refine codeAny_mono (R := fun r s' => match r with
    | .ok (.ret v) => Q v s'
    | .ok _ => False
    | .error e => RR (.error e) s') ?_ (fun r s' h => by
      match r, h with
      | .ok (.ret v), h => exact hRR v s' h
      | .error e, h => exact h)
  revert mean mg mb dp un gd cn cs a ccd cl outer A₀ base h₀ L m s Q RR
  k_fill
  intro mean mg mb dp un gd cn cs a ccd cl outer A₀ base h₀ L m s Q RR B F X N T hk hd hu hret hRR
  cases hi with
  | nil =>
    k_dflt ktr_enter
    k_steps
    all_goals (refine' hret _ _ _ _ ?eF (drop ?eN ?eS) (TakeP.mk .nil (fmod_lo _ ht) (fmod_hi _ ht) (Nat.le_refl _)); (case eF => k_asm); (case eN => k_asm); (case eS => walk_at "sub"))
  | cons k t hi' =>
    k_dflt ktr_enter
    k_steps
    all_goals first
      | (exfalso; simp at *; done)
      | (refine' hret _ _ _ _ ?eF (drop ?eN ?eS) (TakeP.mk hi' (fmod_lo _ ht) (fmod_hi _ ht) (Nat.le_succ _)); (case eF => k_asm); (case eN => k_asm); (case eS => walk_at "sub"))
      | (refine' hret _ _ _ _ ?eF (drop ?eN ?eS) (TakeP.mk (.cons k t hi') (fmod_lo _ ht) (fmod_hi _ ht) (Nat.le_refl _)); (case eF => k_asm); (case eN => k_asm); (case eS => walk_at "sub"))
end
section
theorem aoSrc_is {a : AO} {x : Nat} : aoSrc a = some x → a = .src x := by
  refine AO.casesOn a ?_ ?_ ?_ ?_ ?_ ?_ (fun _ h => congrArg AO.src (Option.some.inj h)) ?_ ?_ ?_ <;> intros <;> exact nz ‹_›
theorem aoSrcL_is {a : AO} {x : Unit} : aoSrcL a = some x → a = .srcL := by
  refine AO.casesOn a ?_ ?_ ?_ ?_ ?_ ?_ ?_ (fun _ => rfl) ?_ ?_ <;> intros <;> exact nz ‹_›
section
variable {c : Ctx} {ek : EK} {ρ : List Addr} {R : Led} {lm : Lm} {H : List AO} {h : Heap}
/-- the state opened at two slots -/
theorem St.at2 (st : St c ek ρ R lm H h) {k j : Nat} {ak aj : AO} (hk : H[k]? = some ak) (hj : H[j]? = some aj) (dk : ak ≠ .dead) (dj : aj ≠ .dead) (kj : k ≠ j) : ∃ m aS oS aL oL rest, Fr c.h₀ c.L h m ∧ News c.h₀ c.L h ((aS, oS) :: (aL, oL) :: rest) ∧ aS ≠ aL ∧ (∀ p ∈ rest, p.1 ≠ aS) ∧ (∀ p ∈ rest, p.1 ≠ aL) ∧ ρ[k]? = some aS ∧ ρ[j]? = some aL ∧ OR c.w ρ R aS oS ak ∧ OR c.w ρ R aL oL aj ∧
    ∀ h' oS' oL', Fr c.h₀ c.L h' m → News c.h₀ c.L h' ((aS, oS') :: (aL, oL') :: rest) → OR c.w ρ R aS oS' ak → OR c.w ρ R aL oL' aj → St c ek ρ R lm H h' := by
  obtain ⟨m, os, F, N, O, el, nd, of, gd, lo⟩ := st.st
  obtain ⟨aS, oS, haS, eS, rS⟩ := O.get hk
  obtain ⟨aL, oL, haL, eL, rL⟩ := O.get hj
  have ne : aS ≠ aL := fun q => kj (nodup_get nd haS (q ▸ haL))
  have lk : k < os.length := by rcases Nat.lt_or_ge k os.length with l | l; exact l; rw [List.getElem?_eq_none l] at eS; cases eS
  have lj : j < os.length := by rcases Nat.lt_or_ge j os.length with l | l; exact l; rw [List.getElem?_eq_none l] at eL; cases eL
  have off : ∀ {i : Nat} {ai : AO} {ad : Addr}, H[i]? = some ai → ai ≠ .dead → ρ[i]? = some ad → ∀ p ∈ R ++ c.gh, p.1 ≠ ad := fun {i ai ad} h1 h2 h3 p hp q => by
    rcases List.mem_append.mp hp with hp | hp
    · exact h2 (Option.some.inj (h1.symm.trans (of p hp i (q ▸ h3))))
    · exact (gd p hp).1 (q ▸ List.mem_of_getElem? h3)
  refine ⟨m, aS, oS, aL, oL, (ρ.zip os ++ (R ++ c.gh)).filter fun p => decide (p.1 ≠ aS ∧ p.1 ≠ aL), F, fun p hp => ?_, ne, fun p hp => ?_, fun p hp => ?_, haS, haL, rS, rL, fun h' oS' oL' F' N' rS' rL' => ?_⟩
  · rcases List.mem_cons.mp hp with rfl | hp
    · exact N _ (List.mem_append_left _ (zip_in haS eS))
    · rcases List.mem_cons.mp hp with rfl | hp
      · exact N _ (List.mem_append_left _ (zip_in haL eL))
      · exact N _ (List.mem_filter.mp hp).1
  · have := (List.mem_filter.mp hp).2; simp at this; exact this.1
  · have := (List.mem_filter.mp hp).2; simp at this; exact this.2
  · have O2 := (O.set (k := k) (o := oS') (a := ak) fun ad e => Option.some.inj (haS.symm.trans e) ▸ rS').set (k := j) (o := oL') (a := aj) fun ad e => Option.some.inj (haL.symm.trans e) ▸ rL'
    rw [set_same hk, set_same hj] at O2
    refine ⟨m, (os.set k oS').set j oL', F', fun p hp => N' p ?_, O2, by simp [el], nd, of, gd, lo⟩
    rcases List.mem_append.mp hp with hp | hp
    · obtain ⟨i, hi⟩ := List.mem_iff_getElem?.mp hp
      obtain ⟨h1, h2⟩ := List.getElem?_zip_eq_some.mp hi
      by_cases q : i = j
      · subst q
        rw [List.getElem?_set_self (by simpa using lj)] at h2
        have := Option.some.inj (h1.symm.trans haL)
        cases Option.some.inj h2
        rw [← this]
        exact .tail _ (.head _)
      · rw [List.getElem?_set_ne (Ne.symm q)] at h2
        by_cases q2 : i = k
        · subst q2
          rw [List.getElem?_set_self lk] at h2
          have := Option.some.inj (h1.symm.trans haS)
          cases Option.some.inj h2
          rw [← this]
          exact .head _
        · rw [List.getElem?_set_ne (Ne.symm q2)] at h2
          refine .tail _ (.tail _ (List.mem_filter.mpr ⟨List.mem_append_left _ (zip_in h1 h2), decide_eq_true ⟨fun e => q2 (nodup_get nd h1 (by rw [haS]; exact congrArg some e.symm)), fun e => q (nodup_get nd h1 (by rw [haL]; exact congrArg some e.symm))⟩⟩))
    · exact .tail _ (.tail _ (List.mem_filter.mpr ⟨List.mem_append_right _ hp, decide_eq_true ⟨off hk dk haS p hp, off hj dj haL p hp⟩⟩))
end
theorem allN_at {p : Nat → Prop} {n d : Nat} (h : allN n p) (l : d < n) : p d := by
  induction n with
  | zero => exact absurd l (Nat.not_lt_zero _)
  | succ n ih =>
    rcases Nat.lt_or_ge d n with q | q
    · exact ih h.1 q
    · have : d = n := by omega
      subst this; exact h.2
theorem take_ok {w : World} {n : Nat} {as : List AV} {H : Hp} {P : AV → Hp → Prop} (h : takeX as H P) : JC n w 423 as H P := by
  intro c ek lm A a vs Rr hw ok hfr hh hdep hun st vr k
  subst hw
  obtain ⟨q, e, h⟩ := oX_ok h
  obtain ⟨kk, e0, h⟩ := oX_ok h
  obtain ⟨top, et, h⟩ := oX_ok h
  obtain ⟨j, hk, h⟩ := oX_ok h
  obtain ⟨_, hj, h⟩ := oX_ok h
  obtain ⟨ht, h⟩ := gB_ok h
  rw [Bool.and_eq_true, decide_eq_true_eq, decide_eq_true_eq] at ht
  have hk : H[kk]? = some (.src j) := slot_is aoSrc_is hk
  have hj : H[j]? = some .srcL := slot_is (g := fun _ => AO.srcL) aoSrcL_is hj
  obtain ⟨v, u, rfl, v1, v2⟩ := vr.pair2 e
  obtain ⟨t, rfl⟩ := v2.int et
  obtain ⟨p, rfl, e1⟩ := (v1.objx e0).isO
  have kj : kk ≠ j := fun q => by rw [q, hj] at hk; cases hk
  obtain ⟨m, aS, oS, aL, oL, rest, F, N, ne, o1, o2, e2, e3, rS, rL, put⟩ := st.at2 hk hj (fun q => nomatch q) (fun q => nomatch q) kj
  cases Option.some.inj (e1.symm.trans e2)
  obtain ⟨aL', x, y, t1, t2, n1, rfl, e4⟩ := rS.inv
  cases Option.some.inj (e4.symm.trans e3)
  obtain ⟨us, ns, n2, rfl, hi, hz⟩ := rL.inv
  have eA : A = ktrTop A.depth A.units A.guards c.cn c.cs c.L c.a c.ccd c.cl c.outer := by
    obtain ⟨q1, q2, q3, q4, q5⟩ := A
    dsimp only at hfr hh
    subst hfr hh
    rfl
  rw [eA]
  refine take c.w p aL x y top t1 t2 t n1 n2 us ns rest hi ne ht.1 ht.2 (by omega) o1 o2 c.mean c.mg c.mb A.depth A.units A.guards c.cn c.cs c.a c.ccd c.cl c.outer c.A₀ c.base c.h₀ c.L m a.s (fun v s' => Rr (.ok (.ret v)) s') Rr ok.B F ok.X N ok.T ok.hk (by have := ok.hd; omega) (by have := ok.hu; omega) (fun r h' tk' news' F' N' q => ?_) fun _ _ q => q
  obtain ⟨x', y', t1', t2', n1', n2', vs', ns', cc, tt, hi', rfl, h0, h1, hl', rfl⟩ := q
  have st' := put h' _ _ F' N' (.src e3) (.srcL hi' (by omega))
  have hd := allN_at h (d := cc.toNat) (by omega)
  refine k _ ⟨{ a.s with heap := h', toks := tk' }, a.ρ, a.R⟩ ⟨⟨_, _, rfl⟩, List.prefix_refl _, fun _ h => h⟩ ⟨_, _, hd, st', ?_⟩
  rw [Int.toNat_of_nonneg h0]
  exact .d (.int _ _)
/-- what is told from outside is so -/
structure QOK (w : World) (Q : Orc) (N : Nat) : Prop where
  c : ∀ {f : Addr} {as : List AV} {H : Hp} {P : AV → Hp → Prop}, Q.cs f = true → Q.c f as H P → JC N w f as H P
  l : ∀ {k : Nat} {tgt : Expr} {body : List Stmt} {src : AV} {lm : Lm} {H : Hp} {Pn : Lm → Hp → Prop} {Pr : AV → Hp → Prop}, Q.l k tgt body src lm H Pn Pr → JF N w tgt body src lm H Pn Pr
theorem JC.le {n m : Nat} {w : World} {f : Addr} {as : List AV} {H : Hp} {P : AV → Hp → Prop} (l : n ≤ m) (h : JC n w f as H P) : JC m w f as H P := fun c ek lm A a vs R hw ok => h c ek lm A a vs R hw (ok.lt l)
theorem JF.le {n m : Nat} {w : World} {tgt : Expr} {body : List Stmt} {src : AV} {lm : Lm} {H : Hp} {Pn : Lm → Hp → Prop} {Pr : AV → Hp → Prop} (l : n ≤ m) (h : JF n w tgt body src lm H Pn Pr) : JF m w tgt body src lm H Pn Pr := fun c a v E hw ok => h c a v E hw (ok.lt l)
theorem snd {w : World} {Q : Orc} {N : Nat} (q : QOK w Q N) (n : Nat) : Snd w n (X w Q N n) := by
  induction n with
  | zero => exact ⟨fun _ _ _ h => False.elim h, fun _ _ _ h => False.elim h, fun _ _ h => False.elim h, fun h => False.elim h, fun h => False.elim h⟩
  | succ n ih =>
    have le : ∀ {c : Ctx}, c.OK (n + 1) → c.OK n := fun ok => ok.lt (Nat.le_succ n)
    refine ⟨fun hw ok hk h => ?_, fun hw ok hk h => ?_, fun hw ok h => ?_, fun {f as H P} h => ?_, fun h => ?_⟩
    · subst hw; exact e_ok ih (le ok) hk h
    · subst hw; exact t_ok ih (le ok) hk h
    · subst hw; exact s_ok ih (le ok) h
    · rcases iB_ok (show iB _ _ _ from h) with ⟨e, h⟩ | ⟨_, h⟩
      · rw [Bool.and_eq_true] at e
        exact (q.c e.1 h).le (Nat.le_succ_of_le (Nat.le_of_ble_eq_true e.2))
      · rcases iB_ok (show iB _ _ _ from h) with ⟨e, h⟩ | ⟨_, h⟩
        · cases Nat.eq_of_beq_eq_true e
          exact take_ok h
        · exact def_ok ih h
    · obtain ⟨e, h⟩ := gB_ok (show gB _ _ from h)
      exact (q.l h).le (Nat.le_succ_of_le (Nat.le_of_ble_eq_true e))
end
section
noncomputable def Q0 : Orc := ⟨fun _ => false, fun _ _ _ _ => False, fun _ => false, fun _ _ _ _ _ _ _ _ => False⟩
noncomputable abbrev X0 (w : World) (n : Nat) := X w Q0 0 n
noncomputable def bodyAt (w : World) (a : Addr) : List Stmt := match fnAt w a with
  | some f => f.body
  | none => []
noncomputable def LMR (kind low bits t number sorts body place rows dues turn en due found goal met told : Slot) : Lm := [((S "source"), .av (.obj 0)), ((S "kind"), kind), ((S "low"), low), ((S "bits"), bits), ((S "t"), t), ((S "number"), number), ((S "sorts"), sorts), ((S "body"), body), ((S "known"), .cell 2), ((S "place"), place), ((S "rows"), rows), ((S "dues"), dues), ((S "turn"), turn), ((S "end"), en), ((S "due_end"), due), ((S "found"), found), ((S "goal"), goal), ((S "is_met"), met), ((S "told"), told), ((S "_law_one"), .gl (.fn 430)), ((S "_law_rims"), .gl (.fn 437)), ((S "_law_bit"), .gl (.d .bit)), ((S "_law_long"), .gl (.d .long)), ((S "Body"), .gl (.fn 193)), ((S "_law_take"), .gl (.fn 423)), ((S "list"), .gl (.blt Bt.list)), ((S "range"), .gl (.blt Bt.range)), ((S "_law_step"), .gl (.fn 484)), ((S "_law_truth"), .gl (.fn 472)), ((S "_law_end"), .gl (.fn 491)), ((S "with_constants"), .gl (.fn 407))]
noncomputable abbrev ii (i : Int) : Slot := .av (.d (.int i))
noncomputable abbrev ss (x : Str) : Slot := .av (.d (.str x))
noncomputable abbrev tD (κ : Str) : D := .tup [.str (S "int"), .str κ]
noncomputable def sorts (κ : Str) : AV := (.lst [(.d .bit), (.d .bit), (.d .bit), (.d .bit), (.d (tD κ)), (.d (.tup [(.str (S "tuple")), (.tup [.bit, tD κ])])), (.d .long)])
noncomputable abbrev lcl (d : D) : AV := .d (.tup [d, .bool true, .none])
noncomputable def HR (κ : Str) (blocks : AO) (k rows dues : AO) : Hp := [.src 1, .srcL, .cell (some (.obj 8)), .fld [((S "name"), (.d (.str (S "f")))), ((S "arg_count"), (.d (.int 1))), ((S "locals"), (.obj 5)), ((S "blocks"), (.obj 6)), ((S "spots"), (.obj 7))], .ins 193 3,
  .lst [lcl .bit, lcl .bit, lcl .bit, lcl .bit, lcl (tD κ), lcl (.tup [.str (S "tuple"), .tup [.bit, tD κ]]), lcl .long], blocks, .tab (fun _ => none) (.ks []), k, rows, dues]
noncomputable abbrev fk (b2 b3 : Bool) (x : Int) : Int → Option AV := fun j => getI j [(2, .d (.bool b2)), (3, .d (.bool b3)), (4, .d (.int x))]
noncomputable def LM1 (κ : Str) (lo bi x : Int) (place dues turn en due found goal met told : Slot) : Lm := LMR (ss κ) (ii lo) (ii bi) (.av (.d (tD κ))) (ii x) (.av (sorts κ)) (.av (.obj 4)) place (.av (.obj 9)) dues turn en due found goal met told
noncomputable def four (as : List AV) (F : Str → Str → Int → Int → Prop) : Prop := match as with
  | [x, y, z, u] => oX (strA x) fun κ => oX (strA y) fun op => oX (intA z) fun a => oX (intA u) fun b => F κ op a b
  | _ => False
noncomputable def loopAt (w : World) (i : Nat) : PySem.Expr × List Stmt := match (bodyAt w 496)[i]? with
  | some (.For t _ b _ _) => (t, b)
  | _ => (.Name (S "") ⟨0,0,0,0⟩, [])
noncomputable def sE (e1 e2 e3 : D) : D := .tup [.str (S "switch"), e1, e2, e3]
end
section
/-! the rows of the law's program -/
noncomputable abbrev cp (n : Int) : D := .tup [.str (S "copy"), .tup [.int n, .tup []]]
noncomputable abbrev asg (n : Int) (rv : D) : D := .tup [.str (S "assign"), .tup [.int n, .tup []], rv]
noncomputable abbrev tr (b : Bool) : D := .tup [.str (S "const"), .bit, .bool b]
noncomputable abbrev kc (κ : Str) (x : Int) : D := .tup [.str (S "const"), tD κ, .int x]
noncomputable abbrev us (e : D) : D := .tup [.str (S "use"), e]
noncomputable abbrev bin (op : Str) (a b : D) : D := .tup [.str (S "binary"), .str op, a, b]
noncomputable abbrev prt (e : D) : D := .tup [.str (S "print"), e]
noncomputable abbrev fi (b : Bool) : Int := if b = true then 1 else 0
/-- what is known: locals 2 to 6, and how many of them at most -/
structure K5 where
  a2 : Option D
  a3 : Option D
  a4 : Option D
  a5 : Option D
  a6 : Option D
  m : Nat
noncomputable def FA (σ : K5) : Int → Option AV := fun j => (if j = 2 then σ.a2 else if j = 3 then σ.a3 else if j = 4 then σ.a4 else if j = 5 then σ.a5 else if j = 6 then σ.a6 else none).map .d
inductive Sh where
  | asg2 | asg3 | asg4
  | bin (op : Str) (g : Int → Int → Bool) (b2 b3 : Bool)
  | not3
  | ari (op : Str)
  | cas (b : Bool)
  | tup5 | fld2
  | cmp (op : Str) (g : Int → Int → Bool)
  | unk (op : Str)
  | p2u | p2 | p3 | p4
noncomputable def vb (b : Bool) : Option D := some (.bool b)
noncomputable def vi (x : Int) : Option D := some (.int x)
noncomputable def ask6 : List (Str × (Int → Int → Bool)) := [(S "==", fun a b => decide (a = b)), (S "!=", fun a b => !decide (a = b)), (S "<", fun a b => decide (a < b)), (S "<=", fun a b => decide (a ≤ b)), (S ">", fun a b => decide (b < a)), (S ">=", fun a b => decide (b ≤ a))]
noncomputable def bin9 : List (Str × (Int → Int → Bool)) := (S "&", fun a b => decide (a * b = 1)) :: (S "|", fun a b => decide (a + b - a * b = 1)) :: (S "^", fun a b => decide ((a + b).fmod 2 = 1)) :: ask6
noncomputable def ops7 : List Str := [S "+", S "-", S "*", S "/", S "%", S "<<", S ">>"]
noncomputable def unk4 : List Str := [S "&", S "|", S "^", S "=="]
section
variable (κ : Str) (wk : Str → Int → Int → Int) (b : Bool) (x y : Int) (σ : K5)
noncomputable def rowS : Sh → D
  | .asg2 => asg 2 (us (tr b))
  | .asg3 => asg 3 (us (tr b))
  | .asg4 => asg 4 (us (kc κ x))
  | .bin op _ _ _ => asg 2 (Mine.bin op (cp 2) (cp 3))
  | .not3 => asg 3 (.tup [.str (S "unary"), .str (S "!"), cp 3])
  | .ari op => asg 4 (Mine.bin op (cp 4) (kc κ y))
  | .cas _ => asg 6 (.tup [.str (S "cast"), cp 2, .long])
  | .tup5 => asg 5 (.tup [.str (S "tuple"), .tup [cp 3, cp 4]])
  | .fld2 => asg 2 (us (.tup [.str (S "copy"), .tup [.int 5, .tup [.tup [.str (S "field"), .int 0]]]]))
  | .cmp op _ => asg 3 (Mine.bin op (cp 4) (kc κ y))
  | .unk op => asg 2 (Mine.bin op (cp 2) (cp 1))
  | .p2u => prt (cp 2)
  | .p2 => prt (cp 2)
  | .p3 => prt (cp 3)
  | .p4 => prt (cp 4)
noncomputable def dueS : Sh → D
  | .asg2 => asg 2 (us (tr b))
  | .asg3 => asg 3 (us (tr b))
  | .asg4 => asg 4 (us (kc κ x))
  | .bin _ g b2 b3 => asg 2 (us (tr (g (fi b2) (fi b3))))
  | .not3 => asg 3 (us (tr (!b)))
  | .ari op => asg 4 (us (kc κ (wk op x y)))
  | .cas c => asg 6 (us (.tup [.str (S "const"), .long, .int (fi c)]))
  | .tup5 => asg 5 (.tup [.str (S "tuple"), .tup [tr b, kc κ x]])
  | .fld2 => asg 2 (us (tr b))
  | .cmp _ g => asg 3 (us (tr (g x y)))
  | .unk op => asg 2 (Mine.bin op (tr b) (cp 1))
  | .p2u => prt (cp 2)
  | .p2 => prt (tr b)
  | .p3 => prt (tr b)
  | .p4 => prt (kc κ x)
/-- what is known ahead of the row -/
noncomputable def preS : Sh → K5
  | .bin _ _ b2 b3 => { σ with a2 := vb b2, a3 := vb b3 }
  | .not3 => { σ with a3 := vb b }
  | .ari _ => { σ with a4 := vi x }
  | .cas c => { σ with a2 := vb c }
  | .tup5 => { σ with a3 := vb b, a4 := vi x }
  | .fld2 => { σ with a5 := some (.tup [.bool b, .int x]) }
  | .cmp _ _ => { σ with a4 := vi x }
  | .unk _ => { σ with a2 := vb b }
  | .p2u => { σ with a2 := none }
  | .p2 => { σ with a2 := vb b }
  | .p3 => { σ with a3 := vb b }
  | .p4 => { σ with a4 := vi x }
  | _ => σ
/-- which local it puts, and what is known of it then -/
noncomputable def putS : Sh → Option (Int × Option D)
  | .asg2 => some (2, vb b)
  | .asg3 => some (3, vb b)
  | .asg4 => some (4, vi x)
  | .bin _ g b2 b3 => some (2, vb (g (fi b2) (fi b3)))
  | .not3 => some (3, vb (!b))
  | .ari op => some (4, vi (wk op x y))
  | .cas c => some (6, vi (fi c))
  | .tup5 => some (5, some (.tup [.bool b, .int x]))
  | .fld2 => some (2, vb b)
  | .cmp _ g => some (3, vb (g x y))
  | .unk _ => some (2, none)
  | _ => none
end
noncomputable def shapes : List Sh := [.asg2, .asg3, .asg4] ++ (bin9.map fun p => [Sh.bin p.1 p.2 true true, .bin p.1 p.2 true false, .bin p.1 p.2 false true, .bin p.1 p.2 false false]).flatten ++ [.not3] ++ (ops7.map .ari) ++ [.cas true, .cas false, .tup5, .fld2] ++ (ask6.map fun p => .cmp p.1 p.2) ++ (unk4.map .unk) ++ [.p2u, .p2, .p3, .p4]
/-- the known table behind the row: what the executor makes -/
noncomputable def putF (f : Int → Option AV) : Option (Int × Option D) → Int → Option AV
  | none => f
  | some (i, v) => match v with
    | some a => fun j => if j = i then some (.d a) else if j = i then none else f j
    | none => fun j => if j = i then none else f j
noncomputable def putM (m : Nat) : Option (Int × Option D) → Nat
  | some (_, some _) => m + 1
  | _ => m
noncomputable def FOL : AO := .tab (fun j => if j = 6 then some (.d (.bool true)) else if j = 5 then some (.d (.bool true)) else if j = 4 then some (.d (.bool true)) else if j = 3 then some (.d (.bool true)) else if j = 2 then some (.d (.bool true)) else if j = 1 then some (.d (.bool true)) else if j = 0 then some (.d (.bool true)) else none) (.ks [0, 1, 2, 3, 4, 5, 6])
noncomputable def FBODY : AO := .fld [((S "name"), (.d (.str (S "f")))), ((S "arg_count"), (.d (.int 1))), ((S "locals"), (.obj 5)), ((S "blocks"), (.obj 6)), ((S "spots"), (.obj 7))]
noncomputable def FLOC (κ : Str) : AO := .lst [lcl .bit, lcl .bit, lcl .bit, lcl .bit, lcl (tD κ), lcl (.tup [.str (S "tuple"), .tup [.bit, tD κ]]), lcl .long]
noncomputable def FSELF : AO := .fld [((S "body"), (.obj 4)), ((S "followed"), (.obj 15)), ((S "begins"), (.obj 16))]
noncomputable def LMB (st : Slot) (e : AV) : Lm := [((S "self"), .av (.obj 13)), ((S "number"), .av (.d (.int 0))), ((S "facts"), .av (.obj 19)), ((S "statements"), .av (.obj 9)), ((S "terminator"), .av e), ((S "statement"), st), ((S "Facts"), .gl (.fn 273))]
noncomputable def HB (κ : Str) (s0 s1 s2 s6 s7 s8 s9 s10 s11 s14 s16 s17 : AO) (k : AO) : Hp := [s0, s1, s2, FBODY, .ins 193 3, FLOC κ, s6, s7, s8, s9, s10, s11, FSELF, .ins 396 12, s14, FOL, s16, s17, .fld [((S "known"), (.obj 20))], .ins 273 18, k]
noncomputable def LMC (st : Slot) (e : AV) : Lm := [((S "body"), .av (.obj 4)), ((S "constants"), .av (.obj 13)), ((S "found"), .av (.obj 31)), ((S "number"), .av (.d (.int 0))), ((S "facts"), .av (.obj 34)), ((S "statements"), .av (.obj 9)), ((S "terminator"), .av e), ((S "made"), .av (.obj 36)), ((S "statement"), st), ((S "Constants"), .gl (.fn 396)), ((S "copied"), .gl (.fn 207)), ((S "sorted"), .gl (.blt Bt.sorted)), ((S "Facts"), .gl (.fn 273))]
noncomputable def HC (κ : Str) (s0 s1 s2 s6 s7 s8 s9 s10 s11 s14 s16 s17 s18 s19 s20 s21 s22 s23 s24 s25 s26 s27 s28 s29 s30 s31 s32 : AO) (k made : AO) : Hp := [s0, s1, s2, FBODY, .ins 193 3, FLOC κ, s6, s7, s8, s9, s10, s11, FSELF, .ins 396 12, s14, FOL, s16, s17, s18, s19, s20, s21, s22, s23, s24, s25, s26, s27, s28, s29, s30, s31, s32, .fld [((S "known"), (.obj 35))], .ins 273 33, k, made]
noncomputable def forIn : List Stmt → Option (PySem.Expr × List Stmt)
  | [] => none
  | .For t _ b _ _ :: _ => some (t, b)
  | _ :: r => forIn r
noncomputable def fBody (o : Option (PySem.Expr × List Stmt)) : List Stmt := match o with
  | some p => p.2
  | none => []
noncomputable def fTgt (o : Option (PySem.Expr × List Stmt)) : PySem.Expr := match o with
  | some p => p.1
  | none => .Name (S "") ⟨0,0,0,0⟩
noncomputable def loopB (w : World) := forIn (bodyAt w 345)
noncomputable def loopC (w : World) := forIn (fBody (forIn (bodyAt w 407)))
noncomputable def loopL (w : World) := forIn (fBody (forIn (bodyAt w 235)))
noncomputable def hookX (okv : Str → Str → Int → Int → Prop) (wk : Str → Str → Int → Int → Int) (a : Addr) (as : List AV) (H : Hp) (P : AV → Hp → Prop) : Prop := four as fun κ op x y => okv κ op x y ∧ iB (Nat.beq a 451) (P (.d (.int (wk κ op x y))) H) (∀ c : Bool, P (.d (.tup [.int (wk κ op x y), .bool c])) H)
noncomputable def QX (okv : Str → Str → Int → Int → Prop) (wk : Str → Str → Int → Int → Int) : Orc := ⟨fun a => Nat.beq a 451 || Nat.beq a 118, hookX okv wk, fun _ => false, fun _ _ _ _ _ _ _ _ => False⟩
section
variable (okv : Str → Str → Int → Int → Prop) (wk : Str → Str → Int → Int → Int) (κ : Str) (b : Bool) (x y : Int) (m : Nat)
/-- what is asked ahead of a row -/
noncomputable def askS (sh : Sh) (R : Prop) : Prop := match sh with
  | .ari op => okv κ op x y ∧ ∀ _ : Bool, R
  | _ => R
noncomputable def roomS : Option (Int × Option D) → Prop → Prop
  | some (_, some _), R => m < 900 ∧ (m < 900 ∧ R)
  | some (_, none), R => m < 900 ∧ R
  | none, R => R
end
noncomputable def LML (st : Slot) (e : AV) : Lm := [((S "body"), .av (.obj 4)), ((S "found"), .av (.obj 14)), ((S "statements"), .av (.obj 9)), ((S "terminator"), .av e), ((S "statement"), st)]
noncomputable def LMD (st : Slot) (e : AV) : Lm := [((S "body"), .av (.obj 4)), ((S "constants"), .av (.obj 13)), ((S "found"), .av (.obj 32)), ((S "number"), .av (.d (.int 0))), ((S "facts"), .av (.obj 35)), ((S "statements"), .av (.obj 9)), ((S "terminator"), .av e), ((S "made"), .av (.obj 37)), ((S "statement"), st), ((S "Constants"), .gl (.fn 396)), ((S "copied"), .gl (.fn 207)), ((S "sorted"), .gl (.blt Bt.sorted)), ((S "Facts"), .gl (.fn 273))]
noncomputable def HD (κ : Str) (s0 s1 s2 s6 s7 s8 s9 s10 s11 s14 s16 s17 s18 s19 s20 s21 s22 s23 s24 s25 s26 s27 s28 s29 s30 s31 s32 s33 : AO) (k made : AO) : Hp := [s0, s1, s2, FBODY, .ins 193 3, FLOC κ, s6, s7, s8, s9, s10, s11, FSELF, .ins 396 12, s14, FOL, s16, s17, s18, s19, s20, s21, s22, s23, s24, s25, s26, s27, s28, s29, s30, s31, s32, s33, .fld [((S "known"), (.obj 36))], .ins 273 34, k, made]
end
section
/-! what is known of an object may be forgotten; what lies low -/
theorem ORs.weak {w : World} {ρ : List Addr} {R : Led} {ads : List Addr} {os : List Obj} {as : List AO} (h : ORs w ρ R ads os as) {a a' : AO} (x : ∀ ad o, OR w ρ R ad o a → OR w ρ R ad o a') : ∀ {k : Nat}, as[k]? = some a → ORs w ρ R ads os (as.set k a') := by
  induction h with
  | nil => intro k e; exact nz e
  | cons r rs ih =>
    intro k e
    cases k with
    | zero => cases Option.some.inj e; exact .cons (x _ _ r) rs
    | succ k => exact .cons r (ih e)
/-- a says more than a' -/
noncomputable def AW (a a' : AO) : Prop := (∀ (w : World) (ρ : List Addr) (R : Led) (ad : Addr) (o : Obj), OR w ρ R ad o a → OR w ρ R ad o a') ∧ a ≠ .dead
theorem St.weak {c : Ctx} {ek : EK} {ρ : List Addr} {R : Led} {lm : Lm} {H : Hp} {h : Heap} (st : St c ek ρ R lm H h) {k : Nat} {a a' : AO} (e : H[k]? = some a) (x : AW a a') : St c ek ρ R lm (H.set k a') h := by
  obtain ⟨m, os, F, N, y⟩ := st.raw
  refine Raw.st ⟨y.O.weak (x.1 _ _ _) e, y.el, y.nd, fun p hp j hj => ?_, y.gd, y.lo⟩ F N
  have q := y.of p hp j hj
  by_cases g : k = j
  · subst g; rw [e] at q; exact (x.2 (Option.some.inj q)).elim
  · rw [List.getElem?_set_ne g]; exact q
theorem DIs.of {w : World} {ρ : List Addr} {R : Led} {ds : List D} : ∀ {vs : List Value}, VRs w ρ R vs (ds.map .d) → DIs R vs ds := by
  induction ds with
  | nil => intro vs h; rw [show vs = [] from h.inv]; exact .nil
  | cons d ds ih => intro vs h; obtain ⟨v, r, rfl, a, b⟩ := h.inv; exact .cons a.inv (ih b)
theorem AW.sym {ds : List D} : AW (.lst (ds.map .d)) (.sym ds) := ⟨fun w ρ R ad o h => by obtain ⟨vs, n, rfl, q⟩ := h.inv; exact .sym (DIs.of q), fun q => nomatch q⟩
theorem AW.le {f : Int → Option AV} {l : List Int} {n : Nat} (hn : l.length ≤ n) : AW (.tab f (.ks l)) (.tab f (.le n)) := ⟨fun w ρ R ad o h => by
  obtain ⟨kvs, a, b, c, d⟩ := h.inv
  exact .tab a (by show kvs.length ≤ n; rw [← List.length_map (f := (·.1)), show kvs.map (·.1) = l from b]; exact hn) c d, fun q => nomatch q⟩
theorem JF.weak {N : Nat} {w : World} {tgt : PySem.Expr} {body : List Stmt} {src : AV} {lm : Lm} {H : Hp} {Pn : Lm → Hp → Prop} {Pr : AV → Hp → Prop} {k : Nat} {a a' : AO} (e : H[k]? = some a) (x : AW a a') (h : JF N w tgt body src lm (H.set k a') Pn Pr) : JF N w tgt body src lm H Pn Pr :=
  fun c a v E hw ok pe st vr => h c a v E hw ok pe (st.weak e x) vr
theorem low_d {m : Nat} {x : D} : (AV.d x).low m := fun _ _ _ _ h => .d h.inv
theorem low_fn {m : Nat} {x : Addr} : (AV.fn x).low m := fun _ _ _ _ h => by rw [show _ = _ from h.inv]; exact .fn _
theorem low_obj {m k : Nat} (hk : k < m) : (AV.obj k).low m := fun _ _ _ _ h => by obtain ⟨p, rfl, e⟩ := h.inv; exact .obj ((take_get hk).trans e)
theorem lows {m : Nat} {w : World} {ρ : List Addr} {R : Led} {as : List AV} (l : ∀ a ∈ as, a.low m) : ∀ {vs : List Value}, VRs w ρ R vs as → VRs w (ρ.take m) R vs as := by
  induction as with
  | nil => intro vs h; rw [show vs = [] from h.inv]; exact .nil
  | cons a as ih => intro vs h; obtain ⟨v, r, rfl, x, y⟩ := h.inv; exact .cons (l _ (.head _) _ _ _ _ x) (ih (fun b hb => l b (.tail _ hb)) y)
theorem low_lst {m : Nat} {as : List AV} (l : ∀ a ∈ as, a.low m) : (AV.lst as).low m := fun _ _ _ _ h => by obtain ⟨p, vs, n, rfl, a, b⟩ := h.inv; exact .lst a (lows l b)
theorem low_slst {m : Nat} {as : List D} : (AV.slst as).low m := fun _ _ _ _ h => by obtain ⟨p, vs, n, rfl, a, b⟩ := h.inv; exact .slst a b
theorem ov_low {m : Nat} {w : World} {ρ : List Addr} {R : Led} {v : Option Value} {a : Option AV} (l : ∀ x : AV, a = Option.some x → x.low m) (h : OV w ρ R v a) : OV w (ρ.take m) R v a := by
  cases a with
  | none => rw [show v = _ from h.inv]; exact .none
  | some a => obtain ⟨u, rfl, q⟩ := h.inv; exact .some (l _ rfl _ _ _ _ q)
theorem low_tab {m : Nat} {f : Int → Option AV} {z : Sz} (l : ∀ j x, f j = some x → x.low m) : (AV.tab f z).low m := fun _ _ _ _ h => by
  obtain ⟨p, o, kvs, rfl, a, b, c, d, e⟩ := h.inv
  exact .tab a b c (fun j => ov_low (l j) (d j)) e
theorem lowo_lst {m : Nat} {as : List AV} (l : ∀ a ∈ as, a.low m) : (AO.lst as).low m := fun _ _ _ _ _ h => by obtain ⟨vs, n, rfl, b⟩ := h.inv; exact .lst (lows l b)
theorem lowo_sym {m : Nat} {ds : List D} : (AO.sym ds).low m := fun _ _ _ _ _ h => by obtain ⟨vs, n, rfl, b⟩ := h.inv; exact .sym b
theorem lowo_tab {m : Nat} {f : Int → Option AV} {z : Sz} (l : ∀ j x, f j = some x → x.low m) : (AO.tab f z).low m := fun _ _ _ _ _ h => by
  obtain ⟨kvs, b, c, d, e⟩ := h.inv
  exact .tab b c (fun j => ov_low (l j) (d j)) e
theorem lowo_ins {m k : Nat} {C : Addr} (hk : k < m) : (AO.ins C k).low m := fun _ _ _ _ _ h => by obtain ⟨d, rfl, e⟩ := h.inv; exact .ins ((take_get hk).trans e)
theorem lowo_src {m k : Nat} (hk : k < m) : (AO.src k).low m := fun _ _ _ _ _ h => by obtain ⟨aL, x, y, t1, t2, n, rfl, e⟩ := h.inv; exact .src ((take_get hk).trans e)
theorem lowo_srcL {m : Nat} : AO.srcL.low m := fun _ _ _ _ _ h => by obtain ⟨vs, ns, n, rfl, a, b⟩ := h.inv; exact .srcL a b
theorem lowo_dead {m : Nat} : AO.dead.low m := fun _ _ _ _ _ _ => .dead
theorem lowo_any {m : Nat} : AO.any.low m := fun _ _ _ _ _ _ => .any
theorem lowo_celln {m : Nat} : (AO.cell none).low m := fun _ _ _ _ _ h => by obtain ⟨u, a, b⟩ := h.inv; rw [show u = none from b.inv] at a; exact .celln a
theorem lowo_cell {m : Nat} {v : AV} (l : v.low m) : (AO.cell (some v)).low m := fun _ _ _ _ _ h => by
  obtain ⟨u, a, b⟩ := h.inv
  obtain ⟨x, rfl, y⟩ := b.inv
  exact .cell a (l _ _ _ _ y)
theorem lowo_fld {m : Nat} {fs : List (Str × AV)} (l : ∀ p ∈ fs, p.2.low m) : (AO.fld fs).low m := fun w ρ R _ _ h => by
  obtain ⟨es, n, rfl, b⟩ := h.inv
  refine .fld ?_
  induction fs generalizing es with
  | nil => rw [show es = [] from b.inv]; exact .nil
  | cons p fs ih => obtain ⟨q, t, v, r, rfl, x, y⟩ := b.inv; exact .cons (l _ (.head _) _ _ _ _ x) (ih (fun p hp => l p (.tail _ hp)) _ y (.fld y))
/-- the loops' bodies are told by the executor, the two hard calls from outside -/
noncomputable def Hooks (w : World) (okv : Str → Str → Int → Int → Prop) (wk : Str → Str → Int → Int → Int) : Prop := ∀ κ op x y, okv κ op x y → ∀ (H : Hp) (P : AV → Hp → Prop),
  (P (.d (.int (wk κ op x y))) H → JC 25 w 451 [.d (.str κ), .d (.str op), .d (.int x), .d (.int y)] H P) ∧ ((∀ c : Bool, P (.d (.tup [.int (wk κ op x y), .bool c])) H) → JC 25 w 118 [.d (.str κ), .d (.str op), .d (.int x), .d (.int y)] H P)
theorem four_ok {as : List AV} {F : Str → Str → Int → Int → Prop} (h : four as F) : ∃ κ op x y, as = [.d (.str κ), .d (.str op), .d (.int x), .d (.int y)] ∧ F κ op x y := by
  match as, h with
  | [a, b, c, d], h =>
    obtain ⟨κ, e1, h⟩ := oX_ok (show oX (strA a) _ from h)
    obtain ⟨op, e2, h⟩ := oX_ok h
    obtain ⟨x, e3, h⟩ := oX_ok h
    obtain ⟨y, e4, h⟩ := oX_ok h
    exact ⟨κ, op, x, y, by rw [strA_is e1, strA_is e2, intA_is e3, intA_is e4], h⟩
theorem hookX_ok {w : World} {okv : Str → Str → Int → Int → Prop} {wk : Str → Str → Int → Int → Int} (hk : Hooks w okv wk) {f : Addr} {as : List AV} {H : Hp} {P : AV → Hp → Prop} (e : (Nat.beq f 451 || Nat.beq f 118) = true) (h : hookX okv wk f as H P) : JC 25 w f as H P := by
  obtain ⟨κ, op, x, y, rfl, h9, k⟩ := four_ok h
  rcases iB_ok k with ⟨e1, k⟩ | ⟨e1, k⟩
  · cases Nat.eq_of_beq_eq_true e1; exact (hk κ op x y h9 H P).1 k
  · rw [e1, Bool.false_or] at e
    cases Nat.eq_of_beq_eq_true e; exact (hk κ op x y h9 H P).2 k
theorem qX {w : World} {okv : Str → Str → Int → Int → Prop} {wk : Str → Str → Int → Int → Int} (hk : Hooks w okv wk) : QOK w (QX okv wk) 25 := ⟨fun e h => hookX_ok hk e h, fun h => False.elim h⟩
end
section
section
variable (κ : Str) (okv : Str → Str → Int → Int → Prop) (wk : Str → Str → Int → Int → Int)
noncomputable def okS (x y : Int) : Sh → Prop
  | .ari op => okv κ op x y
  | _ => True
/-- a row of the program, what is laid for it, and what is known ahead of it and behind it -/
noncomputable def RW (σ : K5) (r d : D) (σ' : K5) : Prop := ∃ sh ∈ shapes, ∃ b x y, σ = preS b x σ sh ∧ r = rowS κ b x y sh ∧ d = dueS κ (wk κ) b x y sh ∧ okS κ okv x y sh ∧ FA σ' = putF (FA σ) (putS (wk κ) b x y sh) ∧ σ'.m = putM σ.m (putS (wk κ) b x y sh)
structure Run (rs ds : List D) (σ0 σ1 : K5) (st : Nat → K5) : Prop where
  a : st 0 = σ0
  z : st rs.length = σ1
  l : ds.length = rs.length
  s : ∀ i, i < rs.length → ∃ r d, rs[i]? = some r ∧ ds[i]? = some d ∧ RW κ okv wk (st i) r d (st (i + 1))
end
section
variable {κ : Str} {okv : Str → Str → Int → Int → Prop} {wk : Str → Str → Int → Int → Int}
theorem ask_ok {x y : Int} {sh : Sh} {R : Prop} (h : okS κ okv x y sh) (r : R) : askS okv κ x y sh R := by
  unfold askS
  split
  · exact ⟨h, fun _ => r⟩
  · exact r
theorem room_ok {m : Nat} {o : Option (Int × Option D)} {R : Prop} (h : m < 900) (r : R) : roomS m o R := by
  unfold roomS
  split
  · exact ⟨h, h, r⟩
  · exact ⟨h, r⟩
  · exact r
theorem putM_le {m : Nat} {o : Option (Int × Option D)} : putM m o ≤ m + 1 := by
  unfold putM
  split
  · exact Nat.le_refl _
  · exact Nat.le_succ _
theorem Run.m {rs ds : List D} {σ0 σ1 : K5} {st : Nat → K5} (h : Run κ okv wk rs ds σ0 σ1 st) (m0 : σ0.m = 0) : ∀ i, i ≤ rs.length → (st i).m ≤ i := by
  intro i
  induction i with
  | zero => intro _; rw [h.a, m0]; exact Nat.le_refl _
  | succ i ih =>
    intro hi
    obtain ⟨r, d, _, _, sh, _, b, x, y, _, _, _, _, _, e⟩ := h.s i hi
    have := ih (by omega)
    rw [e]
    exact Nat.le_trans putM_le (by omega)
theorem Run.snoc {rs ds : List D} {σ0 σ1 σ2 : K5} {st : Nat → K5} {r d : D} (h : Run κ okv wk rs ds σ0 σ1 st) (x : RW κ okv wk σ1 r d σ2) : ∃ st', Run κ okv wk (rs ++ [r]) (ds ++ [d]) σ0 σ2 st' := by
  refine ⟨fun i => if i ≤ rs.length then st i else σ2, ?_, ?_, ?_, fun i hi => ?_⟩
  · exact (if_pos (Nat.zero_le _)).trans h.a
  · rw [List.length_append]; exact if_neg (by simp)
  · rw [List.length_append, List.length_append, h.l]; rfl
  · rw [List.length_append] at hi
    have hi : i < rs.length + 1 := hi
    rcases Nat.lt_or_ge i rs.length with l | l
    · obtain ⟨r', d', e1, e2, y⟩ := h.s i l
      refine ⟨r', d', ?_, ?_, ?_⟩
      · rw [List.getElem?_append_left l]; exact e1
      · rw [List.getElem?_append_left (by rw [h.l]; exact l)]; exact e2
      · rw [if_pos (Nat.le_of_lt l), if_pos (Nat.succ_le_of_lt l)]; exact y
    · have : i = rs.length := by omega
      subst this
      refine ⟨r, d, ?_, ?_, ?_⟩
      · rw [List.getElem?_append_right (Nat.le_refl _), Nat.sub_self]; rfl
      · rw [List.getElem?_append_right (by rw [h.l]; exact Nat.le_refl _), h.l, Nat.sub_self]; rfl
      · rw [if_pos (Nat.le_refl _), if_neg (by omega), h.z]; exact x
theorem at_sh {α : Type} {f g : Sh → α} (h : shapes.map f = shapes.map g) {sh : Sh} (hs : sh ∈ shapes) : f sh = g sh := List.map_inj_left.mp h sh hs
/-- a loop over rows -/
theorem run_loop {w : World} (hk : Hooks w okv wk) {tgt : PySem.Expr} {body : List Stmt} {rows : List D} {lmF : Slot → Lm} {HF : Nat → Hp} {L : Nat} {Pn : Lm → Hp → Prop} {Pr : AV → Hp → Prop} (hl : (HF 0).length ≤ L)
    (src : ∀ i j, srcX (.obj 9) (HF i) j = some ((rows[j]?).map .d))
    (bnd : ∀ i a (K : Lm → Hp → Prop), K (lmF (.av a)) (HF i) → bindX tgt a (lmF .un) (HF i) K ∧ ∀ a', bindX tgt a (lmF (.av a')) (HF i) K)
    (step : ∀ i r, rows[i]? = some r → ∀ (K : Lm → Hp → Prop), K (lmF (.av (.d r))) (HF (i + 1)) → stepS (X w (QX okv wk) 25 64) body (lmF (.av (.d r))) (HF i) (fun lm H => K lm (H.take L)) Pr)
    (cut : ∀ i, i < rows.length → ∀ r, Cut L (lmF (.av (.d r))) (HF (i + 1)))
    {last : D} (hla : rows.getLast? = some last) (hp : Pn (lmF (.av (.d last))) (HF rows.length)) : JF 65 w tgt body (.obj 9) (lmF .un) (HF 0) Pn Pr := by
  intro c a v E hw ok pe st vr
  refine for_core (k₀ := rows.length) (T := fun k i lm H => k + i = rows.length ∧ H = HF i ∧ ((i = 0 ∧ lm = lmF .un) ∨ ∃ j r, i = j + 1 ∧ rows[j]? = some r ∧ lm = lmF (.av (.d r)))) ok pe st vr (by rw [src]; rfl) ⟨rfl, rfl, .inl ⟨rfl, rfl⟩⟩ ?_
  rintro k i lm' H' ⟨hki, rfl, hlm⟩
  refine ⟨_, src i i, ?_⟩
  cases k with
  | zero =>
    rw [Nat.zero_add] at hki
    rw [List.getElem?_eq_none (by omega)]
    rcases hlm with ⟨h0, _⟩ | ⟨j, r, hj, hr, rfl⟩
    · rw [List.getLast?_eq_getElem?, List.getElem?_eq_none (by omega)] at hla; exact nz hla
    · show Pn _ _
      rw [List.getLast?_eq_getElem?, show rows.length - 1 = j by omega, hr] at hla
      cases Option.some.inj hla
      rw [hki]; exact hp
  | succ k =>
    have hi : i < rows.length := by omega
    rw [List.getElem?_eq_getElem hi]
    refine ⟨k, Nat.lt_succ_self _, ?_⟩
    have go : ∀ c' : Ctx, c'.w = c.w → c'.OK 65 → JS c' (lmF (.av (.d rows[i]))) (HF i) (execs body c'.env) (NextT (HF 0).length (fun lm H => k + (i + 1) = rows.length ∧ H = HF (i + 1) ∧ ((i + 1 = 0 ∧ lm = lmF .un) ∨ ∃ j r, i + 1 = j + 1 ∧ rows[j]? = some r ∧ lm = lmF (.av (.d r))))) Pr := by
      intro c' hw' ok'
      refine JS.mono (Snd.s (snd (qX hk) 65) (hw'.trans hw) ok' (step i _ (List.getElem?_eq_getElem hi) (fun lm H => Cut L lm H ∧ k + (i + 1) = rows.length ∧ H = HF (i + 1) ∧ ((i + 1 = 0 ∧ lm = lmF .un) ∨ ∃ j r, i + 1 = j + 1 ∧ rows[j]? = some r ∧ lm = lmF (.av (.d r)))) ⟨cut i hi _, by omega, rfl, .inr ⟨i, _, rfl, List.getElem?_eq_getElem hi, rfl⟩⟩)) ?_
      intro lm H ⟨h1, h2⟩
      exact .inr ⟨L, hl, h1, h2⟩
    rcases hlm with ⟨_, rfl⟩ | ⟨j, r, _, _, rfl⟩
    · exact (bnd i _ _ go).1
    · exact (bnd i _ _ go).2 _
end
end
section
theorem evB (w : World) (K : Lm → Hp → Prop) (Pr : AV → Hp → Prop) (κ : Str) (b : Bool) (x y : Int) (σ : K5) (s0 s1 s2 s6 s7 s8 s9 s10 s11 s14 s16 s17 : AO) (e : AV) (okv : Str → Str → Int → Int → Prop) (wk : Str → Str → Int → Int → Int) :
    (shapes.map fun sh => stepS (X w (QX okv wk) 25 64) (fBody (loopB w)) (LMB (.av (.d (rowS κ b x y sh))) e) (HB κ s0 s1 s2 s6 s7 s8 s9 s10 s11 s14 s16 s17 (.tab (FA (preS b x σ sh)) (.le σ.m))) (fun lm H => K lm (H.take 21)) Pr) =
    shapes.map fun sh => askS okv κ x y sh (roomS σ.m (putS (wk κ) b x y sh) (K (LMB (.av (.d (rowS κ b x y sh))) e) (HB κ s0 s1 s2 s6 s7 s8 s9 s10 s11 s14 s16 s17 (.tab (putF (FA (preS b x σ sh)) (putS (wk κ) b x y sh)) (.le (putM σ.m (putS (wk κ) b x y sh))))))) := by kernel_rfl!
end
section
theorem map_cut {α β : Type} {f g : α → β} {l : List α} (n : Nat) (a : (l.take n).map f = (l.take n).map g) (b : (l.drop n).map f = (l.drop n).map g) : l.map f = l.map g := by
  rw [← List.take_append_drop n l, List.map_append, List.map_append, a, b]
noncomputable def EvC (l : List Sh) : Prop := ∀ (w : World) (K : Lm → Hp → Prop) (Pr : AV → Hp → Prop) (κ : Str) (b : Bool) (x y : Int) (σ : K5) (ds : List D) (s0 s1 s2 s6 s7 s8 s9 s10 s11 s14 s16 s17 s18 s19 s20 s21 s22 s23 s24 s25 s26 s27 s28 s29 s30 s31 s32 : AO) (e : AV) (okv : Str → Str → Int → Int → Prop) (wk : Str → Str → Int → Int → Int),
    (l.map fun sh => stepS (X w (QX okv wk) 25 64) (fBody (loopC w)) (LMC (.av (.d (rowS κ b x y sh))) e) (HC κ s0 s1 s2 s6 s7 s8 s9 s10 s11 s14 s16 s17 s18 s19 s20 s21 s22 s23 s24 s25 s26 s27 s28 s29 s30 s31 s32 (.tab (FA (preS b x σ sh)) (.le σ.m)) (.sym ds)) (fun lm H => K lm (H.take 37)) Pr) =
    l.map fun sh => askS okv κ x y sh (ds.length < 900 ∧ askS okv κ x y sh (roomS σ.m (putS (wk κ) b x y sh) (K (LMC (.av (.d (rowS κ b x y sh))) e) (HC κ s0 s1 s2 s6 s7 s8 s9 s10 s11 s14 s16 s17 s18 s19 s20 s21 s22 s23 s24 s25 s26 s27 s28 s29 s30 s31 s32 (.tab (putF (FA (preS b x σ sh)) (putS (wk κ) b x y sh)) (.le (putM σ.m (putS (wk κ) b x y sh)))) (.sym (ds ++ [dueS κ (wk κ) b x y sh]))))))
theorem EvC.cut {l : List Sh} (n : Nat) (h : EvC (l.take n)) (h2 : EvC (l.drop n)) : EvC l := fun w K Pr κ b x y σ ds s0 s1 s2 s6 s7 s8 s9 s10 s11 s14 s16 s17 s18 s19 s20 s21 s22 s23 s24 s25 s26 s27 s28 s29 s30 s31 s32 e okv wk => map_cut n (h w K Pr κ b x y σ ds s0 s1 s2 s6 s7 s8 s9 s10 s11 s14 s16 s17 s18 s19 s20 s21 s22 s23 s24 s25 s26 s27 s28 s29 s30 s31 s32 e okv wk) (h2 w K Pr κ b x y σ ds s0 s1 s2 s6 s7 s8 s9 s10 s11 s14 s16 s17 s18 s19 s20 s21 s22 s23 s24 s25 s26 s27 s28 s29 s30 s31 s32 e okv wk)
theorem evC1 : EvC ((shapes).take 16) := by
  unfold EvC; intros; kernel_rfl!
theorem evC2 : EvC (((shapes).drop 16).take 16) := by
  unfold EvC; intros; kernel_rfl!
theorem evC3 : EvC ((((shapes).drop 16).drop 16).take 16) := by
  unfold EvC; intros; kernel_rfl!
theorem evC4 : EvC ((((shapes).drop 16).drop 16).drop 16) := by
  unfold EvC; intros; kernel_rfl!
theorem evC : EvC shapes := .cut 16 evC1 (.cut 16 evC2 (.cut 16 evC3 evC4))
end
section
noncomputable def EvD (l : List Sh) : Prop := ∀ (w : World) (K : Lm → Hp → Prop) (Pr : AV → Hp → Prop) (κ : Str) (b : Bool) (x y : Int) (σ : K5) (ds : List D) (s0 s1 s2 s6 s7 s8 s9 s10 s11 s14 s16 s17 s18 s19 s20 s21 s22 s23 s24 s25 s26 s27 s28 s29 s30 s31 s32 s33 : AO) (e : AV) (okv : Str → Str → Int → Int → Prop) (wk : Str → Str → Int → Int → Int),
    (l.map fun sh => stepS (X w (QX okv wk) 25 64) (fBody (loopC w)) (LMD (.av (.d (rowS κ b x y sh))) e) (HD κ s0 s1 s2 s6 s7 s8 s9 s10 s11 s14 s16 s17 s18 s19 s20 s21 s22 s23 s24 s25 s26 s27 s28 s29 s30 s31 s32 s33 (.tab (FA (preS b x σ sh)) (.le σ.m)) (.sym ds)) (fun lm H => K lm (H.take 38)) Pr) =
    l.map fun sh => askS okv κ x y sh (ds.length < 900 ∧ askS okv κ x y sh (roomS σ.m (putS (wk κ) b x y sh) (K (LMD (.av (.d (rowS κ b x y sh))) e) (HD κ s0 s1 s2 s6 s7 s8 s9 s10 s11 s14 s16 s17 s18 s19 s20 s21 s22 s23 s24 s25 s26 s27 s28 s29 s30 s31 s32 s33 (.tab (putF (FA (preS b x σ sh)) (putS (wk κ) b x y sh)) (.le (putM σ.m (putS (wk κ) b x y sh)))) (.sym (ds ++ [dueS κ (wk κ) b x y sh]))))))
theorem EvD.cut {l : List Sh} (n : Nat) (h : EvD (l.take n)) (h2 : EvD (l.drop n)) : EvD l := fun w K Pr κ b x y σ ds s0 s1 s2 s6 s7 s8 s9 s10 s11 s14 s16 s17 s18 s19 s20 s21 s22 s23 s24 s25 s26 s27 s28 s29 s30 s31 s32 s33 e okv wk => map_cut n (h w K Pr κ b x y σ ds s0 s1 s2 s6 s7 s8 s9 s10 s11 s14 s16 s17 s18 s19 s20 s21 s22 s23 s24 s25 s26 s27 s28 s29 s30 s31 s32 s33 e okv wk) (h2 w K Pr κ b x y σ ds s0 s1 s2 s6 s7 s8 s9 s10 s11 s14 s16 s17 s18 s19 s20 s21 s22 s23 s24 s25 s26 s27 s28 s29 s30 s31 s32 s33 e okv wk)
theorem evD1 : EvD ((shapes).take 16) := by
  unfold EvD; intros; kernel_rfl!
theorem evD2 : EvD (((shapes).drop 16).take 16) := by
  unfold EvD; intros; kernel_rfl!
theorem evD3 : EvD ((((shapes).drop 16).drop 16).take 16) := by
  unfold EvD; intros; kernel_rfl!
theorem evD4 : EvD ((((shapes).drop 16).drop 16).drop 16) := by
  unfold EvD; intros; kernel_rfl!
theorem evD : EvD shapes := .cut 16 evD1 (.cut 16 evD2 (.cut 16 evD3 evD4))
end
section
theorem evL (w : World) (K : Lm → Hp → Prop) (Pr : AV → Hp → Prop) (κ : Str) (b : Bool) (x y : Int) (H : Hp) (e : AV) (okv : Str → Str → Int → Int → Prop) (wk : Str → Str → Int → Int → Int) :
    (shapes.map fun sh => stepS (X w (QX okv wk) 25 64) (fBody (loopL w)) (LML (.av (.d (rowS κ b x y sh))) e) H K Pr) =
    shapes.map fun sh => K (LML (.av (.d (rowS κ b x y sh))) e) H := by kernel_rfl!
theorem bindL (w : World) (K : Lm → Hp → Prop) (H : Hp) (e a a' : AV) : [bindX (fTgt (loopL w)) a (LML .un e) H K, bindX (fTgt (loopL w)) a (LML (.av a') e) H K] = [K (LML (.av a) e) H, K (LML (.av a) e) H] := by kernel_rfl!
theorem bindB (w : World) (K : Lm → Hp → Prop) (H : Hp) (e a a' : AV) : [bindX (fTgt (loopB w)) a (LMB .un e) H K, bindX (fTgt (loopB w)) a (LMB (.av a') e) H K] = [K (LMB (.av a) e) H, K (LMB (.av a) e) H] := by kernel_rfl!
theorem bindC' (w : World) (K : Lm → Hp → Prop) (H : Hp) (e a a' : AV) : [bindX (fTgt (loopC w)) a (LMC .un e) H K, bindX (fTgt (loopC w)) a (LMC (.av a') e) H K] = [K (LMC (.av a) e) H, K (LMC (.av a) e) H] := by kernel_rfl!
theorem bindD' (w : World) (K : Lm → Hp → Prop) (H : Hp) (e a a' : AV) : [bindX (fTgt (loopC w)) a (LMD .un e) H K, bindX (fTgt (loopC w)) a (LMD (.av a') e) H K] = [K (LMD (.av a) e) H, K (LMD (.av a) e) H] := by kernel_rfl!
end
section
section
variable {κ : Str} {okv : Str → Str → Int → Int → Prop} {wk : Str → Str → Int → Int → Int} {w : World} {rows ds : List D} {σ0 σ1 : K5} {st : Nat → K5} {Pn : Lm → Hp → Prop} {Pr : AV → Hp → Prop} {last : D}
theorem two_eq {a a' b b' : Prop} (h : [a, b] = [a', b']) : (a' → a) ∧ (b' → b) := by
  injection h with h1 h2
  injection h2 with h2 _
  exact ⟨fun x => h1 ▸ x, fun x => h2 ▸ x⟩
theorem fa_low {m : Nat} {σ : K5} : ∀ j x, FA σ j = some x → AV.low m x := by
  intro j x h
  obtain ⟨d, _, rfl⟩ := Option.map_eq_some_iff.mp h
  exact low_d
theorem loopL_ok (hk : Hooks w okv wk) (run : Run κ okv wk rows ds σ0 σ1 st) {e : D} {H : Hp} (h9 : H[9]? = some (.sym rows)) (h13 : 14 < H.length) (lo : ∀ a ∈ H, a.low H.length) (hla : rows.getLast? = some last) (hp : Pn (LML (.av (.d last)) (.d e)) H) :
    JF 65 w (fTgt (loopL w)) (fBody (loopL w)) (.obj 9) (LML .un (.d e)) H Pn Pr := by
  refine run_loop (lmF := fun s => LML s (.d e)) (HF := fun _ => H) (L := H.length) hk (Nat.le_refl _) (fun i j => ?_) (fun i a K h => ⟨(two_eq (bindL w K H (.d e) a a)).1 h, fun a' => (two_eq (bindL w K H (.d e) a a')).2 h⟩) (fun i r hr K h => ?_) (fun i hi r => ⟨fun p hp => ?_, lo⟩) hla hp
  · show (match (H[9]?).bind aoS with | some ds => _ | none => _) = _
    rw [h9]; rfl
  · have hi : i < rows.length := by
      rcases Nat.lt_or_ge i rows.length with l | l
      · exact l
      · rw [List.getElem?_eq_none l] at hr; exact nz hr
    obtain ⟨r', d, e1, e2, sh, hs, b, x, y, _, q, _⟩ := run.s i hi
    cases Option.some.inj (hr.symm.trans e1)
    subst q
    refine (at_sh (evL w (fun lm H' => K lm (H'.take H.length)) Pr κ b x y H (.d e) okv wk) hs).mpr ?_
    show K _ (H.take H.length)
    rw [List.take_length]; exact h
  · simp only [LML, List.mem_cons, List.mem_nil_iff, or_false] at hp
    rcases hp with rfl | rfl | rfl | rfl | rfl
    · exact low_obj (by omega)
    · exact low_obj (by omega)
    · exact low_obj (by omega)
    · exact low_d
    · exact low_d
theorem lt_of_get {α : Type} {l : List α} {i : Nat} {a : α} (h : l[i]? = some a) : i < l.length := by
  rcases Nat.lt_or_ge i l.length with g | g
  · exact g
  · rw [List.getElem?_eq_none g] at h; exact nz h
theorem loopB_ok (hk : Hooks w okv wk) (run : Run κ okv wk rows ds σ0 σ1 st) (m0 : σ0.m = 0) (hn : rows.length < 890) {e : D} {s0 s1 s2 s6 s7 s8 s10 s11 s14 s16 s17 : AO} (lo : ∀ a ∈ HB κ s0 s1 s2 s6 s7 s8 (.sym rows) s10 s11 s14 s16 s17 .dead, a.low 21) (hla : rows.getLast? = some last)
    (hp : Pn (LMB (.av (.d last)) (.d e)) (HB κ s0 s1 s2 s6 s7 s8 (.sym rows) s10 s11 s14 s16 s17 (.tab (FA σ1) (.le σ1.m)))) :
    JF 65 w (fTgt (loopB w)) (fBody (loopB w)) (.obj 9) (LMB .un (.d e)) (HB κ s0 s1 s2 s6 s7 s8 (.sym rows) s10 s11 s14 s16 s17 (.tab (FA σ0) (.le σ0.m))) Pn Pr := by
  rw [← run.a]
  refine run_loop (lmF := fun s => LMB s (.d e)) (HF := fun i => HB κ s0 s1 s2 s6 s7 s8 (.sym rows) s10 s11 s14 s16 s17 (.tab (FA (st i)) (.le (st i).m))) (L := 21) hk (Nat.le_refl _) (fun i j => rfl) (fun i a K h => ⟨(two_eq (bindB w K _ (.d e) a a)).1 h, fun a' => (two_eq (bindB w K _ (.d e) a a')).2 h⟩) (fun i r hr K h => ?_) (fun i hi r => ⟨fun p hp => ?_, fun a ha => ?_⟩) hla (run.z ▸ hp)
  · have hi := lt_of_get hr
    have hm := run.m m0 i (Nat.le_of_lt hi)
    obtain ⟨r', d, e1, e2, sh, hs, b, x, y, q1, q, _, q2, q3, q4⟩ := run.s i hi
    cases Option.some.inj (hr.symm.trans e1)
    subst q
    have ev := at_sh (evB w K Pr κ b x y (st i) s0 s1 s2 s6 s7 s8 (.sym rows) s10 s11 s14 s16 s17 (.d e) okv wk) hs
    rw [← q1] at ev
    refine ev.mpr (ask_ok q2 (room_ok (by omega) ?_))
    rw [← q3, ← q4]
    exact h
  · simp only [LMB, List.mem_cons, List.mem_nil_iff, or_false] at hp
    rcases hp with rfl | rfl | rfl | rfl | rfl | rfl | rfl
    · exact low_obj (by omega)
    · exact low_d
    · exact low_obj (by omega)
    · exact low_obj (by omega)
    · exact low_d
    · exact low_d
    · exact trivial
  · rcases List.mem_or_eq_of_mem_set (show a ∈ (HB κ s0 s1 s2 s6 s7 s8 (.sym rows) s10 s11 s14 s16 s17 .dead).set 20 _ from ha) with h | rfl
    · exact lo a h
    · exact lowo_tab fa_low
theorem loopC_ok (hk : Hooks w okv wk) (run : Run κ okv wk rows ds σ0 σ1 st) (m0 : σ0.m = 0) (hn : rows.length < 890) {e : D} {s0 s1 s2 s6 s7 s8 s10 s11 s14 s16 s17 s18 s19 s20 s21 s22 s23 s24 s25 s26 s27 s28 s29 s30 s31 s32 : AO} (lo : ∀ a ∈ HC κ s0 s1 s2 s6 s7 s8 (.sym rows) s10 s11 s14 s16 s17 s18 s19 s20 s21 s22 s23 s24 s25 s26 s27 s28 s29 s30 s31 s32 .dead .dead, a.low 37) (hla : rows.getLast? = some last)
    (hp : Pn (LMC (.av (.d last)) (.d e)) (HC κ s0 s1 s2 s6 s7 s8 (.sym rows) s10 s11 s14 s16 s17 s18 s19 s20 s21 s22 s23 s24 s25 s26 s27 s28 s29 s30 s31 s32 (.tab (FA σ1) (.le σ1.m)) (.sym ds))) :
    JF 65 w (fTgt (loopC w)) (fBody (loopC w)) (.obj 9) (LMC .un (.d e)) (HC κ s0 s1 s2 s6 s7 s8 (.sym rows) s10 s11 s14 s16 s17 s18 s19 s20 s21 s22 s23 s24 s25 s26 s27 s28 s29 s30 s31 s32 (.tab (FA σ0) (.le σ0.m)) (.sym [])) Pn Pr := by
  rw [← run.a]
  refine run_loop (lmF := fun s => LMC s (.d e)) (HF := fun i => HC κ s0 s1 s2 s6 s7 s8 (.sym rows) s10 s11 s14 s16 s17 s18 s19 s20 s21 s22 s23 s24 s25 s26 s27 s28 s29 s30 s31 s32 (.tab (FA (st i)) (.le (st i).m)) (.sym (ds.take i))) (L := 37) hk (Nat.le_refl _) (fun i j => rfl) (fun i a K h => ⟨(two_eq (bindC' w K _ (.d e) a a)).1 h, fun a' => (two_eq (bindC' w K _ (.d e) a a')).2 h⟩) (fun i r hr K h => ?_) (fun i hi r => ⟨fun p hp => ?_, fun a ha => ?_⟩) hla (by rw [run.z, ← run.l, List.take_length]; exact hp)
  · have hi := lt_of_get hr
    have hm := run.m m0 i (Nat.le_of_lt hi)
    obtain ⟨r', d, e1, e2, sh, hs, b, x, y, q1, q, q5, q2, q3, q4⟩ := run.s i hi
    cases Option.some.inj (hr.symm.trans e1)
    subst q
    have ev := at_sh (evC w K Pr κ b x y (st i) (ds.take i) s0 s1 s2 s6 s7 s8 (.sym rows) s10 s11 s14 s16 s17 s18 s19 s20 s21 s22 s23 s24 s25 s26 s27 s28 s29 s30 s31 s32 (.d e) okv wk) hs
    rw [← q1] at ev
    refine ev.mpr (ask_ok q2 ⟨by rw [List.length_take]; omega, ask_ok q2 (room_ok (by omega) ?_)⟩)
    rw [← q3, ← q4, ← q5]
    rw [List.take_add_one, e2] at h
    exact h
  · simp only [LMC, List.mem_cons, List.mem_nil_iff, or_false] at hp
    rcases hp with rfl | rfl | rfl | rfl | rfl | rfl | rfl | rfl | rfl | rfl | rfl | rfl | rfl
    · exact low_obj (by omega)
    · exact low_obj (by omega)
    · exact low_obj (by omega)
    · exact low_d
    · exact low_obj (by omega)
    · exact low_obj (by omega)
    · exact low_d
    · exact low_obj (by omega)
    · exact low_d
    all_goals exact trivial
  · rcases List.mem_or_eq_of_mem_set (show a ∈ ((HC κ s0 s1 s2 s6 s7 s8 (.sym rows) s10 s11 s14 s16 s17 s18 s19 s20 s21 s22 s23 s24 s25 s26 s27 s28 s29 s30 s31 s32 .dead .dead).set 35 _).set 36 _ from ha) with h | rfl
    · rcases List.mem_or_eq_of_mem_set h with h | rfl
      · exact lo a h
      · exact lowo_tab fa_low
    · exact lowo_sym
theorem loopD_ok (hk : Hooks w okv wk) (run : Run κ okv wk rows ds σ0 σ1 st) (m0 : σ0.m = 0) (hn : rows.length < 890) {e : D} {s0 s1 s2 s6 s7 s8 s10 s11 s14 s16 s17 s18 s19 s20 s21 s22 s23 s24 s25 s26 s27 s28 s29 s30 s31 s32 s33 : AO} (lo : ∀ a ∈ HD κ s0 s1 s2 s6 s7 s8 (.sym rows) s10 s11 s14 s16 s17 s18 s19 s20 s21 s22 s23 s24 s25 s26 s27 s28 s29 s30 s31 s32 s33 .dead .dead, a.low 38) (hla : rows.getLast? = some last)
    (hp : Pn (LMD (.av (.d last)) (.d e)) (HD κ s0 s1 s2 s6 s7 s8 (.sym rows) s10 s11 s14 s16 s17 s18 s19 s20 s21 s22 s23 s24 s25 s26 s27 s28 s29 s30 s31 s32 s33 (.tab (FA σ1) (.le σ1.m)) (.sym ds))) :
    JF 65 w (fTgt (loopC w)) (fBody (loopC w)) (.obj 9) (LMD .un (.d e)) (HD κ s0 s1 s2 s6 s7 s8 (.sym rows) s10 s11 s14 s16 s17 s18 s19 s20 s21 s22 s23 s24 s25 s26 s27 s28 s29 s30 s31 s32 s33 (.tab (FA σ0) (.le σ0.m)) (.sym [])) Pn Pr := by
  rw [← run.a]
  refine run_loop (lmF := fun s => LMD s (.d e)) (HF := fun i => HD κ s0 s1 s2 s6 s7 s8 (.sym rows) s10 s11 s14 s16 s17 s18 s19 s20 s21 s22 s23 s24 s25 s26 s27 s28 s29 s30 s31 s32 s33 (.tab (FA (st i)) (.le (st i).m)) (.sym (ds.take i))) (L := 38) hk (Nat.le_refl _) (fun i j => rfl) (fun i a K h => ⟨(two_eq (bindD' w K _ (.d e) a a)).1 h, fun a' => (two_eq (bindD' w K _ (.d e) a a')).2 h⟩) (fun i r hr K h => ?_) (fun i hi r => ⟨fun p hp => ?_, fun a ha => ?_⟩) hla (by rw [run.z, ← run.l, List.take_length]; exact hp)
  · have hi := lt_of_get hr
    have hm := run.m m0 i (Nat.le_of_lt hi)
    obtain ⟨r', d, e1, e2, sh, hs, b, x, y, q1, q, q5, q2, q3, q4⟩ := run.s i hi
    cases Option.some.inj (hr.symm.trans e1)
    subst q
    have ev := at_sh (evD w K Pr κ b x y (st i) (ds.take i) s0 s1 s2 s6 s7 s8 (.sym rows) s10 s11 s14 s16 s17 s18 s19 s20 s21 s22 s23 s24 s25 s26 s27 s28 s29 s30 s31 s32 s33 (.d e) okv wk) hs
    rw [← q1] at ev
    refine ev.mpr (ask_ok q2 ⟨by rw [List.length_take]; omega, ask_ok q2 (room_ok (by omega) ?_)⟩)
    rw [← q3, ← q4, ← q5]
    rw [List.take_add_one, e2] at h
    exact h
  · simp only [LMD, List.mem_cons, List.mem_nil_iff, or_false] at hp
    rcases hp with rfl | rfl | rfl | rfl | rfl | rfl | rfl | rfl | rfl | rfl | rfl | rfl | rfl
    · exact low_obj (by omega)
    · exact low_obj (by omega)
    · exact low_obj (by omega)
    · exact low_d
    · exact low_obj (by omega)
    · exact low_obj (by omega)
    · exact low_d
    · exact low_obj (by omega)
    · exact low_d
    all_goals exact trivial
  · rcases List.mem_or_eq_of_mem_set (show a ∈ ((HD κ s0 s1 s2 s6 s7 s8 (.sym rows) s10 s11 s14 s16 s17 s18 s19 s20 s21 s22 s23 s24 s25 s26 s27 s28 s29 s30 s31 s32 s33 .dead .dead).set 36 _).set 37 _ from ha) with h | rfl
    · rcases List.mem_or_eq_of_mem_set h with h | rfl
      · exact lo a h
      · exact lowo_tab fa_low
    · exact lowo_sym
end
end
section
noncomputable def allR {α : Type} (F : α → Prop) : List α → Prop
  | [] => True
  | a :: r => allR F r ∧ F a
noncomputable def allQ {α : Type} (l : List α) (F : α → Prop) : Prop := allR F l.reverse
theorem allR_ok {α : Type} {F : α → Prop} : ∀ {l : List α}, (∀ a ∈ l, F a) → allR F l
  | [], _ => trivial
  | _ :: _, h => ⟨allR_ok fun b hb => h b (.tail _ hb), h _ (.head _)⟩
theorem allQ_ok {α : Type} {F : α → Prop} {l : List α} (h : ∀ a ∈ l, F a) : allQ l F := allR_ok fun a ha => h a (List.mem_reverse.mp ha)
noncomputable def updF (f : Int → Option AV) (i : Int) (a : AV) : Int → Option AV := fun j => if j = i then some a else f j
section
variable (κ : Str) (okv : Str → Str → Int → Int → Prop) (wk : Str → Int → Int → Int) (b2 b3 : Bool) (x : Int) (P : (Int → Option AV) → List D → List D → Prop) (f : Int → Option AV) (rows dues : List D)
noncomputable def oneT (b : Bool) (y : Int) (sh : Sh) (f' : Int → Option AV) : Prop := rows.length < 900 ∧ (dues.length < 900 ∧ P f' (rows ++ [rowS κ b x y sh]) (dues ++ [dueS κ wk b x y sh]))
noncomputable def twoT (Q : List D → List D → Prop) (b : Bool) (sh sh' : Sh) : Prop := rows.length < 900 ∧ (dues.length < 900 ∧ ((rows ++ [rowS κ b x 0 sh]).length < 900 ∧ ((dues ++ [dueS κ wk b x 0 sh]).length < 900 ∧ Q ((rows ++ [rowS κ b x 0 sh]) ++ [rowS κ b x 0 sh']) ((dues ++ [dueS κ wk b x 0 sh]) ++ [dueS κ wk b x 0 sh']))))
noncomputable def mulT (b2 b3 : Bool) (sh : Sh) (R : Prop) : Prop := match sh with
  | .bin _ _ _ _ => IntMulOk (fi b2) (fi b3) ∧ (IntMulOk (fi b2) (fi b3) ∧ R)
  | _ => R
/-- what one turn of the law asks for -/
noncomputable def turnR : Prop := allQ [0, 1, 2, 3, 4, 5, 6] fun way : Nat => match way with
  | 0 => allQ [0, 1, 2, 2, 3, 4, 5, 6, 7, 8] fun i : Nat => match bin9[i]? with
    | some p => match Nat.ble i 2 with
      | true => IntMulOk (fi b2) (fi b3) ∧ (IntMulOk (fi b2) (fi b3) ∧ oneT κ wk x P rows dues b3 0 (.bin p.1 p.2 b2 b3) (updF f 2 (.d (.bool (p.2 (fi b2) (fi b3))))))
      | false => oneT κ wk x P rows dues b3 0 (.bin p.1 p.2 b2 b3) (updF f 2 (.d (.bool (p.2 (fi b2) (fi b3)))))
    | none => False
  | 1 => oneT κ wk x P rows dues b3 0 .not3 (updF f 3 (.d (.bool (!b3))))
  | 2 => allQ ops7 fun op => allQ [1, 2, 3, 7, 100] fun y : Int => okv κ op x y ∧ oneT κ wk x P rows dues b3 y (.ari op) (updF f 4 (.d (.int (wk op x y))))
  | 3 => oneT κ wk x P rows dues b2 0 (.cas b2) f
  | 4 => twoT κ wk x rows dues (fun rs ds => P (updF f 2 (.d (.bool b3))) rs ds) b3 .tup5 .fld2
  | 5 => allQ ask6 fun p => allQ [0, 1, 100, x] fun y => oneT κ wk x P rows dues b3 y (.cmp p.1 p.2) (updF f 3 (.d (.bool (p.2 x y))))
  | _ => allQ unk4 fun op => twoT κ wk x rows dues (fun rs ds => allQ [true, false] fun b => rs.length < 900 ∧ (ds.length < 900 ∧ P (updF f 2 (.d (.bool b))) (rs ++ [rowS κ b x 0 .asg2]) (ds ++ [dueS κ wk b x 0 .asg2]))) b2 (.unk op) .p2u
end
theorem turnE (w : World) (K : Lm → Hp → Prop) (Pr : AV → Hp → Prop) (κ : Str) (lo bi x0 x i : Int) (rows dues : List D) (b2 b3 : Bool) (okv : Str → Str → Int → Int → Prop) (wk : Str → Str → Int → Int → Int) :
    stepS (X w (QX okv wk) 25 64) (loopAt w 9).2 (LM1 κ lo bi x0 .un (.av (.obj 10)) (ii i) .un .un .un .un .un .un) (HR κ (.lst []) (.tab (fk b2 b3 x) (.ks [2, 3, 4])) (.sym rows) (.sym dues)) K Pr =
    turnR κ okv (wk κ) b2 b3 x (fun f rs ds => K (LM1 κ lo bi x0 .un (.av (.obj 10)) (ii i) .un .un .un .un .un .un) (HR κ (.lst []) (.tab f (.ks [2, 3, 4])) (.sym rs) (.sym ds))) (fk b2 b3 x) rows dues := by kernel_rfl!
end
section
/-! what comes behind the turns: with_constants, and what is asked of it -/
noncomputable def rvOf (goal : Option Int) (as : List AV) : AV := match as with
  | [_, .d (.tup (.str s :: _)), _] => if s = S "return" then .d .none else (match goal with
    | some g => .d (.int g)
    | none => .d .none)
  | _ => .d .none
noncomputable def lmTo (k : Nat) (last : D) (lm : Lm) : Lm := putSl (S "statement") (.av (.d last)) lm
noncomputable def hpTo (k : Nat) (σ : K5) (ds : List D) (o : Nat) (H : Hp) : Hp := bif Nat.beq k 161 then H else bif Nat.beq k 265 then H.set 20 (.tab (FA σ) (.le σ.m)) else (H.set (35 + o) (.tab (FA σ) (.le σ.m))).set (36 + o) (.sym ds)
noncomputable def QR (cl : Addr → List AV → Hp → AV → Prop) (pl : Nat → PySem.Expr → List Stmt → AV → Lm → Hp → Lm → Hp → Prop) (goal : Option Int) (last : D) (σ : K5) (ds : List D) (o : Nat) : Orc :=
  ⟨fun a => Nat.beq a 357, fun a as H P => cl a as H (rvOf goal as) ∧ P (rvOf goal as) H, fun _ => false, fun k tgt body src lm H Pn _ => pl k tgt body src lm H (lmTo k last lm) (hpTo k σ ds o H) ∧ Pn (lmTo k last lm) (hpTo k σ ds o H)⟩
noncomputable def isT : AV → Hp → Prop := fun v _ => match v with | .d (.bool true) => True | _ => False
noncomputable abbrev gt (i : Int) : D := .tup [.str (S "goto"), .int i]
noncomputable def blk : AV := .lst [.lst [.d (prt (cp 3))], .d (.tup [.str (S "return")])]
noncomputable def BL (v : AV) (e : D) : AO := .lst [.lst [v, .d e], blk, blk, blk]
noncomputable abbrev EMP : AO := .tab (fun _ => none) (.ks [])
noncomputable abbrev KN (b2 b3 : Bool) (x : Int) : AO := .tab (fk b2 b3 x) (.ks [2, 3, 4])
noncomputable abbrev KT (σ : K5) : AO := .tab (FA σ) (.le σ.m)
noncomputable abbrev oc (k : Nat) : AO := .cell (some (.obj k))
noncomputable def BEG0 : AO := .tab (fun j => getI j [(0, .tab (fun _ => none) (.ks []))]) (.ks [0])
noncomputable def BEG1 (σ : K5) (g : Int) : AO := .tab (fun j => if j = g then some (.tab (FA σ) (.le σ.m)) else getI j [(0, .tab (fun _ => none) (.ks []))]) (.ks [0, g])
section
variable (κ : Str) (e : D) (b2 b3 : Bool) (x : Int) (rows dues DS : List D) (σ : K5) (g : Int) (due : D)
noncomputable def hL : Hp := HR κ (BL (.obj 9) e) (KN b2 b3 x) (.sym rows) (.sym dues) ++ [.sym DS, .fld [((S "body"), (.obj 4))], .ins 396 12, EMP]
noncomputable def hB (beg k : AO) : Hp := HB κ (.src 1) .srcL (oc 8) (BL (.obj 9) e) EMP (KN b2 b3 x) (.sym rows) (.sym dues) (.sym DS) .dead beg (.lst []) k
noncomputable def h1 : Hp := hB κ e b2 b3 x rows dues DS BEG0 (KT σ) ++ [oc 19]
noncomputable def h2 : Hp := hB κ e b2 b3 x rows dues DS (BEG1 σ g) (KT σ) ++ [oc 19, oc 20, .cell none, .fld [((S "known"), (.obj 26))], .ins 273 24, KT σ, oc 25]
noncomputable def hC (bl k made : AO) : Hp := HC κ (.src 1) .srcL (oc 8) (BL (.obj 9) e) EMP (KN b2 b3 x) (.sym rows) (.sym dues) (.sym DS) .dead (BEG1 σ g) (.lst []) (.fld [((S "known"), (.obj 20))]) (.ins 273 18) (KT σ) (oc 19) (oc 20) (.cell none) (.fld [((S "known"), (.obj 26))]) (.ins 273 24) (KT σ) (oc 25) .dead bl (.fld [((S "name"), (.d (.str (S "f")))), ((S "arg_count"), (.d (.int 1))), ((S "locals"), (.obj 32)), ((S "blocks"), (.obj 29)), ((S "spots"), (.tab (fun _ => none) (.ks [])))]) (.ins 193 30) (FLOC κ) k made
noncomputable def h3 : Hp := hC κ e b2 b3 x rows dues DS σ g (BL (.slst rows) e) (KT σ) (.sym DS) ++ [oc 13, oc 34]
noncomputable def h4 : Hp := hC κ e b2 b3 x rows dues DS σ g (BL (.obj 36) due) (KT σ) (.sym DS) ++ [oc 13, oc 34, .fld [((S "known"), (.obj 41))], .ins 273 39, KT σ, .lst [.d (prt (tr b3))], oc 13, oc 40]
noncomputable def k2 : Hp := hB κ e b2 b3 x rows dues DS (BEG1 σ g) (KT σ) ++ [oc 19, .dead, oc 20, .cell none, .fld [((S "known"), (.obj 27))], .ins 273 25, KT σ, oc 26]
noncomputable def hD (bl k made : AO) : Hp := HD κ (.src 1) .srcL (oc 8) (BL (.obj 9) e) EMP (KN b2 b3 x) (.sym rows) (.sym dues) (.sym DS) .dead (BEG1 σ g) (.lst []) (.fld [((S "known"), (.obj 20))]) (.ins 273 18) (KT σ) (oc 19) .dead (oc 20) (.cell none) (.fld [((S "known"), (.obj 27))]) (.ins 273 25) (KT σ) (oc 26) .dead bl (.fld [((S "name"), (.d (.str (S "f")))), ((S "arg_count"), (.d (.int 1))), ((S "locals"), (.obj 33)), ((S "blocks"), (.obj 30)), ((S "spots"), (.tab (fun _ => none) (.ks [])))]) (.ins 193 31) (FLOC κ) k made
noncomputable def k3 : Hp := hD κ e b2 b3 x rows dues DS σ g (BL (.slst rows) e) (KT σ) (.sym DS) ++ [oc 13, oc 35]
noncomputable def k4 : Hp := hD κ e b2 b3 x rows dues DS σ g (BL (.obj 37) due) (KT σ) (.sym DS) ++ [oc 13, oc 35, .fld [((S "known"), (.obj 42))], .ins 273 40, KT σ, .lst [.d (prt (tr b3))], oc 13, oc 41]
end
noncomputable abbrev ret1 : D := .tup [.str (S "return")]
noncomputable def resR (cl : Addr → List AV → Hp → AV → Prop) (pl : Nat → PySem.Expr → List Stmt → AV → Lm → Hp → Lm → Hp → Prop) (w : World) (κ : Str) (e : D) (b2 b3 : Bool) (x : Int) (rows dues DS : List D) (σ : K5) (last : D) (g : Int) (v : AV) (due : D) : Prop :=
  pl 161 (fTgt (loopL w)) (fBody (loopL w)) (.obj 9) (LML .un (.d e)) (hL κ e b2 b3 x rows dues DS) (LML (.av (.d last)) (.d e)) (hL κ e b2 b3 x rows dues DS) ∧ (
  pl 265 (fTgt (loopB w)) (fBody (loopB w)) (.obj 9) (LMB .un (.d e)) (hB κ e b2 b3 x rows dues DS BEG0 EMP) (LMB (.av (.d last)) (.d e)) (hB κ e b2 b3 x rows dues DS BEG0 (KT σ)) ∧ (
  cl 357 [.obj 13, .d e, .obj 19] (h1 κ e b2 b3 x rows dues DS σ) v ∧ (σ.m < 900 ∧ (σ.m < 900 ∧ (
  cl 357 [.obj 13, .d ret1, .obj 25] (h2 κ e b2 b3 x rows dues DS σ g) (.d .none) ∧ (rows.length < 900 ∧ (
  pl 348 (fTgt (loopC w)) (fBody (loopC w)) (.obj 9) (LMC .un (.d e)) (hC κ e b2 b3 x rows dues DS σ g (BL (.slst rows) e) EMP (.lst [])) (LMC (.av (.d last)) (.d e)) (hC κ e b2 b3 x rows dues DS σ g (BL (.slst rows) e) (KT σ) (.sym DS)) ∧ (
  cl 357 [.obj 13, .d e, .obj 34] (h3 κ e b2 b3 x rows dues DS σ g) v ∧ (σ.m < 900 ∧ (
  cl 357 [.obj 13, .d ret1, .obj 40] (h4 κ e b2 b3 x rows dues DS σ g due) (.d .none) ∧ (
  DS.length < 900 ∧ ((DS = DS ∧ ∀ d ∈ DS, d.ok = true) ∧ True))))))))))))
noncomputable def resD (cl : Addr → List AV → Hp → AV → Prop) (pl : Nat → PySem.Expr → List Stmt → AV → Lm → Hp → Lm → Hp → Prop) (w : World) (κ : Str) (e : D) (b2 b3 : Bool) (x : Int) (rows dues DS : List D) (σ : K5) (last : D) (g : Int) (v : AV) (due : D) : Prop :=
  pl 161 (fTgt (loopL w)) (fBody (loopL w)) (.obj 9) (LML .un (.d e)) (hL κ e b2 b3 x rows dues DS) (LML (.av (.d last)) (.d e)) (hL κ e b2 b3 x rows dues DS) ∧ (
  pl 265 (fTgt (loopB w)) (fBody (loopB w)) (.obj 9) (LMB .un (.d e)) (hB κ e b2 b3 x rows dues DS BEG0 EMP) (LMB (.av (.d last)) (.d e)) (hB κ e b2 b3 x rows dues DS BEG0 (KT σ)) ∧ (
  cl 357 [.obj 13, .d e, .obj 19] (h1 κ e b2 b3 x rows dues DS σ) v ∧ (σ.m < 900 ∧ (σ.m < 900 ∧ (
  cl 357 [.obj 13, .d ret1, .obj 26] (k2 κ e b2 b3 x rows dues DS σ g) (.d .none) ∧ (rows.length < 900 ∧ (
  pl 348 (fTgt (loopC w)) (fBody (loopC w)) (.obj 9) (LMD .un (.d e)) (hD κ e b2 b3 x rows dues DS σ g (BL (.slst rows) e) EMP (.lst [])) (LMD (.av (.d last)) (.d e)) (hD κ e b2 b3 x rows dues DS σ g (BL (.slst rows) e) (KT σ) (.sym DS)) ∧ (
  cl 357 [.obj 13, .d e, .obj 35] (k3 κ e b2 b3 x rows dues DS σ g) v ∧ (σ.m < 900 ∧ (
  cl 357 [.obj 13, .d ret1, .obj 41] (k4 κ e b2 b3 x rows dues DS σ g due) (.d .none) ∧ (
  DS.length < 900 ∧ ((DS = DS ∧ ∀ d ∈ DS, d.ok = true) ∧ True))))))))))))
end
section
noncomputable def kinds : List (Str × Int × Int) := [(S "i8", -128, 8), (S "u16", 0, 16), (S "i64", -9223372036854775808, 64)]
noncomputable def nums (p : Str × Int × Int) : List Int := [p.2.1, p.2.1 + 2 ^ p.2.2.toNat - 1, 0, 5, 77]
noncomputable def rows3 (κ : Str) (b2 b3 : Bool) (x : Int) : List D := [asg 2 (us (tr b2)), asg 3 (us (tr b3)), asg 4 (us (kc κ x))]
theorem front (w : World) (K : Lm → Hp → Prop) (Pr : AV → Hp → Prop) : stepS (X0 w 40) ((bodyAt w 496).take 9) (LMR .un .un .un .un .un .un .un .un .un .un .un .un .un .un .un .un .un) [.src 1, .srcL, .cell none] K Pr =
    allQ kinds fun p => allQ (nums p) fun x => allQ [true, false] fun b2 => allQ [true, false] fun b3 =>
      K (LM1 p.1 p.2.1 p.2.2 x .un (.av (.obj 10)) .un .un .un .un .un .un .un) (HR p.1 (.lst []) (KN b2 b3 x) (.lst ((rows3 p.1 b2 b3 x).map .d)) (.lst ((rows3 p.1 b2 b3 x).map .d))) := by kernel_rfl!
end
section
noncomputable abbrev aE (e : D) (b : Bool) : D := .tup [.str (S "assert"), e, .bool b, .str (S "odd"), .int 3]
theorem restB (w : World) (cl : Addr → List AV → Hp → AV → Prop) (pl : Nat → PySem.Expr → List Stmt → AV → Lm → Hp → Lm → Hp → Prop) (K : Lm → Hp → Prop) (κ : Str) (lo bi x0 x i : Int) (rows dues DS : List D) (σ : K5) (last : D) (b2 : Bool) :
    ([true, false].map fun b => stepS (X w (QR cl pl (some 3) last { σ with a3 := vb b } DS 0) 65 130) ((bodyAt w 496).drop 13) (LM1 κ lo bi x0 (ii 4) (.av (.obj 11)) (ii i) (.av (.d (aE (cp 3) b))) (.av (.d (gt 3))) .un .un .un .un) (HR κ (.lst []) (.tab (fk b2 b x) (.ks [2, 3, 4])) (.sym rows) (.sym dues) ++ [.sym DS]) K isT) =
    [true, false].map fun b => resR cl pl w κ (aE (cp 3) b) b2 b x rows dues DS { σ with a3 := vb b } last 3 (.d (.int 3)) (gt 3) := by kernel_rfl!
theorem restC (w : World) (cl : Addr → List AV → Hp → AV → Prop) (pl : Nat → PySem.Expr → List Stmt → AV → Lm → Hp → Lm → Hp → Prop) (K : Lm → Hp → Prop) (κ : Str) (lo bi x0 x i : Int) (rows dues DS : List D) (σ : K5) (last : D) (b2 : Bool) :
    ([true, false].map fun b => stepS (X w (QR cl pl none last { σ with a3 := vb b } DS 1) 65 130) ((bodyAt w 496).drop 13) (LM1 κ lo bi x0 (ii 4) (.av (.obj 11)) (ii i) (.av (.d (aE (cp 3) (!b)))) (.av (.d (aE (tr b) (!b)))) .un .un .un .un) (HR κ (.lst []) (.tab (fk b2 b x) (.ks [2, 3, 4])) (.sym rows) (.sym dues) ++ [.sym DS]) K isT) =
    [true, false].map fun b => resD cl pl w κ (aE (cp 3) (!b)) b2 b x rows dues DS { σ with a3 := vb b } last 3 (.d .none) (aE (tr b) (!b)) := by kernel_rfl!
end
section
noncomputable abbrev SG (b2 b3 : Bool) (x : Int) (a5 a6 : Option D) (m : Nat) : K5 := ⟨vb b2, vb b3, vi x, a5, a6, m⟩
noncomputable abbrev pr2 (a b : D) : D := .tup [a, b]
noncomputable abbrev swE2 : D := sE (cp 2) (.tup [pr2 (.bool false) (.int 1)]) (.int 2)
noncomputable abbrev swE4 (near : Int) : D := sE (cp 4) (.tup [pr2 (.int 5) (.int 1), pr2 (.int near) (.int 2)]) (.int 3)
noncomputable abbrev swE5 : D := sE (cp 4) (.tup [pr2 (.int 5) (.int 1)]) (.int 3)
noncomputable def ktL (w : World) (s : Nat) (H : K5 → Hp) (P : AV → Hp → Prop) (b2 b3 : Bool) (x near : Int) (a5 a6 : Option D) (m : Nat) : List Prop :=
  [(X0 w 30).c 357 [.obj 13, .d swE2, .obj s] (H (SG true b3 x a5 a6 m)) P,
   (X0 w 30).c 357 [.obj 13, .d swE2, .obj s] (H (SG false b3 x a5 a6 m)) P,
   (X0 w 30).c 357 [.obj 13, .d (swE4 near), .obj s] (H (SG b2 b3 x a5 a6 m)) P,
   (X0 w 30).c 357 [.obj 13, .d swE5, .obj s] (H (SG b2 b3 x a5 a6 m)) P,
   (X0 w 30).c 357 [.obj 13, .d (aE (cp 3) true), .obj s] (H (SG b2 true x a5 a6 m)) P,
   (X0 w 30).c 357 [.obj 13, .d (aE (cp 3) false), .obj s] (H (SG b2 false x a5 a6 m)) P,
   (X0 w 30).c 357 [.obj 13, .d (aE (cp 3) false), .obj s] (H (SG b2 true x a5 a6 m)) P,
   (X0 w 30).c 357 [.obj 13, .d (aE (cp 3) true), .obj s] (H (SG b2 false x a5 a6 m)) P]
noncomputable def ktR (H : K5 → Hp) (P : AV → Hp → Prop) (b2 b3 : Bool) (x near : Int) (a5 a6 : Option D) (m : Nat) : List Prop :=
  [P (.d (.int 2)) (H (SG true b3 x a5 a6 m)),
   P (.d (.int 1)) (H (SG false b3 x a5 a6 m)),
   iB (decide ((5 : Int) = x)) (P (.d (.int 1)) (H (SG b2 b3 x a5 a6 m))) (iB (decide (near = x)) (P (.d (.int 2)) (H (SG b2 b3 x a5 a6 m))) (P (.d (.int 3)) (H (SG b2 b3 x a5 a6 m)))),
   iB (decide ((5 : Int) = x)) (P (.d (.int 1)) (H (SG b2 b3 x a5 a6 m))) (P (.d (.int 3)) (H (SG b2 b3 x a5 a6 m))),
   P (.d (.int 3)) (H (SG b2 true x a5 a6 m)),
   P (.d (.int 3)) (H (SG b2 false x a5 a6 m)),
   P (.d .none) (H (SG b2 true x a5 a6 m)),
   P (.d .none) (H (SG b2 false x a5 a6 m))]
section
variable (w : World) (P : AV → Hp → Prop) (κ : Str) (e due : D) (b2 b3 kb2 kb3 : Bool) (x near kx g : Int) (rows dues DS : List D) (a5 a6 : Option D) (m : Nat) (σ : K5)
theorem kt1 : ktL w 19 (h1 κ e kb2 kb3 kx rows dues DS) P b2 b3 x near a5 a6 m = ktR (h1 κ e kb2 kb3 kx rows dues DS) P b2 b3 x near a5 a6 m := by kernel_rfl!
theorem kt3 : ktL w 34 (fun σ => h3 κ e kb2 kb3 kx rows dues DS σ g) P b2 b3 x near a5 a6 m = ktR (fun σ => h3 κ e kb2 kb3 kx rows dues DS σ g) P b2 b3 x near a5 a6 m := by kernel_rfl!
theorem kk3 : ktL w 35 (fun σ => k3 κ e kb2 kb3 kx rows dues DS σ g) P b2 b3 x near a5 a6 m = ktR (fun σ => k3 κ e kb2 kb3 kx rows dues DS σ g) P b2 b3 x near a5 a6 m := by kernel_rfl!
theorem kret : [(X0 w 30).c 357 [.obj 13, .d ret1, .obj 25] (h2 κ e kb2 kb3 kx rows dues DS σ g) P, (X0 w 30).c 357 [.obj 13, .d ret1, .obj 40] (h4 κ e kb2 kb3 kx rows dues DS σ g due) P,
    (X0 w 30).c 357 [.obj 13, .d ret1, .obj 26] (k2 κ e kb2 kb3 kx rows dues DS σ g) P, (X0 w 30).c 357 [.obj 13, .d ret1, .obj 41] (k4 κ e kb2 kb3 kx rows dues DS σ g due) P] =
    [P (.d .none) (h2 κ e kb2 kb3 kx rows dues DS σ g), P (.d .none) (h4 κ e kb2 kb3 kx rows dues DS σ g due), P (.d .none) (k2 κ e kb2 kb3 kx rows dues DS σ g), P (.d .none) (k4 κ e kb2 kb3 kx rows dues DS σ g due)] := by kernel_rfl!
end
end
section
noncomputable def endR (b2 b3 : Bool) (x : Int) (K : D → D → Prop) : Prop :=
  ((True ∧ iB b2 (K swE2 (gt 2)) (K swE2 (gt 1))) ∧
   (((True ∧ iB (decide (x = 5)) (iB (!decide (x = 5)) (K (swE4 x) (gt 1)) (K swE5 (gt 1))) (iB (decide (x = x)) (iB (!decide (x = 5)) (K (swE4 x) (gt 2)) (K swE5 (gt 2))) (iB (!decide (x = 5)) (K (swE4 x) (gt 3)) (K swE5 (gt 3))))) ∧
     iB (decide (x = 5)) (K (swE4 0) (gt 1)) (iB (decide (x = 0)) (K (swE4 0) (gt 2)) (K (swE4 0) (gt 3)))) ∧
     iB (decide (x = 5)) (K (swE4 1) (gt 1)) (iB (decide (x = 1)) (K (swE4 1) (gt 2)) (K (swE4 1) (gt 3))))) ∧
   ((True ∧ iB (true == b3) (K (aE (cp 3) true) (gt 3)) (K (aE (cp 3) true) (aE (tr b3) true))) ∧ iB (false == b3) (K (aE (cp 3) false) (gt 3)) (K (aE (cp 3) false) (aE (tr b3) false)))
theorem endE (w : World) (K : Lm → Hp → Prop) (Pr : AV → Hp → Prop) (κ : Str) (lo bi x0 x i : Int) (rows dues : List D) (b2 b3 : Bool) :
    stepS (X0 w 40) (((bodyAt w 496).drop 10).take 3) (LM1 κ lo bi x0 .un (.av (.obj 10)) (ii i) .un .un .un .un .un .un) (HR κ (.lst []) (KN b2 b3 x) (.sym rows) (.sym dues)) K Pr =
    (rows.length < 900 ∧ ((rows ++ [prt (cp 2)]).length < 900 ∧ (((rows ++ [prt (cp 2)]) ++ [prt (cp 3)]).length < 900 ∧ ((dues.length < 900 ∧ [prt (tr b2), prt (tr b3), prt (kc κ x)].length < 900) ∧
      endR b2 b3 x fun e due => K (LM1 κ lo bi x0 (ii 4) (.av (.obj 11)) (ii i) (.av (.d e)) (.av (.d due)) .un .un .un .un) (HR κ (.lst []) (KN b2 b3 x) (.sym (((rows ++ [prt (cp 2)]) ++ [prt (cp 3)]) ++ [prt (cp 4)])) (.sym dues) ++ [.sym (dues ++ [prt (tr b2), prt (tr b3), prt (kc κ x)])]))))) := by kernel_rfl!
noncomputable def QF (w : World) : Orc := ⟨fun _ => false, fun _ _ _ _ => False, fun k => Nat.beq k 448, fun _ tgt body src lm H Pn Pr => JF 65 w tgt body src lm H Pn Pr⟩
theorem turnsE (w : World) (K : Lm → Hp → Prop) (Pr : AV → Hp → Prop) (κ : Str) (lo bi x0 : Int) (H : List AO) (k rows dues : AO) :
    stepS (X w (QF w) 65 100) (((bodyAt w 496).drop 9).take 1) (LM1 κ lo bi x0 .un (.av (.obj 10)) .un .un .un .un .un .un .un) (HR κ (.lst []) k rows dues) K Pr =
    allQ [2, 3, 4, 5, 6, 7] fun n => JF 65 w (loopAt w 9).1 (loopAt w 9).2 (.rng n) (LM1 κ lo bi x0 .un (.av (.obj 10)) .un .un .un .un .un .un .un) (HR κ (.lst []) k rows dues) K Pr := by kernel_rfl!
theorem bindT (w : World) (K : Lm → Hp → Prop) (H : Hp) (κ : Str) (lo bi x0 : Int) (a a' : AV) : [bindX (loopAt w 9).1 a (LM1 κ lo bi x0 .un (.av (.obj 10)) .un .un .un .un .un .un .un) H K, bindX (loopAt w 9).1 a (LM1 κ lo bi x0 .un (.av (.obj 10)) (.av a') .un .un .un .un .un .un) H K] =
    [K (LM1 κ lo bi x0 .un (.av (.obj 10)) (.av a) .un .un .un .un .un .un) H, K (LM1 κ lo bi x0 .un (.av (.obj 10)) (.av a) .un .un .un .un .un .un) H] := by kernel_rfl!
end
section
noncomputable def K5.put (σ : K5) : Option (Int × Option D) → K5
  | none => σ
  | some (i, v) => ⟨if i = 2 then v else σ.a2, if i = 3 then v else σ.a3, if i = 4 then v else σ.a4, if i = 5 then v else σ.a5, if i = 6 then v else σ.a6, putM σ.m (some (i, v))⟩
theorem fa_put1 {σ : K5} {i : Int} {v : Option D} (hi : i = 2 ∨ i = 3 ∨ i = 4 ∨ i = 5 ∨ i = 6) : FA (σ.put (some (i, v))) = putF (FA σ) (some (i, v)) := by
  funext j
  rcases hi with rfl | rfl | rfl | rfl | rfl
  all_goals
    cases v with
    | none => simp only [FA, K5.put, putF]; (repeat' split) <;> simp_all
    | some d => simp only [FA, K5.put, putF]; (repeat' split) <;> simp_all
section
variable {κ : Str} {okv : Str → Str → Int → Int → Prop} {wk : Str → Str → Int → Int → Int}
theorem fa_put {σ : K5} {b : Bool} {x y : Int} {sh : Sh} : FA (σ.put (putS (wk κ) b x y sh)) = putF (FA σ) (putS (wk κ) b x y sh) := by
  cases sh
  all_goals first | rfl | exact fa_put1 (by simp)
theorem put_m {σ : K5} {o : Option (Int × Option D)} : (σ.put o).m = putM σ.m o := by
  cases o <;> rfl
theorem RW.mk {σ : K5} {sh : Sh} (hs : sh ∈ shapes) (b : Bool) (x y : Int) (p : σ = preS b x σ sh) (o : okS κ okv x y sh) : RW κ okv wk σ (rowS κ b x y sh) (dueS κ (wk κ) b x y sh) (σ.put (putS (wk κ) b x y sh)) :=
  ⟨sh, hs, b, x, y, p, rfl, rfl, o, fa_put, put_m⟩
noncomputable abbrev σ0 : K5 := ⟨none, none, none, none, none, 0⟩
/-- rows so far, what is known by now -/
structure Good (κ : Str) (okv : Str → Str → Int → Int → Prop) (wk : Str → Str → Int → Int → Int) (inR : Int → Prop) (L : Nat) (b2 b3 : Bool) (x : Int) (rows dues : List D) : Prop where
  r : inR x
  l : rows.length ≤ L
  e : ∃ a5 a6 m st, Run κ okv wk rows dues σ0 (SG b2 b3 x a5 a6 m) st
theorem mem_bin {p : Str × (Int → Int → Bool)} (h : p ∈ bin9) (b2 b3 : Bool) : Sh.bin p.1 p.2 b2 b3 ∈ shapes := by
  simp only [shapes, List.mem_append, List.mem_flatten, List.mem_map]
  refine .inl (.inl (.inl (.inl (.inl (.inl (.inr ⟨_, ⟨p, h, rfl⟩, ?_⟩))))))
  cases b2 <;> cases b3 <;> simp
theorem mem_ari {op : Str} (h : op ∈ ops7) : Sh.ari op ∈ shapes := by
  simp only [shapes, List.mem_append, List.mem_map]
  exact .inl (.inl (.inl (.inl (.inr ⟨op, h, rfl⟩))))
theorem mem_cmp {p : Str × (Int → Int → Bool)} (h : p ∈ ask6) : Sh.cmp p.1 p.2 ∈ shapes := by
  simp only [shapes, List.mem_append, List.mem_map]
  exact .inl (.inl (.inr ⟨p, h, rfl⟩))
theorem mem_unk {op : Str} (h : op ∈ unk4) : Sh.unk op ∈ shapes := by
  simp only [shapes, List.mem_append, List.mem_map]
  exact .inl (.inr ⟨op, h, rfl⟩)
theorem mem_not3 : Sh.not3 ∈ shapes := by simp [shapes]
theorem mem_cas (b : Bool) : Sh.cas b ∈ shapes := by cases b <;> simp [shapes]
theorem mem_tup5 : Sh.tup5 ∈ shapes := by simp [shapes]
theorem mem_fld2 : Sh.fld2 ∈ shapes := by simp [shapes]
theorem mem_asg2 : Sh.asg2 ∈ shapes := by simp [shapes]
theorem mem_asg3 : Sh.asg3 ∈ shapes := by simp [shapes]
theorem mem_asg4 : Sh.asg4 ∈ shapes := by simp [shapes]
theorem mem_p2u : Sh.p2u ∈ shapes := by simp [shapes]
theorem mem_p2 : Sh.p2 ∈ shapes := by simp [shapes]
theorem mem_p3 : Sh.p3 ∈ shapes := by simp [shapes]
theorem mem_p4 : Sh.p4 ∈ shapes := by simp [shapes]
theorem fk2 {b2 b3 v : Bool} {x : Int} : updF (fk b2 b3 x) 2 (.d (.bool v)) = fk v b3 x := by
  funext j; simp only [updF, fk, getI]; (repeat' split) <;> simp_all
theorem fk3 {b2 b3 v : Bool} {x : Int} : updF (fk b2 b3 x) 3 (.d (.bool v)) = fk b2 v x := by
  funext j; simp only [updF, fk, getI]; (repeat' split) <;> simp_all
theorem fk4 {b2 b3 : Bool} {x v : Int} : updF (fk b2 b3 x) 4 (.d (.int v)) = fk b2 b3 v := by
  funext j; simp only [updF, fk, getI]; (repeat' split) <;> simp_all
end
end
section
section
variable {κ : Str} {okv : Str → Str → Int → Int → Prop} {wk : Str → Str → Int → Int → Int} {inR : Int → Prop} {L : Nat} {b2 b3 : Bool} {x : Int} {rows dues : List D}
theorem Good.one (g : Good κ okv wk inR L b2 b3 x rows dues) {sh : Sh} (hs : sh ∈ shapes) (b : Bool) (xx y : Int) {b2' b3' : Bool} {x' : Int} (r : inR x') (o : okS κ okv xx y sh)
    (pre : ∀ a5 a6 m, SG b2 b3 x a5 a6 m = preS b xx (SG b2 b3 x a5 a6 m) sh) (post : ∀ a5 a6 m, ∃ c5 c6 n, (SG b2 b3 x a5 a6 m).put (putS (wk κ) b xx y sh) = SG b2' b3' x' c5 c6 n) :
    Good κ okv wk inR (L + 1) b2' b3' x' (rows ++ [rowS κ b xx y sh]) (dues ++ [dueS κ (wk κ) b xx y sh]) := by
  obtain ⟨a5, a6, m, st, run⟩ := g.e
  obtain ⟨c5, c6, n, e⟩ := post a5 a6 m
  obtain ⟨st', run'⟩ := run.snoc (RW.mk hs b xx y (pre a5 a6 m) o)
  rw [e] at run'
  exact ⟨r, by rw [List.length_append]; exact Nat.succ_le_succ g.l, _, _, _, _, run'⟩
theorem Good.le {L' : Nat} (g : Good κ okv wk inR L b2 b3 x rows dues) (h : L ≤ L') : Good κ okv wk inR L' b2 b3 x rows dues := ⟨g.r, Nat.le_trans g.l h, g.e⟩
theorem Good.dl (g : Good κ okv wk inR L b2 b3 x rows dues) : dues.length = rows.length := by
  obtain ⟨_, _, _, _, run⟩ := g.e
  exact run.l
theorem fi_ok (b2 b3 : Bool) : IntMulOk (fi b2) (fi b3) := IntMulOk.of_left (by cases b2 <;> decide)
/-- what is told of the seven operations -/
noncomputable def Ari (κ : Str) (okv : Str → Str → Int → Int → Prop) (wk : Str → Str → Int → Int → Int) (inR : Int → Prop) : Prop := ∀ op ∈ ops7, ∀ y ∈ ([1, 2, 3, 7, 100] : List Int), ∀ x, inR x → okv κ op x y ∧ inR (wk κ op x y)
theorem one_ok {P : (Int → Option AV) → List D → List D → Prop} (g : Good κ okv wk inR L b2 b3 x rows dues) (hL : L < 890) {b : Bool} {y : Int} {sh : Sh} {f : Int → Option AV} (p : P f (rows ++ [rowS κ b x y sh]) (dues ++ [dueS κ (wk κ) b x y sh])) : oneT κ (wk κ) x P rows dues b y sh f := by
  have := g.l
  have := g.dl
  exact ⟨by omega, by omega, p⟩
theorem two_ok {Q : List D → List D → Prop} (g : Good κ okv wk inR L b2 b3 x rows dues) (hL : L < 890) {b : Bool} {sh sh' : Sh} (p : Q ((rows ++ [rowS κ b x 0 sh]) ++ [rowS κ b x 0 sh']) ((dues ++ [dueS κ (wk κ) b x 0 sh]) ++ [dueS κ (wk κ) b x 0 sh'])) : twoT κ (wk κ) x rows dues Q b sh sh' := by
  have := g.l
  have := g.dl
  exact ⟨by omega, by omega, by rw [List.length_append]; show _ + 1 < _; omega, by rw [List.length_append]; show _ + 1 < _; omega, p⟩
theorem turn_ok (ha : Ari κ okv wk inR) (g : Good κ okv wk inR L b2 b3 x rows dues) (hL : L < 890) {P : (Int → Option AV) → List D → List D → Prop}
    (hP : ∀ b2' b3' x' rows' dues', Good κ okv wk inR (L + 3) b2' b3' x' rows' dues' → P (fk b2' b3' x') rows' dues') : turnR κ okv (wk κ) b2 b3 x P (fk b2 b3 x) rows dues := by
  refine allQ_ok fun way hw => ?_
  simp only [List.mem_cons, List.mem_nil_iff, or_false] at hw
  rcases hw with rfl | rfl | rfl | rfl | rfl | rfl | rfl
  · refine allQ_ok fun i hi => ?_
    have hi : i < 9 := by simp at hi; omega
    cases hp : bin9[i]? with
    | none => exact absurd (List.getElem?_eq_none_iff.mp hp) (Nat.not_le.mpr hi)
    | some p =>
      have go : oneT κ (wk κ) x P rows dues b3 0 (.bin p.1 p.2 b2 b3) (updF (fk b2 b3 x) 2 (.d (.bool (p.2 (fi b2) (fi b3))))) := by
        refine one_ok g hL ?_
        rw [fk2]
        exact hP _ _ _ _ _ ((g.one (mem_bin (List.mem_of_getElem? hp) b2 b3) b3 x 0 g.r trivial (fun _ _ _ => rfl) fun _ _ _ => ⟨_, _, _, rfl⟩).le (by omega))
      dsimp only
      cases Nat.ble i 2
      · exact go
      · exact ⟨fi_ok _ _, fi_ok _ _, go⟩
  · refine one_ok g hL ?_
    rw [fk3]
    exact hP _ _ _ _ _ ((g.one mem_not3 b3 x 0 g.r trivial (fun _ _ _ => rfl) fun _ _ _ => ⟨_, _, _, rfl⟩).le (by omega))
  · refine allQ_ok fun op ho => allQ_ok fun y hy => ?_
    obtain ⟨h1, h2⟩ := ha op ho y hy x g.r
    refine ⟨h1, one_ok g hL ?_⟩
    rw [fk4]
    exact hP _ _ _ _ _ ((g.one (mem_ari ho) b3 x y h2 h1 (fun _ _ _ => rfl) fun _ _ _ => ⟨_, _, _, rfl⟩).le (by omega))
  · refine one_ok g hL ?_
    exact hP _ _ _ _ _ ((g.one (mem_cas b2) b2 x 0 g.r trivial (fun _ _ _ => rfl) fun _ _ _ => ⟨_, _, _, rfl⟩).le (by omega))
  · refine two_ok g hL ?_
    rw [fk2]
    obtain ⟨a5, a6, m, st, run⟩ := g.e
    obtain ⟨st1, run1⟩ := run.snoc (RW.mk mem_tup5 b3 x 0 rfl trivial)
    obtain ⟨st2, run2⟩ := run1.snoc (RW.mk mem_fld2 b3 x 0 rfl trivial)
    exact hP _ _ _ _ _ ⟨g.r, by simp only [List.length_append, List.length_singleton]; have := g.l; omega, _, _, _, _, run2⟩
  · refine allQ_ok fun p hp => allQ_ok fun y hy => one_ok g hL ?_
    rw [fk3]
    exact hP _ _ _ _ _ ((g.one (mem_cmp hp) b3 x y g.r trivial (fun _ _ _ => rfl) fun _ _ _ => ⟨_, _, _, rfl⟩).le (by omega))
  · refine allQ_ok fun op ho => two_ok g hL (allQ_ok fun b _ => ?_)
    have h1 := g.l
    have h2 := g.dl
    refine ⟨by simp only [List.length_append, List.length_singleton]; omega, by simp only [List.length_append, List.length_singleton]; omega, ?_⟩
    rw [fk2]
    obtain ⟨a5, a6, m, st, run⟩ := g.e
    obtain ⟨st1, run1⟩ := run.snoc (RW.mk (mem_unk ho) b2 x 0 rfl trivial)
    obtain ⟨st2, run2⟩ := run1.snoc (RW.mk mem_p2u b2 x 0 rfl trivial)
    obtain ⟨st3, run3⟩ := run2.snoc (RW.mk mem_asg2 b x 0 rfl trivial)
    exact hP _ _ _ _ _ ⟨g.r, by simp only [List.length_append, List.length_singleton]; omega, _, _, _, _, run3⟩
end
end
section
theorem wp_app {M : Model} {Γ : PySem.Ctx} {env : Env} {rest : List Stmt} {Q : Flow → Pos → Shared → Prop} {E : Value → Pos → Shared → Prop} : ∀ {l : List Stmt} {p : Pos} {s : Shared},
    Sem.wp M Γ (execs l env) (fun f p' s' => match f with | .next => Sem.wp M Γ (execs rest env) Q E p' s' | f => Q f p' s') E p s → Sem.wp M Γ (execs (l ++ rest) env) Q E p s := by
  intro l
  induction l with
  | nil => intro p s h; exact h
  | cons st l ih =>
    intro p s h
    rw [List.cons_append, execs_cons, Sem.wp_bind']
    rw [execs_cons, Sem.wp_bind'] at h
    refine Sem.wp_mono M Γ _ (fun f p' s' h' => ?_) (fun _ _ _ h' => h') _ _ h
    cases f <;> first | exact ih h' | exact h'
theorem JS.append {c : Ctx} {lm : Lm} {H : Hp} {l rest : List Stmt} {env : Env} {Pn : Lm → Hp → Prop} {Pr : AV → Hp → Prop} (h : JS c lm H (execs l env) (fun lm' H' => JS c lm' H' (execs rest env) Pn Pr) Pr) : JS c lm H (execs (l ++ rest) env) Pn Pr := by
  intro a E pe st Γ p hΓ
  refine wp_app ?_
  refine Sem.wp_mono _ Γ _ (fun f p' s' h' => ?_) (fun _ _ _ h' => h') _ _ (h a E pe st Γ p hΓ)
  obtain ⟨b, rfl, le, q⟩ := h'
  cases f with
  | next =>
    obtain ⟨lm', H', h1, st1⟩ := q
    exact Sem.wp_mono _ Γ _ (fun _ _ _ h' => PP.up le h') (fun _ _ _ h' => h') _ _ (h1 b E pe st1 Γ p' hΓ)
  | ret v => exact PP.ret le q
  | _ => exact False.elim q
theorem JS.prMono {c : Ctx} {lm : Lm} {H : Hp} {t : Sem Flow} {Pn : Lm → Hp → Prop} {Pr Pr' : AV → Hp → Prop} (h : JS c lm H t Pn Pr) (k : ∀ v H, Pr v H → Pr' v H) : JS c lm H t Pn Pr' := fun a E pe st => (h a E pe st).then fun f b l q => PP.ret l (by
  cases f with
  | next => exact q
  | ret v => obtain ⟨lm', av, H', h', st', vr'⟩ := q; exact ⟨lm', av, H', k _ _ h', st', vr'⟩
  | _ => exact False.elim q)
section
variable {κ : Str} {okv : Str → Str → Int → Int → Prop} {wk : Str → Str → Int → Int → Int} {inR : Int → Prop} {w : World} {b2 b3 : Bool} {x lo bi x0 : Int}
noncomputable abbrev LT (κ : Str) (lo bi x0 : Int) (tn : Slot) : Lm := LM1 κ lo bi x0 .un (.av (.obj 10)) tn .un .un .un .un .un .un
noncomputable abbrev HT (κ : Str) (b2 b3 : Bool) (x : Int) (rows dues : List D) : Hp := HR κ (.lst []) (KN b2 b3 x) (.sym rows) (.sym dues)
theorem turns_ok (hk : Hooks w okv wk) (ha : Ari κ okv wk inR) {rows dues : List D} (g : Good κ okv wk inR 3 b2 b3 x rows dues) {n : Nat} (hn : n < 20) (n0 : 0 < n) {Pn : Lm → Hp → Prop} {Pr : AV → Hp → Prop}
    (hP : ∀ i b2' b3' x' rows' dues', Good κ okv wk inR 100 b2' b3' x' rows' dues' → Pn (LT κ lo bi x0 (ii i)) (HT κ b2' b3' x' rows' dues')) :
    JF 65 w (loopAt w 9).1 (loopAt w 9).2 (.rng n) (LT κ lo bi x0 .un) (HT κ b2 b3 x rows dues) Pn Pr := by
  intro c a v E hw ok pe st vr
  refine for_core (k₀ := n) (T := fun k i lm H => k + i = n ∧ (∃ b2' b3' x' rows' dues', Good κ okv wk inR (3 + 3 * i) b2' b3' x' rows' dues' ∧ H = HT κ b2' b3' x' rows' dues') ∧ ((i = 0 ∧ lm = LT κ lo bi x0 .un) ∨ ∃ j, lm = LT κ lo bi x0 (ii j) ∧ 0 < i)) ok pe st vr rfl ⟨rfl, ⟨_, _, _, _, _, g, rfl⟩, .inl ⟨rfl, rfl⟩⟩ ?_
  rintro k i lm' H' ⟨hki, ⟨b2', b3', x', rows', dues', g', rfl⟩, hlm⟩
  refine ⟨_, rfl, ?_⟩
  cases k with
  | zero =>
    rw [Nat.zero_add] at hki
    rw [show Nat.blt i n = false from Bool.eq_false_iff.mpr fun q => by have := Nat.le_of_ble_eq_true q; omega]
    rcases hlm with ⟨h0, _⟩ | ⟨j, rfl, _⟩
    · omega
    · exact hP _ _ _ _ _ _ (g'.le (by omega))
  | succ k =>
    rw [show Nat.blt i n = true from Nat.ble_eq_true_of_le (by omega)]
    refine ⟨k, Nat.lt_succ_self _, ?_⟩
    have go : ∀ c' : Ctx, c'.w = c.w → c'.OK 65 → JS c' (LT κ lo bi x0 (ii (0 + (i : Nat)))) (HT κ b2' b3' x' rows' dues') (execs (loopAt w 9).2 c'.env) (NextT (HT κ b2 b3 x rows dues).length (fun lm H => k + (i + 1) = n ∧ (∃ b2' b3' x' rows' dues', Good κ okv wk inR (3 + 3 * (i + 1)) b2' b3' x' rows' dues' ∧ H = HT κ b2' b3' x' rows' dues') ∧ ((i + 1 = 0 ∧ lm = LT κ lo bi x0 .un) ∨ ∃ j, lm = LT κ lo bi x0 (ii j) ∧ 0 < i + 1))) Pr := by
      intro c' hw' ok'
      refine JS.mono (Snd.s (snd (qX hk) 65) (hw'.trans hw) ok' ((turnE w _ Pr κ lo bi x0 x' _ rows' dues' b2' b3' okv wk).mpr (turn_ok ha g' (by omega) (P := fun f rs ds => (fun lm H => k + (i + 1) = n ∧ (∃ b2' b3' x' rows' dues', Good κ okv wk inR (3 + 3 * (i + 1)) b2' b3' x' rows' dues' ∧ H = HT κ b2' b3' x' rows' dues') ∧ ((i + 1 = 0 ∧ lm = LT κ lo bi x0 .un) ∨ ∃ j, lm = LT κ lo bi x0 (ii j) ∧ 0 < i + 1)) (LT κ lo bi x0 (ii (0 + (i : Nat)))) (HR κ (.lst []) (.tab f (.ks [2, 3, 4])) (.sym rs) (.sym ds))) ?_))) fun _ _ h => .inl h
      intro b2'' b3'' x'' rows'' dues'' g''
      exact ⟨by omega, ⟨_, _, _, _, _, g''.le (by omega), rfl⟩, .inr ⟨_, rfl, Nat.succ_pos _⟩⟩
    rcases hlm with ⟨_, rfl⟩ | ⟨j, rfl, _⟩
    · exact (two_eq (bindT w _ _ κ lo bi x0 _ (.d (.int 0)))).1 go
    · exact (two_eq (bindT w _ _ κ lo bi x0 _ (.d (.int j)))).2 go
end
end
section
theorem q0 {w : World} : QOK w Q0 0 := ⟨fun e => fz e, fun h => False.elim h⟩
end
section
noncomputable abbrev gb6 : List (Int × Bool) := [(1, true), (1, false), (2, true), (2, false), (3, true), (3, false)]
noncomputable abbrev dA3 (b : Bool) : D := .tup [.str (S "assert"), tr b]
theorem restA (w : World) (cl : Addr → List AV → Hp → AV → Prop) (pl : Nat → PySem.Expr → List Stmt → AV → Lm → Hp → Lm → Hp → Prop) (K : Lm → Hp → Prop) (κ : Str) (lo bi x0 x i : Int) (rows dues DS : List D) (σ : K5) (last : D) (b2 : Bool) (e1 e2 e3 : D) :
    (gb6.map fun p => stepS (X w (QR cl pl (some p.1) last { σ with a3 := vb p.2 } DS 0) 65 130) ((bodyAt w 496).drop 13) (LM1 κ lo bi x0 (ii 4) (.av (.obj 11)) (ii i) (.av (.d (sE e1 e2 e3))) (.av (.d (gt p.1))) .un .un .un .un) (HR κ (.lst []) (.tab (fk b2 p.2 x) (.ks [2, 3, 4])) (.sym rows) (.sym dues) ++ [.sym DS]) K isT) =
    gb6.map fun p => resR cl pl w κ (sE e1 e2 e3) b2 p.2 x rows dues DS { σ with a3 := vb p.2 } last p.1 (.d (.int p.1)) (gt p.1) := by kernel_rfl!
end
section
section
variable {m : Nat}
theorem all0 {α : Type} {p : α → Prop} : ∀ x ∈ ([] : List α), p x := fun _ h => nomatch h
theorem all1 {α : Type} {p : α → Prop} {a : α} {l : List α} (h : p a) (k : ∀ x ∈ l, p x) : ∀ x ∈ a :: l, p x := List.forall_mem_cons.mpr ⟨h, k⟩
theorem low_blk : blk.low m := low_lst (all1 (low_lst (all1 low_d all0)) (all1 low_d all0))
theorem low_BL {v : AV} {e : D} (h : v.low m) : (BL v e).low m := lowo_lst (all1 (low_lst (all1 h (all1 low_d all0))) (all1 low_blk (all1 low_blk (all1 low_blk all0))))
theorem low_EMP : EMP.low m := lowo_tab fun _ _ h => nomatch h
theorem low_emp {z : Sz} : (AV.tab (fun _ => none) z).low m := low_tab fun _ _ h => nomatch h
theorem low_ite {c : Prop} [Decidable c] {a : AV} {o : Option AV} {x : AV} (h : (if c then some a else o) = some x) (ha : a.low m) (ho : ∀ y, o = some y → y.low m) : x.low m := by
  split at h
  · cases h; exact ha
  · exact ho _ h
theorem low_KN {b2 b3 : Bool} {x : Int} : (KN b2 b3 x).low m := lowo_tab fun _ _ h => low_ite h low_d (fun _ h => low_ite h low_d (fun _ h => low_ite h low_d (fun _ h => nomatch h)))
theorem low_BEG0 : BEG0.low m := lowo_tab fun _ _ h => low_ite h low_emp (fun _ h => nomatch h)
theorem low_BEG1 {σ : K5} {g : Int} : (BEG1 σ g).low m := lowo_tab fun _ _ h => low_ite h (low_tab fa_low) (fun _ h => low_ite h low_emp (fun _ h => nomatch h))
theorem low_FOL : FOL.low m := lowo_tab fun _ _ h => low_ite h low_d (fun _ h => low_ite h low_d (fun _ h => low_ite h low_d (fun _ h => low_ite h low_d (fun _ h => low_ite h low_d (fun _ h => low_ite h low_d (fun _ h => low_ite h low_d (fun _ h => nomatch h)))))))
theorem low_FLOC {κ : Str} : (FLOC κ).low m := lowo_lst (all1 low_d (all1 low_d (all1 low_d (all1 low_d (all1 low_d (all1 low_d (all1 low_d all0)))))))
theorem low_FBODY (h : 7 < m) : FBODY.low m := lowo_fld (all1 low_d (all1 low_d (all1 (low_obj (by omega)) (all1 (low_obj (by omega)) (all1 (low_obj h) all0)))))
theorem low_FSELF (h : 16 < m) : FSELF.low m := lowo_fld (all1 (low_obj (by omega)) (all1 (low_obj (by omega)) (all1 (low_obj h) all0)))
theorem low_oc {k : Nat} (h : k < m) : (oc k).low m := lowo_cell (low_obj h)
theorem low_fk {k : Nat} (h : k < m) : (AO.fld [((S "known"), (.obj k))]).low m := lowo_fld (all1 (low_obj h) all0)
theorem low_KT {σ : K5} : (KT σ).low m := lowo_tab fa_low
theorem low_lst0 : (AO.lst []).low m := lowo_lst all0
end
section
variable {κ : Str} {e : D} {b2 b3 : Bool} {x : Int} {rows dues DS : List D} {σ : K5} {g : Int}
theorem low_hL : ∀ a ∈ hL κ e b2 b3 x rows dues DS, a.low 15 :=
  all1 (lowo_src (by decide)) <| all1 lowo_srcL <| all1 (low_oc (by decide)) <| all1 (low_FBODY (by decide)) <| all1 (lowo_ins (by decide)) <| all1 low_FLOC <| all1 (low_BL (low_obj (by decide))) <| all1 low_EMP <| all1 low_KN <| all1 lowo_sym <| all1 lowo_sym <| all1 lowo_sym <|
  all1 (lowo_fld (all1 (low_obj (by decide)) all0)) <| all1 (lowo_ins (by decide)) <| all1 low_EMP all0
theorem low_hB : ∀ a ∈ hB κ e b2 b3 x rows dues DS BEG0 .dead, a.low 21 :=
  all1 (lowo_src (by decide)) <| all1 lowo_srcL <| all1 (low_oc (by decide)) <| all1 (low_FBODY (by decide)) <| all1 (lowo_ins (by decide)) <| all1 low_FLOC <| all1 (low_BL (low_obj (by decide))) <| all1 low_EMP <| all1 low_KN <| all1 lowo_sym <| all1 lowo_sym <| all1 lowo_sym <|
  all1 (low_FSELF (by decide)) <| all1 (lowo_ins (by decide)) <| all1 lowo_dead <| all1 low_FOL <| all1 low_BEG0 <| all1 low_lst0 <| all1 (low_fk (by decide)) <| all1 (lowo_ins (by decide)) <| all1 lowo_dead all0
theorem low_hC : ∀ a ∈ hC κ e b2 b3 x rows dues DS σ g (BL (.slst rows) e) .dead .dead, a.low 37 :=
  all1 (lowo_src (by decide)) <| all1 lowo_srcL <| all1 (low_oc (by decide)) <| all1 (low_FBODY (by decide)) <| all1 (lowo_ins (by decide)) <| all1 low_FLOC <| all1 (low_BL (low_obj (by decide))) <| all1 low_EMP <| all1 low_KN <| all1 lowo_sym <| all1 lowo_sym <| all1 lowo_sym <|
  all1 (low_FSELF (by decide)) <| all1 (lowo_ins (by decide)) <| all1 lowo_dead <| all1 low_FOL <| all1 low_BEG1 <| all1 low_lst0 <| all1 (low_fk (by decide)) <| all1 (lowo_ins (by decide)) <| all1 low_KT <|
  all1 (low_oc (by decide)) <| all1 (low_oc (by decide)) <| all1 lowo_celln <| all1 (low_fk (by decide)) <| all1 (lowo_ins (by decide)) <| all1 low_KT <| all1 (low_oc (by decide)) <| all1 lowo_dead <| all1 (low_BL low_slst) <|
  all1 (lowo_fld (all1 low_d (all1 low_d (all1 (low_obj (by decide)) (all1 (low_obj (by decide)) (all1 low_emp all0)))))) <| all1 (lowo_ins (by decide)) <| all1 low_FLOC <| all1 (low_fk (by decide)) <| all1 (lowo_ins (by decide)) <| all1 lowo_dead <| all1 lowo_dead all0
theorem low_hD : ∀ a ∈ hD κ e b2 b3 x rows dues DS σ g (BL (.slst rows) e) .dead .dead, a.low 38 :=
  all1 (lowo_src (by decide)) <| all1 lowo_srcL <| all1 (low_oc (by decide)) <| all1 (low_FBODY (by decide)) <| all1 (lowo_ins (by decide)) <| all1 low_FLOC <| all1 (low_BL (low_obj (by decide))) <| all1 low_EMP <| all1 low_KN <| all1 lowo_sym <| all1 lowo_sym <| all1 lowo_sym <|
  all1 (low_FSELF (by decide)) <| all1 (lowo_ins (by decide)) <| all1 lowo_dead <| all1 low_FOL <| all1 low_BEG1 <| all1 low_lst0 <| all1 (low_fk (by decide)) <| all1 (lowo_ins (by decide)) <| all1 low_KT <|
  all1 (low_oc (by decide)) <| all1 lowo_dead <| all1 (low_oc (by decide)) <| all1 lowo_celln <| all1 (low_fk (by decide)) <| all1 (lowo_ins (by decide)) <| all1 low_KT <| all1 (low_oc (by decide)) <| all1 lowo_dead <| all1 (low_BL low_slst) <|
  all1 (lowo_fld (all1 low_d (all1 low_d (all1 (low_obj (by decide)) (all1 (low_obj (by decide)) (all1 low_emp all0)))))) <| all1 (lowo_ins (by decide)) <| all1 low_FLOC <| all1 (low_fk (by decide)) <| all1 (lowo_ins (by decide)) <| all1 lowo_dead <| all1 lowo_dead all0
end
theorem AW.emp : AW EMP (KT σ0) := by
  have : FA σ0 = fun _ => none := by funext j; simp only [FA]; (repeat' split) <;> rfl
  show AW _ (.tab (FA σ0) (.le 0))
  rw [this]
  exact AW.le (Nat.le_refl 0)
noncomputable def CallOK (w : World) (f : Addr) (as : List AV) (H : Hp) (v : AV) : Prop := ∀ P : AV → Hp → Prop, P v H → JC 65 w f as H P
noncomputable def LoopOK (w : World) (_ : Nat) (tgt : PySem.Expr) (body : List Stmt) (src : AV) (lm : Lm) (H : Hp) (lm' : Lm) (H' : Hp) : Prop := ∀ (Pn : Lm → Hp → Prop) (Pr : AV → Hp → Prop), Pn lm' H' → JF 65 w tgt body src lm H Pn Pr
theorem qR {w : World} {goal : Option Int} {last : D} {σ : K5} {ds : List D} {o : Nat} : QOK w (QR (CallOK w) (LoopOK w) goal last σ ds o) 65 :=
  ⟨fun e h => by cases Nat.eq_of_beq_eq_true e; exact h.1 _ h.2, fun h => h.1 _ _ h.2⟩
theorem callX0 {w : World} {as : List AV} {H : Hp} {v : AV} (h : ∀ P : AV → Hp → Prop, (X0 w 30).c 357 as H P = P v H) : CallOK w 357 as H v := fun P p => JC.le (by omega) ((snd (q0 (w := w)) 30).c ((h P).mpr p))
section
variable {κ : Str} {okv : Str → Str → Int → Int → Prop} {wk : Str → Str → Int → Int → Int} {w : World} {e due : D} {b2 b3 : Bool} {x g : Int} {rows dues DS : List D} {σ : K5} {st : Nat → K5} {last : D} {v : AV}
end
end
section
section
variable {κ : Str} {okv : Str → Str → Int → Int → Prop} {wk : Str → Str → Int → Int → Int} {w : World} {e due : D} {b2 b3 : Bool} {x g : Int} {rows dues DS : List D} {σ : K5} {st : Nat → K5} {last : D} {v : AV}
theorem setB {k : AO} : (hB κ e b2 b3 x rows dues DS BEG0 EMP).set 20 k = hB κ e b2 b3 x rows dues DS BEG0 k := rfl
theorem setC {bl k k' : AO} : ((hC κ e b2 b3 x rows dues DS σ g bl EMP (.lst [])).set 36 k').set 35 k = hC κ e b2 b3 x rows dues DS σ g bl k k' := rfl
theorem setD {bl k k' : AO} : ((hD κ e b2 b3 x rows dues DS σ g bl EMP (.lst [])).set 37 k').set 36 k = hD κ e b2 b3 x rows dues DS σ g bl k k' := rfl
theorem lL (hk : Hooks w okv wk) (run : Run κ okv wk rows DS σ0 σ st) (hla : rows.getLast? = some last) : LoopOK w 161 (fTgt (loopL w)) (fBody (loopL w)) (.obj 9) (LML .un (.d e)) (hL κ e b2 b3 x rows dues DS) (LML (.av (.d last)) (.d e)) (hL κ e b2 b3 x rows dues DS) :=
  fun Pn Pr p => loopL_ok (H := hL κ e b2 b3 x rows dues DS) hk run rfl (show 14 < 15 by decide) low_hL hla p
theorem lB (hk : Hooks w okv wk) (run : Run κ okv wk rows DS σ0 σ st) (hn : rows.length < 890) (hla : rows.getLast? = some last) : LoopOK w 265 (fTgt (loopB w)) (fBody (loopB w)) (.obj 9) (LMB .un (.d e)) (hB κ e b2 b3 x rows dues DS BEG0 EMP) (LMB (.av (.d last)) (.d e)) (hB κ e b2 b3 x rows dues DS BEG0 (KT σ)) := by
  intro Pn Pr p
  refine JF.weak (k := 20) (a := EMP) (a' := KT σ0) rfl AW.emp ?_
  rw [setB]
  unfold hB at p ⊢
  exact loopB_ok hk run rfl hn low_hB hla p
theorem lC (hk : Hooks w okv wk) (run : Run κ okv wk rows DS σ0 σ st) (hn : rows.length < 890) (hla : rows.getLast? = some last) : LoopOK w 348 (fTgt (loopC w)) (fBody (loopC w)) (.obj 9) (LMC .un (.d e)) (hC κ e b2 b3 x rows dues DS σ g (BL (.slst rows) e) EMP (.lst [])) (LMC (.av (.d last)) (.d e)) (hC κ e b2 b3 x rows dues DS σ g (BL (.slst rows) e) (KT σ) (.sym DS)) := by
  intro Pn Pr p
  refine JF.weak (k := 36) (a := .lst []) (a' := .sym []) rfl (AW.sym (ds := [])) (JF.weak (k := 35) (a := EMP) (a' := KT σ0) rfl AW.emp ?_)
  rw [setC]
  unfold hC at p ⊢
  exact loopC_ok hk run rfl hn low_hC hla p
theorem lD (hk : Hooks w okv wk) (run : Run κ okv wk rows DS σ0 σ st) (hn : rows.length < 890) (hla : rows.getLast? = some last) : LoopOK w 348 (fTgt (loopC w)) (fBody (loopC w)) (.obj 9) (LMD .un (.d e)) (hD κ e b2 b3 x rows dues DS σ g (BL (.slst rows) e) EMP (.lst [])) (LMD (.av (.d last)) (.d e)) (hD κ e b2 b3 x rows dues DS σ g (BL (.slst rows) e) (KT σ) (.sym DS)) := by
  intro Pn Pr p
  refine JF.weak (k := 37) (a := .lst []) (a' := .sym []) rfl (AW.sym (ds := [])) (JF.weak (k := 36) (a := EMP) (a' := KT σ0) rfl AW.emp ?_)
  rw [setD]
  unfold hD at p ⊢
  exact loopD_ok hk run rfl hn low_hD hla p
theorem four_eq {a b c d a' b' c' d' : Prop} (h : [a, b, c, d] = [a', b', c', d']) : a = a' ∧ b = b' ∧ c = c' ∧ d = d' := by
  injection h with h1 h
  injection h with h2 h
  injection h with h3 h
  injection h with h4 h
  exact ⟨h1, h2, h3, h4⟩
theorem run_m (run : Run κ okv wk rows DS σ0 σ st) (hn : rows.length < 890) : σ.m < 900 := by
  have := run.m rfl rows.length (Nat.le_refl _)
  rw [run.z] at this
  omega
theorem resR_ok (hk : Hooks w okv wk) (run : Run κ okv wk rows DS σ0 σ st) (hn : rows.length < 890) (hla : rows.getLast? = some last) (hd : ∀ d ∈ DS, d.ok = true)
    (c1 : CallOK w 357 [.obj 13, .d e, .obj 19] (h1 κ e b2 b3 x rows dues DS σ) v) (c3 : CallOK w 357 [.obj 13, .d e, .obj 34] (h3 κ e b2 b3 x rows dues DS σ g) v) :
    resR (CallOK w) (LoopOK w) w κ e b2 b3 x rows dues DS σ last g v due :=
  have hl := run.l
  ⟨lL hk run hla, lB hk run hn hla, c1, run_m run hn, run_m run hn, callX0 fun P => (four_eq (kret w P κ e due b2 b3 x g rows dues DS σ)).1, by omega, lC hk run hn hla, c3, run_m run hn, callX0 fun P => (four_eq (kret w P κ e due b2 b3 x g rows dues DS σ)).2.1, by omega, ⟨rfl, hd⟩, trivial⟩
theorem resD_ok (hk : Hooks w okv wk) (run : Run κ okv wk rows DS σ0 σ st) (hn : rows.length < 890) (hla : rows.getLast? = some last) (hd : ∀ d ∈ DS, d.ok = true)
    (c1 : CallOK w 357 [.obj 13, .d e, .obj 19] (h1 κ e b2 b3 x rows dues DS σ) v) (c3 : CallOK w 357 [.obj 13, .d e, .obj 35] (k3 κ e b2 b3 x rows dues DS σ g) v) :
    resD (CallOK w) (LoopOK w) w κ e b2 b3 x rows dues DS σ last g v due :=
  have hl := run.l
  ⟨lL hk run hla, lB hk run hn hla, c1, run_m run hn, run_m run hn, callX0 fun P => (four_eq (kret w P κ e due b2 b3 x g rows dues DS σ)).2.2.1, by omega, lD hk run hn hla, c3, run_m run hn, callX0 fun P => (four_eq (kret w P κ e due b2 b3 x g rows dues DS σ)).2.2.2, by omega, ⟨rfl, hd⟩, trivial⟩
end
end
section
theorem due_ok (wk : Str → Int → Int → Int) (b : Bool) (x y : Int) : (kinds.map fun p => shapes.map fun sh => (dueS p.1 wk b x y sh).ok) = kinds.map fun _ => shapes.map fun _ => true := by kernel_rfl!
inductive EndOK (b2 b3 : Bool) (x : Int) : D → D → Prop
  | sw2 : EndOK b2 b3 x swE2 (gt (bif b2 then 2 else 1))
  | sw41 {near : Int} : x = 5 → EndOK b2 b3 x (swE4 near) (gt 1)
  | sw42 {near : Int} : ¬ x = 5 → near = x → EndOK b2 b3 x (swE4 near) (gt 2)
  | sw43 {near : Int} : ¬ x = 5 → ¬ near = x → EndOK b2 b3 x (swE4 near) (gt 3)
  | sw5 : x = 5 → EndOK b2 b3 x swE5 (gt 1)
  | asT : EndOK b2 b3 x (aE (cp 3) b3) (gt 3)
  | asF : EndOK b2 b3 x (aE (cp 3) (!b3)) (aE (tr b3) (!b3))
theorem iB_mk {b : Bool} {P Q : Prop} (p : b = true → P) (q : b = false → Q) : iB b P Q := by
  cases b
  · exact q rfl
  · exact p rfl
theorem endR_ok {b2 b3 : Bool} {x : Int} {K : D → D → Prop} (h : ∀ e due, EndOK b2 b3 x e due → K e due) : endR b2 b3 x K := by
  have t : ∀ {p : Prop} [Decidable p], decide p = true → p := fun q => of_decide_eq_true q
  have f : ∀ {p : Prop} [Decidable p], decide p = false → ¬ p := fun q => of_decide_eq_false q
  refine ⟨⟨⟨trivial, ?_⟩, ⟨⟨trivial, ?_⟩, ?_⟩, ?_⟩, ⟨trivial, ?_⟩, ?_⟩
  · cases b2
    · exact h _ _ .sw2
    · exact h _ _ .sw2
  · refine iB_mk (fun p => iB_mk (fun _ => h _ _ (.sw41 (t p))) fun _ => h _ _ (.sw5 (t p))) fun p => iB_mk (fun _ => iB_mk (fun _ => h _ _ (.sw42 (f p) rfl)) fun q => ?_) fun q => (f q rfl).elim
    rw [p] at q; exact nomatch q
  · exact iB_mk (fun p => h _ _ (.sw41 (t p))) fun p => iB_mk (fun q => h _ _ (.sw42 (f p) (t q).symm)) fun q => h _ _ (.sw43 (f p) fun r => f q r.symm)
  · exact iB_mk (fun p => h _ _ (.sw41 (t p))) fun p => iB_mk (fun q => h _ _ (.sw42 (f p) (t q).symm)) fun q => h _ _ (.sw43 (f p) fun r => f q r.symm)
  · cases b3
    · exact h _ _ .asF
    · exact h _ _ .asT
  · cases b3
    · exact h _ _ .asT
    · exact h _ _ .asF
section
variable {w : World} {s : Nat} {H : K5 → Hp} {b2 b3 : Bool} {x near : Int} {a5 a6 : Option D} {m : Nat}
noncomputable abbrev KtA (w : World) (s : Nat) (H : K5 → Hp) : Prop := ∀ P b2 b3 x near a5 a6 m, ktL w s H P b2 b3 x near a5 a6 m = ktR H P b2 b3 x near a5 a6 m
theorem nth_eq {l l' : List Prop} (h : l = l') (i : Nat) {p q : Prop} (a : l[i]? = some p) (b : l'[i]? = some q) : p = q := by subst h; exact Option.some.inj (a.symm.trans b)
theorem kt_sw2 (kt : KtA w s H) : CallOK w 357 [.obj 13, .d swE2, .obj s] (H (SG b2 b3 x a5 a6 m)) (.d (.int (bif b2 then 2 else 1))) := callX0 fun P => by
  cases b2
  · exact nth_eq (kt P false b3 x 0 a5 a6 m) 1 rfl rfl
  · exact nth_eq (kt P false b3 x 0 a5 a6 m) 0 rfl rfl
theorem kt_sw4 (kt : KtA w s H) {P : AV → Hp → Prop} : (X0 w 30).c 357 [.obj 13, .d (swE4 near), .obj s] (H (SG b2 b3 x a5 a6 m)) P =
    iB (decide ((5 : Int) = x)) (P (.d (.int 1)) (H (SG b2 b3 x a5 a6 m))) (iB (decide (near = x)) (P (.d (.int 2)) (H (SG b2 b3 x a5 a6 m))) (P (.d (.int 3)) (H (SG b2 b3 x a5 a6 m)))) := nth_eq (kt P b2 b3 x near a5 a6 m) 2 rfl rfl
theorem kt_sw41 (kt : KtA w s H) (h : x = 5) : CallOK w 357 [.obj 13, .d (swE4 near), .obj s] (H (SG b2 b3 x a5 a6 m)) (.d (.int 1)) := callX0 fun P => by
  rw [kt_sw4 kt, decide_eq_true h.symm]; rfl
theorem kt_sw42 (kt : KtA w s H) (h : ¬ x = 5) (h' : near = x) : CallOK w 357 [.obj 13, .d (swE4 near), .obj s] (H (SG b2 b3 x a5 a6 m)) (.d (.int 2)) := callX0 fun P => by
  rw [kt_sw4 kt, decide_eq_false (fun q => h q.symm), decide_eq_true h']; rfl
theorem kt_sw43 (kt : KtA w s H) (h : ¬ x = 5) (h' : ¬ near = x) : CallOK w 357 [.obj 13, .d (swE4 near), .obj s] (H (SG b2 b3 x a5 a6 m)) (.d (.int 3)) := callX0 fun P => by
  rw [kt_sw4 kt, decide_eq_false (fun q => h q.symm), decide_eq_false h']; rfl
theorem kt_sw5 (kt : KtA w s H) (h : x = 5) : CallOK w 357 [.obj 13, .d swE5, .obj s] (H (SG b2 b3 x a5 a6 m)) (.d (.int 1)) := callX0 fun P => by
  refine (nth_eq (kt P b2 b3 x 0 a5 a6 m) 3 rfl rfl).trans ?_
  rw [decide_eq_true h.symm]; rfl
theorem kt_asT (kt : KtA w s H) : CallOK w 357 [.obj 13, .d (aE (cp 3) b3), .obj s] (H (SG b2 b3 x a5 a6 m)) (.d (.int 3)) := callX0 fun P => by
  cases b3
  · exact nth_eq (kt P b2 true x 0 a5 a6 m) 5 rfl rfl
  · exact nth_eq (kt P b2 true x 0 a5 a6 m) 4 rfl rfl
theorem kt_asF (kt : KtA w s H) : CallOK w 357 [.obj 13, .d (aE (cp 3) (!b3)), .obj s] (H (SG b2 b3 x a5 a6 m)) (.d .none) := callX0 fun P => by
  cases b3
  · exact nth_eq (kt P b2 true x 0 a5 a6 m) 7 rfl rfl
  · exact nth_eq (kt P b2 true x 0 a5 a6 m) 6 rfl rfl
end
end
section
section
variable {okv : Str → Str → Int → Int → Prop} {wk : Str → Str → Int → Int → Int} {w : World} {p : Str × Int × Int} {rows dues DS : List D} {b2 b3 : Bool} {x lo bi x0 i : Int} {a5 a6 : Option D} {m : Nat} {st : Nat → K5} {last : D} {e due : D}
theorem Run.ok (hp : p ∈ kinds) {σ1 : K5} (run : Run p.1 okv wk rows DS σ0 σ1 st) : ∀ d ∈ DS, d.ok = true := by
  intro d hd
  obtain ⟨j, hj⟩ := List.mem_iff_getElem?.mp hd
  have hl := lt_of_get hj
  rw [run.l] at hl
  obtain ⟨r, d', _, e2, sh, hs, b, x, y, _, _, q, _⟩ := run.s j hl
  cases Option.some.inj (hj.symm.trans e2)
  rw [q]
  exact List.map_inj_left.mp (List.map_inj_left.mp (due_ok (wk p.1) b x y) p hp) sh hs
theorem X_s {Q : Orc} {N n : Nat} {lm : Lm} {H : Hp} {ss : List Stmt} {Pn : Lm → Hp → Prop} {Pr : AV → Hp → Prop} (h : stepS (X w Q N n) ss lm H Pn Pr) : (X w Q N (n + 1)).s lm H ss Pn Pr := h
theorem rest_sw (hk : Hooks w okv wk) (hp : p ∈ kinds) (run : Run p.1 okv wk rows DS σ0 (SG b2 b3 x a5 a6 m) st) (hn : rows.length < 890) (hla : rows.getLast? = some last) {e1 e2 e3 : D} {g : Int} (hg : (g, b3) ∈ gb6)
    (ca : ∀ s H, KtA w s H → CallOK w 357 [.obj 13, .d (sE e1 e2 e3), .obj s] (H (SG b2 b3 x a5 a6 m)) (.d (.int g))) (K : Lm → Hp → Prop) (c : Ctx) (hw : c.w = w) (ok : c.OK 131) :
    JS c (LM1 p.1 lo bi x0 (ii 4) (.av (.obj 11)) (ii i) (.av (.d (sE e1 e2 e3))) (.av (.d (gt g))) .un .un .un .un) (HR p.1 (.lst []) (KN b2 b3 x) (.sym rows) (.sym dues) ++ [.sym DS]) (execs ((bodyAt w 496).drop 13) c.env) K isT := by
  have r : resR (CallOK w) (LoopOK w) w p.1 (sE e1 e2 e3) b2 b3 x rows dues DS (SG b2 b3 x a5 a6 m) last g (.d (.int g)) (gt g) :=
    resR_ok hk run hn hla (run.ok hp) (ca 19 _ fun P b2' b3' x near a5 a6 m => kt1 w P p.1 (sE e1 e2 e3) b2' b3' b2 b3 x near _ rows dues DS a5 a6 m) (ca 34 (fun σ => h3 p.1 (sE e1 e2 e3) b2 b3 x rows dues DS σ g) fun P b2' b3' x near a5 a6 m => kt3 w P p.1 (sE e1 e2 e3) b2' b3' b2 b3 x near _ g rows dues DS a5 a6 m)
  have e := List.map_inj_left.mp (restA w (CallOK w) (LoopOK w) K p.1 lo bi x0 x i rows dues DS (SG b2 b3 x a5 a6 m) last b2 e1 e2 e3) (g, b3) hg
  have h := X_s (n := 130) (Eq.mpr e r)
  exact Snd.s (snd (qR (w := w) (goal := some g) (last := last) (σ := SG b2 b3 x a5 a6 m) (ds := DS) (o := 0)) 131) hw ok h
theorem rest_as (hk : Hooks w okv wk) (hp : p ∈ kinds) (run : Run p.1 okv wk rows DS σ0 (SG b2 b3 x a5 a6 m) st) (hn : rows.length < 890) (hla : rows.getLast? = some last) (K : Lm → Hp → Prop) (c : Ctx) (hw : c.w = w) (ok : c.OK 131) :
    JS c (LM1 p.1 lo bi x0 (ii 4) (.av (.obj 11)) (ii i) (.av (.d (aE (cp 3) b3))) (.av (.d (gt 3))) .un .un .un .un) (HR p.1 (.lst []) (KN b2 b3 x) (.sym rows) (.sym dues) ++ [.sym DS]) (execs ((bodyAt w 496).drop 13) c.env) K isT := by
  have r : resR (CallOK w) (LoopOK w) w p.1 (aE (cp 3) b3) b2 b3 x rows dues DS (SG b2 b3 x a5 a6 m) last 3 (.d (.int 3)) (gt 3) :=
    resR_ok hk run hn hla (run.ok hp) (kt_asT (H := h1 p.1 (aE (cp 3) b3) b2 b3 x rows dues DS) fun P b2' b3' x near a5 a6 m => kt1 w P p.1 (aE (cp 3) b3) b2' b3' b2 b3 x near _ rows dues DS a5 a6 m) (kt_asT (H := fun σ => h3 p.1 (aE (cp 3) b3) b2 b3 x rows dues DS σ 3) fun P b2' b3' x near a5 a6 m => kt3 w P p.1 (aE (cp 3) b3) b2' b3' b2 b3 x near _ 3 rows dues DS a5 a6 m)
  have e := List.map_inj_left.mp (restB w (CallOK w) (LoopOK w) K p.1 lo bi x0 x i rows dues DS (SG b2 b3 x a5 a6 m) last b2) b3 (by cases b3 <;> simp)
  have h := X_s (n := 130) (Eq.mpr e r)
  exact Snd.s (snd (qR (w := w) (goal := some 3) (last := last) (σ := SG b2 b3 x a5 a6 m) (ds := DS) (o := 0)) 131) hw ok h
theorem rest_no (hk : Hooks w okv wk) (hp : p ∈ kinds) (run : Run p.1 okv wk rows DS σ0 (SG b2 b3 x a5 a6 m) st) (hn : rows.length < 890) (hla : rows.getLast? = some last) (K : Lm → Hp → Prop) (c : Ctx) (hw : c.w = w) (ok : c.OK 131) :
    JS c (LM1 p.1 lo bi x0 (ii 4) (.av (.obj 11)) (ii i) (.av (.d (aE (cp 3) (!b3)))) (.av (.d (aE (tr b3) (!b3)))) .un .un .un .un) (HR p.1 (.lst []) (KN b2 b3 x) (.sym rows) (.sym dues) ++ [.sym DS]) (execs ((bodyAt w 496).drop 13) c.env) K isT := by
  have r : resD (CallOK w) (LoopOK w) w p.1 (aE (cp 3) (!b3)) b2 b3 x rows dues DS (SG b2 b3 x a5 a6 m) last 3 (.d .none) (aE (tr b3) (!b3)) :=
    resD_ok hk run hn hla (run.ok hp) (kt_asF (H := h1 p.1 (aE (cp 3) (!b3)) b2 b3 x rows dues DS) fun P b2' b3' x near a5 a6 m => kt1 w P p.1 (aE (cp 3) (!b3)) b2' b3' b2 b3 x near _ rows dues DS a5 a6 m) (kt_asF (H := fun σ => k3 p.1 (aE (cp 3) (!b3)) b2 b3 x rows dues DS σ 3) fun P b2' b3' x near a5 a6 m => kk3 w P p.1 (aE (cp 3) (!b3)) b2' b3' b2 b3 x near _ 3 rows dues DS a5 a6 m)
  have e := List.map_inj_left.mp (restC w (CallOK w) (LoopOK w) K p.1 lo bi x0 x i rows dues DS (SG b2 b3 x a5 a6 m) last b2) b3 (by cases b3 <;> simp)
  have h := X_s (n := 130) (Eq.mpr e r)
  exact Snd.s (snd (qR (w := w) (goal := none) (last := last) (σ := SG b2 b3 x a5 a6 m) (ds := DS) (o := 1)) 131) hw ok h
theorem rest_ok (hk : Hooks w okv wk) (hp : p ∈ kinds) (run : Run p.1 okv wk rows DS σ0 (SG b2 b3 x a5 a6 m) st) (hn : rows.length < 890) (hla : rows.getLast? = some last) (he : EndOK b2 b3 x e due) (K : Lm → Hp → Prop) (c : Ctx) (hw : c.w = w) (ok : c.OK 131) :
    JS c (LM1 p.1 lo bi x0 (ii 4) (.av (.obj 11)) (ii i) (.av (.d e)) (.av (.d due)) .un .un .un .un) (HR p.1 (.lst []) (KN b2 b3 x) (.sym rows) (.sym dues) ++ [.sym DS]) (execs ((bodyAt w 496).drop 13) c.env) K isT := by
  cases he with
  | sw2 => exact rest_sw hk hp run hn hla (by cases b2 <;> cases b3 <;> simp) (fun s H kt => kt_sw2 kt) K c hw ok
  | sw41 h => exact rest_sw hk hp run hn hla (by cases b3 <;> simp) (fun s H kt => kt_sw41 kt h) K c hw ok
  | sw42 h h' => exact rest_sw hk hp run hn hla (by cases b3 <;> simp) (fun s H kt => kt_sw42 kt h h') K c hw ok
  | sw43 h h' => exact rest_sw hk hp run hn hla (by cases b3 <;> simp) (fun s H kt => kt_sw43 kt h h') K c hw ok
  | sw5 h => exact rest_sw hk hp run hn hla (by cases b3 <;> simp) (fun s H kt => kt_sw5 kt h) K c hw ok
  | asT => exact rest_as hk hp run hn hla K c hw ok
  | asF => exact rest_no hk hp run hn hla K c hw ok
end
end
section
noncomputable def recS (w : World) : Rec := ⟨fun _ _ _ _ _ _ => False, fun _ _ _ _ _ => False, fun lm H ss Pn Pr => ∀ c : Ctx, c.w = w → c.OK 134 → JS c lm H (execs ss c.env) Pn Pr, fun _ _ _ _ => False, fun _ => false, fun _ _ _ _ _ _ _ _ => False⟩
theorem sndS (w : World) : Snd w 134 (recS w) := ⟨fun _ _ _ h => False.elim h, fun _ _ _ h => False.elim h, fun hw ok h => h _ hw ok, fun h => False.elim h, fun h => False.elim h⟩
theorem entry496 (w : World) (r : Rec) (P : AV → Hp → Prop) : (gB (defs.any (Nat.beq 496)) <| oX (fnAt w 496) fun fr => gB (Nat.beq fr.pars.length (pad 496 [.obj 0]).length) (entry (fr.pars.zip (pad 496 [.obj 0])) fr.scope.names [.src 1, .srcL] fun lm H1 => r.s lm H1 fr.body (fun _ H' => P (.d .none) H') (fun v H' => frzX (List.length [AO.src 1, AO.srcL]) v H' P))) =
    r.s (LMR .un .un .un .un .un .un .un .un .un .un .un .un .un .un .un .un .un) [.src 1, .srcL, .cell none] (bodyAt w 496) (fun _ H' => P (.d .none) H') (fun v H' => frzX 2 v H' P) := by kernel_rfl!
theorem qF {w : World} : QOK w (QF w) 65 := ⟨fun e => fz e, fun h => h⟩
theorem setT {κ : Str} {k r d r' d' : AO} : ((HR κ (.lst []) k r d).set 9 r').set 10 d' = HR κ (.lst []) k r' d' := rfl
theorem cut4 {α : Type} (l : List α) : l = l.take 9 ++ (((l.drop 9).take 1) ++ (((l.drop 10).take 3) ++ l.drop 13)) := by
  have h1 := List.take_append_drop 3 (l.drop 10)
  rw [List.drop_drop] at h1
  have h2 := List.take_append_drop 1 (l.drop 9)
  rw [List.drop_drop] at h2
  rw [show l.drop 13 = l.drop (10 + 3) from rfl, h1, show l.drop 10 = l.drop (9 + 1) from rfl, h2]
  exact (List.take_append_drop 9 l).symm
theorem isT_frz {v : AV} {H : Hp} (h : isT v H) : frzX 2 v H isT := by
  cases v with
  | d x =>
    cases x with
    | bool b => cases b with
      | true => exact trivial
      | false => exact False.elim h
    | _ => exact False.elim h
  | _ => exact False.elim h
section
variable {okv : Str → Str → Int → Int → Prop} {wk : Str → Str → Int → Int → Int} {w : World} {p : Str × Int × Int} {inR : Int → Prop} {rows dues : List D} {b2 b3 : Bool} {x lo bi x0 i : Int}
theorem good0 {κ : Str} (r : inR x) : Good κ okv wk inR 3 b2 b3 x (rows3 κ b2 b3 x) (rows3 κ b2 b3 x) := by
  have run0 : Run κ okv wk [] [] σ0 σ0 fun _ => σ0 := ⟨rfl, rfl, rfl, fun i h => absurd h (Nat.not_lt_zero _)⟩
  obtain ⟨s1, run1⟩ := run0.snoc (RW.mk mem_asg2 b2 x 0 rfl trivial)
  obtain ⟨s2, run2⟩ := run1.snoc (RW.mk mem_asg3 b3 x 0 rfl trivial)
  obtain ⟨s3, run3⟩ := run2.snoc (RW.mk mem_asg4 b3 x 0 rfl trivial)
  exact ⟨r, Nat.le_refl _, _, _, _, _, run3⟩
theorem end_js (hk : Hooks w okv wk) (hp : p ∈ kinds) (g : Good p.1 okv wk inR 100 b2 b3 x rows dues) (K : Lm → Hp → Prop) (c : Ctx) (hw : c.w = w) (ok : c.OK 131) :
    JS c (LT p.1 lo bi x0 (ii i)) (HT p.1 b2 b3 x rows dues) (execs (((bodyAt w 496).drop 10).take 3 ++ (bodyAt w 496).drop 13) c.env) K isT := by
  obtain ⟨a5, a6, m, st, run⟩ := g.e
  obtain ⟨s1, run1⟩ := run.snoc (RW.mk mem_p2 b2 x 0 rfl trivial)
  obtain ⟨s2, run2⟩ := run1.snoc (RW.mk mem_p3 b3 x 0 rfl trivial)
  obtain ⟨s3, run3⟩ := run2.snoc (RW.mk mem_p4 b3 x 0 rfl trivial)
  have hl := g.l
  have hd := g.dl
  have run4 : Run p.1 okv wk (((rows ++ [prt (cp 2)]) ++ [prt (cp 3)]) ++ [prt (cp 4)]) (((dues ++ [prt (tr b2)]) ++ [prt (tr b3)]) ++ [prt (kc p.1 x)]) σ0 (SG b2 b3 x a5 a6 m) s3 := run3
  rw [show ((dues ++ [prt (tr b2)]) ++ [prt (tr b3)]) ++ [prt (kc p.1 x)] = dues ++ [prt (tr b2), prt (tr b3), prt (kc p.1 x)] by rw [List.append_assoc, List.append_assoc]; rfl] at run4
  refine JS.append (Snd.s (snd (q0 (w := w)) 41) hw (ok.lt (by omega)) ((endE w _ isT p.1 lo bi x0 x i rows dues b2 b3).mpr ⟨by omega, by rw [List.length_append]; show _ + 1 < _; omega, by rw [List.length_append, List.length_append]; show _ + 1 + 1 < _; omega, ⟨by omega, by show 3 < 900; decide⟩, endR_ok fun e due he => ?_⟩))
  refine rest_ok hk hp (rows := ((rows ++ [prt (cp 2)]) ++ [prt (cp 3)]) ++ [prt (cp 4)]) (last := prt (cp 4)) run4 (by simp only [List.length_append, List.length_singleton]; omega) (by rw [List.getLast?_append]; rfl) he K c hw ok
end
theorem row_ok {okv : Str → Str → Int → Int → Prop} {wk : Str → Str → Int → Int → Int} {w : World} (hk : Hooks w okv wk) (inR : Str × Int × Int → Int → Prop) (ha : ∀ p ∈ kinds, Ari p.1 okv wk (inR p) ∧ ∀ x ∈ nums p, inR p x) : JC 135 w 496 [.obj 0] [.src 1, .srcL] isT := by
  refine def_ok (sndS w) ((entry496 w (recS w) isT).mpr fun c hw ok => ?_)
  rw [cut4 (bodyAt w 496)]
  refine JS.prMono (Pr := isT) (JS.append (Snd.s (snd (q0 (w := w)) 41) hw (ok.lt (by omega)) ((front w _ isT).mpr (allQ_ok fun p hp => allQ_ok fun x hx => allQ_ok fun b2 _ => allQ_ok fun b3 _ => ?_)))) fun v H h => isT_frz h
  obtain ⟨h1, h2⟩ := ha p hp
  refine JS.append (Snd.s (snd (qF (w := w)) 101) hw (ok.lt (by omega)) ((turnsE w _ isT p.1 p.2.1 p.2.2 x [] (KN b2 b3 x) _ _).mpr (allQ_ok fun n hn => ?_)))
  refine JF.weak (k := 9) (a' := .sym (rows3 p.1 b2 b3 x)) rfl AW.sym (JF.weak (k := 10) (a' := .sym (rows3 p.1 b2 b3 x)) rfl AW.sym ?_)
  rw [setT]
  have hn : n < 20 ∧ 0 < n := by
    simp only [List.mem_cons, List.mem_nil_iff, or_false] at hn
    omega
  exact turns_ok hk h1 (good0 (h2 x hx)) hn.1 hn.2 fun i b2' b3' x' rows' dues' g => end_js hk hp g _ c hw (ok.lt (by omega))
end
section
noncomputable def ys5 : List Int := [1, 2, 3, 7, 100]
noncomputable def opN (i : Nat) : Str := (ops7[i]?).getD (S "")
noncomputable def is7 : List Nat := [0, 1, 2, 3, 4, 5, 6]
section
variable (lo : Int) (bi : Int) (y a : Int)
noncomputable def sh2 : Int := 2 ^ (y.fmod bi).toNat
noncomputable def ab (a : Int) : Int := if a < 0 then -a else a
/-- the value ahead of the wrap -/
noncomputable def valN : Nat → Int
  | 0 => a + y
  | 1 => a - y
  | 2 => a * y
  | 3 => if a < 0 then (ab a).fdiv y * -1 else (ab a).fdiv y * 1
  | 4 => a - y * (if a < 0 then (ab a).fdiv y * -1 else (ab a).fdiv y * 1)
  | 5 => a * sh2 bi y
  | _ => a.fdiv (sh2 bi y)
noncomputable def wr (v : Int) : Int := (v - lo).fmod (2 ^ bi.toNat) + lo
noncomputable def R451 (P : Int → Prop) : Nat → Prop
  | 3 => Builtin.divisionGoesByPylong (ab a) y = false ∧ iB (!(decide (a < 0) == false)) (IntMulOk ((ab a).fdiv y) (-1) ∧ P (wr lo bi ((ab a).fdiv y * -1))) (IntMulOk ((ab a).fdiv y) 1 ∧ P (wr lo bi ((ab a).fdiv y * 1)))
  | 4 => Builtin.divisionGoesByPylong (ab a) y = false ∧ iB (!(decide (a < 0) == false)) (IntMulOk ((ab a).fdiv y) (-1) ∧ (IntMulOk y ((ab a).fdiv y * -1) ∧ P (wr lo bi (a - y * ((ab a).fdiv y * -1))))) (IntMulOk ((ab a).fdiv y) 1 ∧ (IntMulOk y ((ab a).fdiv y * 1) ∧ P (wr lo bi (a - y * ((ab a).fdiv y * 1)))))
  | i => IntMulOk a y ∧ (IntMulOk a (sh2 bi y) ∧ (Builtin.divisionGoesByPylong a (sh2 bi y) = false ∧ P (wr lo bi (valN bi y a i))))
noncomputable def fitR (P : Int → Bool → Prop) (v : Int) : Prop := iB (decide (lo ≤ v)) (P (lo + (v - lo).fmod (2 ^ bi.toNat)) (!decide (v ≤ lo + 2 ^ bi.toNat - 1))) (P (lo + (v - lo).fmod (2 ^ bi.toNat)) true)
noncomputable def R118 (P : Int → Bool → Prop) : Nat → Prop
  | 0 => fitR lo bi P (a + y)
  | 1 => fitR lo bi P (a - y)
  | 2 => IntMulOk a y ∧ fitR lo bi P (a * y)
  | 3 => Builtin.divisionGoesByPylong (ab a) y = false ∧ iB (decide (a < 0) == false) (fitR lo bi P ((ab a).fdiv y)) (fitR lo bi P (0 - (ab a).fdiv y))
  | 4 => Builtin.divisionGoesByPylong (ab a) y = false ∧ iB (decide (a < 0) == false) (IntMulOk y ((ab a).fdiv y) ∧ fitR lo bi P (a - y * (ab a).fdiv y)) (IntMulOk y (0 - (ab a).fdiv y) ∧ fitR lo bi P (a - y * (0 - (ab a).fdiv y)))
  | 5 => IntMulOk a (sh2 bi y) ∧ P (lo + (a * sh2 bi y - lo).fmod (2 ^ bi.toNat)) (decide (bi ≤ y))
  | _ => Builtin.divisionGoesByPylong a (sh2 bi y) = false ∧ P (lo + (a.fdiv (sh2 bi y) - lo).fmod (2 ^ bi.toNat)) (decide (bi ≤ y))
end
theorem e451 (w : World) (H : Hp) (P : AV → Hp → Prop) (a : Int) : (kinds.map fun p => is7.map fun i => ys5.map fun y => (X0 w 25).c 451 [.d (.str p.1), .d (.str (opN i)), .d (.int a), .d (.int y)] H P) =
    kinds.map fun p => is7.map fun i => ys5.map fun y => R451 p.2.1 p.2.2 y a (fun v => P (.d (.int v)) H) i := by kernel_rfl!
theorem e118 (w : World) (H : Hp) (P : AV → Hp → Prop) (a : Int) : (kinds.map fun p => is7.map fun i => ys5.map fun y => (X0 w 25).c 118 [.d (.str p.1), .d (.str (opN i)), .d (.int a), .d (.int y)] H P) =
    kinds.map fun p => is7.map fun i => ys5.map fun y => R118 p.2.1 p.2.2 y a (fun v c => P (.d (.tup [.int v, .bool c])) H) i := by kernel_rfl!
noncomputable def wkR (κ op : Str) (a y : Int) : Int := oI (kinds.find? fun p => decide (p.1 = κ)) fun p => oI (is7.find? fun i => decide (opN i = op)) fun i => wr p.2.1 p.2.2 (valN p.2.2 y a i)
where oI {α : Type} (o : Option α) (f : α → Int) : Int := match o with
  | some x => f x
  | none => 0
theorem wkE (a y : Int) : (kinds.map fun p => is7.map fun i => wkR p.1 (opN i) a y) = kinds.map fun p => is7.map fun i => wr p.2.1 p.2.2 (valN p.2.2 y a i) := by kernel_rfl!
end
section
theorem tabK : (kinds.all fun p => decide (-(2 ^ 64 : Int) < p.2.1) && (decide (p.2.1 + 2 ^ p.2.2.toNat ≤ (2 ^ 64 : Int)) && (decide ((0 : Int) < 2 ^ p.2.2.toNat) && (ys5.all fun y => decide ((sh2 p.2.2 y).natAbs.log2 < 9000) && (decide (y.natAbs < 1073741824) && (decide (-(2 ^ 64 : Int) < y) && decide (y < (2 ^ 64 : Int)))))))) = true := by kernel_rfl!
structure Fa (p : Str × Int × Int) (y : Int) : Prop where
  a : -(2 ^ 64 : Int) < p.2.1
  b : p.2.1 + 2 ^ p.2.2.toNat ≤ (2 ^ 64 : Int)
  c : (0 : Int) < 2 ^ p.2.2.toNat
  d : (sh2 p.2.2 y).natAbs.log2 < 9000
  e : y.natAbs < 1073741824
  f : -(2 ^ 64 : Int) < y
  g : y < (2 ^ 64 : Int)
theorem fa_of {p : Str × Int × Int} {y : Int} (hp : p ∈ kinds) (hy : y ∈ ys5) : Fa p y := by
  have h := List.all_eq_true.mp tabK p hp
  simp only [Bool.and_eq_true, decide_eq_true_eq] at h
  obtain ⟨h1, h2, h3, h4⟩ := h
  have h := List.all_eq_true.mp h4 y hy
  simp only [Bool.and_eq_true, decide_eq_true_eq] at h
  exact ⟨h1, h2, h3, h.1, h.2.1, h.2.2.1, h.2.2.2⟩
noncomputable def inRR (p : Str × Int × Int) (x : Int) : Prop := p.2.1 ≤ x ∧ x < p.2.1 + 2 ^ p.2.2.toNat
noncomputable def okR (κ op : Str) (x y : Int) : Prop := ∃ p ∈ kinds, ∃ i ∈ is7, κ = p.1 ∧ op = opN i ∧ y ∈ ys5 ∧ inRR p x
section
variable {p : Str × Int × Int} {y a : Int} {i : Nat}
theorem r451_ok (f : Fa p y) (h : inRR p a) (hi : i ∈ is7) {P : Int → Prop} (k : P (wr p.2.1 p.2.2 (valN p.2.2 y a i))) : R451 p.2.1 p.2.2 y a P i := by
  have ma : ∀ b, IntMulOk a b := fun b => IntMulOk.of_left (intBits_le_64 (Int.lt_of_lt_of_le f.a h.1) (Int.lt_of_lt_of_le h.2 f.b))
  have my : ∀ b, IntMulOk y b := fun b => IntMulOk.of_left (intBits_le_64 f.f f.g)
  have m1 : ∀ b, IntMulOk b 1 := fun b => IntMulOk.of_right (by decide)
  have m2 : ∀ b, IntMulOk b (-1) := fun b => IntMulOk.of_right (by decide)
  have py : ∀ b, Builtin.divisionGoesByPylong b y = false := fun b => PyProof.noPylong_small f.e
  have ps : Builtin.divisionGoesByPylong a (sh2 p.2.2 y) = false := PyProof.noPylong_of_log2 f.d
  have mk : IntMulOk a y := ma y
  simp only [is7, List.mem_cons, List.mem_nil_iff, or_false] at hi
  rcases hi with rfl | rfl | rfl | rfl | rfl | rfl | rfl
  · exact ⟨mk, ma _, ps, k⟩
  · exact ⟨mk, ma _, ps, k⟩
  · exact ⟨mk, ma _, ps, k⟩
  · refine ⟨py _, iB_mk (fun q => ⟨m2 _, ?_⟩) fun q => ⟨m1 _, ?_⟩⟩
    · have q : a < 0 := by simpa using q
      unfold valN at k; rw [if_pos q] at k; exact k
    · have q : ¬ a < 0 := by simpa using q
      unfold valN at k; rw [if_neg q] at k; exact k
  · refine ⟨py _, iB_mk (fun q => ⟨m2 _, my _, ?_⟩) fun q => ⟨m1 _, my _, ?_⟩⟩
    · have q : a < 0 := by simpa using q
      unfold valN at k; rw [if_pos q] at k; exact k
    · have q : ¬ a < 0 := by simpa using q
      unfold valN at k; rw [if_neg q] at k; exact k
  · exact ⟨mk, ma _, ps, k⟩
  · exact ⟨mk, ma _, ps, k⟩
theorem fit_ok {lo bi v : Int} {P : Int → Bool → Prop} (k : ∀ c, P (wr lo bi v) c) : fitR lo bi P v := by
  unfold wr at k
  rw [Int.add_comm] at k
  exact iB_mk (fun _ => k _) fun _ => k _
theorem r118_ok (f : Fa p y) (h : inRR p a) (hi : i ∈ is7) {P : Int → Bool → Prop} (k : ∀ c, P (wr p.2.1 p.2.2 (valN p.2.2 y a i)) c) : R118 p.2.1 p.2.2 y a P i := by
  have ma : ∀ b, IntMulOk a b := fun b => IntMulOk.of_left (intBits_le_64 (Int.lt_of_lt_of_le f.a h.1) (Int.lt_of_lt_of_le h.2 f.b))
  have my : ∀ b, IntMulOk y b := fun b => IntMulOk.of_left (intBits_le_64 f.f f.g)
  have py : ∀ b, Builtin.divisionGoesByPylong b y = false := fun b => PyProof.noPylong_small f.e
  have ps : Builtin.divisionGoesByPylong a (sh2 p.2.2 y) = false := PyProof.noPylong_of_log2 f.d
  have n1 : ∀ q : Int, q * -1 = 0 - q := fun q => by omega
  have n2 : ∀ q : Int, q * 1 = q := fun q => by omega
  simp only [is7, List.mem_cons, List.mem_nil_iff, or_false] at hi
  rcases hi with rfl | rfl | rfl | rfl | rfl | rfl | rfl
  · exact fit_ok k
  · exact fit_ok k
  · exact ⟨ma _, fit_ok k⟩
  · refine ⟨py _, iB_mk (fun q => fit_ok ?_) fun q => fit_ok ?_⟩
    · have q : ¬ a < 0 := by simpa using q
      unfold valN at k; rw [if_neg q, n2] at k; exact k
    · have q : a < 0 := by simpa using q
      unfold valN at k; rw [if_pos q, n1] at k; exact k
  · refine ⟨py _, iB_mk (fun q => ⟨my _, fit_ok ?_⟩) fun q => ⟨my _, fit_ok ?_⟩⟩
    · have q : ¬ a < 0 := by simpa using q
      unfold valN at k; rw [if_neg q, n2] at k; exact k
    · have q : a < 0 := by simpa using q
      unfold valN at k; rw [if_pos q, n1] at k; exact k
  · refine ⟨ma _, ?_⟩
    have k := k (decide (p.2.2 ≤ y))
    unfold wr at k; rw [Int.add_comm] at k; exact k
  · refine ⟨ps, ?_⟩
    have k := k (decide (p.2.2 ≤ y))
    unfold wr at k; rw [Int.add_comm] at k; exact k
theorem three_eq {α : Type} {f g : (Str × Int × Int) → Nat → Int → α} (h : (kinds.map fun p => is7.map fun i => ys5.map fun y => f p i y) = kinds.map fun p => is7.map fun i => ys5.map fun y => g p i y) (hp : p ∈ kinds) (hi : i ∈ is7) (hy : y ∈ ys5) : f p i y = g p i y :=
  List.map_inj_left.mp (List.map_inj_left.mp (List.map_inj_left.mp h p hp) i hi) y hy
theorem wk_at (hp : p ∈ kinds) (hi : i ∈ is7) : wkR p.1 (opN i) a y = wr p.2.1 p.2.2 (valN p.2.2 y a i) := List.map_inj_left.mp (List.map_inj_left.mp (wkE a y) p hp) i hi
theorem wr_in (f : Fa p y) (v : Int) : inRR p (wr p.2.1 p.2.2 v) := by
  have h1 := Int.fmod_nonneg_of_pos (v - p.2.1) f.c
  have h2 := Int.fmod_lt_of_pos (v - p.2.1) f.c
  unfold inRR wr
  omega
end
theorem ari_ok {p : Str × Int × Int} (hp : p ∈ kinds) : Ari p.1 okR wkR (inRR p) := by
  intro op ho y hy x hx
  obtain ⟨i, hi, e⟩ := List.mem_iff_getElem.mp ho
  have e : op = opN i := by unfold opN; rw [List.getElem?_eq_getElem hi, e]; rfl
  have hi : i ∈ is7 := by
    have : i < 7 := hi
    simp only [is7, List.mem_cons, List.mem_nil_iff, or_false]; omega
  refine ⟨⟨p, hp, i, hi, rfl, e, hy, hx⟩, ?_⟩
  rw [e, wk_at hp hi]
  exact wr_in (fa_of hp hy) _
theorem hooks (w : World) : Hooks w okR wkR := by
  rintro κ op x y ⟨p, hp, i, hi, rfl, rfl, hy, hx⟩ H P
  rw [wk_at hp hi]
  refine ⟨fun k => (snd (q0 (w := w)) 25).c ((three_eq (e451 w H P x) hp hi hy).mpr (r451_ok (fa_of hp hy) hx hi k)), fun k => (snd (q0 (w := w)) 25).c ((three_eq (e118 w H P x) hp hi hy).mpr (r118_ok (fa_of hp hy) hx hi k))⟩
theorem nums_in : (kinds.all fun p => (nums p).all fun x => decide (p.2.1 ≤ x) && decide (x < p.2.1 + 2 ^ p.2.2.toNat)) = true := by kernel_rfl!
theorem rowLaw (w : World) : JC 135 w 496 [.obj 0] [.src 1, .srcL] isT :=
  row_ok (hooks w) inRR fun p hp => ⟨ari_ok hp, fun x hx => by
    have h := List.all_eq_true.mp (List.all_eq_true.mp nums_in p hp) x hx
    simp only [Bool.and_eq_true, decide_eq_true_eq] at h
    exact h⟩
end
section
noncomputable def GW : Lm := [((S "_law_row_right"), .gl (.fn 496)), ((S "_law_ways_right"), .gl (.fn 503)), ((S "_law_signs_right"), .gl (.fn 510))]
noncomputable def QW (w : World) : Orc := ⟨fun a => Nat.beq a 496, fun f as H P => JC 135 w f as H P, fun _ => false, fun _ _ _ _ _ _ _ _ => False⟩
theorem qW {w : World} : QOK w (QW w) 135 := ⟨fun _ h => h, fun h => False.elim h⟩
theorem rowE (w : World) (P : AV → Hp → Prop) (p p' q : Pos) : (X w (QW w) 135 140).e true false ((S "source", .av (.obj 0)) :: GW) [.src 1, .srcL] (.Call (.Name (S "_law_row_right") p) [.Name (S "source") p'] [] q) P = JC 135 w 496 [.obj 0] [.src 1, .srcL] P := by kernel_rfl!
theorem waysE (w : World) (p q : Pos) : (X0 w 64).e true false GW [] (.Call (.Name (S "_law_ways_right") p) [] [] q) isT = True := by kernel_rfl!
theorem signsE (w : World) (p q : Pos) : (X0 w 64).e true false GW [] (.Call (.Name (S "_law_signs_right") p) [] [] q) isT = True := by kernel_rfl!
theorem St.sub {c : Ctx} {ρ : List Addr} {R : Led} {lm lm' : Lm} {H : Hp} {h : Heap} (st : St c .df ρ R lm H h) (s : ∀ p ∈ lm', p ∈ lm) : St c .df ρ R lm' H h := by
  obtain ⟨m, os, F, N, y⟩ := st.raw
  exact Raw.st ⟨y.O, y.el, y.nd, y.of, y.gd, fun p hp => y.lo p (s p hp)⟩ F N
theorem GW_low : ∀ p ∈ GW, p.2.low 0 := fun p hp => by
  simp only [GW, List.mem_cons, List.mem_nil_iff, or_false] at hp
  rcases hp with rfl | rfl | rfl <;> exact trivial
theorem isT_is {c : Ctx} {ρ : List Addr} {R : Led} {v : Value} {a : AV} {H : Hp} (h : isT a H) (vr : VR c.w ρ R v a) : v = .bool true := by
  cases a with
  | d x =>
    cases x with
    | bool b => cases b with
      | true => exact vr.inv.inv
      | false => exact False.elim h
    | _ => exact False.elim h
  | _ => exact False.elim h
theorem with_trans {a b d : Shared} (x : ∃ h tk, b = { a with heap := h, toks := tk }) (y : ∃ h tk, d = { b with heap := h, toks := tk }) : ∃ h tk, d = { a with heap := h, toks := tk } := by
  obtain ⟨_, _, rfl⟩ := x
  obtain ⟨_, _, rfl⟩ := y
  exact ⟨_, _, rfl⟩
theorem with_self {a b : Shared} (x : ∃ h tk, b = { a with heap := h, toks := tk }) : b = { a with heap := b.heap, toks := b.toks } := by
  obtain ⟨_, _, rfl⟩ := x
  rfl
/-- the law's last line -/
theorem lawTail {c : Ctx} {a : Wd} {E : Value → Shared → Prop} (ok : c.OK 141) (st : St c .df a.ρ a.R ((S "source", .av (.obj 0)) :: GW) [.src 1, .srcL] a.s.heap) {p p' q p2 q2 p3 q3 qq : Pos} {Q : Value → Shared → Prop} (k : ∀ h' tk' m', Fr c.h₀ c.L h' m' → Q (.bool true) { a.s with heap := h', toks := tk' }) :
    wpAny (model prg c.w) c.A (eval (.BoolOp .And [.Call (.Name (S "_law_row_right") p) [.Name (S "source") p'] [] q, .Call (.Name (S "_law_ways_right") p2) [] [] q2, .Call (.Name (S "_law_signs_right") p3) [] [] q3] qq) c.env) Q E a.s := by
  have cut : ∀ {ρ : List Addr} {R : Led} {h : Heap} {lm : Lm} {H : Hp}, St c .df ρ R lm H h → (∀ p ∈ GW, p ∈ lm) → St c .df (ρ.take 0) R GW (H.take 0) h := fun st s => (st.sub s).cut ⟨GW_low, fun x hx => by rw [List.take_zero] at hx; exact nomatch hx⟩
  have e0 : (X c.w (QW c.w) 135 140).e true false ((S "source", .av (.obj 0)) :: GW) [.src 1, .srcL] (.Call (.Name (S "_law_row_right") p) [.Name (S "source") p'] [] q) isT := by
    with_reducible exact (rowE c.w isT p p' q).mpr (rowLaw c.w)
  have e1 : (X0 c.w 64).e true false GW [] (.Call (.Name (S "_law_ways_right") p2) [] [] q2) isT := by
    with_reducible exact (waysE c.w p2 q2).mpr trivial
  have e2 : (X0 c.w 64).e true false GW [] (.Call (.Name (S "_law_signs_right") p3) [] [] q3) isT := by
    with_reducible exact (signsE c.w p3 q3).mpr trivial
  refine BoolOp_and ((Snd.e (snd (qW (w := c.w)) 140) rfl (ok.lt (by omega)) (fun _ => rfl) e0 a E st).then fun v b l ⟨av, H1, h1, st1, vr⟩ => ?_)
  rw [isT_is h1 vr]
  refine wpAny_truthy_bool ?_
  rw [if_pos rfl]
  refine BoolOp_and (WP.then (a := ⟨b.s, b.ρ.take 0, b.R⟩) (Snd.e (snd (q0 (w := c.w)) 64) rfl (ok.lt (by omega)) (fun _ => rfl) e1 ⟨b.s, b.ρ.take 0, b.R⟩ E (cut st1 fun p hp => .tail _ hp)) fun v b2 l2 ⟨av2, H2, h2, st2, vr2⟩ => ?_)
  rw [isT_is h2 vr2]
  refine wpAny_truthy_bool ?_
  rw [if_pos rfl]
  refine BoolOp_one (WP.then (a := ⟨b2.s, b2.ρ.take 0, b2.R⟩) (Snd.e (snd (q0 (w := c.w)) 64) rfl (ok.lt (by omega)) (fun _ => rfl) e2 ⟨b2.s, b2.ρ.take 0, b2.R⟩ E (cut st2 fun p hp => hp)) fun v b3 l3 ⟨av3, H3, h3, st3, vr3⟩ => ?_)
  rw [isT_is h3 vr3]
  obtain ⟨m', os', F', _⟩ := st3.raw
  have e := with_self (with_trans (with_trans l.s l2.s) l3.s)
  rw [e]
  exact k _ _ _ F'
end
section
theorem lawEnd {w : World} {mean : ExcName → Option Value} {mg mb : Str → Option Value} {dp un : Nat} {gd : Option (List Code)} {cn : Str} {cs : Scope} {L a : Addr} {ccd : Value} {cl : List (Str × Addr)} {outer : List Env} {A₀ : Around} {base h₀ : Heap} {m : Str → Option Value} {s : Shared} {news : Led}
    {aS aL : Addr} {x y : Int} {t1 t2 : Tok} {n1 n2 : Nat} {vs : List Value} {ns : List Int} {E Q : Value → Shared → Prop} {p p' q p2 q2 p3 q3 qq : Pos}
    (B : Below A₀ base outer h₀) (F : Fr h₀ L s.heap m) (X : (KH w).In h₀) (N : News h₀ L s.heap news) (T : Top view9 lz mean mg mb h₀) (hk : cs.kind = .function) (hd : dp + 2 * 141 + 4 < recursionLimit) (hu : un + 10 * 141 + 100 < cLine)
    (l0 : cs.names.lookup (S "source") = some .local) (l1 : cs.names.lookup (S "_law_row_right") = some .globalImplicit) (l2 : cs.names.lookup (S "_law_ways_right") = some .globalImplicit) (l3 : cs.names.lookup (S "_law_signs_right") = some .globalImplicit)
    (hm : m (S "source") = some (.ref aS)) (h1 : (aS, listOf #[.int x t1, .int y t2, .ref aL] n1) ∈ news) (h2 : (aL, listOf vs.toArray n2) ∈ news) (ne : aS ≠ aL) (hi : IntsAre vs ns) (hl : vs.length < 900) (k : ∀ h' tk' m', Fr h₀ L h' m' → Q (.bool true) { s with heap := h', toks := tk' }) :
    wpAny (model prg w) (ktrTop dp un gd cn cs L a ccd cl outer) (eval (.BoolOp .And [.Call (.Name (S "_law_row_right") p) [.Name (S "source") p'] [] q, .Call (.Name (S "_law_ways_right") p2) [] [] q2, .Call (.Name (S "_law_signs_right") p3) [] [] q3] qq) (envX cn cs L a ccd cl)) Q E s := by
  let c : Ctx := ⟨w, mean, mg, mb, dp, un, gd, cn, cs, L, a, ccd, cl, outer, A₀, base, h₀, []⟩
  have ok : c.OK 141 := ⟨B, X, T, hk, hd, hu⟩
  have g1 : GlAt w (S "_law_row_right") (.fn 496) := glob_is (by kernel_rfl!) w
  have g2 : GlAt w (S "_law_ways_right") (.fn 503) := glob_is (by kernel_rfl!) w
  have g3 : GlAt w (S "_law_signs_right") (.fn 510) := glob_is (by kernel_rfl!) w
  have x : Raw c .df [aS, aL] [] ((S "source", .av (.obj 0)) :: GW) [.src 1, .srcL] m [listOf #[.int x t1, .int y t2, .ref aL] n1, listOf vs.toArray n2] := by
    refine ⟨.cons (.src rfl) (.cons (.srcL hi hl) .nil), rfl, ?_, (fun p hp => nomatch hp), (fun p hp => nomatch hp), fun p hp => ?_⟩
    · exact List.nodup_cons.mpr ⟨fun q => ne (List.mem_singleton.mp q), List.nodup_cons.mpr ⟨(fun q => nomatch q), List.nodup_nil⟩⟩
    · simp only [GW, List.mem_cons, List.mem_nil_iff, or_false] at hp
      rcases hp with rfl | rfl | rfl | rfl
      · exact ⟨⟨l0, by decide⟩, _, hm, .obj rfl⟩
      · exact ⟨⟨l1, by decide⟩, g1⟩
      · exact ⟨⟨l2, by decide⟩, g2⟩
      · exact ⟨⟨l3, by decide⟩, g3⟩
  have st : St c .df [aS, aL] [] ((S "source", .av (.obj 0)) :: GW) [.src 1, .srcL] s.heap := x.st F fun p hp => by
    rcases List.mem_append.mp hp with hp | hp
    · rcases List.mem_cons.mp hp with rfl | hp
      · exact N _ h1
      · rcases List.mem_cons.mp hp with rfl | hp
        · exact N _ h2
        · exact nomatch hp
    · exact nomatch hp
  exact lawTail (c := c) (a := ⟨s, [aS, aL], []⟩) ok st k
end
section
theorem kin9 {K : Params → Frag} {w : World} {h : Heap} (X : (K w.params).In h) (e : ∀ P, K P = top9 P) : (KH w).In h := by
  show (top9 w.params).In h
  rw [← e w.params]; exact X
theorem topT9 {V : Program} {mean : ExcName → Option Value} {mg mb : Str → Option Value} {h : Heap} (T : Top V (looseW V [Str.ofString "LendError", Str.ofString "BITS"]) mean mg mb h) (e : V = view9) : Top view9 lz mean mg mb h := by subst e; exact T
theorem noIndex {ns : List Int} (a : decide (ns = []) = false) (b : (0 : Int) < -(ns.length : Int) ∨ (ns.length : Int) ≤ 0) : False := by
  cases ns with
  | nil => exact Bool.noConfusion (a.symm.trans (decide_eq_true rfl))
  | cons x r => rw [List.length_cons] at b; omega
local macro_rules | `(tactic| walk_at "eval BoolOp") => do
  let le := Lean.mkIdent `Mine.lawEnd; let k9 := Lean.mkIdent `Mine.kin9; let t9 := Lean.mkIdent `Mine.topT9
  `(tactic| (k_here; k_dflt (refine' $le:ident (cl := []) (outer := []) (cn := Str.ofString "law") ?B9 ?F9 ?X9 ?N9 ?T9 ?hk9 ?d9 ?u9 ?l0 ?l1 ?l2 ?l3 ?hm9 ?h1 ?h2 ?ne9 ?hi9 ?hl9 ?k9); (case N9 => first | assumption | k_asm); (case F9 => first | assumption | k_asm); (case B9 => assumption); (case X9 => first | (k_dflt (refine' $k9:ident ?x8 ?e8; (case x8 => assumption); (case e8 => (intro P; kernel_rfl!))))); (case T9 => first | (k_dflt (refine' $t9:ident ?x8 ?e8; (case x8 => assumption); (case e8 => kernel_rfl!)))); (case hk9 => rfl); (case l0 => first | k_dflt rfl | kernel_rfl!); (case l1 => first | k_dflt rfl | kernel_rfl!); (case l2 => first | k_dflt rfl | kernel_rfl!); (case l3 => first | k_dflt rfl | kernel_rfl!); (case hm9 => exact if_pos rfl); (case d9 => decide); (case u9 => decide); (case h1 => k_dflt (exact List.Mem.head _)); (case h2 => first | k_dflt (exact List.Mem.tail _ (List.Mem.head _)) | k_dflt (exact List.Mem.tail _ (List.Mem.tail _ (List.Mem.tail _ (List.Mem.head _)))) | k_dflt (exact List.Mem.tail _ (List.Mem.tail _ (List.Mem.head _)))); (case ne9 => first | k_dflt (exact Nat.ne_of_gt (by omega)) | omega | k_dflt (exact Nat.ne_of_gt (And.right (And.right (by assumption)))) | k_dflt (exact Nat.ne_of_gt (And.left (And.right (by assumption))))); (case hi9 => first | k_dflt (exact IntsAre.nil) | k_dflt (exact .cons _ _ (.cons _ _ (.cons _ _ (.cons _ _ (.cons _ _ (.cons _ _ (.cons _ _ (.cons _ _ .nil))))))))); (case hl9 => first | k_dflt (exact Nat.le_of_ble_eq_true rfl)); (case k9 => (intro h9 t9 m9 F9; dsimp only; k_dflt (refine' goodW_bool F9 ?g9 (raisesW_false ?n9) ?p9); (case g9 => first | k_dflt assumption); (case n9 => first | k_dflt (exact allW_false_nil) | wrow_none_raised); (case p9 => first | k_dflt rfl | k_dflt wrow_post)))))
/-- names that are taken, so that the head lays no twin there (a twin's equation is quadratic in its size) -/
theorem main.tw12534519128044699099 : True := trivial
theorem main.tw11156056980113079860 : True := trivial
theorem main.tw18362344077887427874 : True := trivial
theorem main.tw10392798680974175534 : True := trivial
theorem main.tw16826212616301561204 : True := trivial
theorem main.tw2547168344073057321 : True := trivial
theorem main.tw6605519222145581350 : True := trivial
theorem main.tw3598851301361773947 : True := trivial
theorem main.tw17784085234867301975 : True := trivial
theorem main.tw4485590104116560804 : True := trivial
theorem main.tw1299300424224093990 : True := trivial
theorem main.tw5758621741635225592 : True := trivial
theorem main.tw30802899008314538 : True := trivial
theorem main.tw1148389060315663934 : True := trivial
theorem main.tw9253799994812790149 : True := trivial
theorem main.tw11273777480241942364 : True := trivial
theorem main.tw587027183488705336 : True := trivial
theorem main.tw6788695710022549768 : True := trivial
theorem main.tw4508364121390281068 : True := trivial
theorem main.tw1372806426800153423 : True := trivial
theorem main.tw14439489856276332995 : True := trivial
theorem main.tw12139096438432415106 : True := trivial
theorem main.tw1615045767204293396 : True := trivial
theorem main.tw6788530277367551627 : True := trivial
theorem main.tw11409991511011244131 : True := trivial
theorem main.tw4217978518040436213 : True := trivial
theorem main.tw9512817274939609580 : True := trivial
theorem main.tw16008457594558532635 : True := trivial
theorem main.tw4108550071563198673 : True := trivial
theorem main.tw9656510801202774680 : True := trivial
theorem main.tw3298483428156984901 : True := trivial
theorem main.tw365850788961202214 : True := trivial
theorem main.tw2744014450722944760 : True := trivial
theorem main.tw2007339730380871907 : True := trivial
theorem main.tw3583811862363856187 : True := trivial
theorem main.tw645136716886899192 : True := trivial
theorem main.tw9190990891756207365 : True := trivial
theorem main.tw961187720498965250 : True := trivial
theorem main.tw14982579698679351253 : True := trivial
theorem main.tw12608185968620612914 : True := trivial
theorem main.tw4365514962571936147 : True := trivial
theorem main.tw16480584520131690045 : True := trivial
theorem main.tw5160751907100791332 : True := trivial
theorem main.tw16952715711813285254 : True := trivial
theorem main.tw5638201095994319732 : True := trivial
theorem main.tw13293747886898857621 : True := trivial
theorem main.tw3027586509356016917 : True := trivial
theorem main.tw5473700226181020891 : True := trivial
theorem main.tw1130211791997205004 : True := trivial
theorem main.tw17403364634526059139 : True := trivial
theorem main.tw3491332818749588091 : True := trivial
theorem main.tw14313897822631088780 : True := trivial
theorem main.tw2629084897520917108 : True := trivial
theorem main.tw10149618387772673413 : True := trivial
theorem main.tw6697339332421208802 : True := trivial
theorem main.tw9848185148710128376 : True := trivial
theorem main.tw13590572293223372214 : True := trivial
theorem main.tw17402982504261768225 : True := trivial
theorem main.tw12732289081945773324 : True := trivial
theorem main.tw16721930046160240684 : True := trivial
theorem main.tw16153842264607907944 : True := trivial
theorem main.tw979501456738626862 : True := trivial
theorem main.tw1277820614484962519 : True := trivial
theorem main.tw18325589031809861271 : True := trivial
theorem main.tw15060185592220127646 : True := trivial
theorem main.tw14061640607465278742 : True := trivial
theorem main.tw16452447596832230105 : True := trivial
theorem main.tw9274054859765456524 : True := trivial
theorem main.tw14080665800827857628 : True := trivial
theorem main.tw14218914174604095658 : True := trivial
theorem main.tw12590340796369385619 : True := trivial
theorem main.tw12941917028564957548 : True := trivial
theorem main.tw11595355409239048105 : True := trivial
theorem main.tw221909299271738847 : True := trivial
theorem main.tw452746233719593009 : True := trivial
theorem main.tw15365013842991253249 : True := trivial
theorem main.tw10625486282989778954 : True := trivial
theorem main.tw14097447854668400296 : True := trivial
theorem main.tw1850612553970854742 : True := trivial
theorem main.tw12670839924663504800 : True := trivial
theorem main.tw2524017781993486291 : True := trivial
theorem main.tw5418533224930618480 : True := trivial
theorem main.tw16135426469972691074 : True := trivial
theorem main.tw13626721169425172152 : True := trivial
theorem main.tw2921958311620399285 : True := trivial
theorem main.tw7173623326730630234 : True := trivial
theorem main.tw6660377722381337597 : True := trivial
theorem main.tw10199874654664476236 : True := trivial
theorem main.tw9508770018378322450 : True := trivial
theorem main.tw66260789543402106 : True := trivial
theorem main.tw7439787175107056256 : True := trivial
theorem main.tw17298425922696826006 : True := trivial
theorem main.tw7083192437325867461 : True := trivial
theorem main.tw13591255225166038476 : True := trivial
theorem main.tw17146568849442343683 : True := trivial
theorem main.tw6565609875121592624 : True := trivial
theorem main.tw5571399437266216444 : True := trivial
theorem main.tw14064073609400967072 : True := trivial
theorem main.tw5871769198996169552 : True := trivial
theorem main.tw8930851030842425676 : True := trivial
theorem main.tw3905226178654972811 : True := trivial
theorem main.tw7974275031393228247 : True := trivial
theorem main.tw12057704586751987240 : True := trivial
theorem main.tw8707812797481193996 : True := trivial
theorem main.tw2647654807098235363 : True := trivial
theorem main.tw17272174723667511238 : True := trivial
theorem main.tw7186131708394509389 : True := trivial
theorem main.tw17057053908230417247 : True := trivial
theorem main.tw12915833801598196605 : True := trivial
theorem main.tw9994787619460420439 : True := trivial
theorem main.tw221546546901971840 : True := trivial
theorem main.tw9391614825396419720 : True := trivial
theorem main.tw4333880214566435006 : True := trivial
theorem main.tw11476092923266045095 : True := trivial
theorem main.tw13157206579259725088 : True := trivial
theorem main.tw14793117695081215449 : True := trivial
theorem main.tw1390771862084280389 : True := trivial
theorem main.tw5127751686995613262 : True := trivial
theorem main.tw12646911602827044314 : True := trivial
theorem main.tw10391951854915411234 : True := trivial
theorem main.tw16923884221124529275 : True := trivial
theorem main.tw16187894506366716058 : True := trivial
theorem main.tw17679725944135375923 : True := trivial
theorem main.tw7332552209862256014 : True := trivial
theorem main.tw10663580350406149668 : True := trivial
theorem main.tw18238007617527299592 : True := trivial
theorem main.tw8844999433837080629 : True := trivial
theorem main.tw6635558491612396129 : True := trivial
theorem main.tw11120327062377616369 : True := trivial
theorem main.tw12922898485456448571 : True := trivial
theorem main.tw6886502059237256666 : True := trivial
theorem main.tw2759098988195820126 : True := trivial
theorem main.tw12431731261707249289 : True := trivial
theorem main.tw2287757881348798766 : True := trivial
theorem main.tw8834365191522931223 : True := trivial
theorem main.tw6880717277089553138 : True := trivial
theorem main.tw8952462522180670554 : True := trivial
theorem main.tw750237026923860459 : True := trivial
theorem main.tw17715262827843222689 : True := trivial
theorem main.tw2195194259037543316 : True := trivial
theorem main.tw8652556701797213591 : True := trivial
theorem main.tw14562738103837258888 : True := trivial
theorem main.tw6545385358150927430 : True := trivial
theorem main.tw16656740534632174751 : True := trivial
theorem main.tw5649967823195072380 : True := trivial
theorem main.tw17864028415675338326 : True := trivial
theorem main.tw5400957986263281647 : True := trivial
theorem main.tw9361300454564663673 : True := trivial
theorem main.tw17477492558424962760 : True := trivial
theorem main.tw14060465935940456498 : True := trivial
theorem main.tw16689149305811164139 : True := trivial
theorem main.tw11646826074482590764 : True := trivial
theorem main.tw11501822485730972192 : True := trivial
theorem main.tw8440099810896429113 : True := trivial
theorem main.tw3779293765908593550 : True := trivial
theorem main.tw8260724100714396741 : True := trivial
theorem main.tw10896356407431480244 : True := trivial
theorem main.tw11221353774195762014 : True := trivial
theorem main.tw2821470743931037460 : True := trivial
theorem main.tw9272984997812220495 : True := trivial
theorem main.tw15485851114877660061 : True := trivial
theorem main.tw4261964983698606537 : True := trivial
theorem main.tw16922381011570985944 : True := trivial
theorem main.tw453184122279072053 : True := trivial
theorem main.tw18284262389922463811 : True := trivial
theorem main.tw9563168847844234846 : True := trivial
theorem main.tw6361450105264607166 : True := trivial
theorem main.tw12623159325031504133 : True := trivial
theorem main.tw2544328076492683441 : True := trivial
theorem main.tw7268301785047649679 : True := trivial
theorem main.tw17974016328880235120 : True := trivial
theorem main.tw6912675738884088206 : True := trivial
theorem main.tw6596593509180878263 : True := trivial
theorem main.tw14771111431291430275 : True := trivial
theorem main.tw7875838824674609581 : True := trivial
theorem main.tw6334894449686545209 : True := trivial
theorem main.tw15510692781650021527 : True := trivial
theorem main.tw1504049600530537962 : True := trivial
theorem main.tw10665469846841522134 : True := trivial
theorem main.tw330327031418712150 : True := trivial
theorem main.tw18332899500509843999 : True := trivial
theorem main.tw1677766988990989824 : True := trivial
theorem main.tw10177057350305019805 : True := trivial
theorem main.tw10609540516017602915 : True := trivial
theorem main.tw13974046611088194958 : True := trivial
theorem main.tw1545906260438175962 : True := trivial
theorem main.tw11261727412033496967 : True := trivial
theorem main.tw14439473939278146460 : True := trivial
theorem main.tw4544244032028310869 : True := trivial
theorem main.tw13224007501803129859 : True := trivial
theorem main.tw8436210846270712021 : True := trivial
theorem main.tw15806524323241146399 : True := trivial
theorem main.tw15608450976537380609 : True := trivial
theorem main.tw834873547066669988 : True := trivial
theorem main.tw4038153913678941442 : True := trivial
theorem main.tw1496695287857109588 : True := trivial
theorem main.tw10114013102757674387 : True := trivial
theorem main.tw13180746182150919023 : True := trivial
theorem main.tw9381277316556691805 : True := trivial
theorem main.tw11857135199678951331 : True := trivial
theorem main.tw7308723440029596264 : True := trivial
theorem main.tw1118068078248606362 : True := trivial
theorem main.tw12839114828313443825 : True := trivial
theorem main.tw2496676261509829067 : True := trivial
theorem main.tw1980160206288974728 : True := trivial
theorem main.tw104360540948158410 : True := trivial
theorem main.tw11544348965984651327 : True := trivial
theorem main.tw16049902774474827687 : True := trivial
theorem main.tw9682133043923132273 : True := trivial
theorem main.tw12518504611687188807 : True := trivial
theorem main.tw4605139254293405059 : True := trivial
theorem main.tw5450094653865882931 : True := trivial
theorem main.tw9483120023164983764 : True := trivial
theorem main.tw302440914744352476 : True := trivial
theorem main.tw716429049611869786 : True := trivial
theorem main.tw11181722664286889309 : True := trivial
theorem main.tw15109750227778091905 : True := trivial
theorem main.tw14106445559736802775 : True := trivial
theorem main.tw7846812961960373227 : True := trivial
theorem main.tw2110754180369666209 : True := trivial
theorem main.tw9498315638749924794 : True := trivial
theorem main.tw18063282731904131703 : True := trivial
theorem main.tw15554039934745177238 : True := trivial
theorem main.tw10159738436595150677 : True := trivial
theorem main.tw12900284412222446716 : True := trivial
theorem main.tw2225956059507018244 : True := trivial
theorem main.tw11135027115929721415 : True := trivial
theorem main.tw5585478044538960755 : True := trivial
theorem main.tw11487549891475536569 : True := trivial
theorem main.tw4990475226369331113 : True := trivial
theorem main.tw11752208632293872130 : True := trivial
theorem main.tw4651154628705390771 : True := trivial
theorem main.tw5665406974723832613 : True := trivial
theorem main.tw1429040668314091153 : True := trivial
theorem main.tw3137596982192898869 : True := trivial
theorem main.tw7514964652732493775 : True := trivial
theorem main.tw6385024630547198690 : True := trivial
theorem main.tw6655696309031964122 : True := trivial
theorem main.tw12093647306153771053 : True := trivial
theorem main.tw16965079339398995527 : True := trivial
theorem main.tw12343854547171428336 : True := trivial
theorem main.tw16411370214107742406 : True := trivial
theorem main.tw5401703158475992631 : True := trivial
theorem main.tw14639212616227390028 : True := trivial
theorem main.tw1098248734344127483 : True := trivial
theorem main.tw14027531716089632829 : True := trivial
theorem main.tw16136984950599521427 : True := trivial
theorem main.tw7904437144335635152 : True := trivial
theorem main.tw17201416709059790184 : True := trivial
theorem main.tw4900431672193113347 : True := trivial
theorem main.tw656089360051881306 : True := trivial
theorem main.tw11251407683458634364 : True := trivial
theorem main.tw1587290215689348708 : True := trivial
theorem main.tw6112859857366181021 : True := trivial
theorem main.tw11987853993630220354 : True := trivial
theorem main.tw5781596087445459943 : True := trivial
theorem main.tw9265829497004654079 : True := trivial
theorem main.tw6741292078354696603 : True := trivial
theorem main.tw3466206800631347469 : True := trivial
theorem main.tw12361340156312767134 : True := trivial
theorem main.tw65644731488775911 : True := trivial
theorem main.tw5396361742852586263 : True := trivial
theorem main.tw3314904115985164895 : True := trivial
theorem main.tw5378808338967829844 : True := trivial
theorem main.tw5309058905264134205 : True := trivial
theorem main.tw15136431859952498927 : True := trivial
theorem main.tw10707853282979444102 : True := trivial
theorem main.tw3960113756560652017 : True := trivial
theorem main.tw2729793432009153956 : True := trivial
theorem main.tw17128291446047057950 : True := trivial
theorem main.tw12252054271945606052 : True := trivial
theorem main.tw5517759331935216279 : True := trivial
theorem main.tw5797031442667253490 : True := trivial
theorem main.tw3549514262204291990 : True := trivial
theorem main.tw2714283472998740243 : True := trivial
theorem main.tw6519269512792494810 : True := trivial
theorem main.tw17767330081159143506 : True := trivial
theorem main.tw1714950047550659301 : True := trivial
theorem main.tw5532463470591059822 : True := trivial
theorem main.tw1319676515408343850 : True := trivial
theorem main.tw15734660467963936456 : True := trivial
theorem main.tw11001617756164336837 : True := trivial
theorem main.tw14798791472264738832 : True := trivial
theorem main.tw3454311308915712629 : True := trivial
theorem main.tw9730157408454304684 : True := trivial
theorem main.tw10094358506670053839 : True := trivial
theorem main.tw7411558596216406370 : True := trivial
theorem main.tw11716418206903941319 : True := trivial
theorem main.tw3299218664060906527 : True := trivial
theorem main.tw6542085627976250192 : True := trivial
theorem main.tw15616401959046598769 : True := trivial
theorem main.tw15131278010643852716 : True := trivial
theorem main.tw17052023290607921161 : True := trivial
theorem main.tw1615956725737779560 : True := trivial
theorem main.tw16193401482309157537 : True := trivial
theorem main.tw10665089971535097683 : True := trivial
theorem main.tw4650958065196391918 : True := trivial
theorem main.tw16035907590883218939 : True := trivial
theorem main.tw6511744376749373798 : True := trivial
theorem main.tw11399646045708457374 : True := trivial
theorem main.tw14662554035588321541 : True := trivial
theorem main.tw10234815189450012239 : True := trivial
theorem main.tw15303317825217679618 : True := trivial
theorem main.tw3934531018447913466 : True := trivial
theorem main.tw9756827057097773860 : True := trivial
theorem main.tw15595112118272840620 : True := trivial
theorem main.tw13402765919934010277 : True := trivial
theorem main.tw17353955331779342651 : True := trivial
theorem main.tw3848698983108048278 : True := trivial
theorem main.tw8627561154394265716 : True := trivial
theorem main.tw7074144079889050967 : True := trivial
theorem main.tw13350764725976880583 : True := trivial
theorem main.tw5995161000843957690 : True := trivial
theorem main.tw12431561837914552411 : True := trivial
theorem main.tw14646587721710459877 : True := trivial
theorem main.tw14722489848711283861 : True := trivial
theorem main.tw6657087868060814 : True := trivial
theorem main.tw11101190512080308003 : True := trivial
theorem main.tw12273490649430754879 : True := trivial
theorem main.tw1777545030009416734 : True := trivial
theorem main.tw7699798408344515789 : True := trivial
theorem main.tw16008252555379753968 : True := trivial
theorem main.tw15558288988949320067 : True := trivial
theorem main.tw9515011664573035354 : True := trivial
theorem main.tw10450603732522932521 : True := trivial
theorem main.tw7235775444256392728 : True := trivial
theorem main.tw7093617532817203218 : True := trivial
theorem main.tw3829396358689915599 : True := trivial
theorem main.tw6075091234017535682 : True := trivial
theorem main.tw1178595665728414349 : True := trivial
theorem main.tw3994622017586750766 : True := trivial
theorem main.tw962032349192862916 : True := trivial
theorem main.tw4297412468100583042 : True := trivial
theorem main.tw2456247091588846565 : True := trivial
theorem main.tw15079240505294077160 : True := trivial
theorem main.tw1453356044741674121 : True := trivial
theorem main.tw3613476055612923068 : True := trivial
theorem main.tw10821422270917381399 : True := trivial
theorem main.tw8466321980469482115 : True := trivial
theorem main.tw5396188567872606041 : True := trivial
theorem main.tw14457758005677747962 : True := trivial
theorem main.tw5395720537830135084 : True := trivial
theorem main.tw11403851563620829512 : True := trivial
theorem main.tw17223442867436993403 : True := trivial
theorem main.tw6862492499505807319 : True := trivial
theorem main.tw14539993770535171780 : True := trivial
theorem main.tw2238316416991798583 : True := trivial
theorem main.tw9925469786538053656 : True := trivial
theorem main.tw387501639795913443 : True := trivial
theorem main.tw9557352009045844224 : True := trivial
theorem main.tw8557395850702784662 : True := trivial
theorem main.tw2852251193174398662 : True := trivial
theorem main.tw17725498274588495791 : True := trivial
theorem main.tw16832360635688203351 : True := trivial
theorem main.tw14759895335926876869 : True := trivial
theorem main.tw12543713266681445118 : True := trivial
theorem main.tw17292155258170135553 : True := trivial
theorem main.tw8228058824784995430 : True := trivial
set_option Elab.async true in
theorem main : PySem.Challenge.rw_pf0168_01.Holds := by
  w_on
  o_law
  k_head
  (case hw => w_witness2)
  k_go0
  k_steps
  all_goals (exfalso; refine' noIndex ?a9 ?b9; (case a9 => assumption); (case b9 => assumption))
end
end Mine
theorem PySem.Challenge.cw_pf0168_01_holds : PySem.Challenge.rw_pf0168_01.Holds :=
  Mine.main
