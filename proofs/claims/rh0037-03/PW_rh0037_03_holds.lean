import PyProof.Rows.All
import Wide.All
import OpenK.AllK
import Wide.FinOn
import Lean
import PySem.Challenge.RW_rh0037_03
open PySem PySem.W PyProof.Rows PySem.Calls
set_option linter.all false
set_option Elab.async false
set_option maxRecDepth 100000
namespace Mine
set_option maxHeartbeats 8000000
abbrev tupO (vs : List Value) : Obj := { cls := .type "tuple", data := .seq vs.toArray }
noncomputable def ss (x : String) (t : Nat) : Value := .str (Str.ofString x) t
noncomputable def en (P : Params) (x : String) (t : Nat) (v : Value) : DictEntry := { hash := PyData.keyHash P (Str.ofString x), key := ss x t, val := v }
noncomputable def cdO (vs : Array Value) : Obj := { cls := .type "code", data := .fields vs }
noncomputable def fnOf' (md : String) (t : Nat) (c : Addr) (ql : Str) : Stmt → Obj
  | .FunctionDef name args body _ _ _ scope _ _ _ => { cls := .type "function", data := .func { name := name, qualname := ql, params := args, body := .stmts body, scope := scope, globals := 3, closure := [], defaults := .none, kwdefaults := .none, pyModule := ss md t, code := .ref c } }
  | _ => default
noncomputable def pwAt (i : Nat) : Stmt := (PySem.Challenge.pw_rh0037_03.main.body[i]?).getD default
noncomputable def fnO (i : Nat) (ql md : String) (t : Nat) (c : Addr) : Obj := fnOf' md t c (Str.ofString ql) (pwAt i)
noncomputable def mtO (i j : Nat) (ql md : String) (t : Nat) (c : Addr) : Obj := fnOf' md t c (Str.ofString ql) (match pwAt i with | .ClassDef _ _ _ body _ _ _ _ _ _ _ => (body[j]?).getD default | _ => default)
/-- the part of the text's own heap that the walk knows -/
noncomputable def KQ : Params → Frag := fun P =>
  (nat_lit 2, { cls := .none, data := .dict #[en P "type.__subclasses__.Exception.0" 216 (.int 31 0), en P "type.__subclasses__.Exception.n" 217 (.int 1 0)] 2 }) ::
  (nat_lit 3, { cls := .type "dict", data := .dict (List.toArray (en P "__name__" 165 (ss "law_rh0037_03" 832) :: en P "__doc__" 166 (.none) :: en P "__package__" 167 (.none) :: en P "__loader__" 168 (.builtin "__main__.__loader__#opaque") :: en P "__spec__" 169 (.none) :: en P "__annotations__" 170 (.ref 6) :: en P "__builtins__" 171 (.ref 4) :: en P "__file__" 173 (ss "/claim/cut.py" 172) :: en P "__cached__" 174 (.none) :: en P "CasFail" 219 (.ref 31) :: en P "gcd" 229 (.ref 41) :: en P "bits_of" 239 (.ref 48) :: en P "root_of" 250 (.ref 55) :: en P "R0" 255 (.ref 56) :: en P "R1" 258 (.ref 57) :: en P "MOST_BITS" 260 (.int 200000 259) :: en P "rat" 269 (.ref 64) :: en P "radd" 277 (.ref 71) :: en P "rsub" 285 (.ref 78) :: en P "rmul" 293 (.ref 85) :: en P "rdiv" 301 (.ref 92) :: en P "rneg" 308 (.ref 99) :: en P "rinv" 315 (.ref 106) :: en P "rpower" 324 (.ref 113) :: en P "is_vast" 332 (.ref 120) :: en P "rcompare" 341 (.ref 127) :: en P "STILL" 345 (.ref 129) :: en P "MOST_TURNS" 347 (.int 200 346) :: en P "MOST_KINDS" 349 (.int 1000 348) :: en P "ginsert" 359 (.ref 136) :: en P "gadd" 369 (.ref 143) :: en P "poly_sum" 375 (.ref 148) :: en P "kind_product" 383 (.ref 155) :: en P "gmul" 394 (.ref 162) :: en P "kind_compare" 400 (.ref 167) :: en P "fastest" 409 (.ref 174) :: en P "exponent_of" 418 (.ref 181) :: en P "gpower" 424 (.ref 186) :: en P "gratio_power" 434 (.ref 193) :: en P "groot" 440 (.ref 198) :: en P "growth_of" 451 (.ref 205) :: en P "growth_of_other" 460 (.ref 212) :: en P "far_limit" 471 (.ref 219) :: en P "cut" 481 (.ref 226) :: en P "let" 488 (.ref 233) :: en P "sadd" 494 (.ref 238) :: en P "sscale" 500 (.ref 243) :: en P "mixed" 511 (.ref 250) :: en P "smul" 517 (.ref 255) :: en P "sinverse" 528 (.ref 262) :: en P "sderive" 534 (.ref 267) :: en P "sintegrate" 540 (.ref 272) :: en P "need_begin" 548 (.ref 279) :: en P "sexp" 559 (.ref 286) :: en P "slog" 566 (.ref 293) :: en P "ssin_cos" 580 (.ref 300) :: en P "ssin" 587 (.ref 307) :: en P "scos" 594 (.ref 314) :: en P "satan" 602 (.ref 321) :: en P "spower" 615 (.ref 328) :: en P "swhole_power" 626 (.ref 335) :: en P "MOST_SQUARED" 630 (.int 1000 629) :: en P "lplain" 638 (.ref 342) :: en P "ladd" 644 (.ref 347) :: en P "lmul" 652 (.ref 354) :: en P "ltrim" 661 (.ref 361) :: en P "linverse" 670 (.ref 368) :: en P "lpower" 681 (.ref 375) :: en P "exact_root" 693 (.ref 382) :: en P "from_zero" 703 (.ref 389) :: en P "of_call" 715 (.ref 396) :: en P "of_root" 727 (.ref 403) :: en P "of_power" 738 (.ref 410) :: en P "of_sum" 748 (.ref 417) :: en P "of_term" 754 (.ref 422) :: en P "FAR" 758 (ss "inf" 757) :: en P "LOW" 760 (ss "-inf" 759) :: en P "TRIES" 768 (.ref 423) :: en P "from_begin" 780 (.ref 430) :: en P "begun_series" 791 (.ref 437) :: en P "limit_near" 804 (.ref 444) :: en P "mirrored" 810 (.ref 449) :: en P "limit_far" 821 (.ref 456) :: en P "limit" 831 (.ref 463) :: en P "_law_numbers" 839 (.ref 470) :: en P "_law_take" 847 (.ref 477) :: en P "_law_lowest" 853 (.ref 482) :: en P "_law_kind" 863 (.ref 489) :: en P "_law_refused" 871 (.ref 496) :: en P "law" 899 (.ref 503) :: [])) 90 }) ::
  (nat_lit 15, tupO [.type "Exception"]) ::
  (nat_lit 22, tupO []) ::
  (nat_lit 24, tupO [ss "self" 204, ss "kind" 205, ss "text" 206]) ::
  (nat_lit 25, tupO []) ::
  (nat_lit 27, cdO #[ss "__init__" 201, ss "CasFail.__init__" 202, ss "/claim/cut.py" 203, .int 4 0, .int 3 0, .int 0 0, .int 0 0, .int 3 0, .ref 22, .bool true, .int 181 0, .ref 23, .none, .ref 24, .ref 25, .ref 26, .int 207 0, .int 4 0, ss "/claim/cut.py" 208]) ::
  (nat_lit 28, mtO 1 0 "CasFail.__init__" "cas.errors" 187 27) ::
  (nat_lit 29, tupO [ss "kind" 210, ss "text" 211]) ::
  (nat_lit 30, { cls := .type "dict", data := .dict #[en P "__module__" 196 (ss "cas.errors" 187), en P "__firstlineno__" 200 (.int 2 199), en P "__init__" 209 (.ref 28), en P "__static_attributes__" 212 (.ref 29), en P "__weakref__" 214 (.ref 32), en P "__doc__" 215 (.none)] 3 }) ::
  (nat_lit 31, { cls := .type "type", data := .cls { name := Str.ofString "CasFail", bases := [.type "Exception"], mro := [.ref 31, .type "Exception", .type "BaseException", .type "object"], ns := 30, qualname := Str.ofString "CasFail" }, slots := #[some (.ref 15), none, some (ss "CasFail" 189), some (ss "CasFail" 197), some (.builtin "Exception.__new__"), some (.bool true)] }) ::
  (nat_lit 32, { cls := .type "getset_descriptor", data := .fields #[ss "__weakref__" 213, .ref 31, .builtin "ExceptionGroup.__weakref__", .none] }) ::
  (nat_lit 35, tupO []) ::
  (nat_lit 37, tupO [ss "a" 225, ss "b" 226]) ::
  (nat_lit 38, tupO []) ::
  (nat_lit 40, cdO #[ss "gcd" 222, ss "gcd" 223, ss "/claim/cut.py" 224, .int 9 0, .int 2 0, .int 0 0, .int 0 0, .int 3 0, .ref 35, .bool true, .int 181 0, .ref 36, .none, .ref 37, .ref 38, .ref 39, .int 227 0, .int 9 0, ss "/claim/cut.py" 228]) ::
  (nat_lit 41, fnO 3 "gcd" "cas.ints" 220 40) ::
  (nat_lit 42, tupO []) ::
  (nat_lit 44, tupO [ss "n" 233, ss "found" 234, ss "many" 235, ss "step" 236]) ::
  (nat_lit 45, tupO []) ::
  (nat_lit 47, cdO #[ss "bits_of" 230, ss "bits_of" 231, ss "/claim/cut.py" 232, .int 14 0, .int 1 0, .int 0 0, .int 0 0, .int 3 0, .ref 42, .bool true, .int 181 0, .ref 43, .none, .ref 44, .ref 45, .ref 46, .int 237 0, .int 14 0, ss "/claim/cut.py" 238]) ::
  (nat_lit 48, fnO 4 "bits_of" "cas.ints" 220 47) ::
  (nat_lit 49, tupO []) ::
  (nat_lit 51, tupO [ss "n" 243, ss "k" 244, ss "low" 245, ss "high" 246, ss "middle" 247]) ::
  (nat_lit 52, tupO []) ::
  (nat_lit 54, cdO #[ss "root_of" 240, ss "root_of" 241, ss "/claim/cut.py" 242, .int 21 0, .int 2 0, .int 0 0, .int 0 0, .int 3 0, .ref 49, .bool true, .int 181 0, .ref 50, .none, .ref 51, .ref 52, .ref 53, .int 248 0, .int 21 0, ss "/claim/cut.py" 249]) ::
  (nat_lit 55, fnO 5 "root_of" "cas.ints" 220 54) ::
  (nat_lit 56, tupO [.int 0 253, .int 1 254]) ::
  (nat_lit 57, tupO [.int 1 256, .int 1 257]) ::
  (nat_lit 58, tupO []) ::
  (nat_lit 60, tupO [ss "top" 264, ss "bottom" 265, ss "g" 266]) ::
  (nat_lit 61, tupO []) ::
  (nat_lit 63, cdO #[ss "rat" 261, ss "rat" 262, ss "/claim/cut.py" 263, .int 38 0, .int 2 0, .int 0 0, .int 0 0, .int 3 0, .ref 58, .bool true, .int 181 0, .ref 59, .none, .ref 60, .ref 61, .ref 62, .int 267 0, .int 38 0, ss "/claim/cut.py" 268]) ::
  (nat_lit 64, fnO 10 "rat" "cas.rats" 251 63) ::
  (nat_lit 65, tupO []) ::
  (nat_lit 67, tupO [ss "a" 273, ss "b" 274]) ::
  (nat_lit 68, tupO []) ::
  (nat_lit 70, cdO #[ss "radd" 270, ss "radd" 271, ss "/claim/cut.py" 272, .int 43 0, .int 2 0, .int 0 0, .int 0 0, .int 3 0, .ref 65, .bool true, .int 181 0, .ref 66, .none, .ref 67, .ref 68, .ref 69, .int 275 0, .int 43 0, ss "/claim/cut.py" 276]) ::
  (nat_lit 71, fnO 11 "radd" "cas.rats" 251 70) ::
  (nat_lit 72, tupO []) ::
  (nat_lit 74, tupO [ss "a" 281, ss "b" 282]) ::
  (nat_lit 75, tupO []) ::
  (nat_lit 77, cdO #[ss "rsub" 278, ss "rsub" 279, ss "/claim/cut.py" 280, .int 45 0, .int 2 0, .int 0 0, .int 0 0, .int 3 0, .ref 72, .bool true, .int 181 0, .ref 73, .none, .ref 74, .ref 75, .ref 76, .int 283 0, .int 45 0, ss "/claim/cut.py" 284]) ::
  (nat_lit 78, fnO 12 "rsub" "cas.rats" 251 77) ::
  (nat_lit 79, tupO []) ::
  (nat_lit 81, tupO [ss "a" 289, ss "b" 290]) ::
  (nat_lit 82, tupO []) ::
  (nat_lit 84, cdO #[ss "rmul" 286, ss "rmul" 287, ss "/claim/cut.py" 288, .int 47 0, .int 2 0, .int 0 0, .int 0 0, .int 3 0, .ref 79, .bool true, .int 181 0, .ref 80, .none, .ref 81, .ref 82, .ref 83, .int 291 0, .int 47 0, ss "/claim/cut.py" 292]) ::
  (nat_lit 85, fnO 13 "rmul" "cas.rats" 251 84) ::
  (nat_lit 86, tupO []) ::
  (nat_lit 88, tupO [ss "a" 297, ss "b" 298]) ::
  (nat_lit 89, tupO []) ::
  (nat_lit 91, cdO #[ss "rdiv" 294, ss "rdiv" 295, ss "/claim/cut.py" 296, .int 49 0, .int 2 0, .int 0 0, .int 0 0, .int 3 0, .ref 86, .bool true, .int 181 0, .ref 87, .none, .ref 88, .ref 89, .ref 90, .int 299 0, .int 49 0, ss "/claim/cut.py" 300]) ::
  (nat_lit 92, fnO 14 "rdiv" "cas.rats" 251 91) ::
  (nat_lit 93, tupO []) ::
  (nat_lit 95, tupO [ss "a" 305]) ::
  (nat_lit 96, tupO []) ::
  (nat_lit 98, cdO #[ss "rneg" 302, ss "rneg" 303, ss "/claim/cut.py" 304, .int 51 0, .int 1 0, .int 0 0, .int 0 0, .int 3 0, .ref 93, .bool true, .int 181 0, .ref 94, .none, .ref 95, .ref 96, .ref 97, .int 306 0, .int 51 0, ss "/claim/cut.py" 307]) ::
  (nat_lit 99, fnO 15 "rneg" "cas.rats" 251 98) ::
  (nat_lit 100, tupO []) ::
  (nat_lit 102, tupO [ss "a" 312]) ::
  (nat_lit 103, tupO []) ::
  (nat_lit 105, cdO #[ss "rinv" 309, ss "rinv" 310, ss "/claim/cut.py" 311, .int 53 0, .int 1 0, .int 0 0, .int 0 0, .int 3 0, .ref 100, .bool true, .int 181 0, .ref 101, .none, .ref 102, .ref 103, .ref 104, .int 313 0, .int 53 0, ss "/claim/cut.py" 314]) ::
  (nat_lit 106, fnO 16 "rinv" "cas.rats" 251 105) ::
  (nat_lit 107, tupO []) ::
  (nat_lit 109, tupO [ss "a" 319, ss "n" 320, ss "greatest" 321]) ::
  (nat_lit 110, tupO []) ::
  (nat_lit 112, cdO #[ss "rpower" 316, ss "rpower" 317, ss "/claim/cut.py" 318, .int 55 0, .int 2 0, .int 0 0, .int 0 0, .int 3 0, .ref 107, .bool true, .int 181 0, .ref 108, .none, .ref 109, .ref 110, .ref 111, .int 322 0, .int 55 0, ss "/claim/cut.py" 323]) ::
  (nat_lit 113, fnO 17 "rpower" "cas.rats" 251 112) ::
  (nat_lit 114, tupO []) ::
  (nat_lit 116, tupO [ss "a" 328, ss "greatest" 329]) ::
  (nat_lit 117, tupO []) ::
  (nat_lit 119, cdO #[ss "is_vast" 325, ss "is_vast" 326, ss "/claim/cut.py" 327, .int 62 0, .int 1 0, .int 0 0, .int 0 0, .int 3 0, .ref 114, .bool true, .int 181 0, .ref 115, .none, .ref 116, .ref 117, .ref 118, .int 330 0, .int 62 0, ss "/claim/cut.py" 331]) ::
  (nat_lit 120, fnO 18 "is_vast" "cas.rats" 251 119) ::
  (nat_lit 121, tupO []) ::
  (nat_lit 123, tupO [ss "a" 336, ss "b" 337, ss "off" 338]) ::
  (nat_lit 124, tupO []) ::
  (nat_lit 126, cdO #[ss "rcompare" 333, ss "rcompare" 334, ss "/claim/cut.py" 335, .int 65 0, .int 2 0, .int 0 0, .int 0 0, .int 3 0, .ref 121, .bool true, .int 181 0, .ref 122, .none, .ref 123, .ref 124, .ref 125, .int 339 0, .int 65 0, ss "/claim/cut.py" 340]) ::
  (nat_lit 127, fnO 19 "rcompare" "cas.rats" 251 126) ::
  (nat_lit 128, tupO []) ::
  (nat_lit 129, tupO [.ref 128, .ref 56, .int 0 344]) ::
  (nat_lit 130, tupO []) ::
  (nat_lit 132, tupO [ss "found" 353, ss "kind" 354, ss "number" 355, ss "total" 356]) ::
  (nat_lit 133, tupO []) ::
  (nat_lit 135, cdO #[ss "ginsert" 350, ss "ginsert" 351, ss "/claim/cut.py" 352, .int 72 0, .int 3 0, .int 0 0, .int 0 0, .int 3 0, .ref 130, .bool true, .int 181 0, .ref 131, .none, .ref 132, .ref 133, .ref 134, .int 357 0, .int 72 0, ss "/claim/cut.py" 358]) ::
  (nat_lit 136, fnO 24 "ginsert" "cas.growth" 342 135) ::
  (nat_lit 137, tupO []) ::
  (nat_lit 139, tupO [ss "a" 363, ss "b" 364, ss "found" 365, ss "kind" 366]) ::
  (nat_lit 140, tupO []) ::
  (nat_lit 142, cdO #[ss "gadd" 360, ss "gadd" 361, ss "/claim/cut.py" 362, .int 78 0, .int 2 0, .int 0 0, .int 0 0, .int 3 0, .ref 137, .bool true, .int 181 0, .ref 138, .none, .ref 139, .ref 140, .ref 141, .int 367 0, .int 78 0, ss "/claim/cut.py" 368]) ::
  (nat_lit 143, fnO 25 "gadd" "cas.growth" 342 142) ::
  (nat_lit 144, tupO []) ::
  (nat_lit 147, cdO #[ss "poly_sum" 370, ss "poly_sum" 371, ss "/claim/cut.py" 372, .int 83 0, .int 2 0, .int 0 0, .int 0 0, .int 3 0, .ref 144, .bool true, .int 181 0, .ref 145, .none, .none, .none, .ref 146, .int 373 0, .int 83 0, ss "/claim/cut.py" 374]) ::
  (nat_lit 148, fnO 26 "poly_sum" "cas.growth" 342 147) ::
  (nat_lit 149, tupO []) ::
  (nat_lit 151, tupO [ss "one" 379, ss "other" 380]) ::
  (nat_lit 152, tupO []) ::
  (nat_lit 154, cdO #[ss "kind_product" 376, ss "kind_product" 377, ss "/claim/cut.py" 378, .int 88 0, .int 2 0, .int 0 0, .int 0 0, .int 3 0, .ref 149, .bool true, .int 181 0, .ref 150, .none, .ref 151, .ref 152, .ref 153, .int 381 0, .int 88 0, ss "/claim/cut.py" 382]) ::
  (nat_lit 155, fnO 27 "kind_product" "cas.growth" 342 154) ::
  (nat_lit 156, tupO []) ::
  (nat_lit 158, tupO [ss "a" 387, ss "b" 388, ss "found" 389, ss "one" 390, ss "other" 391]) ::
  (nat_lit 159, tupO []) ::
  (nat_lit 161, cdO #[ss "gmul" 384, ss "gmul" 385, ss "/claim/cut.py" 386, .int 90 0, .int 2 0, .int 0 0, .int 0 0, .int 3 0, .ref 156, .bool true, .int 181 0, .ref 157, .none, .ref 158, .ref 159, .ref 160, .int 392 0, .int 90 0, ss "/claim/cut.py" 393]) ::
  (nat_lit 162, fnO 28 "gmul" "cas.growth" 342 161) ::
  (nat_lit 163, tupO []) ::
  (nat_lit 166, cdO #[ss "kind_compare" 395, ss "kind_compare" 396, ss "/claim/cut.py" 397, .int 98 0, .int 2 0, .int 0 0, .int 0 0, .int 3 0, .ref 163, .bool true, .int 181 0, .ref 164, .none, .none, .none, .ref 165, .int 398 0, .int 98 0, ss "/claim/cut.py" 399]) ::
  (nat_lit 167, fnO 29 "kind_compare" "cas.growth" 342 166) ::
  (nat_lit 168, tupO []) ::
  (nat_lit 170, tupO [ss "a" 404, ss "found" 405, ss "kind" 406]) ::
  (nat_lit 171, tupO []) ::
  (nat_lit 173, cdO #[ss "fastest" 401, ss "fastest" 402, ss "/claim/cut.py" 403, .int 104 0, .int 1 0, .int 0 0, .int 0 0, .int 3 0, .ref 168, .bool true, .int 181 0, .ref 169, .none, .ref 170, .ref 171, .ref 172, .int 407 0, .int 104 0, ss "/claim/cut.py" 408]) ::
  (nat_lit 174, fnO 30 "fastest" "cas.growth" 342 173) ::
  (nat_lit 175, tupO []) ::
  (nat_lit 177, tupO [ss "a" 413, ss "found" 414, ss "kind" 415]) ::
  (nat_lit 178, tupO []) ::
  (nat_lit 180, cdO #[ss "exponent_of" 410, ss "exponent_of" 411, ss "/claim/cut.py" 412, .int 110 0, .int 1 0, .int 0 0, .int 0 0, .int 3 0, .ref 175, .bool true, .int 181 0, .ref 176, .none, .ref 177, .ref 178, .ref 179, .int 416 0, .int 110 0, ss "/claim/cut.py" 417]) ::
  (nat_lit 181, fnO 31 "exponent_of" "cas.growth" 342 180) ::
  (nat_lit 182, tupO []) ::
  (nat_lit 185, cdO #[ss "gpower" 419, ss "gpower" 420, ss "/claim/cut.py" 421, .int 117 0, .int 2 0, .int 0 0, .int 0 0, .int 3 0, .ref 182, .bool true, .int 181 0, .ref 183, .none, .none, .none, .ref 184, .int 422 0, .int 117 0, ss "/claim/cut.py" 423]) ::
  (nat_lit 186, fnO 32 "gpower" "cas.growth" 342 185) ::
  (nat_lit 187, tupO []) ::
  (nat_lit 189, tupO [ss "told" 428, ss "many" 429, ss "top" 430, ss "bottom" 431]) ::
  (nat_lit 190, tupO []) ::
  (nat_lit 192, cdO #[ss "gratio_power" 425, ss "gratio_power" 426, ss "/claim/cut.py" 427, .int 135 0, .int 2 0, .int 0 0, .int 0 0, .int 3 0, .ref 187, .bool true, .int 181 0, .ref 188, .none, .ref 189, .ref 190, .ref 191, .int 432 0, .int 135 0, ss "/claim/cut.py" 433]) ::
  (nat_lit 193, fnO 33 "gratio_power" "cas.growth" 342 192) ::
  (nat_lit 194, tupO []) ::
  (nat_lit 197, cdO #[ss "groot" 435, ss "groot" 436, ss "/claim/cut.py" 437, .int 140 0, .int 2 0, .int 0 0, .int 0 0, .int 3 0, .ref 194, .bool true, .int 181 0, .ref 195, .none, .none, .none, .ref 196, .int 438 0, .int 140 0, ss "/claim/cut.py" 439]) ::
  (nat_lit 198, fnO 34 "groot" "cas.growth" 342 197) ::
  (nat_lit 199, tupO []) ::
  (nat_lit 201, tupO [ss "t" 444, ss "name" 445, ss "found" 446, ss "one" 447, ss "told" 448]) ::
  (nat_lit 202, tupO []) ::
  (nat_lit 204, cdO #[ss "growth_of" 441, ss "growth_of" 442, ss "/claim/cut.py" 443, .int 151 0, .int 2 0, .int 0 0, .int 0 0, .int 3 0, .ref 199, .bool true, .int 181 0, .ref 200, .none, .ref 201, .ref 202, .ref 203, .int 449 0, .int 151 0, ss "/claim/cut.py" 450]) ::
  (nat_lit 205, fnO 35 "growth_of" "cas.growth" 342 204) ::
  (nat_lit 206, tupO []) ::
  (nat_lit 208, tupO [ss "t" 455, ss "name" 456, ss "told" 457]) ::
  (nat_lit 209, tupO []) ::
  (nat_lit 211, cdO #[ss "growth_of_other" 452, ss "growth_of_other" 453, ss "/claim/cut.py" 454, .int 169 0, .int 2 0, .int 0 0, .int 0 0, .int 3 0, .ref 206, .bool true, .int 181 0, .ref 207, .none, .ref 208, .ref 209, .ref 210, .int 458 0, .int 169 0, ss "/claim/cut.py" 459]) ::
  (nat_lit 212, fnO 36 "growth_of_other" "cas.growth" 342 211) ::
  (nat_lit 213, tupO []) ::
  (nat_lit 215, tupO [ss "told" 464, ss "above" 465, ss "below" 466, ss "order" 467, ss "number" 468]) ::
  (nat_lit 216, tupO []) ::
  (nat_lit 218, cdO #[ss "far_limit" 461, ss "far_limit" 462, ss "/claim/cut.py" 463, .int 184 0, .int 1 0, .int 0 0, .int 0 0, .int 3 0, .ref 213, .bool true, .int 181 0, .ref 214, .none, .ref 215, .ref 216, .ref 217, .int 469 0, .int 184 0, ss "/claim/cut.py" 470]) ::
  (nat_lit 219, fnO 37 "far_limit" "cas.growth" 342 218) ::
  (nat_lit 220, tupO []) ::
  (nat_lit 222, tupO [ss "a" 477, ss "order" 478]) ::
  (nat_lit 223, tupO []) ::
  (nat_lit 225, cdO #[ss "cut" 474, ss "cut" 475, ss "/claim/cut.py" 476, .int 198 0, .int 2 0, .int 0 0, .int 0 0, .int 3 0, .ref 220, .bool true, .int 181 0, .ref 221, .none, .ref 222, .ref 223, .ref 224, .int 479 0, .int 198 0, ss "/claim/cut.py" 480]) ::
  (nat_lit 226, fnO 39 "cut" "cas.series" 472 225) ::
  (nat_lit 227, tupO []) ::
  (nat_lit 229, tupO [ss "number" 485]) ::
  (nat_lit 230, tupO []) ::
  (nat_lit 232, cdO #[ss "let" 482, ss "let" 483, ss "/claim/cut.py" 484, .int 200 0, .int 1 0, .int 0 0, .int 0 0, .int 3 0, .ref 227, .bool true, .int 181 0, .ref 228, .none, .ref 229, .ref 230, .ref 231, .int 486 0, .int 200 0, ss "/claim/cut.py" 487]) ::
  (nat_lit 233, fnO 40 "let" "cas.series" 472 232) ::
  (nat_lit 234, tupO []) ::
  (nat_lit 237, cdO #[ss "sadd" 489, ss "sadd" 490, ss "/claim/cut.py" 491, .int 204 0, .int 2 0, .int 0 0, .int 0 0, .int 3 0, .ref 234, .bool true, .int 181 0, .ref 235, .none, .none, .none, .ref 236, .int 492 0, .int 204 0, ss "/claim/cut.py" 493]) ::
  (nat_lit 238, fnO 41 "sadd" "cas.series" 472 237) ::
  (nat_lit 239, tupO []) ::
  (nat_lit 242, cdO #[ss "sscale" 495, ss "sscale" 496, ss "/claim/cut.py" 497, .int 206 0, .int 2 0, .int 0 0, .int 0 0, .int 3 0, .ref 239, .bool true, .int 181 0, .ref 240, .none, .none, .none, .ref 241, .int 498 0, .int 206 0, ss "/claim/cut.py" 499]) ::
  (nat_lit 243, fnO 42 "sscale" "cas.series" 472 242) ::
  (nat_lit 244, tupO []) ::
  (nat_lit 246, tupO [ss "a" 504, ss "b" 505, ss "at" 506, ss "found" 507, ss "spot" 508]) ::
  (nat_lit 247, tupO []) ::
  (nat_lit 249, cdO #[ss "mixed" 501, ss "mixed" 502, ss "/claim/cut.py" 503, .int 208 0, .int 3 0, .int 0 0, .int 0 0, .int 3 0, .ref 244, .bool true, .int 181 0, .ref 245, .none, .ref 246, .ref 247, .ref 248, .int 509 0, .int 208 0, ss "/claim/cut.py" 510]) ::
  (nat_lit 250, fnO 43 "mixed" "cas.series" 472 249) ::
  (nat_lit 251, tupO []) ::
  (nat_lit 254, cdO #[ss "smul" 512, ss "smul" 513, ss "/claim/cut.py" 514, .int 214 0, .int 2 0, .int 0 0, .int 0 0, .int 3 0, .ref 251, .bool true, .int 181 0, .ref 252, .none, .none, .none, .ref 253, .int 515 0, .int 214 0, ss "/claim/cut.py" 516]) ::
  (nat_lit 255, fnO 44 "smul" "cas.series" 472 254) ::
  (nat_lit 256, tupO []) ::
  (nat_lit 258, tupO [ss "a" 521, ss "found" 522, ss "at" 523, ss "total" 524, ss "spot" 525]) ::
  (nat_lit 259, tupO []) ::
  (nat_lit 261, cdO #[ss "sinverse" 518, ss "sinverse" 519, ss "/claim/cut.py" 520, .int 216 0, .int 1 0, .int 0 0, .int 0 0, .int 3 0, .ref 256, .bool true, .int 181 0, .ref 257, .none, .ref 258, .ref 259, .ref 260, .int 526 0, .int 216 0, ss "/claim/cut.py" 527]) ::
  (nat_lit 262, fnO 45 "sinverse" "cas.series" 472 261) ::
  (nat_lit 263, tupO []) ::
  (nat_lit 266, cdO #[ss "sderive" 529, ss "sderive" 530, ss "/claim/cut.py" 531, .int 226 0, .int 1 0, .int 0 0, .int 0 0, .int 3 0, .ref 263, .bool true, .int 181 0, .ref 264, .none, .none, .none, .ref 265, .int 532 0, .int 226 0, ss "/claim/cut.py" 533]) ::
  (nat_lit 267, fnO 46 "sderive" "cas.series" 472 266) ::
  (nat_lit 268, tupO []) ::
  (nat_lit 271, cdO #[ss "sintegrate" 535, ss "sintegrate" 536, ss "/claim/cut.py" 537, .int 228 0, .int 1 0, .int 0 0, .int 0 0, .int 3 0, .ref 268, .bool true, .int 181 0, .ref 269, .none, .none, .none, .ref 270, .int 538 0, .int 228 0, ss "/claim/cut.py" 539]) ::
  (nat_lit 272, fnO 47 "sintegrate" "cas.series" 472 271) ::
  (nat_lit 273, tupO []) ::
  (nat_lit 275, tupO [ss "a" 544, ss "number" 545]) ::
  (nat_lit 276, tupO []) ::
  (nat_lit 278, cdO #[ss "need_begin" 541, ss "need_begin" 542, ss "/claim/cut.py" 543, .int 230 0, .int 2 0, .int 0 0, .int 0 0, .int 3 0, .ref 273, .bool true, .int 181 0, .ref 274, .none, .ref 275, .ref 276, .ref 277, .int 546 0, .int 230 0, ss "/claim/cut.py" 547]) ::
  (nat_lit 279, fnO 48 "need_begin" "cas.series" 472 278) ::
  (nat_lit 280, tupO []) ::
  (nat_lit 282, tupO [ss "a" 552, ss "found" 553, ss "at" 554, ss "total" 555, ss "spot" 556]) ::
  (nat_lit 283, tupO []) ::
  (nat_lit 285, cdO #[ss "sexp" 549, ss "sexp" 550, ss "/claim/cut.py" 551, .int 233 0, .int 1 0, .int 0 0, .int 0 0, .int 3 0, .ref 280, .bool true, .int 181 0, .ref 281, .none, .ref 282, .ref 283, .ref 284, .int 557 0, .int 233 0, ss "/claim/cut.py" 558]) ::
  (nat_lit 286, fnO 49 "sexp" "cas.series" 472 285) ::
  (nat_lit 287, tupO []) ::
  (nat_lit 289, tupO [ss "a" 563]) ::
  (nat_lit 290, tupO []) ::
  (nat_lit 292, cdO #[ss "slog" 560, ss "slog" 561, ss "/claim/cut.py" 562, .int 242 0, .int 1 0, .int 0 0, .int 0 0, .int 3 0, .ref 287, .bool true, .int 181 0, .ref 288, .none, .ref 289, .ref 290, .ref 291, .int 564 0, .int 242 0, ss "/claim/cut.py" 565]) ::
  (nat_lit 293, fnO 50 "slog" "cas.series" 472 292) ::
  (nat_lit 294, tupO []) ::
  (nat_lit 296, tupO [ss "a" 570, ss "sines" 571, ss "others" 572, ss "at" 573, ss "one" 574, ss "other" 575, ss "spot" 576, ss "moved" 577]) ::
  (nat_lit 297, tupO []) ::
  (nat_lit 299, cdO #[ss "ssin_cos" 567, ss "ssin_cos" 568, ss "/claim/cut.py" 569, .int 247 0, .int 1 0, .int 0 0, .int 0 0, .int 3 0, .ref 294, .bool true, .int 181 0, .ref 295, .none, .ref 296, .ref 297, .ref 298, .int 578 0, .int 247 0, ss "/claim/cut.py" 579]) ::
  (nat_lit 300, fnO 51 "ssin_cos" "cas.series" 472 299) ::
  (nat_lit 301, tupO []) ::
  (nat_lit 303, tupO [ss "a" 584]) ::
  (nat_lit 304, tupO []) ::
  (nat_lit 306, cdO #[ss "ssin" 581, ss "ssin" 582, ss "/claim/cut.py" 583, .int 259 0, .int 1 0, .int 0 0, .int 0 0, .int 3 0, .ref 301, .bool true, .int 181 0, .ref 302, .none, .ref 303, .ref 304, .ref 305, .int 585 0, .int 259 0, ss "/claim/cut.py" 586]) ::
  (nat_lit 307, fnO 52 "ssin" "cas.series" 472 306) ::
  (nat_lit 308, tupO []) ::
  (nat_lit 310, tupO [ss "a" 591]) ::
  (nat_lit 311, tupO []) ::
  (nat_lit 313, cdO #[ss "scos" 588, ss "scos" 589, ss "/claim/cut.py" 590, .int 261 0, .int 1 0, .int 0 0, .int 0 0, .int 3 0, .ref 308, .bool true, .int 181 0, .ref 309, .none, .ref 310, .ref 311, .ref 312, .int 592 0, .int 261 0, ss "/claim/cut.py" 593]) ::
  (nat_lit 314, fnO 53 "scos" "cas.series" 472 313) ::
  (nat_lit 315, tupO []) ::
  (nat_lit 317, tupO [ss "a" 598, ss "square" 599]) ::
  (nat_lit 318, tupO []) ::
  (nat_lit 320, cdO #[ss "satan" 595, ss "satan" 596, ss "/claim/cut.py" 597, .int 263 0, .int 1 0, .int 0 0, .int 0 0, .int 3 0, .ref 315, .bool true, .int 181 0, .ref 316, .none, .ref 317, .ref 318, .ref 319, .int 600 0, .int 263 0, ss "/claim/cut.py" 601]) ::
  (nat_lit 321, fnO 54 "satan" "cas.series" 472 320) ::
  (nat_lit 322, tupO []) ::
  (nat_lit 324, tupO [ss "a" 606, ss "number" 607, ss "found" 608, ss "at" 609, ss "total" 610, ss "spot" 611, ss "times" 612]) ::
  (nat_lit 325, tupO []) ::
  (nat_lit 327, cdO #[ss "spower" 603, ss "spower" 604, ss "/claim/cut.py" 605, .int 270 0, .int 2 0, .int 0 0, .int 0 0, .int 3 0, .ref 322, .bool true, .int 181 0, .ref 323, .none, .ref 324, .ref 325, .ref 326, .int 613 0, .int 270 0, ss "/claim/cut.py" 614]) ::
  (nat_lit 328, fnO 55 "spower" "cas.series" 472 327) ::
  (nat_lit 329, tupO []) ::
  (nat_lit 331, tupO [ss "a" 619, ss "many" 620, ss "base" 621, ss "found" 622, ss "left" 623]) ::
  (nat_lit 332, tupO []) ::
  (nat_lit 334, cdO #[ss "swhole_power" 616, ss "swhole_power" 617, ss "/claim/cut.py" 618, .int 280 0, .int 2 0, .int 0 0, .int 0 0, .int 3 0, .ref 329, .bool true, .int 181 0, .ref 330, .none, .ref 331, .ref 332, .ref 333, .int 624 0, .int 280 0, ss "/claim/cut.py" 625]) ::
  (nat_lit 335, fnO 56 "swhole_power" "cas.series" 472 334) ::
  (nat_lit 336, tupO []) ::
  (nat_lit 338, tupO [ss "number" 634, ss "many" 635]) ::
  (nat_lit 339, tupO []) ::
  (nat_lit 341, cdO #[ss "lplain" 631, ss "lplain" 632, ss "/claim/cut.py" 633, .int 291 0, .int 2 0, .int 0 0, .int 0 0, .int 3 0, .ref 336, .bool true, .int 181 0, .ref 337, .none, .ref 338, .ref 339, .ref 340, .int 636 0, .int 291 0, ss "/claim/cut.py" 637]) ::
  (nat_lit 342, fnO 59 "lplain" "cas.laurent" 627 341) ::
  (nat_lit 343, tupO []) ::
  (nat_lit 346, cdO #[ss "ladd" 639, ss "ladd" 640, ss "/claim/cut.py" 641, .int 293 0, .int 2 0, .int 0 0, .int 0 0, .int 3 0, .ref 343, .bool true, .int 181 0, .ref 344, .none, .none, .none, .ref 345, .int 642 0, .int 293 0, ss "/claim/cut.py" 643]) ::
  (nat_lit 347, fnO 60 "ladd" "cas.laurent" 627 346) ::
  (nat_lit 348, tupO []) ::
  (nat_lit 350, tupO [ss "a" 648, ss "b" 649]) ::
  (nat_lit 351, tupO []) ::
  (nat_lit 353, cdO #[ss "lmul" 645, ss "lmul" 646, ss "/claim/cut.py" 647, .int 298 0, .int 2 0, .int 0 0, .int 0 0, .int 3 0, .ref 348, .bool true, .int 181 0, .ref 349, .none, .ref 350, .ref 351, .ref 352, .int 650 0, .int 298 0, ss "/claim/cut.py" 651]) ::
  (nat_lit 354, fnO 61 "lmul" "cas.laurent" 627 353) ::
  (nat_lit 355, tupO []) ::
  (nat_lit 357, tupO [ss "a" 656, ss "low" 657, ss "rest" 658]) ::
  (nat_lit 358, tupO []) ::
  (nat_lit 360, cdO #[ss "ltrim" 653, ss "ltrim" 654, ss "/claim/cut.py" 655, .int 300 0, .int 1 0, .int 0 0, .int 0 0, .int 3 0, .ref 355, .bool true, .int 181 0, .ref 356, .none, .ref 357, .ref 358, .ref 359, .int 659 0, .int 300 0, ss "/claim/cut.py" 660]) ::
  (nat_lit 361, fnO 62 "ltrim" "cas.laurent" 627 360) ::
  (nat_lit 362, tupO []) ::
  (nat_lit 364, tupO [ss "a" 665, ss "low" 666, ss "rest" 667]) ::
  (nat_lit 365, tupO []) ::
  (nat_lit 367, cdO #[ss "linverse" 662, ss "linverse" 663, ss "/claim/cut.py" 664, .int 305 0, .int 1 0, .int 0 0, .int 0 0, .int 3 0, .ref 362, .bool true, .int 181 0, .ref 363, .none, .ref 364, .ref 365, .ref 366, .int 668 0, .int 305 0, ss "/claim/cut.py" 669]) ::
  (nat_lit 368, fnO 63 "linverse" "cas.laurent" 627 367) ::
  (nat_lit 369, tupO []) ::
  (nat_lit 371, tupO [ss "a" 674, ss "many" 675, ss "low" 676, ss "rest" 677, ss "first" 678]) ::
  (nat_lit 372, tupO []) ::
  (nat_lit 374, cdO #[ss "lpower" 671, ss "lpower" 672, ss "/claim/cut.py" 673, .int 310 0, .int 2 0, .int 0 0, .int 0 0, .int 3 0, .ref 369, .bool true, .int 181 0, .ref 370, .none, .ref 371, .ref 372, .ref 373, .int 679 0, .int 310 0, ss "/claim/cut.py" 680]) ::
  (nat_lit 375, fnO 64 "lpower" "cas.laurent" 627 374) ::
  (nat_lit 376, tupO []) ::
  (nat_lit 378, tupO [ss "number" 687, ss "many" 688, ss "top" 689, ss "bottom" 690]) ::
  (nat_lit 379, tupO []) ::
  (nat_lit 381, cdO #[ss "exact_root" 684, ss "exact_root" 685, ss "/claim/cut.py" 686, .int 321 0, .int 2 0, .int 0 0, .int 0 0, .int 3 0, .ref 376, .bool true, .int 181 0, .ref 377, .none, .ref 378, .ref 379, .ref 380, .int 691 0, .int 321 0, ss "/claim/cut.py" 692]) ::
  (nat_lit 382, fnO 66 "exact_root" "cas.series_of" 682 381) ::
  (nat_lit 383, tupO []) ::
  (nat_lit 385, tupO [ss "told" 697, ss "many" 698, ss "low" 699, ss "rest" 700]) ::
  (nat_lit 386, tupO []) ::
  (nat_lit 388, cdO #[ss "from_zero" 694, ss "from_zero" 695, ss "/claim/cut.py" 696, .int 324 0, .int 2 0, .int 0 0, .int 0 0, .int 3 0, .ref 383, .bool true, .int 181 0, .ref 384, .none, .ref 385, .ref 386, .ref 387, .int 701 0, .int 324 0, ss "/claim/cut.py" 702]) ::
  (nat_lit 389, fnO 67 "from_zero" "cas.series_of" 682 388) ::
  (nat_lit 390, tupO []) ::
  (nat_lit 392, tupO [ss "name" 707, ss "told" 708, ss "many" 709, ss "low" 710, ss "rest" 711, ss "inner" 712]) ::
  (nat_lit 393, tupO []) ::
  (nat_lit 395, cdO #[ss "of_call" 704, ss "of_call" 705, ss "/claim/cut.py" 706, .int 331 0, .int 3 0, .int 0 0, .int 0 0, .int 3 0, .ref 390, .bool true, .int 181 0, .ref 391, .none, .ref 392, .ref 393, .ref 394, .int 713 0, .int 331 0, ss "/claim/cut.py" 714]) ::
  (nat_lit 396, fnO 68 "of_call" "cas.series_of" 682 395) ::
  (nat_lit 397, tupO []) ::
  (nat_lit 399, tupO [ss "told" 719, ss "number" 720, ss "low" 721, ss "rest" 722, ss "first" 723, ss "begin" 724]) ::
  (nat_lit 400, tupO []) ::
  (nat_lit 402, cdO #[ss "of_root" 716, ss "of_root" 717, ss "/claim/cut.py" 718, .int 349 0, .int 2 0, .int 0 0, .int 0 0, .int 3 0, .ref 397, .bool true, .int 181 0, .ref 398, .none, .ref 399, .ref 400, .ref 401, .int 725 0, .int 349 0, ss "/claim/cut.py" 726]) ::
  (nat_lit 403, fnO 69 "of_root" "cas.series_of" 682 402) ::
  (nat_lit 404, tupO []) ::
  (nat_lit 406, tupO [ss "base" 731, ss "exponent" 732, ss "many" 733, ss "letter" 734, ss "told" 735]) ::
  (nat_lit 407, tupO []) ::
  (nat_lit 409, cdO #[ss "of_power" 728, ss "of_power" 729, ss "/claim/cut.py" 730, .int 362 0, .int 4 0, .int 0 0, .int 0 0, .int 3 0, .ref 404, .bool true, .int 181 0, .ref 405, .none, .ref 406, .ref 407, .ref 408, .int 736 0, .int 362 0, ss "/claim/cut.py" 737]) ::
  (nat_lit 410, fnO 70 "of_power" "cas.series_of" 682 409) ::
  (nat_lit 411, tupO []) ::
  (nat_lit 413, tupO [ss "some" 742, ss "many" 743, ss "found" 744, ss "told" 745]) ::
  (nat_lit 414, tupO []) ::
  (nat_lit 416, cdO #[ss "of_sum" 739, ss "of_sum" 740, ss "/claim/cut.py" 741, .int 371 0, .int 2 0, .int 0 0, .int 0 0, .int 3 0, .ref 411, .bool true, .int 181 0, .ref 412, .none, .ref 413, .ref 414, .ref 415, .int 746 0, .int 371 0, ss "/claim/cut.py" 747]) ::
  (nat_lit 417, fnO 71 "of_sum" "cas.series_of" 682 416) ::
  (nat_lit 418, tupO []) ::
  (nat_lit 421, cdO #[ss "of_term" 749, ss "of_term" 750, ss "/claim/cut.py" 751, .int 376 0, .int 3 0, .int 0 0, .int 0 0, .int 3 0, .ref 418, .bool true, .int 181 0, .ref 419, .none, .none, .none, .ref 420, .int 752 0, .int 376 0, ss "/claim/cut.py" 753]) ::
  (nat_lit 422, fnO 72 "of_term" "cas.series_of" 682 421) ::
  (nat_lit 423, tupO [.int 1 761, .int 5 762, .int 7 763, .int 11 764, .int 19 765, .int 35 766, .int 67 767]) ::
  (nat_lit 424, tupO []) ::
  (nat_lit 426, tupO [ss "told" 772, ss "side" 773, ss "low" 774, ss "rest" 775, ss "is_odd" 776, ss "is_up" 777]) ::
  (nat_lit 427, tupO []) ::
  (nat_lit 429, cdO #[ss "from_begin" 769, ss "from_begin" 770, ss "/claim/cut.py" 771, .int 402 0, .int 2 0, .int 0 0, .int 0 0, .int 3 0, .ref 424, .bool true, .int 181 0, .ref 425, .none, .ref 426, .ref 427, .ref 428, .int 778 0, .int 402 0, ss "/claim/cut.py" 779]) ::
  (nat_lit 430, fnO 77 "from_begin" "cas.limits" 755 429) ::
  (nat_lit 431, tupO []) ::
  (nat_lit 433, tupO [ss "t" 784, ss "letter" 785, ss "many" 786, ss "found" 787, ss "e" 788]) ::
  (nat_lit 434, tupO []) ::
  (nat_lit 436, cdO #[ss "begun_series" 781, ss "begun_series" 782, ss "/claim/cut.py" 783, .int 413 0, .int 2 0, .int 0 0, .int 0 0, .int 3 0, .ref 431, .bool true, .int 181 0, .ref 432, .none, .ref 433, .ref 434, .ref 435, .int 789 0, .int 413 0, ss "/claim/cut.py" 790]) ::
  (nat_lit 437, fnO 78 "begun_series" "cas.limits" 755 436) ::
  (nat_lit 438, tupO []) ::
  (nat_lit 440, tupO [ss "t" 795, ss "name" 796, ss "at" 797, ss "side" 798, ss "way" 799, ss "above" 800, ss "below" 801]) ::
  (nat_lit 441, tupO []) ::
  (nat_lit 443, cdO #[ss "limit_near" 792, ss "limit_near" 793, ss "/claim/cut.py" 794, .int 423 0, .int 4 0, .int 0 0, .int 0 0, .int 3 0, .ref 438, .bool true, .int 181 0, .ref 439, .none, .ref 440, .ref 441, .ref 442, .int 802 0, .int 423 0, ss "/claim/cut.py" 803]) ::
  (nat_lit 444, fnO 79 "limit_near" "cas.limits" 755 443) ::
  (nat_lit 445, tupO []) ::
  (nat_lit 448, cdO #[ss "mirrored" 805, ss "mirrored" 806, ss "/claim/cut.py" 807, .int 429 0, .int 2 0, .int 0 0, .int 0 0, .int 3 0, .ref 445, .bool true, .int 181 0, .ref 446, .none, .none, .none, .ref 447, .int 808 0, .int 429 0, ss "/claim/cut.py" 809]) ::
  (nat_lit 449, fnO 80 "mirrored" "cas.limits" 755 448) ::
  (nat_lit 450, tupO []) ::
  (nat_lit 452, tupO [ss "t" 814, ss "name" 815, ss "is_above" 816, ss "e" 817, ss "first" 818]) ::
  (nat_lit 453, tupO []) ::
  (nat_lit 455, cdO #[ss "limit_far" 811, ss "limit_far" 812, ss "/claim/cut.py" 813, .int 439 0, .int 3 0, .int 0 0, .int 0 0, .int 3 0, .ref 450, .bool true, .int 181 0, .ref 451, .none, .ref 452, .ref 453, .ref 454, .int 819 0, .int 439 0, ss "/claim/cut.py" 820]) ::
  (nat_lit 456, fnO 81 "limit_far" "cas.limits" 755 455) ::
  (nat_lit 457, tupO []) ::
  (nat_lit 459, tupO [ss "t" 825, ss "name" 826, ss "at" 827, ss "side" 828]) ::
  (nat_lit 460, tupO []) ::
  (nat_lit 462, cdO #[ss "limit" 822, ss "limit" 823, ss "/claim/cut.py" 824, .int 447 0, .int 4 0, .int 0 0, .int 0 0, .int 3 0, .ref 457, .bool true, .int 181 0, .ref 458, .none, .ref 459, .ref 460, .ref 461, .int 829 0, .int 447 0, ss "/claim/cut.py" 830]) ::
  (nat_lit 463, fnO 82 "limit" "cas.limits" 755 462) ::
  (nat_lit 464, tupO []) ::
  (nat_lit 466, tupO []) ::
  (nat_lit 467, tupO []) ::
  (nat_lit 469, cdO #[ss "_law_numbers" 834, ss "_law_numbers" 835, ss "/claim/cut.py" 836, .int 452 0, .int 0 0, .int 0 0, .int 0 0, .int 3 0, .ref 464, .bool true, .int 181 0, .ref 465, .none, .ref 466, .ref 467, .ref 468, .int 837 0, .int 452 0, ss "/claim/cut.py" 838]) ::
  (nat_lit 470, fnO 84 "_law_numbers" "law_rh0037_03" 832 469) ::
  (nat_lit 471, tupO []) ::
  (nat_lit 473, tupO [ss "box" 843, ss "many" 844]) ::
  (nat_lit 474, tupO []) ::
  (nat_lit 476, cdO #[ss "_law_take" 840, ss "_law_take" 841, ss "/claim/cut.py" 842, .int 454 0, .int 2 0, .int 0 0, .int 0 0, .int 3 0, .ref 471, .bool true, .int 181 0, .ref 472, .none, .ref 473, .ref 474, .ref 475, .int 845 0, .int 454 0, ss "/claim/cut.py" 846]) ::
  (nat_lit 477, fnO 85 "_law_take" "law_rh0037_03" 832 476) ::
  (nat_lit 478, tupO []) ::
  (nat_lit 481, cdO #[ss "_law_lowest" 848, ss "_law_lowest" 849, ss "/claim/cut.py" 850, .int 459 0, .int 2 0, .int 0 0, .int 0 0, .int 3 0, .ref 478, .bool true, .int 181 0, .ref 479, .none, .none, .none, .ref 480, .int 851 0, .int 459 0, ss "/claim/cut.py" 852]) ::
  (nat_lit 482, fnO 86 "_law_lowest" "law_rh0037_03" 832 481) ::
  (nat_lit 483, tupO []) ::
  (nat_lit 485, tupO [ss "inner" 857, ss "power" 858, ss "ratio" 859, ss "poly" 860]) ::
  (nat_lit 486, tupO []) ::
  (nat_lit 488, cdO #[ss "_law_kind" 854, ss "_law_kind" 855, ss "/claim/cut.py" 856, .int 462 0, .int 3 0, .int 0 0, .int 0 0, .int 3 0, .ref 483, .bool true, .int 181 0, .ref 484, .none, .ref 485, .ref 486, .ref 487, .int 861 0, .int 462 0, ss "/claim/cut.py" 862]) ::
  (nat_lit 489, fnO 87 "_law_kind" "law_rh0037_03" 832 488) ::
  (nat_lit 490, tupO []) ::
  (nat_lit 492, tupO [ss "deed" 867, ss "wrong" 868]) ::
  (nat_lit 493, tupO []) ::
  (nat_lit 495, cdO #[ss "_law_refused" 864, ss "_law_refused" 865, ss "/claim/cut.py" 866, .int 465 0, .int 1 0, .int 0 0, .int 0 0, .int 3 0, .ref 490, .bool true, .int 181 0, .ref 491, .none, .ref 492, .ref 493, .ref 494, .int 869 0, .int 465 0, ss "/claim/cut.py" 870]) ::
  (nat_lit 496, fnO 88 "_law_refused" "law_rh0037_03" 832 495) ::
  (nat_lit 497, tupO []) ::
  (nat_lit 499, tupO [ss "script" 875, ss "box" 876, ss "x" 877, ss "at" 878, ss "which" 879, ss "one" 880, ss "other" 881, ss "inner" 882, ss "power" 883, ss "less" 884, ss "below" 885, ss "number" 886, ss "top" 887, ss "bottom" 888, ss "lower" 889, ss "quotient" 890, ss "roots" 891, ss "far" 892, ss "due" 893]) ::
  (nat_lit 500, tupO [ss "ratio" 894, ss "root" 895, ss "told" 896]) ::
  (nat_lit 502, cdO #[ss "law" 872, ss "law" 873, ss "/claim/cut.py" 874, .int 471 0, .int 1 0, .int 0 0, .int 0 0, .int 3 0, .ref 497, .bool true, .int 181 0, .ref 498, .none, .ref 499, .ref 500, .ref 501, .int 897 0, .int 471 0, ss "/claim/cut.py" 898]) ::
  (nat_lit 503, fnO 89 "law" "law_rh0037_03" 832 502) ::
  []
/-- the text without the rows that set __name__ -/
noncomputable def qv : Program := view PySem.Challenge.pw_rh0037_03 [1, 3, 4, 5, 7, 8, 9, 10, 11, 12, 13, 14, 15, 16, 17, 18, 19, 21, 22, 23, 24, 25, 26, 27, 28, 29, 30, 31, 32, 33, 34, 35, 36, 37, 39, 40, 41, 42, 43, 44, 45, 46, 47, 48, 49, 50, 51, 52, 53, 54, 55, 56, 58, 59, 60, 61, 62, 63, 64, 66, 67, 68, 69, 70, 71, 72, 74, 75, 76, 77, 78, 79, 80, 81, 82, 84, 85, 86, 87, 88, 89]
noncomputable abbrev lv9 : List (Str × WData) := [(Str.ofString "STILL", .tuple [.tuple [], .tuple [.int 0, .int 1], .int 0])]
noncomputable abbrev as9 : List Addr := [nat_lit 2, nat_lit 3, nat_lit 15, nat_lit 22, nat_lit 24, nat_lit 25, nat_lit 27, nat_lit 28, nat_lit 29, nat_lit 30, nat_lit 31, nat_lit 32, nat_lit 35, nat_lit 37, nat_lit 38, nat_lit 40, nat_lit 41, nat_lit 42, nat_lit 44, nat_lit 45, nat_lit 47, nat_lit 48, nat_lit 49, nat_lit 51, nat_lit 52, nat_lit 54, nat_lit 55, nat_lit 56, nat_lit 57, nat_lit 58, nat_lit 60, nat_lit 61, nat_lit 63, nat_lit 64, nat_lit 65, nat_lit 67, nat_lit 68, nat_lit 70, nat_lit 71, nat_lit 72, nat_lit 74, nat_lit 75, nat_lit 77, nat_lit 78, nat_lit 79, nat_lit 81, nat_lit 82, nat_lit 84, nat_lit 85, nat_lit 86, nat_lit 88, nat_lit 89, nat_lit 91, nat_lit 92, nat_lit 93, nat_lit 95, nat_lit 96, nat_lit 98, nat_lit 99, nat_lit 100, nat_lit 102, nat_lit 103, nat_lit 105, nat_lit 106, nat_lit 107, nat_lit 109, nat_lit 110, nat_lit 112, nat_lit 113, nat_lit 114, nat_lit 116, nat_lit 117, nat_lit 119, nat_lit 120, nat_lit 121, nat_lit 123, nat_lit 124, nat_lit 126, nat_lit 127, nat_lit 128, nat_lit 129, nat_lit 130, nat_lit 132, nat_lit 133, nat_lit 135, nat_lit 136, nat_lit 137, nat_lit 139, nat_lit 140, nat_lit 142, nat_lit 143, nat_lit 144, nat_lit 147, nat_lit 148, nat_lit 149, nat_lit 151, nat_lit 152, nat_lit 154, nat_lit 155, nat_lit 156, nat_lit 158, nat_lit 159, nat_lit 161, nat_lit 162, nat_lit 163, nat_lit 166, nat_lit 167, nat_lit 168, nat_lit 170, nat_lit 171, nat_lit 173, nat_lit 174, nat_lit 175, nat_lit 177, nat_lit 178, nat_lit 180, nat_lit 181, nat_lit 182, nat_lit 185, nat_lit 186, nat_lit 187, nat_lit 189, nat_lit 190, nat_lit 192, nat_lit 193, nat_lit 194, nat_lit 197, nat_lit 198, nat_lit 199, nat_lit 201, nat_lit 202, nat_lit 204, nat_lit 205, nat_lit 206, nat_lit 208, nat_lit 209, nat_lit 211, nat_lit 212, nat_lit 213, nat_lit 215, nat_lit 216, nat_lit 218, nat_lit 219, nat_lit 220, nat_lit 222, nat_lit 223, nat_lit 225, nat_lit 226, nat_lit 227, nat_lit 229, nat_lit 230, nat_lit 232, nat_lit 233, nat_lit 234, nat_lit 237, nat_lit 238, nat_lit 239, nat_lit 242, nat_lit 243, nat_lit 244, nat_lit 246, nat_lit 247, nat_lit 249, nat_lit 250, nat_lit 251, nat_lit 254, nat_lit 255, nat_lit 256, nat_lit 258, nat_lit 259, nat_lit 261, nat_lit 262, nat_lit 263, nat_lit 266, nat_lit 267, nat_lit 268, nat_lit 271, nat_lit 272, nat_lit 273, nat_lit 275, nat_lit 276, nat_lit 278, nat_lit 279, nat_lit 280, nat_lit 282, nat_lit 283, nat_lit 285, nat_lit 286, nat_lit 287, nat_lit 289, nat_lit 290, nat_lit 292, nat_lit 293, nat_lit 294, nat_lit 296, nat_lit 297, nat_lit 299, nat_lit 300, nat_lit 301, nat_lit 303, nat_lit 304, nat_lit 306, nat_lit 307, nat_lit 308, nat_lit 310, nat_lit 311, nat_lit 313, nat_lit 314, nat_lit 315, nat_lit 317, nat_lit 318, nat_lit 320, nat_lit 321, nat_lit 322, nat_lit 324, nat_lit 325, nat_lit 327, nat_lit 328, nat_lit 329, nat_lit 331, nat_lit 332, nat_lit 334, nat_lit 335, nat_lit 336, nat_lit 338, nat_lit 339, nat_lit 341, nat_lit 342, nat_lit 343, nat_lit 346, nat_lit 347, nat_lit 348, nat_lit 350, nat_lit 351, nat_lit 353, nat_lit 354, nat_lit 355, nat_lit 357, nat_lit 358, nat_lit 360, nat_lit 361, nat_lit 362, nat_lit 364, nat_lit 365, nat_lit 367, nat_lit 368, nat_lit 369, nat_lit 371, nat_lit 372, nat_lit 374, nat_lit 375, nat_lit 376, nat_lit 378, nat_lit 379, nat_lit 381, nat_lit 382, nat_lit 383, nat_lit 385, nat_lit 386, nat_lit 388, nat_lit 389, nat_lit 390, nat_lit 392, nat_lit 393, nat_lit 395, nat_lit 396, nat_lit 397, nat_lit 399, nat_lit 400, nat_lit 402, nat_lit 403, nat_lit 404, nat_lit 406, nat_lit 407, nat_lit 409, nat_lit 410, nat_lit 411, nat_lit 413, nat_lit 414, nat_lit 416, nat_lit 417, nat_lit 418, nat_lit 421, nat_lit 422, nat_lit 423, nat_lit 424, nat_lit 426, nat_lit 427, nat_lit 429, nat_lit 430, nat_lit 431, nat_lit 433, nat_lit 434, nat_lit 436, nat_lit 437, nat_lit 438, nat_lit 440, nat_lit 441, nat_lit 443, nat_lit 444, nat_lit 445, nat_lit 448, nat_lit 449, nat_lit 450, nat_lit 452, nat_lit 453, nat_lit 455, nat_lit 456, nat_lit 457, nat_lit 459, nat_lit 460, nat_lit 462, nat_lit 463, nat_lit 464, nat_lit 466, nat_lit 467, nat_lit 469, nat_lit 470, nat_lit 471, nat_lit 473, nat_lit 474, nat_lit 476, nat_lit 477, nat_lit 478, nat_lit 481, nat_lit 482, nat_lit 483, nat_lit 485, nat_lit 486, nat_lit 488, nat_lit 489, nat_lit 490, nat_lit 492, nat_lit 493, nat_lit 495, nat_lit 496, nat_lit 497, nat_lit 499, nat_lit 500, nat_lit 502, nat_lit 503]
theorem as9_is : ∀ P, as9 = (KQ P).map (·.1) := fun _ => by kernel_rfl
noncomputable abbrev hook9 : Hook := kmHook KQ as9 as9_is [498]
/-- the rest of the top's heap -/
noncomputable def fcO (ql : Str) : Stmt → Obj
  | .FunctionDef name args body _ _ _ scope _ _ _ => { cls := .none, data := .func { name := name, qualname := ql, params := args, body := .stmts body, scope := scope, globals := 0, closure := [], defaults := .none, kwdefaults := .none } }
  | _ => default
noncomputable def mtAt (i j : Nat) : Stmt := match pwAt i with | .ClassDef _ _ _ body _ _ _ _ _ _ _ => (body[j]?).getD default | _ => default
noncomputable def fdO (l : List Value) : Obj := { cls := .none, data := .fields l.toArray }
noncomputable def t12 : List (Nat × Nat) := [(2, 20), (9, 40), (14, 47), (21, 54), (38, 63), (43, 70), (45, 77), (47, 84), (49, 91), (51, 98), (53, 105), (55, 112), (62, 119), (65, 126), (72, 135), (78, 142), (83, 147), (88, 154), (90, 161), (98, 166), (104, 173), (110, 180), (117, 185), (135, 192), (140, 197), (151, 204), (169, 211), (184, 218), (198, 225), (200, 232), (204, 237), (206, 242), (208, 249), (214, 254), (216, 261), (226, 266), (228, 271), (230, 278), (233, 285), (242, 292), (247, 299), (259, 306), (261, 313), (263, 320), (270, 327), (280, 334), (291, 341), (293, 346), (298, 353), (300, 360), (305, 367), (310, 374), (321, 381), (324, 388), (331, 395), (349, 402), (362, 409), (371, 416), (376, 421), (402, 429), (413, 436), (423, 443), (429, 448), (439, 455), (447, 462), (452, 469), (454, 476), (459, 481), (462, 488), (465, 495), (471, 502)]
noncomputable def v12 : List (Nat × Nat) → List Value
  | [] => []
  | (a, b) :: r => .int a 0 :: .int 0 0 :: .ref b :: v12 r
noncomputable def o12 (k : Nat) : Obj := fdO (v12 (t12.take k))
noncomputable def OT : Params → Frag := fun P =>
  (nat_lit 0, boot_o_0 P) ::
  (nat_lit 1, boot_o_1 P) ::
  (nat_lit 4, boot_o_4 P) ::
  (nat_lit 5, boot_o_5 P) ::
  (nat_lit 6, boot_o_6 P) ::
  (nat_lit 7, boot_o_7 P) ::
  (nat_lit 8, boot_o_8 P) ::
  (nat_lit 9, boot_o_9 P) ::
  (nat_lit 10, boot_o_10 P) ::
  (nat_lit 11, tupO []) ::
  (nat_lit 12, o12 71) ::
  (nat_lit 13, cdO #[ss "<module>" 182, ss "<module>" 183, ss "/claim/cut.py" 184, .int 1 0, .int 0 0, .int 0 0, .int 0 0, .int 0 0, .ref 11, .bool false, .int 181 0, .ref 12, .none, .none, .none, .none, .int 185 0, .int 1 0, ss "/claim/cut.py" 186]) ::
  (nat_lit 14, { cls := .type "frame", slots := #[some (.ref 13), some (.ref 3), some (.ref 3), none, some (ss "__main__" 164), none, some (.ref 0)] }) ::
  (nat_lit 16, { cls := .type "builtin_function_or_method", data := .fields #[.builtin "type.__prepare__", .type "type"] }) ::
  (nat_lit 17, { cls := .type "dict", data := .dict #[en P "__module__" 196 (ss "cas.errors" 187), en P "__qualname__" 198 (ss "CasFail" 197), en P "__firstlineno__" 200 (.int 2 199), en P "__init__" 209 (.ref 28), en P "__static_attributes__" 212 (.ref 29)] 5 }) ::
  (nat_lit 18, tupO []) ::
  (nat_lit 19, fdO [.int 4 0, .int 4 0, .ref 27]) ::
  (nat_lit 20, cdO #[ss "CasFail" 191, ss "CasFail" 192, ss "/claim/cut.py" 193, .int 2 0, .int 0 0, .int 0 0, .int 0 0, .int 0 0, .ref 18, .bool false, .int 181 0, .ref 19, .none, .none, .none, .none, .int 194 0, .int 2 0, ss "/claim/cut.py" 195]) ::
  (nat_lit 21, { cls := .type "frame", slots := #[some (.ref 20), some (.ref 3), some (.ref 17), none, some (ss "cas.errors" 187), none, some (.ref 0)] }) ::
  (nat_lit 23, fdO []) ::
  (nat_lit 26, fcO (Str.ofString "CasFail.__init__") (mtAt 1 0)) ::
  (nat_lit 33, { cls := .type "super", data := .fields #[.ref 31, .ref 31, .ref 31] }) ::
  (nat_lit 34, { cls := .type "builtin_function_or_method", data := .fields #[.builtin "object.__init_subclass__", .ref 31] }) ::
  (nat_lit 36, fdO []) ::
  (nat_lit 39, fcO (Str.ofString "gcd") (pwAt 3)) ::
  (nat_lit 43, fdO []) ::
  (nat_lit 46, fcO (Str.ofString "bits_of") (pwAt 4)) ::
  (nat_lit 50, fdO []) ::
  (nat_lit 53, fcO (Str.ofString "root_of") (pwAt 5)) ::
  (nat_lit 59, fdO []) ::
  (nat_lit 62, fcO (Str.ofString "rat") (pwAt 10)) ::
  (nat_lit 66, fdO []) ::
  (nat_lit 69, fcO (Str.ofString "radd") (pwAt 11)) ::
  (nat_lit 73, fdO []) ::
  (nat_lit 76, fcO (Str.ofString "rsub") (pwAt 12)) ::
  (nat_lit 80, fdO []) ::
  (nat_lit 83, fcO (Str.ofString "rmul") (pwAt 13)) ::
  (nat_lit 87, fdO []) ::
  (nat_lit 90, fcO (Str.ofString "rdiv") (pwAt 14)) ::
  (nat_lit 94, fdO []) ::
  (nat_lit 97, fcO (Str.ofString "rneg") (pwAt 15)) ::
  (nat_lit 101, fdO []) ::
  (nat_lit 104, fcO (Str.ofString "rinv") (pwAt 16)) ::
  (nat_lit 108, fdO []) ::
  (nat_lit 111, fcO (Str.ofString "rpower") (pwAt 17)) ::
  (nat_lit 115, fdO []) ::
  (nat_lit 118, fcO (Str.ofString "is_vast") (pwAt 18)) ::
  (nat_lit 122, fdO []) ::
  (nat_lit 125, fcO (Str.ofString "rcompare") (pwAt 19)) ::
  (nat_lit 131, fdO []) ::
  (nat_lit 134, fcO (Str.ofString "ginsert") (pwAt 24)) ::
  (nat_lit 138, fdO []) ::
  (nat_lit 141, fcO (Str.ofString "gadd") (pwAt 25)) ::
  (nat_lit 145, fdO []) ::
  (nat_lit 146, fcO (Str.ofString "poly_sum") (pwAt 26)) ::
  (nat_lit 150, fdO []) ::
  (nat_lit 153, fcO (Str.ofString "kind_product") (pwAt 27)) ::
  (nat_lit 157, fdO []) ::
  (nat_lit 160, fcO (Str.ofString "gmul") (pwAt 28)) ::
  (nat_lit 164, fdO []) ::
  (nat_lit 165, fcO (Str.ofString "kind_compare") (pwAt 29)) ::
  (nat_lit 169, fdO []) ::
  (nat_lit 172, fcO (Str.ofString "fastest") (pwAt 30)) ::
  (nat_lit 176, fdO []) ::
  (nat_lit 179, fcO (Str.ofString "exponent_of") (pwAt 31)) ::
  (nat_lit 183, fdO []) ::
  (nat_lit 184, fcO (Str.ofString "gpower") (pwAt 32)) ::
  (nat_lit 188, fdO []) ::
  (nat_lit 191, fcO (Str.ofString "gratio_power") (pwAt 33)) ::
  (nat_lit 195, fdO []) ::
  (nat_lit 196, fcO (Str.ofString "groot") (pwAt 34)) ::
  (nat_lit 200, fdO []) ::
  (nat_lit 203, fcO (Str.ofString "growth_of") (pwAt 35)) ::
  (nat_lit 207, fdO []) ::
  (nat_lit 210, fcO (Str.ofString "growth_of_other") (pwAt 36)) ::
  (nat_lit 214, fdO []) ::
  (nat_lit 217, fcO (Str.ofString "far_limit") (pwAt 37)) ::
  (nat_lit 221, fdO []) ::
  (nat_lit 224, fcO (Str.ofString "cut") (pwAt 39)) ::
  (nat_lit 228, fdO []) ::
  (nat_lit 231, fcO (Str.ofString "let") (pwAt 40)) ::
  (nat_lit 235, fdO []) ::
  (nat_lit 236, fcO (Str.ofString "sadd") (pwAt 41)) ::
  (nat_lit 240, fdO []) ::
  (nat_lit 241, fcO (Str.ofString "sscale") (pwAt 42)) ::
  (nat_lit 245, fdO []) ::
  (nat_lit 248, fcO (Str.ofString "mixed") (pwAt 43)) ::
  (nat_lit 252, fdO []) ::
  (nat_lit 253, fcO (Str.ofString "smul") (pwAt 44)) ::
  (nat_lit 257, fdO []) ::
  (nat_lit 260, fcO (Str.ofString "sinverse") (pwAt 45)) ::
  (nat_lit 264, fdO []) ::
  (nat_lit 265, fcO (Str.ofString "sderive") (pwAt 46)) ::
  (nat_lit 269, fdO []) ::
  (nat_lit 270, fcO (Str.ofString "sintegrate") (pwAt 47)) ::
  (nat_lit 274, fdO []) ::
  (nat_lit 277, fcO (Str.ofString "need_begin") (pwAt 48)) ::
  (nat_lit 281, fdO []) ::
  (nat_lit 284, fcO (Str.ofString "sexp") (pwAt 49)) ::
  (nat_lit 288, fdO []) ::
  (nat_lit 291, fcO (Str.ofString "slog") (pwAt 50)) ::
  (nat_lit 295, fdO []) ::
  (nat_lit 298, fcO (Str.ofString "ssin_cos") (pwAt 51)) ::
  (nat_lit 302, fdO []) ::
  (nat_lit 305, fcO (Str.ofString "ssin") (pwAt 52)) ::
  (nat_lit 309, fdO []) ::
  (nat_lit 312, fcO (Str.ofString "scos") (pwAt 53)) ::
  (nat_lit 316, fdO []) ::
  (nat_lit 319, fcO (Str.ofString "satan") (pwAt 54)) ::
  (nat_lit 323, fdO []) ::
  (nat_lit 326, fcO (Str.ofString "spower") (pwAt 55)) ::
  (nat_lit 330, fdO []) ::
  (nat_lit 333, fcO (Str.ofString "swhole_power") (pwAt 56)) ::
  (nat_lit 337, fdO []) ::
  (nat_lit 340, fcO (Str.ofString "lplain") (pwAt 59)) ::
  (nat_lit 344, fdO []) ::
  (nat_lit 345, fcO (Str.ofString "ladd") (pwAt 60)) ::
  (nat_lit 349, fdO []) ::
  (nat_lit 352, fcO (Str.ofString "lmul") (pwAt 61)) ::
  (nat_lit 356, fdO []) ::
  (nat_lit 359, fcO (Str.ofString "ltrim") (pwAt 62)) ::
  (nat_lit 363, fdO []) ::
  (nat_lit 366, fcO (Str.ofString "linverse") (pwAt 63)) ::
  (nat_lit 370, fdO []) ::
  (nat_lit 373, fcO (Str.ofString "lpower") (pwAt 64)) ::
  (nat_lit 377, fdO []) ::
  (nat_lit 380, fcO (Str.ofString "exact_root") (pwAt 66)) ::
  (nat_lit 384, fdO []) ::
  (nat_lit 387, fcO (Str.ofString "from_zero") (pwAt 67)) ::
  (nat_lit 391, fdO []) ::
  (nat_lit 394, fcO (Str.ofString "of_call") (pwAt 68)) ::
  (nat_lit 398, fdO []) ::
  (nat_lit 401, fcO (Str.ofString "of_root") (pwAt 69)) ::
  (nat_lit 405, fdO []) ::
  (nat_lit 408, fcO (Str.ofString "of_power") (pwAt 70)) ::
  (nat_lit 412, fdO []) ::
  (nat_lit 415, fcO (Str.ofString "of_sum") (pwAt 71)) ::
  (nat_lit 419, fdO []) ::
  (nat_lit 420, fcO (Str.ofString "of_term") (pwAt 72)) ::
  (nat_lit 425, fdO []) ::
  (nat_lit 428, fcO (Str.ofString "from_begin") (pwAt 77)) ::
  (nat_lit 432, fdO []) ::
  (nat_lit 435, fcO (Str.ofString "begun_series") (pwAt 78)) ::
  (nat_lit 439, fdO []) ::
  (nat_lit 442, fcO (Str.ofString "limit_near") (pwAt 79)) ::
  (nat_lit 446, fdO []) ::
  (nat_lit 447, fcO (Str.ofString "mirrored") (pwAt 80)) ::
  (nat_lit 451, fdO []) ::
  (nat_lit 454, fcO (Str.ofString "limit_far") (pwAt 81)) ::
  (nat_lit 458, fdO []) ::
  (nat_lit 461, fcO (Str.ofString "limit") (pwAt 82)) ::
  (nat_lit 465, fdO []) ::
  (nat_lit 468, fcO (Str.ofString "_law_numbers") (pwAt 84)) ::
  (nat_lit 472, fdO []) ::
  (nat_lit 475, fcO (Str.ofString "_law_take") (pwAt 85)) ::
  (nat_lit 479, fdO []) ::
  (nat_lit 480, fcO (Str.ofString "_law_lowest") (pwAt 86)) ::
  (nat_lit 484, fdO []) ::
  (nat_lit 487, fcO (Str.ofString "_law_kind") (pwAt 87)) ::
  (nat_lit 491, fdO []) ::
  (nat_lit 494, fcO (Str.ofString "_law_refused") (pwAt 88)) ::
  (nat_lit 498, fdO []) ::
  (nat_lit 501, fcO (Str.ofString "law") (pwAt 89)) ::
  []
noncomputable def mrg : Nat → Frag → Frag → List Obj
  | n + 1, (a, o) :: k, (b, u) :: r => match Nat.blt a b with
    | true => o :: mrg n k ((b, u) :: r)
    | false => u :: mrg n ((a, o) :: k) r
  | n + 1, [], (_, u) :: r => u :: mrg n [] r
  | n + 1, (_, o) :: k, [] => o :: mrg n k []
  | _, _, _ => []
noncomputable def HL (P : Params) : List Obj := mrg 600 (KQ P) (OT P)
noncomputable def H9 (P : Params) : Heap := { objs := ⟨HL P⟩ }
noncomputable def E3 (P : Params) : List DictEntry := match KQ P with | _ :: (_, o) :: _ => (match o.data with | .dict es _ => es.toList.tail | _ => []) | _ => []
noncomputable def d3 (P : Params) (nm : String) (tk m : Nat) : Obj := { cls := .type "dict", data := .dict ⟨en P "__name__" 165 (ss nm tk) :: (E3 P).take (m - 1)⟩ m }
noncomputable def halves : List Obj → List Obj × List Obj
  | [] => ([], [])
  | x :: r => (x :: (halves r).2, (halves r).1)
noncomputable def bt : Nat → List Obj → BT
  | n + 1, o :: r => .node o (bt n (halves r).1) (bt n (halves r).2)
  | _, _ => .nil
abbrev pw9 : Program := PySem.Challenge.rw_rh0037_03.row.toRowW.1
abbrev z9 : Pos := { line := 0, col := 0, endLine := 0, endCol := 0 }
abbrev env9 : Env := { scope := pw9.main.scope, locals := mainNs, globals := mainNs, cells := [], code := Value.ref 13, frame := some 14 }
abbrev cd9 : Code := .body (behindTheImports pw9) env9
noncomputable def S0 (w : World) (os : OsState) : Shared := { heap := { objs := ⟨((((HL w.params).take 15).set 2 (boot_o_2 w.params)).set 3 (boot_o_3 w.params)).set 12 (o12 0)⟩ }, toks := 187, os := os }
noncomputable def S1 (w : World) (os : OsState) : SharedT := ⟨bt 600 (((((HL w.params).take 15).set 2 (boot_o_2 w.params)).set 3 (boot_o_3 w.params)).set 12 (o12 0)), 15, {}, #[], {}, 187, os⟩
noncomputable def Sk (n k : Nat) (nm : String) (tk m toks : Nat) (w : World) (os : OsState) : SharedT := ⟨bt 600 ((((HL w.params).take n).set 3 (d3 w.params nm tk m)).set 12 (o12 k)), n, {}, #[], {}, toks, os⟩
theorem go9 : ∀ w : World, (fun os => topGo treeTable pw9 w 11 (some (.ref 6)) 12 { heap := boot_heap w.params, drawn := boot_drawn, toks := boot_toks, os := os } (topStub pw9)) =
    fun os => some (S0 w os, { cur := denote treeTable cd9, code := cd9, pos := z9, stack := [topFrame z9] }) := by
  intro w
  rw [PySem.W.Fast.te14364793385576792824]
  kernel_rfl
theorem block9 : ∀ w : World, (fun os => segRun treeTable pw9 w 11 (some (.ref 6)) 1 1 (S0 w os) (blockOf (behindTheImports pw9) env9 cd9 z9 [topFrame z9])) = fun os => some (.next, (S1 w os).abs, cd9, z9) := by
  intro w
  rw [PySem.W.Fast.te14364793385576792824]
  kernel_rfl
theorem run91 : ∀ w : World, (fun os => segRunT treeTable pw9 w 11 (some (.ref 6)) 1 386 (S1 w os) (piecesOf (((behindTheImports pw9).drop 0).take 10) env9 cd9 z9 [topFrame z9])) = fun os => some (.next, (Sk 58 4 "cas.rats" 251 16 261 w os), cd9, ⟨37, 0, 37, 9⟩) := by
  intro w
  rw [PySem.W.Fast.te14364793385576792824]
  kernel_rfl
theorem run92 : ∀ w : World, (fun os => segRunT treeTable pw9 w 11 (some (.ref 6)) 1 376 (Sk 58 4 "cas.rats" 251 16 261 w os) (piecesOf (((behindTheImports pw9).drop 10).take 15) env9 cd9 ⟨37, 0, 37, 9⟩ [topFrame z9])) = fun os => some (.next, (Sk 137 15 "cas.growth" 342 30 360 w os), cd9, ⟨72, 0, 77, 27⟩) := by
  intro w
  rw [PySem.W.Fast.te14364793385576792824]
  kernel_rfl
theorem run93 : ∀ w : World, (fun os => segRunT treeTable pw9 w 11 (some (.ref 6)) 1 400 (Sk 137 15 "cas.growth" 342 30 360 w os) (piecesOf (((behindTheImports pw9).drop 25).take 14) env9 cd9 ⟨72, 0, 77, 27⟩ [topFrame z9])) = fun os => some (.next, (Sk 220 28 "cas.series" 472 43 474 w os), cd9, ⟨197, 0, 197, 8⟩) := by
  intro w
  rw [PySem.W.Fast.te14364793385576792824]
  kernel_rfl
theorem run94 : ∀ w : World, (fun os => segRunT treeTable pw9 w 11 (some (.ref 6)) 1 384 (Sk 220 28 "cas.series" 472 43 474 w os) (piecesOf (((behindTheImports pw9).drop 39).take 13) env9 cd9 ⟨197, 0, 197, 8⟩ [topFrame z9])) = fun os => some (.next, (Sk 301 41 "cas.series" 472 56 581 w os), cd9, ⟨247, 0, 258, 26⟩) := by
  intro w
  rw [PySem.W.Fast.te14364793385576792824]
  kernel_rfl
theorem run95 : ∀ w : World, (fun os => segRunT treeTable pw9 w 11 (some (.ref 6)) 1 397 (Sk 301 41 "cas.series" 472 56 581 w os) (piecesOf (((behindTheImports pw9).drop 52).take 15) env9 cd9 ⟨247, 0, 258, 26⟩ [topFrame z9])) = fun os => some (.next, (Sk 383 53 "cas.series_of" 682 69 694 w os), cd9, ⟨321, 0, 323, 94⟩) := by
  intro w
  rw [PySem.W.Fast.te14364793385576792824]
  kernel_rfl
theorem run96 : ∀ w : World, (fun os => segRunT treeTable pw9 w 11 (some (.ref 6)) 1 397 (Sk 383 53 "cas.series_of" 682 69 694 w os) (piecesOf (((behindTheImports pw9).drop 67).take 15) env9 cd9 ⟨321, 0, 323, 94⟩ [topFrame z9])) = fun os => some (.next, (Sk 457 64 "cas.limits" 755 83 822 w os), cd9, ⟨439, 0, 446, 64⟩) := by
  intro w
  rw [PySem.W.Fast.te14364793385576792824]
  kernel_rfl
theorem run97 : ∀ w : World, (fun os => segRunT treeTable pw9 w 11 (some (.ref 6)) 1 238 (Sk 457 64 "cas.limits" 755 83 822 w os) (piecesOf (((behindTheImports pw9).drop 82).take 8) env9 cd9 ⟨439, 0, 446, 64⟩ [topFrame z9])) = fun os => some (.next, (Sk 504 71 "law_rh0037_03" 832 90 900 w os), cd9, ⟨471, 0, 499, 15⟩) := by
  intro w
  rw [PySem.W.Fast.te14364793385576792824]
  kernel_rfl
theorem fin9 : ∀ w : World, (fun os => topRun treeTable pw9 w 11 (some (.ref 6)) 2 (Sk 504 71 "law_rh0037_03" 832 90 900 w os).abs ⟨doneF .next, cd9, ⟨471, 0, 499, 15⟩, [topFrame z9]⟩) = fun os => some { heap := H9 w.params, toks := 900, os := os } := by
  intro w
  rw [PySem.W.Fast.te14364793385576792824]
  kernel_rfl
theorem piece_at {tb : String → Option Builtin} {p : Program} {w : World} {n₀ : Nat} {ann : Option Value} {env : Env} {q : Pos} {n N a l : Nat} {s s' : SharedT} {r : Shared} {b : List Stmt} {c : Code} {pos p' : Pos}
    (h : segRunT tb p w n₀ ann 1 n s (piecesOf ((b.drop a).take l) env c pos [topFrame q]) = some (.next, s', c, p'))
    (k : topRun tb p w n₀ ann N s'.abs (restOf (b.drop (a + l)) env c p' [topFrame q]) = some r) : topRun tb p w n₀ ann (n + N) s.abs (restOf (b.drop a) env c pos [topFrame q]) = some r := by
  have e : b.drop a = (b.drop a).take l ++ b.drop (a + l) := by rw [← List.drop_drop, List.take_append_drop]
  rw [e]
  exact piece_app (segRun_of h) k
theorem top9 (w : World) (os : OsState) : topRun treeTable pw9 w 11 (some (.ref 6)) (12 + (1 + (386 + (376 + (400 + (384 + (397 + (397 + (238 + 2))))))))) { heap := boot_heap w.params, drawn := boot_drawn, toks := boot_toks, os := os } (topStub pw9) = some { heap := H9 w.params, toks := 900, os := os } := by
  have e : (behindTheImports pw9).drop 90 = [] := by kernel_rfl
  have f := congrFun (fin9 w) os
  have g := piece_nil (env := env9) (q := z9) f
  rw [← e] at g
  exact go_top (congrFun (go9 w) os) (piece_block (congrFun (block9 w) os) (
piece_at (congrFun (run91 w) os) (piece_at (congrFun (run92 w) os) (piece_at (congrFun (run93 w) os) (piece_at (congrFun (run94 w) os) (piece_at (congrFun (run95 w) os) (piece_at (congrFun (run96 w) os) (piece_at (congrFun (run97 w) os) (g)))))))))
abbrev lo9 : List Str := [Str.ofString "STILL"]
noncomputable abbrev xt9 : Shared → Bool := fun s => xlAt qv lv9 s && recOk PySem.Challenge.rw_rh0037_03.row.toRowW.records s
noncomputable abbrev F9 (w : World) (os : OsState) : Shared := { heap := H9 w.params, toks := 900, os := os }
theorem look1 : ∀ w : World, (fun os => staticsOk (importedModules pw9.main.body) (boot_heap w.params) (H9 w.params) && namesBound pw9 (H9 w.params) && gensDone (F9 w os) && laidKept (boot_heap w.params) (H9 w.params)) = fun _ => true := by
  intro w
  rw [PySem.W.Fast.te5923862056798008813]
  kernel_rfl
theorem look20 : ∀ w : World, (fun os => (openSeen qv lo9 (importedModules pw9.main.body) xt9 true (F9 w os)).1) = fun _ => expectedOf qv := by
  intro w
  rw [PySem.W.Fast.te5923862056798008813, PySem.W.Fast.te4187177175401517315]
  kernel_rfl
theorem look21 : ∀ w : World, (fun os => (openSeen qv lo9 (importedModules pw9.main.body) xt9 true (F9 w os)).2.1) = fun _ => bltViewBooted := by
  intro w
  rw [PySem.W.Fast.te5923862056798008813, PySem.W.Fast.te4187177175401517315]
  kernel_rfl
theorem look22 : ∀ w : World, (fun os => (openSeen qv lo9 (importedModules pw9.main.body) xt9 true (F9 w os)).2.2.1) = fun _ => true := by
  intro w
  rw [PySem.W.Fast.te5923862056798008813, PySem.W.Fast.te4187177175401517315]
  kernel_rfl
theorem look23 : ∀ w : World, (fun os => (openSeen qv lo9 (importedModules pw9.main.body) xt9 true (F9 w os)).2.2.2.1) = fun _ => true := by
  intro w
  rw [PySem.W.Fast.te5923862056798008813, PySem.W.Fast.te4187177175401517315]
  kernel_rfl
theorem look24 : ∀ w : World, (fun os => (openSeen qv lo9 (importedModules pw9.main.body) xt9 true (F9 w os)).2.2.2.2.1) = fun _ => pinGoodD (drecsOf qv) := by
  intro w
  rw [PySem.W.Fast.te5923862056798008813, PySem.W.Fast.te4187177175401517315]
  kernel_rfl
theorem look25 : ∀ w : World, (fun os => (openSeen qv lo9 (importedModules pw9.main.body) xt9 true (F9 w os)).2.2.2.2.2.1) = fun _ => plainGoodE qv (looseW qv lo9) := by
  intro w
  rw [PySem.W.Fast.te5923862056798008813, PySem.W.Fast.te4187177175401517315]
  kernel_rfl
theorem look26 : ∀ w : World, (fun os => (openSeen qv lo9 (importedModules pw9.main.body) xt9 true (F9 w os)).2.2.2.2.2.2.1) = fun _ => plainGoodD qv lo9 := by
  intro w
  rw [PySem.W.Fast.te5923862056798008813, PySem.W.Fast.te4187177175401517315]
  kernel_rfl
theorem look27 : ∀ w : World, (fun os => (openSeen qv lo9 (importedModules pw9.main.body) xt9 true (F9 w os)).2.2.2.2.2.2.2.1) = fun _ => wideGood qv := by
  intro w
  rw [PySem.W.Fast.te5923862056798008813, PySem.W.Fast.te4187177175401517315]
  kernel_rfl
theorem look28 : ∀ w : World, (fun os => (openSeen qv lo9 (importedModules pw9.main.body) xt9 true (F9 w os)).2.2.2.2.2.2.2.2) = fun _ => clsGoodW qv lo9 := by
  intro w
  rw [PySem.W.Fast.te5923862056798008813, PySem.W.Fast.te4187177175401517315]
  kernel_rfl
theorem look3 : ∀ w : World, (fun os => hook9.obs (F9 w os)) = fun _ => hook9.val w := by
  intro w
  kernel_rfl
theorem look2 (w : World) (os : OsState) : openSeen qv lo9 (importedModules pw9.main.body) xt9 true (F9 w os) = openGood qv lo9 := by
  unfold openGood
  exact Prod.ext (congrFun (look20 w) os) (Prod.ext (congrFun (look21 w) os) (Prod.ext (congrFun (look22 w) os) (Prod.ext (congrFun (look23 w) os) (Prod.ext (congrFun (look24 w) os) (Prod.ext (congrFun (look25 w) os) (Prod.ext (congrFun (look26 w) os) (Prod.ext (congrFun (look27 w) os) (congrFun (look28 w) os))))))))
theorem left9 : LeftO pw9 qv lo9 xt9 hook9.obs hook9.val 5300 :=
  LeftO.of_pieces (H₀ := boot_heap) (H₁ := H9) (gs₀ := Array.mk []) (gs₁ := Array.mk []) (d₀ := boot_drawn) (d₁ := {}) (k₀ := boot_toks) (k₁ := 900) (m₀ := 11) (ann := some (.ref 6)) (M := 12 + (1 + (386 + (376 + (400 + (384 + (397 + (397 + (238 + 2)))))))))
    (boot_open (by kernel_rfl) (by rfl) (fun s => by kernel_rfl)) (fun w => by kernel_rfl) (fun w os => top9 w os) (by rfl)
    (fun w => funext fun os => Prod.ext (congrFun (look1 w) os) (Prod.ext (look2 w os) (congrFun (look3 w) os)))
theorem said9 : PySem.Challenge.rw_rh0037_03.wellSaid = true := by
  unfold OpenLaw.wellSaid OpenRow.wellSaid OpenRow.partSaid looksOpen
  repeat' (with_reducible refine look_both ?_ ?_)
  all_goals (decide +kernel)
theorem bare9 : PySem.Challenge.rw_rh0037_03.row.toRowW.prog.bare := ⟨rfl, rfl, rfl, rfl, rfl, by decide +kernel⟩
theorem ok9 : (chainsOk qv && opensWell PySem.Challenge.rw_rh0037_03.row.toRowW.prog && (frees PySem.Challenge.rw_rh0037_03.row.toRowW && PySem.Challenge.rw_rh0037_03.row.toRowW.within.isEmpty)) = true := by decide +kernel
abbrev Led := List (Addr × Obj)

/-- an object that stands in the base heap or on the ledger -/
def At (B : Heap) (led : Led) (a : Addr) (o : Obj) : Prop := B.get? a = some o ∨ (a, o) ∈ led
theorem At.mono {B : Heap} {led led' : Led} {a : Addr} {o : Obj} (h : At B led a o) (hs : ∀ p ∈ led, p ∈ led') : At B led' a o := h.imp id (hs _)
theorem At.get {B h : Heap} {led : Led} {a : Addr} {o : Obj} (x : At B led a o) (hB : B.StaysIn h) (hl : ∀ p ∈ led, h.get? p.1 = some p.2) : h.get? a = some o := x.elim (hB a o) (hl _)

mutual
inductive Wn (P : Params) (B : Heap) (led : Led) : Value → PyData → Prop
  | none : Wn P B led .none .none
  | bool (b : Bool) : Wn P B led (.bool b) (.bool b)
  | int (i : Int) (t : Tok) : Wn P B led (.int i t) (.int i)
  | str (x : Str) (t : Tok) : Wn P B led (.str x t) (.str x)
  | tuple {a : Addr} {vs : List Value} {ds : List PyData} : At B led a (tupO vs) → WnAll P B led vs ds → Wn P B led (.ref a) (.tuple ds)
  | dict {a : Addr} {es : List DictEntry} {n : Nat} {kvs : List (PyData × PyData)} : At B led a (dictOf es n) → (a == sysModules) = false → WnKv P B led es kvs → Wn P B led (.ref a) (.dict kvs)
inductive WnAll (P : Params) (B : Heap) (led : Led) : List Value → List PyData → Prop
  | nil : WnAll P B led [] []
  | cons {v : Value} {vs : List Value} {d : PyData} {ds : List PyData} : Wn P B led v d → WnAll P B led vs ds → WnAll P B led (v :: vs) (d :: ds)
inductive WnKv (P : Params) (B : Heap) (led : Led) : List DictEntry → List (PyData × PyData) → Prop
  | nil : WnKv P B led [] []
  | cons {k v : Value} {es : List DictEntry} {a b : PyData} {kvs : List (PyData × PyData)} : Wn P B led k a → Wn P B led v b → WnKv P B led es kvs → WnKv P B led (⟨hashW P (ofPy a), k, v⟩ :: es) ((a, b) :: kvs)
end
section
variable {P : Params} {B : Heap} {led led' : Led}
mutual
theorem Wn.mono (hs : ∀ p ∈ led, p ∈ led') : ∀ {v : Value} {d : PyData}, Wn P B led v d → Wn P B led' v d
  | _, _, .none => .none
  | _, _, .bool b => .bool b
  | _, _, .int i t => .int i t
  | _, _, .str x t => .str x t
  | _, _, .tuple h r => .tuple (h.mono hs) (WnAll.mono hs r)
  | _, _, .dict h lo r => .dict (h.mono hs) lo (WnKv.mono hs r)
theorem WnAll.mono (hs : ∀ p ∈ led, p ∈ led') : ∀ {vs : List Value} {ds : List PyData}, WnAll P B led vs ds → WnAll P B led' vs ds
  | _, _, .nil => .nil
  | _, _, .cons h r => .cons (Wn.mono hs h) (WnAll.mono hs r)
theorem WnKv.mono (hs : ∀ p ∈ led, p ∈ led') : ∀ {es : List DictEntry} {kvs : List (PyData × PyData)}, WnKv P B led es kvs → WnKv P B led' es kvs
  | _, _, .nil => .nil
  | _, _, .cons h k r => .cons (Wn.mono hs h) (Wn.mono hs k) (WnKv.mono hs r)
end
mutual
theorem Wn.reads {h : Heap} (hB : B.StaysIn h) (hl : ∀ p ∈ led, h.get? p.1 = some p.2) : ∀ {v : Value} {d : PyData}, Wn P B led v d → ∃ as, Reads h v d as
  | _, _, .none => ⟨_, .none⟩
  | _, _, .bool b => ⟨_, .bool b⟩
  | _, _, .int i t => ⟨_, .int i t⟩
  | _, _, .str x t => ⟨_, .str x t⟩
  | _, _, .tuple hm r => by
    obtain ⟨as, q⟩ := WnAll.reads hB hl r
    exact ⟨as, .tuple (hm.get hB hl) rfl rfl (by simpa using q)⟩
  | _, _, .dict hm _ r => by
    obtain ⟨as, bs, q1, q2⟩ := WnKv.reads hB hl r
    exact ⟨_, .dict (hm.get hB hl) rfl rfl (by simpa using q1) (by simpa using q2)⟩
theorem WnAll.reads {h : Heap} (hB : B.StaysIn h) (hl : ∀ p ∈ led, h.get? p.1 = some p.2) : ∀ {vs : List Value} {ds : List PyData}, WnAll P B led vs ds → ∃ as, ReadsAll h vs ds as
  | _, _, .nil => ⟨_, .nil⟩
  | _, _, .cons x r => by
    obtain ⟨as, q⟩ := Wn.reads hB hl x
    obtain ⟨bs, p⟩ := WnAll.reads hB hl r
    exact ⟨_, .cons q p⟩
theorem WnKv.reads {h : Heap} (hB : B.StaysIn h) (hl : ∀ p ∈ led, h.get? p.1 = some p.2) : ∀ {es : List DictEntry} {kvs : List (PyData × PyData)}, WnKv P B led es kvs → ∃ as bs, ReadsAll h (es.map (·.key)) (kvs.map (·.1)) as ∧ ReadsAll h (es.map (·.val)) (kvs.map (·.2)) bs
  | _, _, .nil => ⟨_, _, .nil, .nil⟩
  | _, _, .cons x y r => by
    obtain ⟨as, q⟩ := Wn.reads hB hl x
    obtain ⟨bs, p⟩ := Wn.reads hB hl y
    obtain ⟨cs, ds, q1, q2⟩ := WnKv.reads hB hl r
    exact ⟨_, _, .cons q q1, .cons p q2⟩
end
/-- the data that may be a key: tuples of ints, strs and such tuples -/
def keyD : PyData → Bool
  | .int _ | .str _ | .none => true
  | .tuple ds => keyDs ds
  | _ => false
where keyDs : List PyData → Bool
  | [] => true
  | d :: ds => keyD d && keyDs ds
mutual
theorem Wn.well {h : Heap} (hB : B.StaysIn h) (hl : ∀ p ∈ led, h.get? p.1 = some p.2) : ∀ {v : Value} {d : PyData}, Wn P B led v d → keyD d = true → Well P h v (ofPy d)
  | _, _, .none, _ => .none
  | _, _, .bool b, _ => .bool b
  | _, _, .int i t, _ => .int i t
  | _, _, .str x t, _ => .str x t
  | _, _, .tuple hm r, hk => .tuple (hm.get hB hl) (WnAll.well hB hl r hk)
  | _, _, .dict _ _ _, hk => by simp [keyD] at hk
theorem WnAll.well {h : Heap} (hB : B.StaysIn h) (hl : ∀ p ∈ led, h.get? p.1 = some p.2) : ∀ {vs : List Value} {ds : List PyData}, WnAll P B led vs ds → keyD.keyDs ds = true → WellAll P h vs (ofPys ds)
  | _, _, .nil, _ => .nil
  | _, _, .cons x r, hk => by
    simp only [keyD.keyDs, Bool.and_eq_true] at hk
    exact .cons (Wn.well hB hl x hk.1) (WnAll.well hB hl r hk.2)
end
mutual
theorem keyD_is : ∀ d : PyData, keyD d = true → (ofPy d).isDKey = true
  | .none, _ | .int _, _ | .str _, _ => rfl
  | .tuple ds, h => keyDs_is ds h
theorem keyDs_is : ∀ ds : List PyData, keyD.keyDs ds = true → WData.areDKeys (ofPys ds) = true
  | [], _ => rfl
  | d :: ds, h => by
    simp only [keyD.keyDs, Bool.and_eq_true] at h
    simp only [ofPys, WData.areDKeys, Bool.and_eq_true]
    exact ⟨keyD_is d h.1, keyDs_is ds h.2⟩
end
/-- what a ledger keeps when another object of it changes or leaves -/
def TupO (o : Obj) : Prop := ∃ vs, o = tupO vs
def TD (o : Obj) : Prop := TupO o ∨ ∃ es n, o = dictOf es n
def Keep (T : Obj → Prop) (led led' : Led) : Prop := ∀ p ∈ led, T p.2 → p ∈ led'
theorem Keep.refl {T : Obj → Prop} {a : Led} : Keep T a a := fun _ h _ => h
theorem Keep.of_sub {T : Obj → Prop} {a b : Led} (h : ∀ p ∈ a, p ∈ b) : Keep T a b := fun p hp _ => h p hp
theorem Keep.trans {T : Obj → Prop} {a b c : Led} (h : Keep T a b) (k : Keep T b c) : Keep T a c := fun p hp t => k p (h p hp t) t
theorem Keep.transW {a b c : Led} (h : Keep TupO a b) (k : Keep TD b c) : Keep TupO a c := fun p hp t => k p (h p hp t) (.inl t)
theorem Keep.transR {T : Obj → Prop} {a b c : Led} (k : Keep T b c) (h : Keep T a b) : Keep T a c := h.trans k
theorem Keep.transWR {a b c : Led} (k : Keep TD b c) (h : Keep TupO a b) : Keep TupO a c := h.transW k
theorem Keep.cons {T : Obj → Prop} {a b : Led} {p : Addr × Obj} (h : Keep T a b) : Keep T a (p :: b) := fun q hq t => .tail _ (h q hq t)
theorem Keep.app {T : Obj → Prop} {a b tl : Led} (h : Keep T a b) : Keep T a (tl ++ b) := fun q hq t => List.mem_append.mpr (.inr (h q hq t))
theorem At.keep {T : Obj → Prop} {B : Heap} {led led' : Led} {a : Addr} {o : Obj} (k : Keep T led led') (t : T o) (h : At B led a o) : At B led' a o := h.imp id fun q => k _ q t
theorem At.keepR {T : Obj → Prop} {B : Heap} {led led' : Led} {a : Addr} {o : Obj} (h : At B led a o) (t : T o) (k : Keep T led led') : At B led' a o := h.keep k t
theorem TupO.tup (vs : List Value) : TupO (tupO vs) := ⟨vs, rfl⟩
theorem TD.tup (vs : List Value) : TD (tupO vs) := .inl ⟨vs, rfl⟩
theorem TD.dict (es : List DictEntry) (n : Nat) : TD (dictOf es n) := .inr ⟨es, n, rfl⟩
theorem notTD {o : Obj} {x : String} (c : o.cls = .type x) (h1 : x ≠ "tuple") (h2 : x ≠ "dict") : ¬ TD o := by
  rintro (⟨vs, rfl⟩ | ⟨es, n, rfl⟩)
  · exact h1 (by injection c with c; exact c.symm)
  · exact h2 (by injection c with c; exact c.symm)
theorem notTup {o : Obj} {es : Array DictEntry} {ep : Nat} (c : o.data = .dict es ep) : ¬ TupO o := by
  rintro ⟨vs, rfl⟩
  cases c
mutual
theorem Wn.keep (k : Keep TD led led') : ∀ {v : Value} {d : PyData}, Wn P B led v d → Wn P B led' v d
  | _, _, .none => .none
  | _, _, .bool b => .bool b
  | _, _, .int i t => .int i t
  | _, _, .str x t => .str x t
  | _, _, .tuple h r => .tuple (h.keep k (.tup _)) (WnAll.keep k r)
  | _, _, .dict h lo r => .dict (h.keep k (.dict _ _)) lo (WnKv.keep k r)
theorem WnAll.keep (k : Keep TD led led') : ∀ {vs : List Value} {ds : List PyData}, WnAll P B led vs ds → WnAll P B led' vs ds
  | _, _, .nil => .nil
  | _, _, .cons h r => .cons (Wn.keep k h) (WnAll.keep k r)
theorem WnKv.keep (k : Keep TD led led') : ∀ {es : List DictEntry} {kvs : List (PyData × PyData)}, WnKv P B led es kvs → WnKv P B led' es kvs
  | _, _, .nil => .nil
  | _, _, .cons h x r => .cons (Wn.keep k h) (Wn.keep k x) (WnKv.keep k r)
end
mutual
theorem Wn.keepT (k : Keep TupO led led') : ∀ {v : Value} {d : PyData}, Wn P B led v d → keyD d = true → Wn P B led' v d
  | _, _, .none, _ => .none
  | _, _, .bool b, _ => .bool b
  | _, _, .int i t, _ => .int i t
  | _, _, .str x t, _ => .str x t
  | _, _, .tuple h r, q => .tuple (h.keep k (.tup _)) (WnAll.keepT k r q)
  | _, _, .dict _ _ _, q => by simp [keyD] at q
theorem WnAll.keepT (k : Keep TupO led led') : ∀ {vs : List Value} {ds : List PyData}, WnAll P B led vs ds → keyD.keyDs ds = true → WnAll P B led' vs ds
  | _, _, .nil, _ => .nil
  | _, _, .cons h r, q => by
    simp only [keyD.keyDs, Bool.and_eq_true] at q
    exact .cons (Wn.keepT k h q.1) (WnAll.keepT k r q.2)
end
theorem Wn.keepR {v : Value} {d : PyData} (h : Wn P B led v d) (k : Keep TD led led') : Wn P B led' v d := h.keep k
theorem Wn.keepTR {v : Value} {d : PyData} (h : Wn P B led v d) (q : keyD d = true) (k : Keep TupO led led') : Wn P B led' v d := h.keepT k q
-- what a value is, by what it is told to bear
theorem Wn.tuple_inv {v : Value} {ds : List PyData} (x : Wn P B led v (.tuple ds)) : ∃ a vs, v = .ref a ∧ At B led a (tupO vs) ∧ WnAll P B led vs ds := by cases x with | tuple h r => exact ⟨_, _, rfl, h, r⟩
theorem Wn.int_inv {v : Value} {i : Int} (x : Wn P B led v (.int i)) : ∃ t, v = .int i t := by cases x; exact ⟨_, rfl⟩
theorem Wn.of_int {i j : Int} {t : Tok} (e : i = j) : Wn P B led (.int i t) (.int j) := e ▸ Wn.int i t
theorem Wn.str_inv {v : Value} {i : Str} (x : Wn P B led v (.str i)) : ∃ t, v = .str i t := by cases x; exact ⟨_, rfl⟩
theorem Wn.none_inv {v : Value} (x : Wn P B led v .none) : v = .none := by cases x; rfl
theorem Wn.bool_inv {v : Value} {b : Bool} (x : Wn P B led v (.bool b)) : v = .bool b := by cases x; rfl
theorem Wn.dict_inv {v : Value} {kvs : List (PyData × PyData)} (x : Wn P B led v (.dict kvs)) : ∃ a es n, v = .ref a ∧ At B led a (dictOf es n) ∧ (a == sysModules) = false ∧ WnKv P B led es kvs := by cases x with | dict h lo r => exact ⟨_, _, _, rfl, h, lo, r⟩
theorem WnAll.nil_inv {vs : List Value} (x : WnAll P B led vs []) : vs = [] := by cases x; rfl
theorem WnAll.cons_inv {vs : List Value} {d : PyData} {ds : List PyData} (x : WnAll P B led vs (d :: ds)) : ∃ v vs', vs = v :: vs' ∧ Wn P B led v d ∧ WnAll P B led vs' ds := by cases x with | cons h r => exact ⟨_, _, rfl, h, r⟩
theorem WnKv.nil_inv {es : List DictEntry} (x : WnKv P B led es []) : es = [] := by cases x; rfl
theorem WnKv.cons_inv {es : List DictEntry} {d e : PyData} {ds : List (PyData × PyData)} (x : WnKv P B led es ((d, e) :: ds)) : ∃ k v es', es = ⟨hashW P (ofPy d), k, v⟩ :: es' ∧ Wn P B led k d ∧ Wn P B led v e ∧ WnKv P B led es' ds := by cases x with | cons h k r => exact ⟨_, _, _, rfl, h, k, r⟩
abbrev pr (x y : Int) : PyData := .tuple [.int x, .int y]
theorem Wn.pr_inv {v : Value} {x y : Int} (h : Wn P B led v (pr x y)) : ∃ a t t', v = .ref a ∧ At B led a (tupO [.int x t, .int y t']) := by
  obtain ⟨a, vs, rfl, hm, r⟩ := h.tuple_inv
  obtain ⟨v1, _, rfl, h1, r⟩ := r.cons_inv
  obtain ⟨v2, _, rfl, h2, r⟩ := r.cons_inv
  obtain rfl := r.nil_inv
  obtain ⟨t, rfl⟩ := h1.int_inv
  obtain ⟨t', rfl⟩ := h2.int_inv
  exact ⟨a, t, t', rfl, hm⟩
theorem Wn.of_pr {a : Addr} {x y : Int} {t t' : Tok} (h : At B led a (tupO [.int x t, .int y t'])) : Wn P B led (.ref a) (pr x y) := .tuple h (.cons (.int _ _) (.cons (.int _ _) .nil))
theorem Wn.tup3_inv {v : Value} {d e f : PyData} (h : Wn P B led v (.tuple [d, e, f])) : ∃ a v1 v2 v3, v = .ref a ∧ At B led a (tupO [v1, v2, v3]) ∧ Wn P B led v1 d ∧ Wn P B led v2 e ∧ Wn P B led v3 f := by
  obtain ⟨a, vs, rfl, hm, r⟩ := h.tuple_inv
  obtain ⟨v1, _, rfl, h1, r⟩ := r.cons_inv
  obtain ⟨v2, _, rfl, h2, r⟩ := r.cons_inv
  obtain ⟨v3, _, rfl, h3, r⟩ := r.cons_inv
  obtain rfl := r.nil_inv
  exact ⟨a, v1, v2, v3, rfl, hm, h1, h2, h3⟩
theorem Wn.tup2_inv {v : Value} {d e : PyData} (h : Wn P B led v (.tuple [d, e])) : ∃ a v1 v2, v = .ref a ∧ At B led a (tupO [v1, v2]) ∧ Wn P B led v1 d ∧ Wn P B led v2 e := by
  obtain ⟨a, vs, rfl, hm, r⟩ := h.tuple_inv
  obtain ⟨v1, _, rfl, h1, r⟩ := r.cons_inv
  obtain ⟨v2, _, rfl, h2, r⟩ := r.cons_inv
  obtain rfl := r.nil_inv
  exact ⟨a, v1, v2, rfl, hm, h1, h2⟩
theorem Wn.tup1_inv {v : Value} {d : PyData} (h : Wn P B led v (.tuple [d])) : ∃ a v1, v = .ref a ∧ At B led a (tupO [v1]) ∧ Wn P B led v1 d := by
  obtain ⟨a, vs, rfl, hm, r⟩ := h.tuple_inv
  obtain ⟨v1, _, rfl, h1, r⟩ := r.cons_inv
  obtain rfl := r.nil_inv
  exact ⟨a, v1, rfl, hm, h1⟩
theorem Wn.tup0_inv {v : Value} (h : Wn P B led v (.tuple [])) : ∃ a, v = .ref a ∧ At B led a (tupO []) := by
  obtain ⟨a, vs, rfl, hm, r⟩ := h.tuple_inv
  obtain rfl := r.nil_inv
  exact ⟨a, rfl, hm⟩
theorem Wn.dict1_inv {v : Value} {d e : PyData} (h : Wn P B led v (.dict [(d, e)])) : ∃ a k u n, v = .ref a ∧ At B led a (dictOf [⟨hashW P (ofPy d), k, u⟩] n) ∧ (a == sysModules) = false ∧ Wn P B led k d ∧ Wn P B led u e := by
  obtain ⟨a, es, n, rfl, hm, lo, r⟩ := h.dict_inv
  obtain ⟨k, u, _, rfl, h1, h2, r⟩ := r.cons_inv
  obtain rfl := r.nil_inv
  exact ⟨a, k, u, n, rfl, hm, lo, h1, h2⟩
theorem WnAll.one {vs : List Value} {d : PyData} (x : WnAll P B led vs [d]) : ∃ v, vs = [v] ∧ Wn P B led v d := by
  obtain ⟨v, _, rfl, h1, r⟩ := x.cons_inv
  obtain rfl := r.nil_inv
  exact ⟨v, rfl, h1⟩
theorem WnAll.two {vs : List Value} {d e : PyData} (x : WnAll P B led vs [d, e]) : ∃ v u, vs = [v, u] ∧ Wn P B led v d ∧ Wn P B led u e := by
  obtain ⟨v, _, rfl, h1, r⟩ := x.cons_inv
  obtain ⟨u, rfl, h2⟩ := r.one
  exact ⟨v, u, rfl, h1, h2⟩
theorem WnAll.three {vs : List Value} {d e f : PyData} (x : WnAll P B led vs [d, e, f]) : ∃ v u y, vs = [v, u, y] ∧ Wn P B led v d ∧ Wn P B led u e ∧ Wn P B led y f := by
  obtain ⟨v, _, rfl, h1, r⟩ := x.cons_inv
  obtain ⟨u, y, rfl, h2, h3⟩ := r.two
  exact ⟨v, u, y, rfl, h1, h2, h3⟩
end
/-- the kind x ** (p / q), and the growth of it alone -/
abbrev kD (poly : PyData) (p q : Int) : PyData := .tuple [poly, pr p q, .int 0]
abbrev gD (poly : PyData) (p q n d : Int) : PyData := .dict [(kD poly p q, pr n d)]
theorem Wn.kD_inv {P : Params} {B : Heap} {led : Led} {v : Value} {poly : PyData} {p q : Int} (h : Wn P B led v (kD poly p q)) : ∃ a b c t1 t2 t3, v = .ref a ∧ At B led a (tupO [b, .ref c, .int 0 t3]) ∧ Wn P B led b poly ∧ At B led c (tupO [.int p t1, .int q t2]) := by
  obtain ⟨a, b, v2, v3, rfl, hm, h1, h2, h3⟩ := h.tup3_inv
  obtain ⟨c, t1, t2, rfl, hc⟩ := h2.pr_inv
  obtain ⟨t3, rfl⟩ := h3.int_inv
  exact ⟨a, b, c, t1, t2, t3, rfl, hm, h1, hc⟩
theorem Wn.gD_inv {P : Params} {B : Heap} {led : Led} {v : Value} {poly : PyData} {p q n d : Int} (h : Wn P B led v (gD poly p q n d)) : ∃ a k u m t1 t2, v = .ref a ∧ At B led a (dictOf [⟨hashW P (ofPy (kD poly p q)), .ref k, .ref u⟩] m) ∧ (a == sysModules) = false ∧ Wn P B led (.ref k) (kD poly p q) ∧ At B led u (tupO [.int n t1, .int d t2]) := by
  obtain ⟨a, k, u, m, rfl, hm, lo, h1, h2⟩ := h.dict1_inv
  obtain ⟨ka, b, c, t1, t2, t3, rfl, _⟩ := h1.kD_inv
  obtain ⟨ua, t1, t2, rfl, hu⟩ := h2.pr_inv
  exact ⟨a, ka, ua, m, t1, t2, rfl, hm, lo, h1, hu⟩
theorem Wn.k0_inv {P : Params} {B : Heap} {led : Led} {v : Value} {p q : Int} (h : Wn P B led v (kD (.tuple []) p q)) : ∃ a b c t1 t2 t3, v = .ref a ∧ At B led a (tupO [.ref b, .ref c, .int 0 t3]) ∧ At B led b (tupO []) ∧ At B led c (tupO [.int p t1, .int q t2]) := by
  obtain ⟨a, b, c, t1, t2, t3, rfl, hm, h1, hc⟩ := h.kD_inv
  obtain ⟨b', rfl, hb⟩ := h1.tup0_inv
  exact ⟨a, b', c, t1, t2, t3, rfl, hm, hb, hc⟩
theorem Wn.g0_inv {P : Params} {B : Heap} {led : Led} {v : Value} {p q n d : Int} (h : Wn P B led v (gD (.tuple []) p q n d)) : ∃ a k u m t1 t2 b c t3 t4 t5, v = .ref a ∧ At B led a (dictOf [⟨hashW P (ofPy (kD (.tuple []) p q)), .ref k, .ref u⟩] m) ∧ (a == sysModules) = false ∧ Wn P B led (.ref k) (kD (.tuple []) p q) ∧ At B led u (tupO [.int n t1, .int d t2]) ∧
    At B led k (tupO [.ref b, .ref c, .int 0 t5]) ∧ At B led b (tupO []) ∧ At B led c (tupO [.int p t3, .int q t4]) := by
  obtain ⟨a, k, u, m, t1, t2, rfl, hm, lo, hk, hu⟩ := h.gD_inv
  obtain ⟨k', b, c, t3, t4, t5, e, h1, h2, h3⟩ := hk.k0_inv
  obtain rfl : k = k' := by injection e
  exact ⟨a, k, u, m, t1, t2, b, c, t3, t4, t5, rfl, hm, lo, hk, hu, h1, h2, h3⟩
/-- the terms, the growths -/
abbrev S (x : String) : PyData := .str (Str.ofString x)
abbrev tNum (n d : Int) : PyData := .tuple [S "num", .int n, .int d]
abbrev tX : PyData := .tuple [S "sym", S "x"]
abbrev tPow (b : PyData) (n d : Int) : PyData := .tuple [S "pow", b, tNum n d]
abbrev tProd (ts : List PyData) : PyData := .tuple [S "prod", .tuple ts]
abbrev tSqrt (b : PyData) : PyData := .tuple [S "call", S "sqrt", .tuple [b]]
abbrev gS : PyData := gD (.tuple []) 0 1 1 1
/-- objects at a written place of the text's own part -/
theorem At.ofK {K : Frag} {B : Heap} {led : Led} {a : Addr} {o : Obj} (X : K.In B) (e : K.lookup a = some o) : At B led a o := .inl (X _ _ e)

/-- the ledger has grown above: by an object, by what a call made -/
inductive Ext (news : Led) : Led → Prop
  | refl : Ext news news
  | cons {a : Addr} {o : Obj} {l : Led} : Ext news l → (∀ p ∈ news, p.1 < a) → Ext news ((a, o) :: l)
  | app {tl l : Led} : Ext news l → (∀ q ∈ news, ∀ p ∈ tl, q.1 < p.1) → Ext news (tl ++ l)
theorem Ext.out {news l : Led} (x : Ext news l) : ∃ tl, l = tl ++ news ∧ ∀ q ∈ news, ∀ p ∈ tl, q.1 < p.1 := by
  induction x with
  | refl => exact ⟨[], rfl, fun _ _ _ hp => nomatch hp⟩
  | @cons a o l _ h ih =>
    obtain ⟨tl, rfl, hl⟩ := ih
    refine ⟨(a, o) :: tl, rfl, fun q hq p hp => ?_⟩
    rcases List.mem_cons.mp hp with rfl | hp
    · exact h q hq
    · exact hl q hq p hp
  | @app t l _ h ih =>
    obtain ⟨tl, rfl, hl⟩ := ih
    refine ⟨t ++ tl, by rw [List.append_assoc], fun q hq p hp => ?_⟩
    rcases List.mem_append.mp hp with hp | hp
    · exact h q hq p hp
    · exact hl q hq p hp
theorem mem_app {p : Addr × Obj} {l r : List (Addr × Obj)} (h : List.Mem p r) : List.Mem p (l ++ r) := List.mem_append.mpr (.inr h)
theorem sub_cons {a b : Led} {q : Addr × Obj} (h : ∀ p ∈ a, p ∈ b) : ∀ p ∈ a, p ∈ q :: b := fun p hp => .tail _ (h p hp)
theorem sub_app {a b tl : Led} (h : ∀ p ∈ a, p ∈ b) : ∀ p ∈ a, p ∈ tl ++ b := fun p hp => List.mem_append.mpr (.inr (h p hp))
theorem sub_refl {a : Led} : ∀ p ∈ a, p ∈ a := fun _ h => h
theorem lt_sub {l news : Led} {a : Addr} (h : ∀ p ∈ l, p.1 < a) (hs : ∀ p ∈ news, p ∈ l) : ∀ p ∈ news, p.1 < a := fun p hp => h p (hs p hp)
theorem lt_succ1 {l : Led} {a : Addr} (h : ∀ p ∈ l, p.1 < a) : ∀ p ∈ l, p.1 < a + 1 := fun p hp => Nat.lt_succ_of_lt (h p hp)
theorem ord_sub {l news tl : Led} (h : ∀ q ∈ l, ∀ p ∈ tl, q.1 < p.1) (hs : ∀ p ∈ news, p ∈ l) : ∀ q ∈ news, ∀ p ∈ tl, q.1 < p.1 := fun q hq p hp => h q (hs q hq) p hp
theorem Upd.app {d : Addr} {o o' : Obj} {l l' tl : Led} (U : Upd d o o' l l') (h : ∀ p ∈ tl, p.1 ≠ d) : Upd d o o' (tl ++ l) (tl ++ l') := by
  induction tl with
  | nil => exact U
  | cons p r ih => exact .tail (h p (.head _)) (ih fun q hq => h q (.tail _ hq))
theorem Upd.appR {d : Addr} {o o' : Obj} {l l' tl : Led} (h : ∀ p ∈ tl, p.1 ≠ d) (U : Upd d o o' l l') : Upd d o o' (tl ++ l) (tl ++ l') := Upd.app U h

/-- a call of f upon the data ds comes back with the data rd; every object that stood before it stands as it was -/
def Calc (B : Heap) (w : World) (f : Addr) (dd uu : Nat) (ds : List PyData) (rd : PyData) : Prop :=
  ∀ (prog : Program) (p : Program) (loose : List Str) (mean : ExcName → Option Value) (mg mb : Str → Option Value) (dp un : Nat) (gd : Option (List Code)) (cn : Str) (cs : Scope) (a : Addr) (ccd : Value) (cl : List (Str × Addr)) (outer : List Env) (A₀ : Around) (base h₀ : Heap) (L : Addr) (m : Str → Option Value) (news : Led) (s : Shared) (vs : List Value) (Q E : Value → Shared → Prop),
    Below A₀ base outer h₀ → Fr h₀ L s.heap m → (KQ w.params).In h₀ → News h₀ L s.heap news → Top p loose mean mg mb h₀ → cs.kind = .function → B.StaysIn h₀ → (KQ w.params).In B → dp + dd < recursionLimit → un + uu < cLine → WnAll w.params B news vs ds →
    (∀ r tl h' tk', Fr h₀ L h' m → News h₀ L h' (tl ++ news) → (∀ q ∈ news, ∀ p ∈ tl, q.1 < p.1) → Wn w.params B (tl ++ news) r rd → Q r { s with heap := h', toks := tk' }) →
    wpAny (model prog w) (ktrTop dp un gd cn cs L a ccd cl outer) (call (.ref f) vs) Q E s

section
variable {prog : Program} {w : World} {A : Around} {E : Value → Shared → Prop} {s : Shared} {B h₀ : Heap} {L : Addr} {m : Str → Option Value} {news led : Led}
theorem at_tup {a : Addr} {vs : List Value} (S : B.StaysIn h₀) (F : Fr h₀ L s.heap m) (N : News h₀ L s.heap news) (x : At B led a (tupO vs)) (hs : ∀ p ∈ led, p ∈ news) : IsTup s.heap a vs.toArray :=
  ⟨_, x.get (fun b o e => F.keep b o (S b o e)) (fun p hp => (N p (hs p hp)).1), rfl, _, rfl⟩
theorem news_all (N : News h₀ L s.heap news) : ∀ p ∈ news, s.heap.get? p.1 = some p.2 := fun p hp => (N p hp).1
theorem my_item {value slice : PySem.Expr} {a : Addr} {vs : List Value} {k : Int} {u : Tok} {j : Nat} {x : Value} {Q : Value → Shared → Prop} (S : B.StaysIn h₀) (F : Fr h₀ L s.heap m) (N : News h₀ L s.heap news) (y : At B led a (tupO vs)) (hs : ∀ p ∈ led, p ∈ news)
    (hlo : -(2 ^ 63) ≤ k) (hhi : k < 2 ^ 63) (hj : seqIndex? k vs.length = some j) (hx : vs[j]? = some x) (h : Q x s)
    (hq : subscripted slice false (.ref a) (.int k u) = operate [.ref a, .int k u] (getItem (.ref a) (.int k u)) := by with_unfolding_all rfl) :
    wpAny (model prog w) A (subscriptTail value slice (.ref a) (.int k u)) Q E s := item_tupleT (at_tup S F N y hs) hlo hhi hj hx h hq
theorem news_tl {tl : Led} {h : Heap} (N : News h₀ L h (tl ++ news)) : News h₀ L h news := fun p hp => N p (List.mem_append.mpr (.inr hp))
theorem enter_stays {g h' : Heap} {L' : Addr} {m' : Str → Option Value} {h : Heap} (_F : Fr g L' h' m') (FG : Fr h₀ L g m) (S : B.StaysIn h₀) (_N : News h₀ L h news) : B.StaysIn g := fun b o e => FG.keep b o (S b o e)
theorem use {f : Addr} {dd uu : Nat} {ds : List PyData} {rd : PyData} {p : Program} {loose : List Str} {mean : ExcName → Option Value} {mg mb : Str → Option Value} {dp un : Nat} {gd : Option (List Code)} {cn : Str} {cs : Scope} {a : Addr} {ccd : Value} {cl : List (Str × Addr)} {outer : List Env} {A₀ : Around} {base : Heap} {vs : List Value} {Q : Value → Shared → Prop}
    (C : Calc B w f dd uu ds rd) (Bl : Below A₀ base outer h₀) (F : Fr h₀ L s.heap m) (X : (KQ w.params).In h₀) (N : News h₀ L s.heap news) (T : Top p loose mean mg mb h₀) (hk : cs.kind = .function) (S : B.StaysIn h₀) (XB : (KQ w.params).In B) (W : WnAll w.params B news vs ds) (hd : dp + dd < recursionLimit) (hu : un + uu < cLine)
    (ret : ∀ r tl h' tk', Fr h₀ L h' m → News h₀ L h' (tl ++ news) → (∀ q ∈ news, ∀ p ∈ tl, q.1 < p.1) → Wn w.params B (tl ++ news) r rd → Q r { s with heap := h', toks := tk' }) :
    wpAny (model prog w) (ktrTop dp un gd cn cs L a ccd cl outer) (call (.ref f) vs) Q E s := C _ _ _ _ _ _ _ _ _ _ _ _ _ _ _ _ _ _ _ _ _ _ _ Q E Bl F X N T hk S XB hd hu W ret
/-- the way back: what the callee made is on the ledger -/
theorem back {Q : Value → Shared → Prop} {rd : PyData} {r : Value} {h' : Heap} {tk' : Nat} {l : Led} (hret : ∀ r tl h' tk', Fr h₀ L h' m → News h₀ L h' (tl ++ news) → (∀ q ∈ news, ∀ p ∈ tl, q.1 < p.1) → Wn w.params B (tl ++ news) r rd → Q r { s with heap := h', toks := tk' })
    (F : Fr h₀ L h' m) (N : News h₀ L h' l) (X : Ext news l) (W : Wn w.params B l r rd) : Q r { s with heap := h', toks := tk' } := by
  obtain ⟨tl, rfl, o⟩ := X.out
  exact hret r tl h' tk' F N o W
end

/-- the expression comes to the value, whatever the count of tokens, and changes that count alone -/
structure Ev (M : Model) (A : Around) (E : Value → Shared → Prop) (env : Env) (h : Heap) (gn : Array GenState) (dr : Drawn) (os : OsState) (e : PySem.Expr) (v : Value) : Prop where
  ev : ∀ (Q : Value → Shared → Prop) (tk₀ : Nat), (∀ tk, Q v ⟨h, gn, dr, tk, os⟩) → wpAny M A (eval e env) Q E ⟨h, gn, dr, tk₀, os⟩
inductive EvL (M : Model) (A : Around) (E : Value → Shared → Prop) (env : Env) (h : Heap) (gn : Array GenState) (dr : Drawn) (os : OsState) : List PySem.Expr → List Value → Prop
  | nil : EvL M A E env h gn dr os [] []
  | cons {e : PySem.Expr} {es : List PySem.Expr} {v : Value} {vs : List Value} : Ev M A E env h gn dr os e v → EvL M A E env h gn dr os es vs → starEach (e :: es) env = (false, eval e env) :: starEach es env → EvL M A E env h gn dr os (e :: es) (v :: vs)
section
variable {M : Model} {prog : Program} {w : World} {A : Around} {E : Value → Shared → Prop} {h : Heap} {gn : Array GenState} {dr : Drawn} {os : OsState} {tk₀ : Nat} {B h₀ : Heap} {L : Addr} {m : Str → Option Value} {news led : Led} {env : Env} {e : PySem.Expr} {es : List PySem.Expr} {v : Value} {vs : List Value}
theorem Ev.local {a : Addr} {cn : Str} {cs : Scope} {ccd : Value} {cl : List (Str × Addr)} {x : Str} {pos : Pos} (F : Fr h₀ L h m) (hv : m x = some v) (hk : cs.kind = .function := by rfl) (hx : (envX cn cs L a ccd cl).kindOf x = some .local := by rfl) (hd : (x == ("__debug__" : Str)) = false := by decide) :
    Ev M A E (envX cn cs L a ccd cl) h gn dr os (.Name x pos) v := .mk fun _ _ r => nameX_L (s := ⟨h, gn, dr, _, os⟩) F hv (r _) hk hx hd
theorem Ev.cell {a c : Addr} {o : Obj} {cn : Str} {cs : Scope} {ccd : Value} {cl : List (Str × Addr)} {x : Str} {pos : Pos} (N : News h₀ L h news) (hc : cl.lookup x = some c) (hm : (c, o) ∈ news) (hd : o.data = .cell (some v)) (hk : cs.kind = .function) (hx : (envX cn cs L a ccd cl).kindOf x = some .cell) (hb : (x == ("__debug__" : Str)) = false) :
    Ev M A E (envX cn cs L a ccd cl) h gn dr os (.Name x pos) v := .mk fun _ _ r => nameX_C (s := ⟨h, gn, dr, _, os⟩) N hc hm hd (r _) hk hx hb
theorem Ev.global {K : Frag} {mg mb : Str → Option Value} {p : Program} {loose : List Str} {a : Addr} {cn : Str} {cs : Scope} {ccd : Value} {cl : List (Str × Addr)} {x : Str} {pos : Pos} (F : Fr h₀ L h m) (X : K.In h₀) (T : TopRead p loose mg mb h₀) (e : nsIn K mainGlobals x = some (some v))
    (hk : cs.kind = .function := by rfl) (hx : (envX cn cs L a ccd cl).kindOf x = some .globalImplicit := by rfl) (hd : (x == ("__debug__" : Str)) = false := by decide) :
    Ev M A E (envX cn cs L a ccd cl) h gn dr os (.Name x pos) v := .mk fun _ _ r => nameX_K (s := ⟨h, gn, dr, _, os⟩) F X T e (r _) hk hx hd
theorem Ev.item {a : Addr} {k : Int} {n j : Nat} {x : Value} {p pos : Pos} (S : B.StaysIn h₀) (F : Fr h₀ L h m) (N : News h₀ L h news) (h1 : Ev (model prog w) A E env h gn dr os e (.ref a)) (y : At B news a (tupO vs))
    (hj : seqIndex? k vs.length = some j) (hx : vs[j]? = some x) (hlo : -(2 ^ 63) ≤ k := by decide) (hhi : k < 2 ^ 63 := by decide)
    (hq : ∀ u, subscripted (.Constant (.int k) n p) false (.ref a) (.int k u) = operate [.ref a, .int k u] (getItem (.ref a) (.int k u)) := by intro _; with_unfolding_all rfl) :
    Ev (model prog w) A E env h gn dr os (.Subscript e (.Constant (.int k) n p) pos) x := .mk fun _ _ r =>
  Subscript_ (h1.ev _ _ fun _ => wpAny_Constant_int (my_item (s := ⟨h, gn, dr, _, os⟩) S F N y (fun _ h9 => h9) hlo hhi hj hx (r _) (hq _)))
theorem ev_done {Q : Value → Shared → Prop} (h1 : Ev M A E env h gn dr os e v) (r : ∀ tk, Q v ⟨h, gn, dr, tk, os⟩) : wpAny M A (eval e env) Q E ⟨h, gn, dr, tk₀, os⟩ := h1.ev _ _ r
theorem spliced_ev {pos : Pos} {Q : List Value → Shared → Prop} (hs : EvL M A E env h gn dr os es vs) (r : ∀ tk, Q vs ⟨h, gn, dr, tk, os⟩) : wpAny M A (spliced (backTo pos (starEach es env))) Q E ⟨h, gn, dr, tk₀, os⟩ := by
  induction hs generalizing Q tk₀ with
  | nil => exact args_nil (r _)
  | cons h1 hr he ih => exact args_cons (h1.ev _ _ fun tk => ih fun tk' => r tk') he
theorem tuple_ev {k : Nat} {pos : Pos} {Q : Value → Shared → Prop} (hs : EvL M A E env h gn dr os es vs) (F : Fr h₀ L h m) (N : News h₀ L h news) (hz : vs.length ≤ sizeLine)
    (r : ∀ D h' tk, Fr h₀ L h' m → News h₀ L h' ((D, tupO vs) :: news) → (∀ p ∈ news, p.1 < D) → Q (.ref D) ⟨h', gn, dr, tk, os⟩) : wpAny M A (eval (.Tuple es k pos) env) Q E ⟨h, gn, dr, tk₀, os⟩ :=
  Tuple_ (spliced_ev hs fun tk => kup_newTuple (s := ⟨h, gn, dr, tk, os⟩) F N (fun D h' F' N' l => r D h' tk F' N' l) hz)
theorem call_ev {K : Frag} {fe : PySem.Expr} {fv : Value} {pos : Pos} {Q : Value → Shared → Prop} (hf : Ev M A E env h gn dr os fe fv) (hs : EvL M A E env h gn dr os (e :: es) vs) (X : K.In h) (hk : keepIn K fv = true)
    (r : ∀ tk, wpAny M A (call fv vs) Q E ⟨h, gn, dr, tk, os⟩)
    (he : starEach (e :: es) env = (false, eval e env) :: starEach es env := by rfl) (hplain : (backTo pos (starEach es env)).any (·.1) = false := by rfl)
    (hc : eval (.Call fe (e :: es) [] pos) env = (do callWith pos (← eval fe env) [] (backTo pos (starEach (e :: es) env)) (backToKw pos (keywordEach [] env))) := by rfl) : wpAny M A (eval (.Call fe (e :: es) [] pos) env) Q E ⟨h, gn, dr, tk₀, os⟩ :=
  Call_ (hf.ev _ _ fun tk => callWith_K (s := ⟨h, gn, dr, tk, os⟩) X hk (spliced_ev hs fun tk' => ⟨X, r tk'⟩) he hplain) hc
/-- the locals with one more told -/
abbrev put (m : Str → Option Value) (x : Str) (v : Value) : Str → Option Value := fun y => if y = x then some v else m y
theorem storeL9 {a : Addr} {cn : Str} {cs : Scope} {ccd : Value} {cl : List (Str × Addr)} {x : Str} {Q : Unit → Shared → Prop} (F : Fr h₀ L h m) (N : News h₀ L h news) (hk : cs.kind = .function) (hx : (envX cn cs L a ccd cl).kindOf x = some .local)
    (r : ∀ h' tk, Fr h₀ L h' (put m x v) → News h₀ L h' news → Q () ⟨h', gn, dr, tk, os⟩) : wpAny M A (storeName (envX cn cs L a ccd cl) x v) Q E ⟨h, gn, dr, tk₀, os⟩ := storeX_L (s := ⟨h, gn, dr, tk₀, os⟩) F N (fun h' F' N' => r h' _ F' N') hk hx
/-- a contract used upon a state in its parts -/
theorem use9 {f : Addr} {dd uu : Nat} {ds : List PyData} {rd : PyData} {p : Program} {loose : List Str} {mean : ExcName → Option Value} {mg mb : Str → Option Value} {dp un : Nat} {gd : Option (List Code)} {cn : Str} {cs : Scope} {a : Addr} {ccd : Value} {cl : List (Str × Addr)} {outer : List Env} {A₀ : Around} {base : Heap} {Q : Value → Shared → Prop}
    (C : Calc B w f dd uu ds rd) (Bl : Below A₀ base outer h₀) (F : Fr h₀ L h m) (X : (KQ w.params).In h₀) (N : News h₀ L h news) (T : Top p loose mean mg mb h₀) (hk : cs.kind = .function) (S : B.StaysIn h₀) (XB : (KQ w.params).In B) (W : WnAll w.params B news vs ds) (hd : dp + dd < recursionLimit) (hu : un + uu < cLine)
    (ret : ∀ r tl h' tk', Fr h₀ L h' m → News h₀ L h' (tl ++ news) → (∀ q ∈ news, ∀ p ∈ tl, q.1 < p.1) → Wn w.params B (tl ++ news) r rd → Q r ⟨h', gn, dr, tk', os⟩) :
    wpAny (model prog w) (ktrTop dp un gd cn cs L a ccd cl outer) (call (.ref f) vs) Q E ⟨h, gn, dr, tk₀, os⟩ := use (s := ⟨h, gn, dr, tk₀, os⟩) C Bl F X N T hk S XB W hd hu ret
section
variable {P : Params} {Q : Value → Shared → Prop}
abbrev Ret (h₀ : Heap) (L : Addr) (m : Str → Option Value) (news : Led) (B : Heap) (P : Params) (gn : Array GenState) (dr : Drawn) (os : OsState) (Q : Value → Shared → Prop) (rd : PyData) : Prop :=
  ∀ r tl h' tk', Fr h₀ L h' m → News h₀ L h' (tl ++ news) → (∀ q ∈ news, ∀ p ∈ tl, q.1 < p.1) → Wn P B (tl ++ news) r rd → Q r ⟨h', gn, dr, tk', os⟩
theorem retI {i : Int} (k : ∀ t h' tk', Fr h₀ L h' m → News h₀ L h' news → Q (.int i t) ⟨h', gn, dr, tk', os⟩) : Ret h₀ L m news B P gn dr os Q (.int i) := fun r tl h' tk' F N _ W => by
  obtain ⟨t, rfl⟩ := W.int_inv; exact k t h' tk' F (news_tl N)
theorem retS {i : Str} (k : ∀ t h' tk', Fr h₀ L h' m → News h₀ L h' news → Q (.str i t) ⟨h', gn, dr, tk', os⟩) : Ret h₀ L m news B P gn dr os Q (.str i) := fun r tl h' tk' F N _ W => by
  obtain ⟨t, rfl⟩ := W.str_inv; exact k t h' tk' F (news_tl N)
theorem retB {b : Bool} (k : ∀ h' tk', Fr h₀ L h' m → News h₀ L h' news → Q (.bool b) ⟨h', gn, dr, tk', os⟩) : Ret h₀ L m news B P gn dr os Q (.bool b) := fun r tl h' tk' F N _ W => by
  cases W.bool_inv; exact k h' tk' F (news_tl N)
theorem retP {x y : Int} (k : ∀ a t u tl h' tk', Fr h₀ L h' m → News h₀ L h' (tl ++ news) → (∀ q ∈ news, ∀ p ∈ tl, q.1 < p.1) → At B (tl ++ news) a (tupO [.int x t, .int y u]) → Q (.ref a) ⟨h', gn, dr, tk', os⟩) : Ret h₀ L m news B P gn dr os Q (pr x y) := fun r tl h' tk' F N O W => by
  obtain ⟨a, t, u, rfl, y⟩ := W.pr_inv; exact k a t u tl h' tk' F N O y
theorem retK {poly : PyData} {x y : Int} (k : ∀ a b c t u o tl h' tk', Fr h₀ L h' m → News h₀ L h' (tl ++ news) → (∀ q ∈ news, ∀ p ∈ tl, q.1 < p.1) → Wn P B (tl ++ news) (.ref a) (kD poly x y) → At B (tl ++ news) a (tupO [b, .ref c, .int 0 o]) → Wn P B (tl ++ news) b poly → At B (tl ++ news) c (tupO [.int x t, .int y u]) → Q (.ref a) ⟨h', gn, dr, tk', os⟩) : Ret h₀ L m news B P gn dr os Q (kD poly x y) := fun r tl h' tk' F N O W => by
  obtain ⟨a, b, c, t, u, o, rfl, w, y, z⟩ := W.kD_inv; exact k a b c t u o tl h' tk' F N O W w y z
theorem retG {poly : PyData} {x y n d : Int} (k : ∀ a k u c t o tl h' tk', Fr h₀ L h' m → News h₀ L h' (tl ++ news) → (∀ q ∈ news, ∀ p ∈ tl, q.1 < p.1) → Wn P B (tl ++ news) (.ref a) (gD poly x y n d) → At B (tl ++ news) a (dictOf [⟨hashW P (ofPy (kD poly x y)), .ref k, .ref u⟩] c) → (a == sysModules) = false → Wn P B (tl ++ news) (.ref k) (kD poly x y) → At B (tl ++ news) u (tupO [.int n t, .int d o]) → Q (.ref a) ⟨h', gn, dr, tk', os⟩) : Ret h₀ L m news B P gn dr os Q (gD poly x y n d) := fun r tl h' tk' F N O W => by
  obtain ⟨a, k', u, c, t, o, rfl, w, lo, y, z⟩ := W.gD_inv; exact k a k' u c t o tl h' tk' F N O W w lo y z
theorem ret0 (k : ∀ a tl h' tk', Fr h₀ L h' m → News h₀ L h' (tl ++ news) → (∀ q ∈ news, ∀ p ∈ tl, q.1 < p.1) → At B (tl ++ news) a (tupO []) → Q (.ref a) ⟨h', gn, dr, tk', os⟩) : Ret h₀ L m news B P gn dr os Q (.tuple []) := fun r tl h' tk' F N O W => by
  obtain ⟨a, rfl, w⟩ := W.tup0_inv; exact k a tl h' tk' F N O w
theorem ret2 {d e : PyData} (k : ∀ a v u tl h' tk', Fr h₀ L h' m → News h₀ L h' (tl ++ news) → (∀ q ∈ news, ∀ p ∈ tl, q.1 < p.1) → At B (tl ++ news) a (tupO [v, u]) → Wn P B (tl ++ news) v d → Wn P B (tl ++ news) u e → Q (.ref a) ⟨h', gn, dr, tk', os⟩) : Ret h₀ L m news B P gn dr os Q (.tuple [d, e]) := fun r tl h' tk' F N O W => by
  obtain ⟨a, v, u, rfl, w, y, z⟩ := W.tup2_inv; exact k a v u tl h' tk' F N O w y z
end
end
/-- the locals of a def that has just been entered -/
def frm (ns : List Str) (vs : List Value) : Str → Option Value := fun y => (ns.zip vs).reverse.lookup y
abbrev argNames (a : Arguments) : List Str := a.args.map (·.arg)
theorem code_def9 {prog : Program} {w : World} {A A₀ : Around} {s : Shared} {K : Frag} {L : Addr} {h₀ base B : Heap} {m mg mb : Str → Option Value} {news : List (Addr × Obj)} {p : Program} {loose : List Str} {mean : ExcName → Option Value} {env : Env} {outer : List Env} {Q E : Value → Shared → Prop} {name qual : Str} {params : Arguments} {body : List Stmt} {scope : Scope} {dV kV doc pm cdv ct oc : Value} {an od : Option Addr} {osl : Array (Option Value)} {f : Addr} {vs : List Value}
    (Bl : Below A₀ base outer h₀) (F : Fr h₀ L s.heap m) (X₀ : K.In h₀) (N : News h₀ L s.heap news) (T : Top p loose mean mg mb h₀) (S : B.StaysIn h₀) (hA : A.frames = some (env :: outer)) (hf : env.frame = some L) (hke : env.scope.kind = .function)
    (ho : K.lookup f = some ⟨oc, od, .func (fnOf name qual params body scope dV kV doc pm an cdv ct), osl⟩) (hcd : codeIn K cdv qual = true) (hroom : A.depth < recursionLimit)
    (hbind : BindsTo s (fnOf name qual params body scope dV kV doc pm an cdv ct) ⟨vs, []⟩ ((argNames params).zip vs)) (hloc : ∀ y ∈ (argNames params).zip vs, scope.names.lookup y.1 = some .local)
    (h : ∀ g L' h₁ tk, Fr h₀ L g m → Fr g L' h₁ (frm (argNames params) vs) → News g L' h₁ news → Below A base (env :: outer) g → K.In g → Top p loose mean mg mb g → B.StaysIn g →
      wpAny (model prog w) (A.deeper (envOf qual scope L' f cdv)) (execs body (envOf qual scope L' f cdv))
        (fun fl s' => LeaveK h₀ L m g (fun r s' => match r with | .ok (.ret v) => Q v s' | .ok _ => False | .error e => E e s') (match fl with | .ret v => v | _ => .none) s')
        (fun e s' => wpAny (model prog w) (A.deeper (envOf qual scope L' f cdv)) (leaving (envOf qual scope L' f cdv) e) (fun _ s'' => E e s'') (fun e' s'' => E e' s'') s')
        { s with heap := h₁, toks := tk })
    (hco : scope.isCoroutine = false) (hgen : scope.isGenerator = false) (hk : scope.kind = .function)
    (hcell : ∀ x ∈ scope.names, x.2 ≠ .cell) : wpAny (model prog w) A (call (.ref f) vs) Q E s :=
  wpAny_call (code_def Bl F X₀ N T hA hf hke ho hcd hroom hbind hloc (fun g L' h₁ FG F' N' B' X' T' => h g L' h₁ _ FG F' N' B' X' T' (enter_stays F' FG S N)) hco hgen hk hcell)
theorem code_defC9 {prog : Program} {w : World} {A A₀ : Around} {s : Shared} {K : Frag} {L : Addr} {h₀ base B : Heap} {m mg mb : Str → Option Value} {news : List (Addr × Obj)} {p : Program} {loose : List Str} {mean : ExcName → Option Value} {env : Env} {outer : List Env} {Q E : Value → Shared → Prop} {name qual : Str} {params : Arguments} {body : List Stmt} {scope : Scope} {dV kV doc pm cdv ct oc : Value} {an od : Option Addr} {osl : Array (Option Value)} {f : Addr} {vs : List Value}
    (Bl : Below A₀ base outer h₀) (F : Fr h₀ L s.heap m) (X₀ : K.In h₀) (N : News h₀ L s.heap news) (T : Top p loose mean mg mb h₀) (S : B.StaysIn h₀) (hA : A.frames = some (env :: outer)) (hf : env.frame = some L) (hke : env.scope.kind = .function)
    (ho : K.lookup f = some ⟨oc, od, .func (fnOf name qual params body scope dV kV doc pm an cdv ct), osl⟩) (hcd : codeIn K cdv qual = true) (hroom : A.depth < recursionLimit)
    (hbind : BindsTo s (fnOf name qual params body scope dV kV doc pm an cdv ct) ⟨vs, []⟩ ((argNames params).zip vs)) (hkind : (((argNames params).zip vs).all fun y => scope.names.lookup y.1 == some .local || scope.names.lookup y.1 == some .cell) = true)
    (hnd : ((cellsFrom 0 scope.names []).map (·.1)).Nodup)
    (h : ∀ g L' h₁ tk cells, Fr h₀ L g m → Fr g L' h₁ (bindL (envOfC qual scope L' f cdv).kindOf ((argNames params).zip vs) fun _ => none) → News g L' h₁ (cells ++ news) →
      CellsAre (bindC (envOfC qual scope L' f cdv).kindOf ((argNames params).zip vs) fun _ => none) (cellsFrom (L' + 1) scope.names []) cells → Below A base (env :: outer) g → K.In g → Top p loose mean mg mb g → B.StaysIn g → (∀ p ∈ news, p.1 < L') →
      wpAny (model prog w) (A.deeper (envOfC qual scope L' f cdv)) (execs body (envOfC qual scope L' f cdv))
        (fun fl s' => LeaveK h₀ L m g (fun r s' => match r with | .ok (.ret v) => Q v s' | .ok _ => False | .error e => E e s') (match fl with | .ret v => v | _ => .none) s')
        (fun e s' => wpAny (model prog w) (A.deeper (envOfC qual scope L' f cdv)) (leaving (envOfC qual scope L' f cdv) e) (fun _ s'' => E e s'') (fun e' s'' => E e' s'') s')
        { s with heap := h₁, toks := tk })
    (hco : scope.isCoroutine = false) (hgen : scope.isGenerator = false) (hk : scope.kind = .function) : wpAny (model prog w) A (call (.ref f) vs) Q E s :=
  wpAny_call (code_defC Bl F X₀ N T hA hf hke ho hcd hroom hbind hkind hnd (fun g L' h₁ tk cells FG F' N' Y' B' X' T' l => h g L' h₁ tk cells FG F' N' Y' B' X' T' (fun b o e => FG.keep b o (S b o e)) l) hco hgen hk)
local macro_rules | `(tactic| walk_at $s:str) => `(tactic| k_extra $(Lean.Syntax.mkStrLit ("M:" ++ s.getString)))
theorem fill_all : (PySem.Challenge.rw_rh0037_03 = PySem.Challenge.rw_rh0037_03) ∧ (KQ = KQ) := by
  k_fill
  exact ⟨rfl, rfl⟩
theorem rows_1 : True := by
  (k_with "my sub" => first
  | (with_reducible exact sub_refl)
  | (refine' sub_cons ?_; k_extra "my sub")
  | (refine' sub_app ?_; k_extra "my sub")
  | fail "my sub")
  trivial
local macro_rules | `(tactic| k_mem) => `(tactic| first | ((with_reducible refine' mem_app ?_); k_mem) | ((with_reducible refine' List.mem_append.mpr (Or.inr ?_)); k_mem) | with_reducible assumption)
theorem rows_2 : True := by
  (k_with "my keep" => first
  | (with_reducible exact Keep.refl)
  | (refine Keep.transR (by with_reducible assumption) ?_; k_extra "my keep")
  | (refine Keep.transWR (by with_reducible assumption) ?_; k_extra "my keep")
  | (refine' Keep.cons ?_; k_extra "my keep")
  | (refine' Keep.app ?_; k_extra "my keep")
  | fail "my keep")
  (k_with "my at" => first
  | with_reducible assumption
  | (refine At.keepR (T := TD) (by with_reducible assumption) (TD.tup _) ?_; k_extra "my keep")
  | (refine At.keepR (T := TD) (by with_reducible assumption) (TD.dict _ _) ?_; k_extra "my keep")
  | (refine At.keepR (T := TupO) (by with_reducible assumption) (TupO.tup _) ?_; k_extra "my keep")
  | (refine' Or.inr ?_; k_mem)
  | (refine At.ofK (by with_reducible assumption) (by k_is))
  | fail "my at")
  (k_with "my wn" => first
  | exact Wn.int _ _
  | exact Wn.str _ _
  | exact Wn.none
  | exact Wn.bool _
  | with_reducible assumption
  | (refine Wn.keepR (by with_reducible assumption) ?_; k_extra "my keep")
  | (refine Wn.keepTR (by with_reducible assumption) (by first | with_reducible assumption | exact rfl | (simp only [keyD, keyD.keyDs, Bool.and_true, Bool.and_self]; done)) ?_; k_extra "my keep")
  | (refine' Wn.tuple ?_ ?_; rotate_right 2; (focus (k_extra "my at"; done)); (focus (k_extra "my wns"; done)))
  | (refine' Wn.dict ?r4h ?r4lo ?r4r; (case r4h => k_extra "my at"); (case r4lo => with_reducible assumption); (case r4r => k_extra "my wnk"))
  | fail "my wn")
  (k_with "my wns" => first
  | exact WnAll.nil
  | (refine' WnAll.cons ?_ ?_; rotate_right 2; (focus (k_extra "my wn"; done)); (focus (k_extra "my wns"; done)))
  | fail "my wns")
  (k_with "my wnk" => first
  | exact WnKv.nil
  | (refine' WnKv.cons ?_ ?_ ?_; rotate_right 3; (focus (k_extra "my wn"; done)); (focus (k_extra "my wn"; done)); (focus (k_extra "my wnk"; done)))
  | fail "my wnk")
  (k_with "my room" => ((try simp +zetaDelta only [depth_under_make, depth_under_kw, depth_in1, depth_deeper, depth_caller]); (try dsimp only [ktrTop]); omega))
  (k_with "my units" => ((try simp +zetaDelta only [units_in1, units_deeper, Around.mark_units, units_caller]); (try dsimp only [ktrTop]); omega))
  (k_with "my lt" => first
  | with_reducible assumption
  | (refine lt_sub (by with_reducible assumption) ?_; k_extra "my sub")
  | (refine lt_sub (ktn_ltOf (by with_reducible assumption : AllLt _ _)) ?_; k_extra "my sub")
  | (refine lt_sub (ktn_ltOf ((by with_reducible assumption : _ ∧ AllLt _ _).2)) ?_; k_extra "my sub")
  | (refine lt_sub (ktn_ltOf ((by with_reducible assumption : _ ∧ _ ∧ AllLt _ _).2.2)) ?_; k_extra "my sub")
  | (refine lt_sub (ktn_ltOf ((by with_reducible assumption : _ ∧ _ ∧ _ ∧ AllLt _ _).2.2.2)) ?_; k_extra "my sub")
  | (refine lt_sub (ktn_ltOf ((by with_reducible assumption : _ ∧ _ ∧ _ ∧ _ ∧ AllLt _ _).2.2.2.2)) ?_; k_extra "my sub")
  | (refine lt_sub (ktn_ltOf ((by with_reducible assumption : _ ∧ _ ∧ _ ∧ _ ∧ _ ∧ AllLt _ _).2.2.2.2.2)) ?_; k_extra "my sub")
  | (refine lt_sub (ktn_ltOf ((by with_reducible assumption : _ ∧ _ ∧ _ ∧ _ ∧ _ ∧ _ ∧ AllLt _ _).2.2.2.2.2.2)) ?_; k_extra "my sub")
  | (refine lt_sub (ktn_ltOf ((by with_reducible assumption : _ ∧ _ ∧ _ ∧ _ ∧ _ ∧ _ ∧ _ ∧ AllLt _ _).2.2.2.2.2.2.2)) ?_; k_extra "my sub")
  | (refine lt_sub (lt_succ1 (by with_reducible assumption)) ?_; k_extra "my sub")
  | fail "my lt")
  (k_with "my ord" => first
  | with_reducible assumption
  | (refine ord_sub (by with_reducible assumption) ?_; k_extra "my sub")
  | fail "my ord")
  (k_with "my ext" => first
  | exact Ext.refl
  | (refine' Ext.cons ?_ ?_; (focus (k_extra "my ext"; done)); (focus (k_extra "my lt"; done)))
  | (refine' Ext.app ?_ ?_; (focus (k_extra "my ext"; done)); (focus (k_extra "my ord"; done)))
  | fail "my ext")
  (k_with "M:newTuple" => (k_here; k_dflt (refine' kup_newTuple ?F ?N ?_ ?r12z; (case F => k_asm); (case N => k_asm); (case r12z => kmk_size)); intro D'_r h'_r F'_r N'_r l1_r; (try k_sweep)))
  (k_with "my let" => (refine (let M9 : Model := _; let A9 : Around := _; (?_ : wpAny M9 A9 _ _ _ _))))
  (k_with "my enter" => (
  k_dflt (refine' code_def9 ?k1 ?k2 ?k3 ?k4 ?k5 ?kS ?r14kA ?r14kF ?kK ?r14k6 ?r14k7 ?r14k8 ?r14k9 ?kB ?_ ?r14c2 ?r14c3 ?r14c4 ?r14c5; (case r14kA => exact rfl); (case r14kF => exact rfl); (case kK => assumption); (case k1 => k_asm); (case k2 => k_asm); (case k3 => k_asm); (case k4 => k_asm); (case k5 => k_asm); (case kS => k_asm); (case r14k6 => k_is); (case r14k7 => k_is); (case r14k8 => ktr_room); (case r14k9 => exact BindsTo.of_eq rfl); (case r14c5 => decide); (case kB => exact locs rfl); (case r14c2 => exact rfl); (case r14c3 => exact rfl); (case r14c4 => exact rfl); k_whole; intro g'_r L'_r h'_r tk'_r FG'_r F'_r N'_r B'_r X'_r T'_r S'_r; (try dsimp only); (try k_fold));
  k_extra "my let"))
  (k_with "my name" => k_dflt (refine' nameX_L ?F ?r15v ?_ ?r15a ?r15b; (case F => k_asm); (case r15a => rfl); (case r15b => rfl); (case r15v => rfl); k_whole))
  (k_with "my enterC" => (
  k_dflt ((refine' code_defC9 ?k1 ?k2 ?k3 ?k4 ?k5 ?kS ?r16kA ?r16kF ?kK ?r16k6 ?r16k7 ?r16k8 ?r16k9 ?kB ?r16kD ?_ ?r16c2 ?r16c3 ?r16c4); (case r16kA => exact rfl); (case r16kF => exact rfl); (case kK => assumption); (case k1 => k_asm); (case k2 => k_asm); (case k3 => k_asm); (case k4 => k_asm); (case k5 => k_asm); (case kS => k_asm); (case r16k6 => k_is); (case r16k7 => k_is); (case r16k8 => k_extra "my room"); (case r16k9 => exact BindsTo.of_eq rfl); (case kB => exact rfl); (case r16kD => decide +kernel); (case r16c2 => exact rfl); (case r16c3 => exact rfl); (case r16c4 => exact rfl); k_whole; (intro g'_r L'_r h'_r tk'_r cells'_r FG'_r F'_r N'_r Y'_r B'_r X'_r T'_r S'_r l1_r); k_cells Y'_r; (try simp only [List.cons_append, List.nil_append] at N'_r); (try dsimp only); (try k_fold));
  k_extra "my let"))
  (k_with "M:subscriptTail" => (k_here; (with_reducible show wpAny _ _ (subscriptTail _ _ (Value.ref _) (Value.int _ _)) _ _ _); k_dflt (refine' my_item ?S ?F ?N ?r17y (fun _ h9 => h9) ?r17a ?r17b ?r17c ?d ?_; (case S => with_reducible assumption); (case F => with_reducible assumption); (case N => with_reducible assumption); (case r17y => k_extra "my at"); (case r17a => decide); (case r17b => decide); (case r17c => rfl); (case d => rfl))))
  (k_with "my use" => (
  (case k1 => k_asm); (case k2 => k_asm); (case k3 => k_asm); (case k4 => k_asm); (case k5 => k_asm); (case kK => first | exact rfl | assumption); (case kS => k_asm); (case kB => k_asm); (case kW => k_extra "my wns"); (case kd => k_extra "my room"); (case ku => k_extra "my units")))
  (k_with "my back" => (
  (first
  | (refine' retI ?_; intro t9_r h9_r tk9_r F9_r N9_r)
  | (refine' retS ?_; intro t9_r h9_r tk9_r F9_r N9_r)
  | (refine' retB ?_; intro h9_r tk9_r F9_r N9_r)
  | (refine' retP ?_; intro a9_r t9_r u9_r tl9_r h9_r tk9_r F9_r N9_r O9_r w9_r)
  | (refine' retK ?_; intro a9_r b9_r c9_r t9_r u9_r o9_r tl9_r h9_r tk9_r F9_r N9_r O9_r w9_r x9_r y9_r z9_r)
  | (refine' retG ?_; intro a9_r k9_r u9_r c9_r t9_r o9_r tl9_r h9_r tk9_r F9_r N9_r O9_r w9_r x9_r lo9_r y9_r z9_r)
  | (refine' ret0 ?_; intro a9_r tl9_r h9_r tk9_r F9_r N9_r O9_r w9_r)
  | (refine' ret2 ?_; intro a9_r v9_r u9_r tl9_r h9_r tk9_r F9_r N9_r O9_r w9_r y9_r z9_r)
  | intro r9_r tl9_r h9_r tk9_r F9_r N9_r O9_r W9_r);
  k_sweep; (try dsimp only); (try k_fold)))
  (k_with "my look" => first
  | exact rfl
  | with_reducible assumption
  | (refine (if_neg (by decide)).trans ?_; k_extra "my look")
  | fail "my look")
  (k_with "my ev" => first
  | (refine' Ev.local ?_ ?_ ?_ ?_ ?_; rotate_right 5; (focus (with_reducible assumption)); (focus (k_extra "my look"; done)); (focus (exact rfl)); (focus (exact rfl)); (focus (exact rfl)))
  | (refine' Ev.cell ?_ ?_ ?_ ?_ ?_ ?_ ?_; rotate_right 7; (focus (with_reducible assumption)); (focus (exact rfl)); (focus k_mem); (focus (first | with_reducible assumption | assumption)); (focus (exact rfl)); (focus (exact rfl)); (focus (exact rfl)))
  | (refine' Ev.global ?_ ?_ ?_ ?_ ?_ ?_ ?_; rotate_right 7; (focus (with_reducible assumption)); (focus (with_reducible assumption)); (focus (k_asm)); (focus (k_is)); (focus (exact rfl)); (focus (exact rfl)); (focus (exact rfl)))
  | (refine' Ev.item ?_ ?_ ?_ ?_ ?_ ?_ ?_ ?_ ?_ ?_; rotate_right 10; (focus (with_reducible assumption)); (focus (with_reducible assumption)); (focus (with_reducible assumption)); (focus (k_extra "my ev"; done)); (focus (k_extra "my at"; done)); (focus (exact rfl)); (focus (exact rfl)); (focus (decide)); (focus (decide)); (focus (intro _; with_unfolding_all rfl)))
  | fail "my ev")
  (k_with "my evs" => first
  | exact EvL.nil
  | (refine' EvL.cons ?_ ?_ ?_; rotate_right 3; (focus (k_extra "my ev"; done)); (focus (k_extra "my evs"; done)); (focus (exact rfl)))
  | fail "my evs")
  (k_with "M:eval Call" => (k_here; k_dflt (refine' call_ev ?r23f ?r23a ?r23x ?r23k ?_; (case r23f => k_extra "my ev"); (case r23a => k_extra "my evs"); (case r23x => k_in); (case r23k => k_is)); intro tk'_r))
  (k_with "M:eval Subscript" => (k_here; k_dflt (refine' ev_done ?r24h ?_; (case r24h => k_extra "my ev")); intro tk'_r))
  (k_with "M:eval Tuple" => (k_here; k_dflt (refine' tuple_ev ?r25a ?F ?N ?r25z ?_; (case r25a => k_extra "my evs"); (case F => k_asm); (case N => k_asm); (case r25z => kmk_size)); intro D'_r h'_r tk'_r F'_r N'_r l1_r; (try k_sweep)))
  (k_with "M:storeName" => (k_here; k_dflt (refine' storeL9 ?F ?N ?r26a ?r26b ?_; (case F => with_reducible assumption); (case N => with_reducible assumption); (case r26a => exact rfl); (case r26b => exact rfl)); intro h'_r tk'_r F'_r N'_r; (try k_sweep)))
  (k_with "M:ite" => (k_here; k_openite; first
  | (refine' ite_neg ?r27kc ?_; (case r27kc => ((try simp only [decide_eq_true_eq, beq_iff_eq, bne_iff_ne, ne_eq, Bool.not_eq_true', decide_eq_false_iff_not]); omega)))
  | (refine' ite_pos ?r27kc ?_; (case r27kc => ((try simp only [decide_eq_true_eq, beq_iff_eq, bne_iff_ne, ne_eq, Bool.not_eq_true', decide_eq_false_iff_not]); omega)))))
  (k_with "M:ite" => (k_here; (first | (with_reducible refine' ite_pos (rfl : true = true) ?_) | (with_reducible refine' ite_neg (Bool.false_ne_true : ¬ (false = true)) ?_) | (with_reducible refine' ite_pos (beq_self_eq_true (_ : Str)) ?_))))
  (k_with "M:assign Tuple" => (k_here; (with_reducible show wpAny _ _ (assign (Expr.Tuple _ _ _) _ (Value.ref _)) _ _ _); k_dflt (refine' unpackN_ ?F ?N ?r29T ?k1 ?k2 ?k3 ?_; (case F => k_asm); (case N => k_asm); (case r29T => exact at_tup (by with_reducible assumption) (by with_reducible assumption) (by with_reducible assumption) (by k_extra "my at") (fun _ h9 => h9)); (case k1 => exact rfl); (case k2 => exact rfl); (case k3 => exact rfl)); (intro h'_r F'_r N'_r); (try k_sweep)))
  trivial
theorem fr_two {h₀ h : Heap} {L : Addr} {m : Str → Option Value} {x y : Str} {u v : Value} (F : Fr h₀ L h m) (h1 : m x = some u) (h2 : m y = some v) : Fr h₀ L h (fun z => if z = x then some u else if z = y then some v else m z) := by
  have e : (fun z => if z = x then some u else if z = y then some v else m z) = m := by
    funext z
    by_cases hx : z = x
    · rw [if_pos hx, hx, h1]
    · rw [if_neg hx]
      by_cases hy : z = y
      · rw [if_pos hy, hy, h2]
      · rw [if_neg hy]
  rw [e]; exact F
def GcdJ (news : Led) (g : Nat) (n : Nat) (m : Str → Option Value) (news' : Led) : Prop :=
  news' = news ∧ ∃ (a b : Int) (t t' : Tok), m (Str.ofString "a") = some (.int a t) ∧ m (Str.ofString "b") = some (.int b t') ∧ 0 ≤ a ∧ 0 ≤ b ∧ Int.gcd a b = g ∧ n = b.toNat
theorem gcd_step {a b : Int} (ha : 0 ≤ a) (hb : 0 ≤ b) (h : b ≠ 0) : Int.gcd b (Int.fmod a b) = Int.gcd a b ∧ 0 ≤ Int.fmod a b ∧ (Int.fmod a b).toNat < b.toNat := by
  have e : Int.fmod a b = a % b := Int.fmod_eq_emod_of_nonneg _ hb
  rw [e]
  have h1 := Int.emod_nonneg a h
  have h2 := Int.emod_lt_of_pos a (show 0 < b by omega)
  refine ⟨?_, h1, by omega⟩
  obtain ⟨m, rfl⟩ := Int.eq_ofNat_of_zero_le ha
  obtain ⟨n, rfl⟩ := Int.eq_ofNat_of_zero_le hb
  show Int.gcd (n : Int) (((m % n : Nat) : Int)) = Int.gcd (m : Int) (n : Int)
  rw [Int.gcd_natCast_natCast, Int.gcd_natCast_natCast, Nat.gcd_comm n, ← Nat.gcd_rec, Nat.gcd_comm]
theorem abs_is (x : Int) : (if x < 0 then -x else x) = (x.natAbs : Int) := by split <;> omega
theorem rows_3 : True := by
  (k_with "M:exec While Compare cons nil" => (
  k_here; walk_plain_pass;
  (refine' While_inv (GcdJ _ _) (by with_reducible assumption) (by with_reducible assumption) ⟨rfl, _, _, _, _, rfl, rfl, ?r30h1, ?r30h2, rfl, rfl⟩ ?_ ?r30hE);
  (case r30hE => first | passes_own | with_unfolding_all passes_own); (case r30h1 => (rw [abs_is]; omega)); (case r30h2 => (rw [abs_is]; omega));
  (intro n9_r m9_r news9_r h9_r tk9_r F9_r N9_r J9_r);
  (obtain ⟨e9_r, a9_r, b9_r, t9_r, u9_r, ha9_r, hb9_r, pa9_r, pb9_r, hg9_r, hn9_r⟩ := J9_r); (subst e9_r);
  (replace F9_r := fr_two F9_r ha9_r hb9_r); (clear ha9_r hb9_r); k_sweep; (try dsimp only); (try k_fold)))
  trivial
theorem gcd_turn {h₀ h' : Heap} {L : Addr} {s s₁ : Shared} {l l' : Led} {g n tk : Nat} {m : Str → Option Value} {a b : Int} {t t' : Tok} (F : Fr h₀ L h' m) (N : News h₀ L h' l') (ea : m (Str.ofString "a") = some (.int b t)) (eb : m (Str.ofString "b") = some (.int (Int.fmod a b) t')) (hs : ∀ p ∈ l, p ∈ l')
    (ha : 0 ≤ a) (hb : 0 ≤ b) (h : b ≠ 0) (hg : Int.gcd a b = g) (hn : n = b.toNat) (e : s₁ = { s with heap := h', toks := tk }) : WhileStep h₀ L s (GcdJ l g) n .next s₁ := by
  subst e hn hg
  obtain ⟨h1, h2, h3⟩ := gcd_step ha hb h
  exact WhileStep.intro F (fun p hp => N p (hs p hp)) h3 ⟨rfl, _, _, _, _, ea, eb, hb, h2, h1, rfl⟩
theorem gcd_end {a b x y : Int} (ha : 0 ≤ a) (hb : b = 0) (h : Int.gcd a b = Int.gcd (if x < 0 then -x else x) (if y < 0 then -y else y)) : a = (Int.gcd x y : Int) := by
  subst hb
  rw [abs_is, abs_is, Int.gcd_natCast_natCast, Int.gcd_zero_right] at h
  show a = ((Nat.gcd x.natAbs y.natAbs : Nat) : Int)
  omega
theorem gcd_c {B : Heap} {w : World} (x y : Int) : Calc B w 41 2 20 [.int x, .int y] (.int (Int.gcd x y)) := by
  unfold Calc
  intro prog p loose mean mg mb dp un gd cn cs a ccd cl outer A₀ base h₀ L m news s vs Q E Bl F X N T hk S XB hd hu W hret
  obtain ⟨v1, v2, rfl, W1, W2⟩ := W.two
  obtain ⟨t1, rfl⟩ := W1.int_inv
  obtain ⟨t2, rfl⟩ := W2.int_inv
  clear W W1 W2
  k_extra "my enter"
  k_steps
  · exact gcd_turn (by with_reducible assumption) (by with_reducible assumption) rfl rfl (by ktd_sub) (by assumption) (by assumption) (by assumption) (by assumption) (by assumption) rfl
  · exact back hret (by with_reducible assumption) (by with_reducible assumption) (by k_extra "my ext") (Wn.of_int (gcd_end (by assumption) (by assumption) (by assumption)))
theorem rows_4 : True := by
  (k_with "M:call ref" => (k_here; (with_reducible show wpAny _ _ (call (Value.ref 41) _) _ _ _); k_dflt ((refine' use9 (gcd_c _ _) ?k1 ?k2 ?k3 ?k4 ?k5 ?kK ?kS ?kB ?kW ?kd ?ku ?_); k_extra "my use"); k_extra "my back"))
  trivial
/-- a ratio in its lowest terms -/
def rN (x y : Int) : Int := Int.fdiv x (Int.gcd x y)
def rD (x y : Int) : Int := Int.fdiv y (Int.gcd x y)
theorem rat_c {B : Heap} {w : World} (x y : Int) (hy : 0 < y) (hz : y < 1073741824) : Calc B w 64 4 30 [.int x, .int y] (pr (rN x y) (rD x y)) := by
  unfold Calc
  intro prog p loose mean mg mb dp un gd cn cs a ccd cl outer A₀ base h₀ L m news s vs Q E Bl F X N T hk S XB hd hu W hret
  obtain ⟨v1, v2, rfl, W1, W2⟩ := W.two
  obtain ⟨t1, rfl⟩ := W1.int_inv
  obtain ⟨t2, rfl⟩ := W2.int_inv
  clear W W1 W2
  have hg : ((Int.gcd x y : Nat) : Int) ≠ 0 := by
    intro e
    have := Int.gcd_eq_zero_iff.mp (show Int.gcd x y = 0 by omega)
    omega
  have hg2 : 0 < (Int.gcd x y : Int) ∧ (Int.gcd x y : Int) ≤ y := by
    refine ⟨by omega, ?_⟩
    exact Int.le_of_dvd hy (Int.gcd_dvd_right x y)
  k_extra "my enter"
  k_steps
  exact back hret (by with_reducible assumption) (by with_reducible assumption) (by k_extra "my ext") (by k_extra "my wn")
theorem mulB {x u a b : Int} (hx : -a ≤ x ∧ x ≤ a) (hu : -b ≤ u ∧ u ≤ b) : -(a * b) ≤ x * u ∧ x * u ≤ a * b := by
  have h1 : x.natAbs ≤ a.natAbs := by omega
  have h2 : u.natAbs ≤ b.natAbs := by omega
  have h3 : (x * u).natAbs ≤ a.natAbs * b.natAbs := by rw [Int.natAbs_mul]; exact Nat.mul_le_mul h1 h2
  have h4 : ((a.natAbs * b.natAbs : Nat) : Int) = a * b := by
    rw [Int.natCast_mul, Int.natAbs_of_nonneg (by omega), Int.natAbs_of_nonneg (by omega)]
  omega
theorem mulP {y v a b : Int} (hy : 0 < y ∧ y ≤ a) (hv : 0 < v ∧ v ≤ b) : 0 < y * v ∧ y * v ≤ a * b :=
  ⟨Int.mul_pos hy.1 hv.1, Int.mul_le_mul hy.2 hv.2 (by omega) (by omega)⟩
theorem rows_5 : True := by
  (k_with "M:call ref" => (k_here; (with_reducible show wpAny _ _ (call (Value.ref 64) _) _ _ _); k_dflt ((refine' use9 (rat_c _ _ ?r32p1 ?r32p2) ?k1 ?k2 ?k3 ?k4 ?k5 ?kK ?kS ?kB ?kW ?kd ?ku ?_); k_extra "my use"; (case r32p1 => omega); (case r32p2 => omega);); k_extra "my back"))
  trivial
theorem rmul_c {B : Heap} {w : World} (x y u v : Int) (hx : -1000 ≤ x ∧ x ≤ 1000) (hy : 0 < y ∧ y ≤ 1000) (hu' : -1000 ≤ u ∧ u ≤ 1000) (hv : 0 < v ∧ v ≤ 1000) : Calc B w 85 6 40 [pr x y, pr u v] (pr (rN (x * u) (y * v)) (rD (x * u) (y * v))) := by
  unfold Calc
  intro prog p loose mean mg mb dp un gd cn cs a ccd cl outer A₀ base h₀ L m news s vs Q E Bl F X N T hk S XB hd hu W hret
  obtain ⟨v1, v2, rfl, W1, W2⟩ := W.two
  obtain ⟨a1, t1, t1', rfl, w1⟩ := W1.pr_inv
  obtain ⟨a2, t2, t2', rfl, w2⟩ := W2.pr_inv
  clear W W1 W2
  have b1 := mulB hx hu'
  have b2 := mulP hy hv
  k_extra "my enter"
  k_steps
  exact back hret (by with_reducible assumption) (by with_reducible assumption) (by k_extra "my ext") (by k_extra "my wn")
theorem rows_6 : True := by
  (k_with "M:call ref" => (k_here; (with_reducible show wpAny _ _ (call (Value.ref 85) _) _ _ _); k_dflt ((refine' use9 (rmul_c _ _ _ _ ?r33p1 ?r33p2 ?r33p3 ?r33p4) ?k1 ?k2 ?k3 ?k4 ?k5 ?kK ?kS ?kB ?kW ?kd ?ku ?_); k_extra "my use"; (case r33p1 => omega); (case r33p2 => omega); (case r33p3 => omega); (case r33p4 => omega);); k_extra "my back"))
  trivial
theorem radd_c {B : Heap} {w : World} (x y u v : Int) (hx : -1000 ≤ x ∧ x ≤ 1000) (hy : 0 < y ∧ y ≤ 1000) (hu' : -1000 ≤ u ∧ u ≤ 1000) (hv : 0 < v ∧ v ≤ 1000) : Calc B w 71 6 40 [pr x y, pr u v] (pr (rN (x * v + u * y) (y * v)) (rD (x * v + u * y) (y * v))) := by
  unfold Calc
  intro prog p loose mean mg mb dp un gd cn cs a ccd cl outer A₀ base h₀ L m news s vs Q E Bl F X N T hk S XB hd hu W hret
  obtain ⟨v1, v2, rfl, W1, W2⟩ := W.two
  obtain ⟨a1, t1, t1', rfl, w1⟩ := W1.pr_inv
  obtain ⟨a2, t2, t2', rfl, w2⟩ := W2.pr_inv
  clear W W1 W2
  have b1 := mulB hx (show -1000 ≤ v ∧ v ≤ 1000 by omega)
  have b3 := mulB hu' (show -1000 ≤ y ∧ y ≤ 1000 by omega)
  have b2 := mulP hy hv
  k_extra "my enter"
  k_steps
  exact back hret (by with_reducible assumption) (by with_reducible assumption) (by k_extra "my ext") (by k_extra "my wn")
theorem rows_7 : True := by
  (k_with "M:call ref" => (k_here; (with_reducible show wpAny _ _ (call (Value.ref 71) _) _ _ _); k_dflt ((refine' use9 (radd_c _ _ _ _ ?r34p1 ?r34p2 ?r34p3 ?r34p4) ?k1 ?k2 ?k3 ?k4 ?k5 ?kK ?kS ?kB ?kW ?kd ?ku ?_); k_extra "my use"; (case r34p1 => omega); (case r34p2 => omega); (case r34p3 => omega); (case r34p4 => omega);); k_extra "my back"))
  trivial
theorem rcompare_c {B : Heap} {w : World} (x y u v : Int) (hx : -1000 ≤ x ∧ x ≤ 1000) (hy : 0 < y ∧ y ≤ 1000) (hu' : -1000 ≤ u ∧ u ≤ 1000) (hv : 0 < v ∧ v ≤ 1000) : Calc B w 127 6 40 [pr x y, pr u v] (.int (b2i (decide (0 < x * v - u * y)) - b2i (decide (x * v - u * y < 0)))) := by
  unfold Calc
  intro prog p loose mean mg mb dp un gd cn cs a ccd cl outer A₀ base h₀ L m news s vs Q E Bl F X N T hk S XB hd hu W hret
  obtain ⟨v1, v2, rfl, W1, W2⟩ := W.two
  obtain ⟨a1, t1, t1', rfl, w1⟩ := W1.pr_inv
  obtain ⟨a2, t2, t2', rfl, w2⟩ := W2.pr_inv
  clear W W1 W2
  have b1 := mulB hx (show -1000 ≤ v ∧ v ≤ 1000 by omega)
  have b3 := mulB hu' (show -1000 ≤ y ∧ y ≤ 1000 by omega)
  k_extra "my enter"
  k_steps
  exact back hret (by with_reducible assumption) (by with_reducible assumption) (by k_extra "my ext") (by k_extra "my wn")
theorem rows_8 : True := by
  (k_with "M:call ref" => (k_here; (with_reducible show wpAny _ _ (call (Value.ref 127) _) _ _ _); k_dflt ((refine' use9 (rcompare_c _ _ _ _ ?r35p1 ?r35p2 ?r35p3 ?r35p4) ?k1 ?k2 ?k3 ?k4 ?k5 ?kK ?kS ?kB ?kW ?kd ?ku ?_); k_extra "my use"; (case r35p1 => omega); (case r35p2 => omega); (case r35p3 => omega); (case r35p4 => omega);); k_extra "my back"))
  trivial
theorem rinv_c {B : Heap} {w : World} (x y : Int) (hx : 0 < x) (hz : x < 1073741824) : Calc B w 106 6 40 [pr x y] (pr (rN y x) (rD y x)) := by
  unfold Calc
  intro prog p loose mean mg mb dp un gd cn cs a ccd cl outer A₀ base h₀ L m news s vs Q E Bl F X N T hk S XB hd hu W hret
  obtain ⟨v1, rfl, W1⟩ := W.one
  obtain ⟨a1, t1, t1', rfl, w1⟩ := W1.pr_inv
  clear W W1
  k_extra "my enter"
  k_steps
  exact back hret (by with_reducible assumption) (by with_reducible assumption) (by k_extra "my ext") (by k_extra "my wn")
theorem rows_9 : True := by
  (k_with "M:call ref" => (k_here; (with_reducible show wpAny _ _ (call (Value.ref 106) _) _ _ _); k_dflt ((refine' use9 (rinv_c _ _ ?r36p1 ?r36p2) ?k1 ?k2 ?k3 ?k4 ?k5 ?kK ?kS ?kB ?kW ?kd ?ku ?_); k_extra "my use"; (case r36p1 => omega); (case r36p2 => omega);); k_extra "my back"))
  trivial
theorem pow1 (x : Int) : x ^ Int.toNat 1 = x := by
  show x ^ (0 + 1) = x
  rw [Int.pow_succ, Int.pow_zero, Int.one_mul]
theorem Wn.of_pr' {P : Params} {B : Heap} {led : Led} {a : Addr} {x y x' y' : Int} {t t' : Tok} (h : At B led a (tupO [.int x' t, .int y' t'])) (e1 : x' = x) (e2 : y' = y) : Wn P B led (.ref a) (pr x y) := e1 ▸ e2 ▸ Wn.of_pr h
theorem rpower1_c {B : Heap} {w : World} (x y : Int) (hx : -1000 ≤ x ∧ x ≤ 1000) (hy : 0 < y ∧ y ≤ 1000) : Calc B w 113 8 50 [pr x y, .int 1] (pr x y) := by
  unfold Calc
  intro prog p loose mean mg mb dp un gd cn cs a ccd cl outer A₀ base h₀ L m news s vs Q E Bl F X N T hk S XB hd hu W hret
  obtain ⟨v1, v2, rfl, W1, W2⟩ := W.two
  obtain ⟨a1, t1, t1', rfl, w1⟩ := W1.pr_inv
  obtain ⟨t2, rfl⟩ := W2.int_inv
  clear W W1 W2
  k_extra "my enter"
  k_steps
  exact back hret (by with_reducible assumption) (by with_reducible assumption) (by k_extra "my ext") (Wn.of_pr' (by k_extra "my at") (pow1 _) (pow1 _))
theorem rpowerm_c {B : Heap} {w : World} : Calc B w 113 8 50 [pr 1 1, .int (-1)] (pr 1 1) := by
  unfold Calc
  intro prog p loose mean mg mb dp un gd cn cs a ccd cl outer A₀ base h₀ L m news s vs Q E Bl F X N T hk S XB hd hu W hret
  obtain ⟨v1, v2, rfl, W1, W2⟩ := W.two
  obtain ⟨a1, t1, t1', rfl, w1⟩ := W1.pr_inv
  obtain ⟨t2, rfl⟩ := W2.int_inv
  clear W W1 W2
  k_extra "my enter"
  k_steps
  exact back hret (by with_reducible assumption) (by with_reducible assumption) (by k_extra "my ext") (Wn.of_pr' (by k_extra "my at") (by decide) (by decide))
theorem rpower2_c {B : Heap} {w : World} : Calc B w 113 8 50 [pr 1 1, .int 2] (pr 1 1) := by
  unfold Calc
  intro prog p loose mean mg mb dp un gd cn cs a ccd cl outer A₀ base h₀ L m news s vs Q E Bl F X N T hk S XB hd hu W hret
  obtain ⟨v1, v2, rfl, W1, W2⟩ := W.two
  obtain ⟨a1, t1, t1', rfl, w1⟩ := W1.pr_inv
  obtain ⟨t2, rfl⟩ := W2.int_inv
  clear W W1 W2
  k_extra "my enter"
  k_steps
  exact back hret (by with_reducible assumption) (by with_reducible assumption) (by k_extra "my ext") (Wn.of_pr' (by k_extra "my at") (by decide) (by decide))
theorem rpower2m_c {B : Heap} {w : World} : Calc B w 113 8 50 [pr (-1) 1, .int 2] (pr 1 1) := by
  unfold Calc
  intro prog p loose mean mg mb dp un gd cn cs a ccd cl outer A₀ base h₀ L m news s vs Q E Bl F X N T hk S XB hd hu W hret
  obtain ⟨v1, v2, rfl, W1, W2⟩ := W.two
  obtain ⟨a1, t1, t1', rfl, w1⟩ := W1.pr_inv
  obtain ⟨t2, rfl⟩ := W2.int_inv
  clear W W1 W2
  k_extra "my enter"
  k_steps
  exact back hret (by with_reducible assumption) (by with_reducible assumption) (by k_extra "my ext") (Wn.of_pr' (by k_extra "my at") (by decide) (by decide))
theorem rows_10 : True := by
  (k_with "M:call ref" => (k_here; (with_reducible show wpAny _ _ (call (Value.ref 113) _) _ _ _); k_dflt ((refine' use9 (rpowerm_c ) ?k1 ?k2 ?k3 ?k4 ?k5 ?kK ?kS ?kB ?kW ?kd ?ku ?_); k_extra "my use";); k_extra "my back"))
  (k_with "M:call ref" => (k_here; (with_reducible show wpAny _ _ (call (Value.ref 113) _) _ _ _); k_dflt ((refine' use9 (rpower2_c ) ?k1 ?k2 ?k3 ?k4 ?k5 ?kK ?kS ?kB ?kW ?kd ?ku ?_); k_extra "my use";); k_extra "my back"))
  (k_with "M:call ref" => (k_here; (with_reducible show wpAny _ _ (call (Value.ref 113) _) _ _ _); k_dflt ((refine' use9 (rpower2m_c ) ?k1 ?k2 ?k3 ?k4 ?k5 ?kK ?kS ?kB ?kW ?kd ?ku ?_); k_extra "my use";); k_extra "my back"))
  (k_with "M:call ref" => (k_here; (with_reducible show wpAny _ _ (call (Value.ref 113) _) _ _ _); k_dflt ((refine' use9 (rpower1_c _ _ ?r40p1 ?r40p2) ?k1 ?k2 ?k3 ?k4 ?k5 ?kK ?kS ?kB ?kW ?kd ?ku ?_); k_extra "my use"; (case r40p1 => omega); (case r40p2 => omega);); k_extra "my back"))
  trivial
section
variable {prog : Program} {w : World} {A : Around} {E : Value → Shared → Prop} {s : Shared} {d a : Addr} {k : PyData} {n : Nat}
theorem hashK {Q : Int → Shared → Prop} (hk : keyD k = true) (W : Well w.params s.heap (.ref a) (ofPy k)) (hu : A.units + (ofPy k).depth < cLine) (h : ∀ tk, Q (hashW w.params (ofPy k)) { s with toks := tk }) : wpAny (model prog w) A (pyHash (.ref a)) Q E s :=
  pyHash_laid _ _ _ _ _ (keyD_is k hk) W hu h
theorem dictFind_nil {H : Int} {Q : Option Nat → Shared → Prop} (ho : s.heap.get? d = some (dictOf [] n)) (h : Q none s) : wpAny (model prog w) A (dictFind d (.ref a) H) Q E s := by
  unfold dictFind
  try with_reducible refine wpAny_holding ?_
  refine wpAny_bind (wpAny_dictEntries ho rfl ?_)
  have hp : placesWithHash (#[] : Array DictEntry).size (fun i => (#[] : Array DictEntry)[i]?.map (·.hash)) H = [] := by simp [placesWithHash]
  dsimp only
  rw [hp]
  rw [if_neg (by simp [carriedByValue]), if_neg (by simp), if_neg (by simp)]
  refine wpAny_bind ?_
  unfold tableMayTell
  rw [if_pos (by simp)]
  refine wpAny_pure ?_
  rw [if_neg (by simp)]
  refine wpAny_bind ?_
  rw [List.forIn_nil]
  exact wpAny_pure (wpAny_pure h)
theorem eqBool_self {b : Addr} {Q : Bool → Shared → Prop} (h : Q true s) : wpAny (model prog w) A (eqBool (.ref b) (.ref b)) Q E s := by
  unfold eqBool
  try with_reducible refine wpAny_holding ?_
  show wpAny _ _ (if (Value.ref b == Value.ref b) = true then _ else _) Q E s
  rw [if_pos (by simp)]
  exact wpAny_bind (wpAny_rule (wpAny_pure h))
theorem dictFind_same {H : Int} {v : Value} {Q : Option Nat → Shared → Prop} (ho : s.heap.get? d = some (dictOf [⟨H, .ref a, v⟩] n)) (h : Q (some 0) s) : wpAny (model prog w) A (dictFind d (.ref a) H) Q E s := by
  have hp : placesWithHash (#[(⟨H, .ref a, v⟩ : DictEntry)]).size (fun i => (#[(⟨H, .ref a, v⟩ : DictEntry)])[i]?.map (·.hash)) H = [0] := by simp [placesWithHash, List.range_succ]
  unfold dictFind
  try with_reducible refine wpAny_holding ?_
  refine wpAny_bind (wpAny_dictEntries ho rfl ?_)
  dsimp only
  rw [show ([(⟨H, .ref a, v⟩ : DictEntry)]).toArray = #[⟨H, .ref a, v⟩] from rfl]
  rw [hp]
  rw [if_neg (by simp [carriedByValue]), if_neg (by simp), if_pos (by simp)]
  refine wpAny_bind (wpAny_pure ?_)
  rw [if_neg (by simp)]
  refine wpAny_bind ?_
  rw [List.forIn_cons]
  refine wpAny_bind ?_
  show wpAny _ _ (if (H == H) = true then _ else _) _ E s
  rw [if_pos (by simp)]
  refine wpAny_bind (wpAny_dictEpoch ho rfl (wpAny_bind (eqBool_self (wpAny_bind (wpAny_dictEpoch ho rfl ?_)))))
  rw [if_neg (by simp), if_pos rfl]
  simp only [Option.isSome_none, Bool.false_eq_true, if_false]
  refine wpAny_bind (wpAny_rule ?_)
  rw [if_pos (by simp)]
  exact wpAny_pure (wpAny_pure (wpAny_pure h))
theorem dictGet_nil {Q : Option Value → Shared → Prop} (hk : keyD k = true) (W : Well w.params s.heap (.ref a) (ofPy k)) (hu : A.units + (ofPy k).depth < cLine) (ho : s.heap.get? d = some (dictOf [] n)) (h : ∀ tk, Q none { s with toks := tk }) : wpAny (model prog w) A (dictGet d (.ref a)) Q E s := by
  unfold dictGet
  try with_reducible refine wpAny_holding ?_
  exact wpAny_bind (hashK hk W hu fun tk => wpAny_bind (dictFind_nil (s := { s with toks := tk }) ho (wpAny_pure (h tk))))
theorem dictGet_same {v : Value} {Q : Option Value → Shared → Prop} (hk : keyD k = true) (W : Well w.params s.heap (.ref a) (ofPy k)) (hu : A.units + (ofPy k).depth < cLine) (ho : s.heap.get? d = some (dictOf [⟨hashW w.params (ofPy k), .ref a, v⟩] n)) (h : ∀ tk, Q (some v) { s with toks := tk }) : wpAny (model prog w) A (dictGet d (.ref a)) Q E s := by
  unfold dictGet
  try with_reducible refine wpAny_holding ?_
  exact wpAny_bind (hashK hk W hu fun tk => wpAny_bind (dictFind_same (s := { s with toks := tk }) ho (wpAny_bind (wpAny_dictEntries (s := { s with toks := tk }) ho rfl (wpAny_pure (h tk))))))
theorem dictSet_nil {v : Value} {Q : Unit → Shared → Prop} (hk : keyD k = true) (W : Well w.params s.heap (.ref a) (ofPy k)) (hu : A.units + (ofPy k).depth < cLine) (ho : s.heap.get? d = some (dictOf [] n))
    (h : ∀ h' tk, Heap.SameBut d s.heap h' → h'.get? d = some (dictOf [⟨hashW w.params (ofPy k), .ref a, v⟩] (n + 1)) → Q () { s with heap := h', toks := tk }) : wpAny (model prog w) A (dictSet d (.ref a) v) Q E s := by
  unfold dictSet
  try with_reducible refine wpAny_holding ?_
  refine wpAny_bind (hashK hk W hu fun tk => ?_)
  unfold dictSetHashed
  try with_reducible refine wpAny_holding ?_
  refine wpAny_bind (dictFind_nil (s := { s with toks := tk }) ho ?_)
  exact wpAny_bind (wpAny_rule (wpAny_updateDictKeys (hz := by decide) (s := { s with toks := tk }) ho rfl (h _ tk (Heap.SameBut.update ..) (Heap.get?_update_self _ ho rfl))))
-- the three as calls
theorem get2_nil {x : Value} {Q : Value → Shared → Prop} (hd : (d == sysModules) = false) (hk : keyD k = true) (W : Well w.params s.heap (.ref a) (ofPy k)) (hu : A.units + 1 + (ofPy k).depth < cLine) (ho : s.heap.get? d = some (dictOf [] n)) (h : ∀ tk, Q x { s with toks := tk }) :
    wpAny (model prog w) A (call (.builtin "dict.get") [.ref d, .ref a, x]) Q E s := by
  refine wpAny_call_entry PySem.F.slot_dict_get (T := "dict") ⟨_, ho, rfl⟩ PySem.F.entry_dict_get ?_ (PySem.F.args_dict_get_3 _ _ _)
  show wpAny _ _ (dictGet d (.ref a) >>= _) _ _ s
  refine wpAny_bind (dictGet_nil hk W hu ho fun tk => ?_)
  show wpAny _ _ (Builtin.Dict.missed d (.ref a) >>= _) _ _ _
  exact wpAny_bind (wpAny_missed_other hd (wpAny_pure ⟨_, rfl, h tk⟩))
theorem getItem_same {v : Value} {Q : Value → Shared → Prop} (hk : keyD k = true) (W : Well w.params s.heap (.ref a) (ofPy k)) (hu : A.units + 1 + (ofPy k).depth < cLine) (ho : s.heap.get? d = some (dictOf [⟨hashW w.params (ofPy k), .ref a, v⟩] n)) (h : ∀ tk, Q v { s with toks := tk }) :
    wpAny (model prog w) A (getItem (.ref d) (.ref a)) Q E s := by
  unfold getItem
  try with_reducible refine wpAny_holding ?_
  have hT : s.TypeIs (.ref d) "dict" := ⟨_, ho, rfl⟩
  refine wpAny_bind (wpAny_sequenceKey hT (by decide) ?_)
  refine wpAny_bind (wpAny_callSpecial?_slot (name := Str.ofString "__getitem__") hT slot_dict_getitem
    (wpAny_call_entry slot_dict_getitem hT entry_dict_getitem ?_ (args_dict_getitem _ _)))
  show wpAny _ _ (dictGet d (.ref a) >>= _) _ _ s
  exact wpAny_bind (dictGet_same hk W hu ho fun tk => wpAny_pure ⟨_, rfl, wpAny_pure (h tk)⟩)
theorem setItem_nil {v : Value} {Q : Unit → Shared → Prop} (hk : keyD k = true) (W : Well w.params s.heap (.ref a) (ofPy k)) (hu : A.units + 1 + (ofPy k).depth < cLine) (ho : s.heap.get? d = some (dictOf [] n))
    (h : ∀ h' tk, Heap.SameBut d s.heap h' → h'.get? d = some (dictOf [⟨hashW w.params (ofPy k), .ref a, v⟩] (n + 1)) → Q () { s with heap := h', toks := tk }) :
    wpAny (model prog w) A (setItem (.ref d) (.ref a) v) Q E s := by
  unfold setItem
  try with_reducible refine wpAny_holding ?_
  have hT : s.TypeIs (.ref d) "dict" := ⟨_, ho, rfl⟩
  refine wpAny_bind (wpAny_sequenceKey hT (by decide) ?_)
  refine wpAny_bind (wpAny_callSpecial?_slot (name := Str.ofString "__setitem__") hT slot_dict_setitem
    (wpAny_call_entry slot_dict_setitem hT entry_dict_setitem ?_ (args_dict_setitem _ _ _)))
  show wpAny _ _ (Builtin.Dict.notOrdered "__setitem__" ⟨[.ref d, .ref a, v], []⟩ >>= _) _ _ s
  refine wpAny_bind (wpAny_notOrdered_dict hT ?_)
  show wpAny _ _ (dictSet d (.ref a) v >>= _) _ _ s
  exact wpAny_bind (dictSet_nil hk W hu ho fun h' tk hs hg => wpAny_pure ⟨.none, rfl, wpAny_pure (h h' tk hs hg)⟩)
end
section
variable {prog : Program} {w : World} {A : Around} {E : Value → Shared → Prop} {s : Shared} {env : Env}
/-- n turns are left of a loop whose iterator is it; nothing in them raises -/
def Turns (prog : Program) (w : World) (A : Around) (env : Env) (target : PySem.Expr) (body : List Stmt) (Q : Flow → Shared → Prop) (it : Value) : Nat → Shared → Prop
  | 0, s => wpAny (model prog w) A (pyNext it) (fun r s₁ => match r with | none => Q .next s₁ | some _ => False) (fun _ _ => False) s
  | n + 1, s => wpAny (model prog w) A (pyNext it) (fun r s₁ => match r with
      | none => False
      | some v => wpAny (model prog w) A (assign target env v) (fun _ s₂ => wpAny (model prog w) A (execs body env) (fun f s₃ => match f with
          | .next | .cont => Turns prog w A env target body Q it n s₃
          | .brk => Q .next s₃
          | .ret v => Q (.ret v) s₃) (fun _ _ => False) s₂) (fun _ _ => False) s₁) (fun _ _ => False) s
/-- a turn's end -/
def TurnEnd (prog : Program) (w : World) (A : Around) (env : Env) (target : PySem.Expr) (body : List Stmt) (Q : Flow → Shared → Prop) (it : Value) (n : Nat) (f : Flow) (s₃ : Shared) : Prop := match f with
  | .next | .cont => Turns prog w A env target body Q it n s₃
  | .brk => Q .next s₃
  | .ret v => Q (.ret v) s₃
theorem turns_zero {target : PySem.Expr} {body : List Stmt} {Q : Flow → Shared → Prop} {it : Value}
    (h : wpAny (model prog w) A (pyNext it) (fun r s₁ => match r with | none => Q .next s₁ | some _ => False) (fun _ _ => False) s) : Turns prog w A env target body Q it 0 s := h
theorem turns_succ {target : PySem.Expr} {body : List Stmt} {Q : Flow → Shared → Prop} {it : Value} {n : Nat}
    (h : wpAny (model prog w) A (pyNext it) (fun r s₁ => match r with
      | none => False
      | some v => wpAny (model prog w) A (assign target env v) (fun _ s₂ => wpAny (model prog w) A (execs body env) (TurnEnd prog w A env target body Q it n) (fun _ _ => False) s₂) (fun _ _ => False) s₁) (fun _ _ => False) s) : Turns prog w A env target body Q it (n + 1) s := h
theorem For_n {target iter : PySem.Expr} {body : List Stmt} {pos : Pos} {Q : Flow → Shared → Prop} (n : Nat)
    (h : wpAny (model prog w) A (eval iter env) (fun x s₁ => wpAny (model prog w) A (pyIter x) (fun it s₂ => Turns prog w A env target body Q it n s₂) E s₁) E s)
    (ht : ∀ it v, letOwnedTupleGo target it v = pure ()) (hs : ∀ x, foldedSetIterable iter env x = pure x) : wpAny (model prog w) A (exec (.For target iter body [] pos) env) Q E s := by
  refine wpAny_For (wpAny_mono h (fun x s₁ h₁ => wpAny_mono h₁ (fun it s₂ h₂ => ?_) fun _ _ e => e) fun _ _ e => e) hs
  refine codeAny_forLoop (fun k s' => Turns prog w A env target body Q it k s') ?_ n h₂ (ht it)
  intro k s' hT
  cases k with
  | zero =>
    refine wpAny_mono hT (fun r s₁ h => ?_) fun _ _ e => e.elim
    cases r with
    | none => exact wpAny_execs_nil h
    | some v => exact h.elim
  | succ k =>
    refine wpAny_mono hT (fun r s₁ h => ?_) fun _ _ e => e.elim
    cases r with
    | none => exact h.elim
    | some v =>
      refine wpAny_mono h (fun _ s₂ h => wpAny_mono h (fun f s₃ h => ?_) fun _ _ e => e.elim) fun _ _ e => e.elim
      cases f with
      | next => exact ⟨k, Nat.lt_succ_self k, h⟩
      | cont => exact ⟨k, Nat.lt_succ_self k, h⟩
      | brk => exact h
      | ret v => exact h
/-- the key iterator of a dict with one entry -/
abbrev itD (d : Addr) (i n : Nat) : Obj := { cls := .type "dict_keyiterator", data := .fields #[.ref d, .int i 0, .int 1 0, .int n 0] }
variable {d I : Addr} {H : Int} {k v : Value} {n : Nat}
theorem iter_one {Q : Value → Shared → Prop} (lo : (d == sysModules) = false) (ho : s.heap.get? d = some (dictOf [⟨H, k, v⟩] n)) (h : Q (.ref s.heap.objs.size) { s with heap := s.heap.push (itD d 0 n) }) : wpAny (model prog w) A (pyIter (.ref d)) Q E s := by
  have hT : s.TypeIs (.ref d) "dict" := ⟨_, ho, rfl⟩
  refine wpAny_pyIter_slot hT PySem.F.slot_dict_iter (wpAny_call_entry PySem.F.slot_dict_iter hT PySem.F.entry_dict_iter ?_ (PySem.F.args_dict_iter_1 _))
  unfold Builtin.«dict.__iter__»
  refine wpAny_bind ?_
  unfold Builtin.Dict.dictSlotNone
  refine wpAny_bind (wpAny_notOrdered_dict hT (wpAny_pure ?_))
  show wpAny _ _ (Builtin.Dict.showsAll d >>= _) _ _ s
  unfold Builtin.Dict.showsAll
  rw [if_neg (by rw [lo]; exact Bool.false_ne_true)]
  refine wpAny_bind (wpAny_pure (wpAny_bind (wpAny_dictEntries ho rfl (wpAny_bind (wpAny_dictEpoch ho rfl ?_)))))
  exact wpAny_bind (wpAny_newObj_type (wpAny_pure ⟨_, rfl, "dict_keyiterator", _, ⟨_, Heap.get?_push_size _ rfl, rfl⟩, PySem.F.slot_dict_keyiterator_next.lookup, h⟩))
theorem next_one {Q : Option Value → Shared → Prop} (hI : s.heap.get? I = some (itD d 0 n)) (ho : s.heap.get? d = some (dictOf [⟨H, k, v⟩] n))
    (h : ∀ h', Heap.SameBut I s.heap h' → h'.get? I = some (itD d 1 n) → Q (some k) { s with heap := h' }) : wpAny (model prog w) A (pyNext (.ref I)) Q E s := by
  have hT : s.TypeIs (.ref I) "dict_keyiterator" := ⟨_, hI, rfl⟩
  unfold pyNext
  refine wpAny_bind (wpAny_attempt (wpAny_callSpecial?_slot (name := Str.ofString "__next__") hT PySem.F.slot_dict_keyiterator_next
    (wpAny_call_entry PySem.F.slot_dict_keyiterator_next hT PySem.F.entry_dict_keyiterator_next ?_ (PySem.F.args_dict_keyiterator_next_1 _))))
  refine wpAny_bind (wpAny_pure (wpAny_bind (wpAny_bind ?_)))
  first | refine wpAny_bind (wpAny_typeNameOfWhole_keyiter hT (wpAny_pure ?_)) | refine wpAny_bind (wpAny_typeNameOf_keyiter hT (wpAny_pure ?_))
  refine wpAny_bind (wpAny_fieldsOf hI rfl ?_)
  have hown : Builtin.Dict_items.ownsTuple "dict_keyiterator" = false := by decide
  simp only [hown, Bool.false_eq_true, if_false]
  show wpAny _ _ (if (Value.ref d == Value.none) = true then _ else _) _ _ s
  rw [if_neg (show ¬ ((Value.ref d == Value.none) = true) from Bool.false_ne_true)]
  refine wpAny_bind (wpAny_pure (wpAny_bind (wpAny_dictEntries ho rfl ?_)))
  rw [if_neg (by simp)]
  refine wpAny_bind (wpAny_pure (wpAny_bind (wpAny_dictEpoch ho rfl ?_)))
  rw [if_neg (by simp)]
  refine wpAny_pure ?_
  dsimp only
  rw [if_neg (by decide)]
  dsimp only [Int.toNat_natCast, List.getElem?_toArray, List.getElem?_cons_zero]
  refine wpAny_bind ?_
  first | refine wpAny_bind (wpAny_typeNameOfWhole_keyiter hT (wpAny_pure ?_)) | refine wpAny_bind (wpAny_typeNameOf_keyiter hT (wpAny_pure ?_))
  refine wpAny_bind (wpAny_isOneOf_keyiter hT ?_)
  show wpAny _ _ (setField (.ref I) 1 (rawInt 1) >>= _) _ _ s
  refine wpAny_bind (wpAny_setField hI rfl (by simp) ?_)
  have e : (s.heap.update I (Obj.mapFields (·.setIfInBounds 1 (rawInt 1)))).get? I = some (itD d 1 n) := (Heap.get?_update_self _ hI rfl).trans rfl
  refine wpAny_bind (wpAny_holding ?_)
  refine wpAny_bind (wpAny_isOneOf_keyiter (s := { s with heap := s.heap.update I (Obj.mapFields (·.setIfInBounds 1 (rawInt 1))) }) ⟨_, e, rfl⟩ ?_)
  show wpAny _ _ (pure k) _ _ _
  exact wpAny_pure (wpAny_pure ⟨_, rfl, wpAny_pure (h _ (Heap.SameBut.update ..) e)⟩)
theorem end_one {Q : Option Value → Shared → Prop} (hh : A.handled = none) (hI : s.heap.get? I = some (itD d 1 n)) (ho : s.heap.get? d = some (dictOf [⟨H, k, v⟩] n))
    (h : ∀ h', Heap.ExtBut I s.heap h' → Q none { s with heap := h' }) : wpAny (model prog w) A (pyNext (.ref I)) Q E s := by
  have hT : s.TypeIs (.ref I) "dict_keyiterator" := ⟨_, hI, rfl⟩
  unfold pyNext
  refine wpAny_bind (wpAny_attempt (wpAny_callSpecial?_slot (name := Str.ofString "__next__") hT PySem.F.slot_dict_keyiterator_next
    (wpAny_call_entry PySem.F.slot_dict_keyiterator_next hT PySem.F.entry_dict_keyiterator_next ?_ (PySem.F.args_dict_keyiterator_next_1 _))))
  refine wpAny_bind (wpAny_pure (wpAny_bind (wpAny_bind ?_)))
  first | refine wpAny_bind (wpAny_typeNameOfWhole_keyiter hT (wpAny_pure ?_)) | refine wpAny_bind (wpAny_typeNameOf_keyiter hT (wpAny_pure ?_))
  refine wpAny_bind (wpAny_fieldsOf hI rfl ?_)
  have hown : Builtin.Dict_items.ownsTuple "dict_keyiterator" = false := by decide
  simp only [hown, Bool.false_eq_true, if_false]
  show wpAny _ _ (if (Value.ref d == Value.none) = true then _ else _) _ _ s
  rw [if_neg (show ¬ ((Value.ref d == Value.none) = true) from Bool.false_ne_true)]
  refine wpAny_bind (wpAny_pure (wpAny_bind (wpAny_dictEntries ho rfl ?_)))
  rw [if_neg (by simp)]
  refine wpAny_bind (wpAny_pure (wpAny_bind (wpAny_dictEpoch ho rfl ?_)))
  rw [if_neg (by simp)]
  refine wpAny_pure ?_
  dsimp only
  rw [if_neg (by decide)]
  dsimp only [Int.toNat_natCast, List.getElem?_toArray, List.getElem?_cons_zero]
  refine wpAny_bind ?_
  first | refine wpAny_bind (wpAny_typeNameOfWhole_keyiter hT (wpAny_pure ?_)) | refine wpAny_bind (wpAny_typeNameOf_keyiter hT (wpAny_pure ?_))
  show wpAny _ _ (setField (.ref I) 0 .none >>= _) _ _ s
  refine wpAny_bind (wpAny_setField hI rfl (by simp) ?_)
  show wpAny _ _ (newExc (.type "StopIteration") [] >>= _) _ _ _
  refine wpAny_bind ?_
  simp only [newExc, newTuple]
  refine wpAny_bind (wpAny_newObj_type ?_ (by size_fits))
  refine wpAny_bind (m := firstArgMember _ _) (wpAny_of_eq (a := Value.none) (by first | rfl | (simp only [firstArgMember]; rfl)) ?_)
  refine wpAny_newObj_type ?_ (by size_fits)
  simp only [raiseNew]
  refine wpAny_bind (wpAny_handled ?_)
  rw [show A.in1.handled = none from hh]
  refine wpAny_bind (wpAny_pure (wpAny_throw ?_))
  refine wpAny_bind (wpAny_isInstance (T := "StopIteration") (b := true) ⟨_, Heap.get?_push_size _ rfl, rfl⟩ isSubtype_stop ?_)
  exact wpAny_pure (h _ (((Heap.SameBut.update ..).extBut.push _).push _))
end
/-- an entry leaves the ledger -/
inductive Del (d : Addr) (o : Obj) : Led → Led → Prop
  | head {r : Led} : (∀ p ∈ r, p.1 ≠ d) → Del d o ((d, o) :: r) r
  | tail {p : Addr × Obj} {r r' : Led} : p.1 ≠ d → Del d o r r' → Del d o (p :: r) (p :: r')
  | app {tl r r' : Led} : (∀ p ∈ tl, p.1 ≠ d) → Del d o r r' → Del d o (tl ++ r) (tl ++ r')
theorem Del.mem {d : Addr} {o : Obj} {l l' : Led} (D : Del d o l l') : (d, o) ∈ l ∧ ∀ p ∈ l', p ∈ l ∧ p.1 ≠ d := by
  induction D with
  | head h => exact ⟨.head _, fun p hp => ⟨.tail _ hp, h p hp⟩⟩
  | tail h _ ih =>
    refine ⟨.tail _ ih.1, fun p hp => ?_⟩
    rcases List.mem_cons.mp hp with rfl | hp
    · exact ⟨.head _, h⟩
    · exact ⟨.tail _ (ih.2 p hp).1, (ih.2 p hp).2⟩
  | app h _ ih =>
    refine ⟨List.mem_append.mpr (.inr ih.1), fun p hp => ?_⟩
    rcases List.mem_append.mp hp with hp | hp
    · exact ⟨List.mem_append.mpr (.inl hp), h p hp⟩
    · exact ⟨List.mem_append.mpr (.inr (ih.2 p hp).1), (ih.2 p hp).2⟩
theorem upd_mem {d : Addr} {o o' : Obj} {l l' : Led} (U : Upd d o o' l l') : (d, o) ∈ l ∧ ∀ p ∈ l', p = (d, o') ∨ (p ∈ l ∧ p.1 ≠ d) := by
  obtain ⟨pre, post, rfl, rfl, h1, h2⟩ := U.split
  refine ⟨List.mem_append.mpr (.inr (.head _)), fun p hp => ?_⟩
  rcases List.mem_append.mp hp with hp | hp
  · exact .inr ⟨List.mem_append.mpr (.inl hp), h1 p hp⟩
  · rcases List.mem_cons.mp hp with rfl | hp
    · exact .inl rfl
    · exact .inr ⟨List.mem_append.mpr (.inr (.tail _ hp)), h2 p hp⟩
theorem Del.keep {T : Obj → Prop} {d : Addr} {o : Obj} {l l' : Led} (D : Del d o l l') (t : ¬ T o) : Keep T l l' := by
  induction D with
  | head _ =>
    intro p hp q
    rcases List.mem_cons.mp hp with rfl | hp
    · exact absurd q t
    · exact hp
  | tail _ _ ih =>
    intro p hp q
    rcases List.mem_cons.mp hp with rfl | hp
    · exact .head _
    · exact .tail _ (ih p hp q)
  | app _ _ ih =>
    intro p hp q
    rcases List.mem_append.mp hp with hp | hp
    · exact List.mem_append.mpr (.inl hp)
    · exact List.mem_append.mpr (.inr (ih p hp q))
theorem upd_keep {T : Obj → Prop} {d : Addr} {o o' : Obj} {l l' : Led} (U : Upd d o o' l l') (t : ¬ T o) : Keep T l l' := by
  obtain ⟨pre, post, rfl, rfl, _, _⟩ := U.split
  intro p hp q
  rcases List.mem_append.mp hp with hp | hp
  · exact List.mem_append.mpr (.inl hp)
  · rcases List.mem_cons.mp hp with rfl | hp
    · exact absurd q t
    · exact List.mem_append.mpr (.inr (.tail _ hp))
section
variable {h₀ h h' : Heap} {L d : Addr} {m : Str → Option Value} {news news' : Led} {o o' : Obj}
theorem fr_ext (F : Fr h₀ L h m) (hs : Heap.ExtBut d h h') (h1 : d ≠ L) (h2 : h₀.get? d = none) : Fr h₀ L h' m := by
  obtain ⟨oL, es, ep, hL, r⟩ := F.ns
  refine ⟨⟨oL, es, ep, hs L oL (Ne.symm h1) hL, r⟩, fun b x e => hs b x (fun q => ?_) (F.keep b x e), F.above⟩
  rw [q, h2] at e; cases e
theorem del_led (F : Fr h₀ L h m) (N : News h₀ L h news) (D : Del d o news news') (hs : Heap.ExtBut d h h') : Fr h₀ L h' m ∧ News h₀ L h' news' :=
  have z := N _ D.mem.1
  ⟨fr_ext F hs z.2.1 z.2.2, fun p hp => have q := D.mem.2 p hp; ⟨hs _ _ q.2 (N p q.1).1, (N p q.1).2⟩⟩
theorem upd_led (F : Fr h₀ L h m) (N : News h₀ L h news) (U : Upd d o o' news news') (hs : Heap.SameBut d h h') (hd : h'.get? d = some o') : Fr h₀ L h' m ∧ News h₀ L h' news' := by
  have z := N _ (upd_mem U).1
  refine ⟨fr_ext F hs.extBut z.2.1 z.2.2, fun p hp => ?_⟩
  rcases (upd_mem U).2 p hp with rfl | q
  · exact ⟨hd, z.2⟩
  · exact ⟨hs.extBut _ _ q.2 (N p q.1).1, (N p q.1).2⟩
end
theorem ne_new {d D : Addr} {o : Obj} {l : Led} (h : ∀ p ∈ l, p.1 < D) (m : (d, o) ∈ l) : D ≠ d := fun e => Nat.lt_irrefl _ (e ▸ h _ m)
theorem ne_old {d : Addr} {l : Led} (h : ∀ p ∈ l, p.1 < d) : ∀ p ∈ l, p.1 ≠ d := fun p hp => Nat.ne_of_lt (h p hp)
theorem ne_old1 {d : Addr} {l : Led} (h : ∀ p ∈ l, p.1 < d) : ∀ p ∈ l, p.1 ≠ d + 1 := fun p hp => Nat.ne_of_lt (Nat.lt_succ_of_lt (h p hp))
theorem ne_call {d : Addr} {o : Obj} {l tl : Led} (h : ∀ q ∈ l, ∀ p ∈ tl, q.1 < p.1) (m : (d, o) ∈ l) : ∀ p ∈ tl, p.1 ≠ d := fun p hp => Nat.ne_of_gt (h _ m p hp)
section
variable {prog : Program} {w : World} {A : Around} {E : Value → Shared → Prop} {s : Shared} {B h₀ : Heap} {L : Addr} {m : Str → Option Value} {news news' led : Led} {d I : Addr} {H : Int} {k v : Value} {n : Nat}
theorem at_get {a : Addr} {o : Obj} (S : B.StaysIn h₀) (F : Fr h₀ L s.heap m) (N : News h₀ L s.heap news) (x : At B led a o) (hs : ∀ p ∈ led, p ∈ news) : s.heap.get? a = some o :=
  x.get (fun b o e => F.keep b o (S b o e)) (fun p hp => (N p (hs p hp)).1)
theorem led_iter {Q : Value → Shared → Prop} (S : B.StaysIn h₀) (F : Fr h₀ L s.heap m) (N : News h₀ L s.heap news) (y : At B led d (dictOf [⟨H, k, v⟩] n)) (hs : ∀ p ∈ led, p ∈ news) (lo : (d == sysModules) = false)
    (h : ∀ I h', Fr h₀ L h' m → News h₀ L h' ((I, itD d 0 n) :: news) → (∀ p ∈ news, p.1 < I) → Q (.ref I) { s with heap := h' }) : wpAny (model prog w) A (pyIter (.ref d)) Q E s :=
  iter_one lo (at_get S F N y hs) (h _ _ (F.push _) (N.push F _) fun p hp => Heap.lt_size (N p hp).1)
theorem led_next {Q : Option Value → Shared → Prop} (S : B.StaysIn h₀) (F : Fr h₀ L s.heap m) (N : News h₀ L s.heap news) (y : At B led d (dictOf [⟨H, k, v⟩] n)) (hs : ∀ p ∈ led, p ∈ news) (U : Upd I (itD d 0 n) (itD d 1 n) news news')
    (h : ∀ h', Fr h₀ L h' m → News h₀ L h' news' → Keep TD news news' → Q (some k) { s with heap := h' }) : wpAny (model prog w) A (pyNext (.ref I)) Q E s :=
  next_one (N _ (upd_mem U).1).1 (at_get S F N y hs) fun h' hb hI => have z := upd_led F N U hb hI; h h' z.1 z.2 (upd_keep U (notTD rfl (by decide) (by decide)))
theorem led_end {Q : Option Value → Shared → Prop} (hh : A.handled = none) (S : B.StaysIn h₀) (F : Fr h₀ L s.heap m) (N : News h₀ L s.heap news) (y : At B led d (dictOf [⟨H, k, v⟩] n)) (hs : ∀ p ∈ led, p ∈ news) (D : Del I (itD d 1 n) news news')
    (h : ∀ h', Fr h₀ L h' m → News h₀ L h' news' → Keep TD news news' → Q none { s with heap := h' }) : wpAny (model prog w) A (pyNext (.ref I)) Q E s :=
  end_one hh (N _ D.mem.1).1 (at_get S F N y hs) fun h' hb => have z := del_led F N D hb; h h' z.1 z.2 (D.keep (notTD rfl (by decide) (by decide)))
theorem len_body {Q : Value → Shared → Prop} (lo : (d == sysModules) = false) {es : List DictEntry} (hz : es.length < 100) (ho : s.heap.get? d = some (dictOf es n)) (h : ∀ t tk, Q (.int es.length t) { s with toks := tk }) :
    wpAny (model prog w) A (call (.builtin "len") [.ref d]) Q E s := by
  have hT : s.TypeIs (.ref d) "dict" := ⟨_, ho, rfl⟩
  refine Calls.call_function_entry kind_len plain_len entry_len (args_len1 _) ?_
  unfold Builtin.«len»
  refine wpAny_bind (m := oneArg "len" _) (wpAny_pure ?_)
  refine wpAny_bind (m := callSpecial? (.ref d) (Str.ofString "__len__")) (wpAny_callSpecial?_slot (name := Str.ofString "__len__") hT PySem.F.slot_dict_len
    (wpAny_call_entry PySem.F.slot_dict_len hT PySem.F.entry_dict_len ?_ (PySem.F.args_dict_len_1 _)))
  unfold Builtin.«dict.__len__»
  refine wpAny_bind ?_
  unfold Builtin.Dict.dictSlotNone
  refine wpAny_bind (wpAny_notOrdered_dict hT (wpAny_pure ?_))
  show wpAny _ _ (dictSize d >>= _) _ _ s
  unfold dictSize
  refine wpAny_bind (wpAny_bind (wpAny_dictEntries ho rfl (wpAny_pure ?_)))
  show wpAny _ _ (Builtin.Dict.pendingCount d >>= _) _ _ s
  refine wpAny_bind (wpAny_pendingCount_other lo (wpAny_ret_mkInt ?_))
  have hz' : ((es.toArray.size : Int) + ((0 : Nat) : Int)) = es.length := by simp
  generalize ((es.toArray.size : Int) + ((0 : Nat) : Int)) = z at hz'
  refine wpAny_bind (wpAny_holding (wpAny_pure ?_))
  refine wpAny_bind (wpAny_letGo ?_)
  dsimp only
  rw [if_neg (by omega), if_neg (by omega)]
  exact wpAny_bind (wpAny_mkInt (wpAny_pure ⟨_, rfl, hz' ▸ h (s.toks + 1) (s.toks + 1 + 1)⟩))
/-- an empty dict -/
theorem led_dict {Q : Value → Shared → Prop} {pos : Pos} {env : Env} (F : Fr h₀ L s.heap m) (N : News h₀ L s.heap news) (hb : h₀.NoLimit) (h : ∀ d h', Fr h₀ L h' m → News h₀ L h' ((d, dictOf [] 0) :: news) → (∀ p ∈ news, p.1 < d) → (d == sysModules) = false → Q (.ref d) { s with heap := h' }) :
    wpAny (model prog w) A (eval (.Dict [] [] pos) env) Q E s :=
  wpAny_Dict_empty (h _ _ (F.push _) (News.push F N _) (fun p hp => Heap.lt_size (N p hp).1) (F.notModules (modules_low hb)))
theorem disp1 {ke ve : PySem.Expr} {env : Env} (f : Sem Value → Sem Value) : dictDisplay ((evalEachOpt [some ke] env).zip ((evalEach [ve] env).map f)) = (do let d ← subDict [(eval ke env, f (eval ve env))]; pure (.ref d)) := by
  rw [arm_evalEachOpt_cons, arm_evalEachOpt_nil, arm_evalEach_cons, arm_evalEach_nil, arm_evalOpt_some]
  exact dictDisplay_pairs [(eval ke env, f (eval ve env))] (by simp) (by simp)
/-- a dict of one written pair -/
theorem led_dict1 {Q : Value → Shared → Prop} {ke ve : PySem.Expr} {pos : Pos} {env : Env} (F : Fr h₀ L s.heap m) (N : News h₀ L s.heap news) (hb : h₀.NoLimit)
    (h : ∀ d h', Fr h₀ L h' m → News h₀ L h' ((d, dictOf [] 0) :: news) → (∀ p ∈ news, p.1 < d) → (d == sysModules) = false →
      wpAny (model prog w) A (eval ke env) (fun kv s₁ => wpAny (model prog w) A (eval ve env) (fun vv s₂ => wpAny (model prog w) A (dictSet d kv vv) (fun _ s₃ => Q (.ref d) s₃) E s₂) E s₁) E { s with heap := h' }) :
    wpAny (model prog w) A (eval (.Dict [some ke] [ve] pos) env) Q E s := by
  rw [arm_eval_Dict]
  refine wpAny_bind (wpAny_standAt ?_)
  rw [disp1]
  refine wpAny_bind ?_
  unfold subDict
  refine wpAny_bind (wpAny_alloc (wpAny_bind (wpAny_holding ?_)))
  rw [if_pos (by simp)]
  refine wpAny_bind (evalPairs_cons (wpAny_mono (h _ _ (F.push _) (News.push F N _) (fun p hp => Heap.lt_size (N p hp).1) (F.notModules (modules_low hb))) (fun kv s₁ h₁ => ?_) fun _ _ e => e))
  refine wpAny_bind (wpAny_mono h₁ (fun vv s₂ h₂ => wpAny_bind (wpAny_standAt (wpAny_pure (evalPairs_nil ?_)))) fun _ _ e => e)
  refine wpAny_holding (wpAny_bind ?_)
  rw [List.forIn_cons]
  refine wpAny_bind (wpAny_bind (wpAny_mono h₂ (fun _ s₃ h₃ => wpAny_pure ?_) fun _ _ e => e))
  dsimp only
  rw [List.forIn_nil]
  exact wpAny_pure (wpAny_pure (wpAny_pure (wpAny_pure h₃)))
variable {a : Addr} {kd : PyData}
theorem key_well {v : Value} (S : B.StaysIn h₀) (F : Fr h₀ L s.heap m) (N : News h₀ L s.heap news) (W : Wn w.params B led v kd) (hs : ∀ p ∈ led, p ∈ news) (hk : keyD kd = true) : Well w.params s.heap v (ofPy kd) :=
  W.well (fun b o e => F.keep b o (S b o e)) (fun p hp => (N p (hs p hp)).1) hk
theorem led_set {Q : Unit → Shared → Prop} (hk : keyD kd = true) (hd : (ofPy kd).depth ≤ 8) (hu : A.units + 9 < cLine) (S : B.StaysIn h₀) (F : Fr h₀ L s.heap m) (N : News h₀ L s.heap news) (W : Wn w.params B led (.ref a) kd) (hs : ∀ p ∈ led, p ∈ news)
    (U : Upd d (dictOf [] n) (dictOf [⟨hashW w.params (ofPy kd), .ref a, v⟩] (n + 1)) news news') (h : ∀ h' tk, Fr h₀ L h' m → News h₀ L h' news' → Keep TupO news news' → Q () { s with heap := h', toks := tk }) : wpAny (model prog w) A (dictSet d (.ref a) v) Q E s :=
  dictSet_nil hk (key_well S F N W hs hk) (by omega) (N _ (upd_mem U).1).1 fun h' tk hb hg => have z := upd_led F N U hb hg; h h' tk z.1 z.2 (upd_keep U (notTup rfl))
theorem led_setItem {Q : Unit → Shared → Prop} (hk : keyD kd = true) (hd : (ofPy kd).depth ≤ 8) (hu : A.units + 9 < cLine) (S : B.StaysIn h₀) (F : Fr h₀ L s.heap m) (N : News h₀ L s.heap news) (W : Wn w.params B led (.ref a) kd) (hs : ∀ p ∈ led, p ∈ news)
    (U : Upd d (dictOf [] n) (dictOf [⟨hashW w.params (ofPy kd), .ref a, v⟩] (n + 1)) news news') (h : ∀ h' tk, Fr h₀ L h' m → News h₀ L h' news' → Keep TupO news news' → Q () { s with heap := h', toks := tk }) : wpAny (model prog w) A (setItem (.ref d) (.ref a) v) Q E s :=
  setItem_nil hk (key_well S F N W hs hk) (by omega) (N _ (upd_mem U).1).1 fun h' tk hb hg => have z := upd_led F N U hb hg; h h' tk z.1 z.2 (upd_keep U (notTup rfl))
theorem led_get2 {x : Value} {Q : Value → Shared → Prop} {led' : Led} (hk : keyD kd = true) (hd : (ofPy kd).depth ≤ 8) (hu : A.units + 9 < cLine) (S : B.StaysIn h₀) (F : Fr h₀ L s.heap m) (N : News h₀ L s.heap news) (W : Wn w.params B led (.ref a) kd) (hs : ∀ p ∈ led, p ∈ news)
    (y : At B led' d (dictOf [] n)) (hs' : ∀ p ∈ led', p ∈ news) (lo : (d == sysModules) = false) (h : ∀ tk, Q x { s with toks := tk }) : wpAny (model prog w) A (call (.builtin "dict.get") [.ref d, .ref a, x]) Q E s :=
  get2_nil lo hk (key_well S F N W hs hk) (by omega) (at_get S F N y hs') h
theorem led_getItem {Q : Value → Shared → Prop} {led' : Led} (hk : keyD kd = true) (hd : (ofPy kd).depth ≤ 8) (hu : A.units + 9 < cLine) (S : B.StaysIn h₀) (F : Fr h₀ L s.heap m) (N : News h₀ L s.heap news) (W : Wn w.params B led (.ref a) kd) (hs : ∀ p ∈ led, p ∈ news)
    (y : At B led' d (dictOf [⟨hashW w.params (ofPy kd), .ref a, v⟩] n)) (hs' : ∀ p ∈ led', p ∈ news) (h : ∀ tk, Q v { s with toks := tk }) : wpAny (model prog w) A (getItem (.ref d) (.ref a)) Q E s :=
  getItem_same hk (key_well S F N W hs hk) (by omega) (at_get S F N y hs') h
theorem led_item {value slice : PySem.Expr} {Q : Value → Shared → Prop} {led' : Led} (hk : keyD kd = true) (hd : (ofPy kd).depth ≤ 8) (hu : A.units + 9 < cLine) (S : B.StaysIn h₀) (F : Fr h₀ L s.heap m) (N : News h₀ L s.heap news) (W : Wn w.params B led (.ref a) kd) (hs : ∀ p ∈ led, p ∈ news)
    (y : At B led' d (dictOf [⟨hashW w.params (ofPy kd), .ref a, v⟩] n)) (hs' : ∀ p ∈ led', p ∈ news) (h : ∀ tk, Q v { s with toks := tk })
    (hq : subscripted slice false (.ref d) (.ref a) = operate [.ref d, .ref a] (getItem (.ref d) (.ref a)) := by with_unfolding_all rfl) : wpAny (model prog w) A (subscriptTail value slice (.ref d) (.ref a)) Q E s :=
  tail_any ⟨_, at_get S F N y hs', rfl⟩ slot_dict_getitem.lookup (led_getItem hk hd hu S F N W hs y hs' h) hq
theorem led_len {es : List DictEntry} {Q : Value → Shared → Prop} (S : B.StaysIn h₀) (F : Fr h₀ L s.heap m) (N : News h₀ L s.heap news) (y : At B led d (dictOf es n)) (hs : ∀ p ∈ led, p ∈ news) (lo : (d == sysModules) = false) (hz : es.length < 100)
    (h : ∀ t tk, Q (.int es.length t) { s with toks := tk }) : wpAny (model prog w) A (call (.builtin "len") [.ref d]) Q E s := len_body lo hz (at_get S F N y hs) h
theorem led_lenT {vs : List Value} {Q : Value → Shared → Prop} (S : B.StaysIn h₀) (F : Fr h₀ L s.heap m) (N : News h₀ L s.heap news) (y : At B led d (tupO vs)) (hs : ∀ p ∈ led, p ∈ news) (hz : vs.length < 100)
    (h : ∀ t tk, Q (.int vs.length t) { s with toks := tk }) : wpAny (model prog w) A (call (.builtin "len") [.ref d]) Q E s :=
  PyProof.Rows.len_tuple (at_tup S F N y hs) (by simp; omega) (by simpa using h _ _)
theorem led_get {es : List DictEntry} {pl : Sem Bool} {Q : Value × List Value → Shared → Prop} (S : B.StaysIn h₀) (F : Fr h₀ L s.heap m) (N : News h₀ L s.heap news) (y : At B led d (dictOf es n)) (hs : ∀ p ∈ led, p ∈ news)
    (h : Q (.builtin "dict.get", [.ref d]) s) : wpAny (model prog w) A (getMethod (.ref d) (Str.ofString "get") pl) Q E s :=
  have ho := at_get S F N y hs
  getMethod_builtin ⟨_, ho, rfl⟩ PySem.F.plainAttrs_dict PySem.F.slot_dict_get PySem.F.type_dict_get (fun b e => by injection e with e; subst e; exact ⟨_, ho, rfl⟩) h
end
theorem turnEnd_next {prog : Program} {w : World} {A : Around} {env : Env} {target : PySem.Expr} {body : List Stmt} {Q : Flow → Shared → Prop} {it : Value} {n : Nat} {s : Shared} (h : Turns prog w A env target body Q it n s) : TurnEnd prog w A env target body Q it n .next s := h
theorem turnEnd_ret {prog : Program} {w : World} {A : Around} {env : Env} {target : PySem.Expr} {body : List Stmt} {Q : Flow → Shared → Prop} {it v : Value} {n : Nat} {s : Shared} (h : Q (.ret v) s) : TurnEnd prog w A env target body Q it n (.ret v) s := h
theorem rows_11 : True := by
  (k_with "my ne" => first
  | (refine' ne_new (by with_reducible assumption) ?_; rotate_right; k_mem)
  | (refine' Ne.symm (ne_new (by with_reducible assumption) ?_); rotate_right; k_mem)
  | k_ne
  | fail "my ne")
  (k_with "my nes" => first
  | exact List.forall_mem_nil _
  | (refine' List.forall_mem_cons.mpr ⟨?_, ?_⟩; (focus (k_extra "my ne"; done)); (focus (k_extra "my nes"; done)))
  | (refine' ne_old ?_; k_extra "my lt")
  | (refine' ne_old1 ?_; k_extra "my lt")
  | (refine' List.forall_mem_append.mpr ⟨?_, ?_⟩; (focus (k_extra "my nes"; done)); (focus (k_extra "my nes"; done)))
  | (refine' ne_call (by with_reducible assumption) ?_; rotate_right; k_mem)
  | fail "my nes")
  trivial
local macro_rules | `(tactic| k_all) => `(tactic| k_extra "my nes")
theorem rows_12 : True := by
  (k_with "my upd" => first
  | (refine' Upd.head ?_; k_extra "my nes")
  | (refine' Upd.tail ?_ ?_; rotate_right; (focus (k_extra "my upd"; done)); (focus (k_extra "my ne"; done)))
  | (refine' Upd.appR ?_ ?_; rotate_right; (focus (k_extra "my upd"; done)); (focus (k_extra "my nes"; done)))
  | (refine UpdG.upd (by with_reducible assumption) _)
  | fail "my upd")
  (k_with "my del" => first
  | (refine' Del.head ?_; k_extra "my nes")
  | (refine' Del.tail ?_ ?_; rotate_right; (focus (k_extra "my del"; done)); (focus (k_extra "my ne"; done)))
  | (refine' Del.app ?_ ?_; rotate_right; (focus (k_extra "my del"; done)); (focus (k_extra "my nes"; done)))
  | fail "my del")
  (k_with "M:exec For Name Name cons nil" => (
  k_here;
  (refine' For_n 1 ?_ ?r45ht ?r45hs; (case r45ht => exact fun _ _ => rfl); (case r45hs => exact fun _ => rfl));
  k_extra "my name";
  k_dflt (refine' led_iter ?S ?F ?N ?r45y (fun _ h9 => h9) ?r45lo ?_; (case S => with_reducible assumption); (case F => with_reducible assumption); (case N => with_reducible assumption); (case r45y => k_extra "my at"); (case r45lo => with_reducible assumption));
  (intro I'_r h'_r F'_r N'_r l1_r); (try k_sweep)))
  (k_with "M:Turns" => first | refine turns_zero ?_ | refine turns_succ ?_)
  (k_with "M:TurnEnd" => first | refine turnEnd_next ?_ | refine turnEnd_ret ?_)
  (k_with "M:pyNext ref" => (k_here; k_dflt (first
  | (refine' led_next ?S ?F ?N ?r48y (fun _ h9 => h9) ?r48U ?_; (case S => with_reducible assumption); (case F => with_reducible assumption); (case N => with_reducible assumption); (case r48U => k_extra "my upd"); (case r48y => k_extra "my at"); intro h'_r F'_r N'_r K'_r; (try dsimp only); (try k_sweep))
  | (refine' led_end ?r48hh ?S ?F ?N ?r48y (fun _ h9 => h9) ?r48D ?_; (case r48hh => exact rfl); (case S => with_reducible assumption); (case F => with_reducible assumption); (case N => with_reducible assumption); (case r48D => k_extra "my del"); (case r48y => k_extra "my at"); intro h'_r F'_r N'_r K'_r; (try dsimp only); (try k_sweep)))))
  (k_with "M:eval Dict nil nil" => (k_here; k_dflt (refine' led_dict ?F ?N ?r49b ?_; (case F => with_reducible assumption); (case N => with_reducible assumption); (case r49b => exact Top.nolimit (by with_reducible assumption))); (intro d'_r h'_r F'_r N'_r l1_r lo'_r); (try k_sweep)))
  (k_with "M:eval Dict cons cons" => (k_here; k_dflt (refine' led_dict1 ?F ?N ?r50b ?_; (case F => with_reducible assumption); (case N => with_reducible assumption); (case r50b => exact Top.nolimit (by with_reducible assumption))); (intro d'_r h'_r F'_r N'_r l1_r lo'_r); (try k_sweep)))
  (k_with "my key2" => (
  (case W => k_extra "my wn"); (case hk => first | with_reducible assumption | exact rfl | (simp only [keyD, keyD.keyDs, Bool.and_true, Bool.and_self]; done)); (case hd => first | with_reducible assumption | exact Nat.le_of_ble_eq_true rfl | decide | (simp [ofPy, ofPys, WData.depth, WData.depthAll]; done)); (case u => k_extra "my units")))
  (k_with "my key" => ((case S => with_reducible assumption); (case F => with_reducible assumption); (case N => with_reducible assumption); k_extra "my key2"))
  (k_with "M:dictSet ref ref" => (k_here; k_dflt (refine' led_set ?hk ?hd ?u ?S ?F ?N ?W (fun _ h9 => h9) ?r53U ?_; k_extra "my key"; (case r53U => k_extra "my upd")); (intro h'_r tk'_r F'_r N'_r K'_r); (try k_sweep)))
  (k_with "M:setItem ref ref" => (k_here; k_dflt (refine' led_setItem ?hk ?hd ?u ?S ?F ?N ?W (fun _ h9 => h9) ?r54U ?_; k_extra "my key"; (case r54U => k_extra "my upd")); (intro h'_r tk'_r F'_r N'_r K'_r); (try k_sweep)))
  (k_with "M:subscriptTail" => (k_here; (with_reducible show wpAny _ _ (subscriptTail _ _ (Value.ref _) (Value.ref _)) _ _ _); k_dflt (refine' led_item ?hk ?hd ?u ?S ?F ?N ?W (fun _ h9 => h9) ?r55y (fun _ h9 => h9) ?_; (case S => with_reducible assumption); (case F => with_reducible assumption); (case N => with_reducible assumption); (case r55y => k_extra "my at"); k_extra "my key2"); (intro tk'_r)))
  (k_with "M:call builtin:dict.get" => (k_here; (with_reducible show wpAny _ _ (call (Value.builtin "dict.get") [Value.ref _, Value.ref _, _]) _ _ _); k_dflt (refine' led_get2 ?hk ?hd ?u ?S ?F ?N ?W (fun _ h9 => h9) ?r56y (fun _ h9 => h9) ?r56lo ?_; (case S => with_reducible assumption); (case F => with_reducible assumption); (case N => with_reducible assumption); (case r56y => k_extra "my at"); k_extra "my key2"; (case r56lo => with_reducible assumption)); (intro tk'_r)))
  (k_with "M:call builtin:len" => (k_here; (with_reducible show wpAny _ _ (call (Value.builtin "len") [Value.ref _]) _ _ _); k_dflt (first
  | (refine' led_len ?S ?F ?N ?r57y (fun _ h9 => h9) ?r57lo ?r57z ?_; (case S => with_reducible assumption); (case F => with_reducible assumption); (case N => with_reducible assumption); (case r57y => k_extra "my at"); (case r57lo => with_reducible assumption); (case r57z => exact Nat.le_of_ble_eq_true rfl))
  | (refine' led_lenT ?S ?F ?N ?r57y (fun _ h9 => h9) ?r57z ?_; (case S => with_reducible assumption); (case F => with_reducible assumption); (case N => with_reducible assumption); (case r57y => k_extra "my at"); (case r57z => exact Nat.le_of_ble_eq_true rfl))); intro t'_r tk'_r; (try simp only [List.length_cons, List.length_nil])))
  (k_with "M:getMethod ref" => (k_here; k_dflt (refine' led_get ?S ?F ?N ?r58y (fun _ h9 => h9) ?_; (case S => with_reducible assumption); (case F => with_reducible assumption); (case N => with_reducible assumption); (case r58y => k_extra "my at"))))
  (k_with "M:call type:list" => (k_here; (with_reducible show wpAny _ _ (call (Value.type "list") [Value.ref _]) _ _ _); k_dflt (refine' list_copyKT ?F ?N ?r59t ?_ ?r59z; (case F => with_reducible assumption); (case N => with_reducible assumption); (case r59t => exact at_tup (by with_reducible assumption) (by with_reducible assumption) (by with_reducible assumption) (by k_extra "my at") (fun _ h9 => h9)); (case r59z => exact Nat.le_of_ble_eq_true rfl)); (intro D'_r c'_r h'_r F'_r N'_r l1_r); (try k_sweep)))
  trivial
theorem keys_none : typeLookup (.type "list") "keys" = pure none := am_miss_of_fast (by kernel_rfl)
theorem keys_miss {prog : Program} {w : World} {A : Around} {E : Value → Shared → Prop} {s : Shared} {a : Addr} {xs : Array Value} {k : Nat} {Q : Option Value → Shared → Prop}
    (hx : s.heap.get? a = some { cls := .type "list", data := .seq xs k }) (hA : A.handled = none)
    (h : ∀ h' tk, s.heap.StaysIn h' → Q none { s with heap := h', toks := tk }) : wpAny (model prog w) A (getAttr? (.ref a) "keys") Q E s := by
  obtain ⟨hp, g, d, tk, os⟩ := s
  have hT : ∀ tk', (⟨hp, g, d, tk', os⟩ : Shared).TypeIs (.ref a) "list" := fun _ => ⟨_, hx, rfl⟩
  have f1 := sub_AttributeError
  have f3 := PySem.F.slot_list_getattribute.lookup
  have f4 := PySem.F.slot_list_getattribute.bind (.ref a)
  have f5 := am_list_getattr_none
  unfold getAttr? getAttrBy? getAttrBy
  repeat (any_goals (first | assumption | exact hT _ | ((with_reducible show wpAny _ _ (call (Value.builtin "list.__getattribute__") _ _) _ _ _); refine call_meets PySem.F.slot_list_getattribute (hT _) am_entry_list_getattribute (PySem.F.args_list_getattribute_2 _ _) (meets_getattribute_miss_list a xs k #[] _ _ keys_none (by decide) (by decide +kernel)) ⟨hx, hA, fun h' tk' e hx' => ?_⟩) | wp_step))
  obtain ⟨t', u', he⟩ := hx'.there
  show wpAny _ _ (getattributeRaised _ _ _ _ _ _ _) _ _ _
  unfold getattributeRaised
  repeat (any_goals (first | assumption | wp_step))
  exact h _ _ hx'.keeps
theorem loop_entry : entryFor table "dict.update.loop" = some Builtin.«dict.update.loop» := entryFor_of_fast (by kernel_rfl)
theorem loop_plain : plainId "dict.update.loop" = true := by decide +kernel
theorem dict_nil {prog : Program} {w : World} {A : Around} {E : Value → Shared → Prop} {s : Shared} {l : Addr} {k : Nat} {Q : Value → Shared → Prop} (hx : s.heap.get? l = some { cls := .type "list", data := .seq #[] k }) (hA : A.handled = none)
    (h : ∀ h' tk, s.heap.StaysIn h' → h'.get? s.heap.objs.size = some (dictOf [] 0) → Q (.ref s.heap.objs.size) { s with heap := h', toks := tk }) : wpAny (model prog w) A (call (.type "dict") [.ref l]) Q E s := by
  refine callType_codes (Q₁ := fun obj s₁ => obj = .ref s.heap.objs.size ∧ s₁ = { s with heap := s.heap.push { cls := .type "dict", data := .dict #[] } }) PySem.F.kt_called_dict (PySem.F.kt_typeCall_dict_1 _) PySem.F.entry_dict_init (kt_code_dict_new _ ⟨rfl, rfl⟩) ?_
  rintro obj s₁ ⟨rfl, rfl⟩
  have hd : (s.heap.push { cls := .type "dict", data := .dict #[] }).get? s.heap.objs.size = some (dictOf [] 0) := Heap.get?_push_size _ rfl
  have hl := Heap.get?_push_of_some { cls := .type "dict", data := .dict #[] } hx
  have hT : ({ s with heap := s.heap.push { cls := .type "dict", data := .dict #[] } } : Shared).TypeIs (.ref s.heap.objs.size) "dict" := ⟨_, hd, rfl⟩
  refine ⟨hT, PySem.F.args_dict_init_2 _ _, ?_⟩
  unfold Builtin.«dict.__init__»
  refine wpAny_bind ?_
  unfold Builtin.Dict.selfAndRest
  refine wpAny_bind (wpAny_notOrdered_dict hT ?_)
  show wpAny _ _ (pure (s.heap.objs.size, [Value.ref l])) _ _ _
  refine wpAny_pure ?_
  show wpAny _ _ (Builtin.Dict.updateFrom "dict.__init__" s.heap.objs.size (.ref l) [] .none) _ _ _
  unfold Builtin.Dict.updateFrom
  refine wpAny_bind (wpAny_typeOf (T := "list") ⟨_, hl, rfl⟩ ?_)
  rw [if_pos (by decide)]
  refine wpAny_bind (keys_miss hl hA fun h' tk hs => ?_)
  rw [if_pos (show (none : Option Value).isNone = true from rfl)]
  have hT' : ({ s with heap := h', toks := tk } : Shared).TypeIs (.ref s.heap.objs.size) "dict" := ⟨_, hs _ _ hd, rfl⟩
  have hl' : h'.IsList l #[] := ⟨_, hs _ _ hl, rfl, _, rfl⟩
  refine wpAny_bind (wpAny_rule ?_)
  refine wpAny_bind (wpAny_pyIter_list (s := { s with heap := h', toks := tk }) hl' ?_)
  refine wpAny_pure ⟨Code.quiet_builtin _ (by decide +kernel), codeAny_builtin loop_entry ?_⟩
  rw [Around.under_plainId loop_plain _]
  unfold Builtin.«dict.update.loop»
  dsimp only
  have hit : (h'.push { cls := .type "list_iterator", data := .fields #[.ref l, .int 0 0] }).IsListIter h'.objs.size l 0 := ⟨_, Heap.get?_push_size _ rfl, rfl, rfl⟩
  refine wpAny_bind (wpAny_pyNext_list_end (s := { s with heap := h'.push { cls := .type "list_iterator", data := .fields #[.ref l, .int 0 0] }, toks := tk }) hA hit ⟨_, Heap.get?_push_of_some _ (hs _ _ hl), rfl, _, rfl⟩ (by rfl) fun h2 hb => ?_)
  have up : ∀ b o, (s.heap.push { cls := .type "dict", data := .dict #[] }).get? b = some o → h2.get? b = some o := fun b o e =>
    hb b o (Nat.ne_of_lt (Heap.lt_size (hs b o e))) (Heap.get?_push_of_some _ (hs b o e))
  show wpAny _ _ (Builtin.Dict.addKeywords s.heap.objs.size [] >>= _) _ _ _
  exact wpAny_bind (wpAny_pure (wpAny_pure ⟨rfl, h h2 _ (fun b o e => up b o (Heap.get?_push_of_some _ e)) (up _ _ hd)⟩))
/-- an entry of the ledger becomes another object, whichever -/
inductive UpdG (d : Addr) (o : Obj) : Led → (Obj → Led) → Prop
  | head {r : Led} : (∀ p ∈ r, p.1 ≠ d) → UpdG d o ((d, o) :: r) (fun o' => (d, o') :: r)
  | tail {p : Addr × Obj} {r : Led} {g : Obj → Led} : p.1 ≠ d → UpdG d o r g → UpdG d o (p :: r) (fun o' => p :: g o')
  | app {tl r : Led} {g : Obj → Led} : (∀ p ∈ tl, p.1 ≠ d) → UpdG d o r g → UpdG d o (tl ++ r) (fun o' => tl ++ g o')
theorem UpdG.upd {d : Addr} {o : Obj} {l : Led} {g : Obj → Led} (U : UpdG d o l g) (o' : Obj) : Upd d o o' l (g o') := by
  induction U with
  | head h => exact .head h
  | tail h _ ih => exact .tail h ih
  | app h _ ih => exact Upd.app ih h
/-- a tuple's iterator at its place -/
structure TI (o : Obj) (t : Addr) (i : Nat) : Prop where
  c : o.cls = .type "tuple_iterator"
  d : o.data = .fields #[.ref t, .int i 0]
section
variable {prog : Program} {w : World} {A : Around} {E : Value → Shared → Prop} {s : Shared} {env : Env}
theorem For_0 {target iter : PySem.Expr} {body : List Stmt} {pos : Pos} {Q : Flow → Shared → Prop}
    (h : wpAny (model prog w) A (eval iter env) (fun x s₁ => wpAny (model prog w) A (pyIter x) (fun it s₂ => Turns prog w A env target body Q it 0 s₂) E s₁) E s)
    (hs : ∀ x, foldedSetIterable iter env x = pure x) : wpAny (model prog w) A (exec (.For target iter body [] pos) env) Q E s := by
  refine wpAny_For (wpAny_mono h (fun x s₁ h₁ => wpAny_mono h₁ (fun it s₂ h₂ => ?_) fun _ _ e => e) fun _ _ e => e) hs
  refine codeAny_forLoop_any (fun k s' => Turns prog w A env target body Q it 0 s') ?_ 0 h₂
  intro k s' hT
  refine wpAny_mono hT (fun r s₁ h => ?_) fun _ _ e => e.elim
  cases r with
  | none => exact wpAny_execs_nil h
  | some v => exact h.elim
variable {B h₀ : Heap} {L : Addr} {m : Str → Option Value} {news led : Led} {t I : Addr} {vs : List Value} {v : Value} {n i : Nat} {o : Obj} {g : Obj → Led}
theorem led_iterT {Q : Value → Shared → Prop} (S : B.StaysIn h₀) (F : Fr h₀ L s.heap m) (N : News h₀ L s.heap news) (y : At B led t (tupO vs)) (hs : ∀ p ∈ led, p ∈ news)
    (h : ∀ I o h', Fr h₀ L h' m → News h₀ L h' ((I, o) :: news) → (∀ p ∈ news, p.1 < I) → TI o t 0 → Q (.ref I) { s with heap := h' }) : wpAny (model prog w) A (pyIter (.ref t)) Q E s :=
  wpAny_pyIter_tuple (at_tup S F N y hs) (h _ _ _ (F.push _) (News.push F N _) (fun p hp => Heap.lt_size (N p hp).1) ⟨rfl, rfl⟩)
theorem led_nextT {Q : Option Value → Shared → Prop} (S : B.StaysIn h₀) (F : Fr h₀ L s.heap m) (N : News h₀ L s.heap news) (y : At B led t (tupO vs)) (hs : ∀ p ∈ led, p ∈ news) (z : TI o t i) (hx : vs[i]? = some v) (U : UpdG I o news g)
    (h : ∀ o' h', TI o' t (i + 1) → Fr h₀ L h' m → News h₀ L h' (g o') → Keep TD news (g o') → Q (some v) { s with heap := h' }) : wpAny (model prog w) A (pyNext (.ref I)) Q E s :=
  wpAny_pyNext_tuple_item ⟨o, (N _ (upd_mem (U.upd o)).1).1, z.c, z.d⟩ (at_tup S F N y hs) (by simpa using hx) fun h' hi hb => by
    obtain ⟨o', hg, hc, hd⟩ := hi
    have q := upd_led F N (U.upd o') hb hg
    exact h o' h' ⟨hc, hd⟩ q.1 q.2 (upd_keep (U.upd o') (notTD z.c (by decide) (by decide)))
theorem led_endT {Q : Option Value → Shared → Prop} {news' : Led} (hh : A.handled = none) (S : B.StaysIn h₀) (F : Fr h₀ L s.heap m) (N : News h₀ L s.heap news) (y : At B led t (tupO vs)) (hs : ∀ p ∈ led, p ∈ news) (z : TI o t i) (hx : vs[i]? = none) (D : Del I o news news')
    (h : ∀ h', Fr h₀ L h' m → News h₀ L h' news' → Keep TD news news' → Q none { s with heap := h' }) : wpAny (model prog w) A (pyNext (.ref I)) Q E s :=
  wpAny_pyNext_tuple_end hh ⟨o, (N _ D.mem.1).1, z.c, z.d⟩ (at_tup S F N y hs) (by simpa using hx) fun h' hb => have q := del_led F N D hb; h h' q.1 q.2 (D.keep (notTD z.c (by decide) (by decide)))
theorem led_dictNil {Q : Value → Shared → Prop} {l : Addr} {c : Nat} (F : Fr h₀ L s.heap m) (N : News h₀ L s.heap news) (hl : (l, listOf #[] c) ∈ news) (hh : A.handled = none) (hb : h₀.NoLimit)
    (h : ∀ d h' tk, Fr h₀ L h' m → News h₀ L h' ((d, dictOf [] 0) :: news) → (∀ p ∈ news, p.1 < d) → (d == sysModules) = false → Q (.ref d) { s with heap := h', toks := tk }) : wpAny (model prog w) A (call (.type "dict") [.ref l]) Q E s :=
  dict_nil (N _ hl).1 hh fun h' tk hk hd => h _ h' tk (F.keeps hk) (news_pushed F N hk hd rfl) (fun p hp => Heap.lt_size (N p hp).1) (F.notModules (modules_low hb))
end
abbrev CellO (o : Obj) (v : Option Value) : Prop := o.data = .cell v
theorem notTD_cell {o : Obj} {v : Option Value} (h : CellO o v) : ¬ TD o := by
  rintro (⟨vs, rfl⟩ | ⟨es, n, rfl⟩) <;> cases h
section
variable {M : Model} {A : Around} {E : Value → Shared → Prop} {s : Shared} {h₀ : Heap} {L a : Addr} {m : Str → Option Value} {cn : Str} {cs : Scope} {ccd : Value} {cl : List (Str × Addr)}
  {x : Str} {v : Value} {Q : Unit → Shared → Prop} {news : Led} {g : Obj → Led} {c : Addr} {o : Obj} {v₀ : Option Value}
theorem storeX_G (F : Fr h₀ L s.heap m) (N : News h₀ L s.heap news) (hc : cl.lookup x = some c) (U : UpdG c o news g) (hd : CellO o v₀)
    (h : ∀ h' o', Fr h₀ L h' m → News h₀ L h' (g o') → CellO o' (some v) → Keep TD news (g o') → Q () { s with heap := h' })
    (hk : cs.kind = .function := by rfl) (hx : (envX cn cs L a ccd cl).kindOf x = some .cell := by rfl) : wpAny M A (storeName (envX cn cs L a ccd cl) x v) Q E s := by
  obtain ⟨_, post, _, _, _, _⟩ := (U.upd o).split
  have hmem := N (c, o) (upd_mem (U.upd o)).1
  refine wpAny_storeName_cell hk hx hc ⟨o, hmem.1, hd⟩ fun h' hv hs => ?_
  obtain ⟨o', ho', hd'⟩ := hv
  have q := upd_led F N (U.upd o') hs ho'
  exact h h' o' q.1 q.2 hd' (upd_keep (U.upd o') (notTD_cell hd))
end
theorem rows_13 : True := by
  (k_with "my updG" => first
  | (refine' UpdG.head ?_; k_extra "my nes")
  | (refine' UpdG.tail ?_ ?_; rotate_right; (focus (k_extra "my updG"; done)); (focus (k_extra "my ne"; done)))
  | (refine' UpdG.app ?_ ?_; rotate_right; (focus (k_extra "my updG"; done)); (focus (k_extra "my nes"; done)))
  | fail "my updG")
  (k_with "M:pyNext ref" => (k_here; k_dflt (first
  | (refine' led_nextT ?S ?F ?N ?r61y (fun _ h9 => h9) ?r61z ?r61x ?r61U ?_; (case r61z => with_reducible assumption); (case S => with_reducible assumption); (case F => with_reducible assumption); (case N => with_reducible assumption); (case r61y => k_extra "my at"); (case r61x => exact rfl); (case r61U => k_extra "my updG"); (intro o'_r h'_r z'_r F'_r N'_r K'_r); (try dsimp only at N'_r K'_r); (try dsimp only); (try k_sweep))
  | (refine' led_endT ?r61hh ?S ?F ?N ?r61y (fun _ h9 => h9) ?r61z ?r61x ?r61D ?_; (case r61z => with_reducible assumption); (case r61hh => exact rfl); (case S => with_reducible assumption); (case F => with_reducible assumption); (case N => with_reducible assumption); (case r61y => k_extra "my at"); (case r61x => exact rfl); (case r61D => k_extra "my del"); intro h'_r F'_r N'_r K'_r; (try dsimp only); (try k_sweep)))))
  (k_with "M:exec For Tuple Name cons nil" => (
  k_here;
  (refine' For_0 ?_ ?r62hs; (case r62hs => exact fun _ => rfl));
  k_extra "my name";
  k_dflt (refine' led_iterT (vs := []) ?S ?F ?N ?r62y (fun _ h9 => h9) ?_; (case S => with_reducible assumption); (case F => with_reducible assumption); (case N => with_reducible assumption); (case r62y => k_extra "my at"));
  (intro I'_r o'_r h'_r F'_r N'_r l1_r z'_r); (try k_sweep)))
  (k_with "M:call type:dict" => (k_here; (with_reducible show wpAny _ _ (call (Value.type "dict") [Value.ref _]) _ _ _); k_dflt (refine' led_dictNil ?F ?N ?r63l ?r63hh ?r63b ?_; (case F => with_reducible assumption); (case N => with_reducible assumption); (case r63l => k_mem); (case r63hh => exact rfl); (case r63b => exact Top.nolimit (by with_reducible assumption))); (intro d'_r h'_r tk'_r F'_r N'_r l1_r lo'_r); (try k_sweep)))
  (k_with "M:storeName" => (k_here; k_dflt (refine' storeX_G ?F ?N ?r64c ?r64U ?d ?_ ?k1 ?k2; (case k1 => rfl); (case k2 => rfl); (case F => with_reducible assumption); (case N => with_reducible assumption); (case r64c => rfl); (case r64U => k_extra "my updG"); (case d => with_reducible assumption); k_whole); (intro h'_r o'_r F'_r N'_r d'_r K'_r); (try dsimp only at N'_r K'_r); (try k_sweep)))
  trivial
section
variable {prog : Program} {w : World} {A : Around} {E : Value → Shared → Prop} {s : Shared} {env : Env}
/-- n turns are left of a list comprehension; nothing in them raises -/
def CTurns (prog : Program) (w : World) (A : Around) (env : Env) (target elt : PySem.Expr) (acc : Value) (R : Shared → Prop) (it : Value) : Nat → Shared → Prop
  | 0, s => wpAny (model prog w) A (pyNext it) (fun r s₁ => match r with | none => R s₁ | some _ => False) (fun _ _ => False) s
  | n + 1, s => wpAny (model prog w) A (pyNext it) (fun r s₁ => match r with
      | none => False
      | some v => wpAny (model prog w) A (letOwnedTupleGo target it v) (fun _ s₂ => wpAny (model prog w) A (assign target env v) (fun _ s₃ => wpAny (model prog w) A (eval elt env) (fun x s₄ =>
          wpAny (model prog w) A (call (.builtin "list.append") [acc, x]) (fun _ s₅ => CTurns prog w A env target elt acc R it n s₅) (fun _ _ => False) s₄) (fun _ _ => False) s₃) (fun _ _ => False) s₂) (fun _ _ => False) s₁) (fun _ _ => False) s
theorem cturns_zero {target elt : PySem.Expr} {acc it : Value} {R : Shared → Prop} (h : wpAny (model prog w) A (pyNext it) (fun r s₁ => match r with | none => R s₁ | some _ => False) (fun _ _ => False) s) : CTurns prog w A env target elt acc R it 0 s := h
theorem cturns_succ {target elt : PySem.Expr} {acc it : Value} {R : Shared → Prop} {n : Nat} (h : wpAny (model prog w) A (pyNext it) (fun r s₁ => match r with
      | none => False
      | some v => wpAny (model prog w) A (letOwnedTupleGo target it v) (fun _ s₂ => wpAny (model prog w) A (assign target env v) (fun _ s₃ => wpAny (model prog w) A (eval elt env) (fun x s₄ =>
          wpAny (model prog w) A (call (.builtin "list.append") [acc, x]) (fun _ s₅ => CTurns prog w A env target elt acc R it n s₅) (fun _ _ => False) s₄) (fun _ _ => False) s₃) (fun _ _ => False) s₂) (fun _ _ => False) s₁) (fun _ _ => False) s) : CTurns prog w A env target elt acc R it (n + 1) s := h
theorem comp_loop0 {target elt iter : PySem.Expr} {ifs : List PySem.Expr} {scope : Scope} {pos : Pos} {acc it : Value} {R : Result → Shared → Prop}
    (h : CTurns prog w A env target elt acc (R (.ok .next)) it 0 s) : codeAny (model prog w) A (.compLoop (.ListComp elt [⟨target, iter, ifs, 0⟩] scope pos) 0 it acc env) R s := by
  refine codeAny_loop rfl (fun n s' => n = 0 ∧ s' = s) (fun n s' hI => ?_) 0 ⟨rfl, rfl⟩
  obtain ⟨rfl, rfl⟩ := hI
  show wpAny _ _ ((compTurn (.ListComp elt [⟨target, iter, ifs, 0⟩] scope pos) 0 it acc env).onRaise (fun x => do noteFrame x env; theTreesLotGoes x)) _ _ s'
  refine wpAny_noted ?_
  unfold compTurn
  show wpAny _ _ (standAt iter.pos >>= _) _ _ s'
  refine wpAny_bind (wpAny_standAt ?_)
  show wpAny _ _ (pyNext it >>= _) _ _ s'
  refine wpAny_bind (wpAny_mono h (fun r s₁ h₁ => ?_) fun _ _ e => e.elim)
  cases r with
  | none => exact wpAny_pure h₁
  | some v => exact h₁.elim
theorem comp_loop {target elt iter : PySem.Expr} {scope : Scope} {pos : Pos} {acc it : Value} {R : Result → Shared → Prop} (n : Nat)
    (h : CTurns prog w A env target elt acc (R (.ok .next)) it n s) : codeAny (model prog w) A (.compLoop (.ListComp elt [⟨target, iter, [], 0⟩] scope pos) 0 it acc env) R s := by
  refine codeAny_loop rfl (fun k s' => CTurns prog w A env target elt acc (R (.ok .next)) it k s') (fun k s' hI => ?_) n h
  show wpAny _ _ ((compTurn (.ListComp elt [⟨target, iter, [], 0⟩] scope pos) 0 it acc env).onRaise (fun x => do noteFrame x env; theTreesLotGoes x)) _ _ s'
  refine wpAny_noted ?_
  rw [compTurn_list1]
  refine wpAny_bind (wpAny_standAt (wpAny_bind ?_))
  cases k with
  | zero =>
    refine wpAny_mono hI (fun r s₁ h₁ => ?_) fun _ _ e => e.elim
    cases r with
    | none => exact wpAny_pure h₁
    | some v => exact h₁.elim
  | succ k =>
    refine wpAny_mono hI (fun r s₁ h₁ => ?_) fun _ _ e => e.elim
    cases r with
    | none => exact h₁.elim
    | some v =>
      refine wpAny_bind (wpAny_mono h₁ (fun _ s₂ h₂ => ?_) fun _ _ e => e.elim)
      refine wpAny_bind (wpAny_mono h₂ (fun _ s₃ h₃ => ?_) fun _ _ e => e.elim)
      refine wpAny_bind (wpAny_bind (wpAny_mono h₃ (fun x s₄ h₄ => ?_) fun _ _ e => e.elim))
      refine wpAny_bind (wpAny_mono h₄ (fun _ s₅ h₅ => ?_) fun _ _ e => e.elim)
      exact wpAny_pure (wpAny_pure ⟨rfl, k, Nat.lt_succ_self k, h₅⟩)
/-- the end of a comprehension: its own names are let go -/
def CEnd (Q : Value → Shared → Prop) (acc : Value) (C : Addr) (s' : Shared) : Prop := ∃ m, s'.heap.Ns C m ∧ ∀ h', Heap.SameBut C s'.heap h' → Q acc { s' with heap := h' }
/-- the start of a comprehension whose iterator is at hand: a new list, a new name space -/
def CStart (prog : Program) (w : World) (A : Around) (E : Value → Shared → Prop) (scope : Scope) (cl : List (Str × Addr)) (env : Env) (target elt : PySem.Expr) (n : Nat) (Q : Value → Shared → Prop) (it : Value) (s : Shared) : Prop :=
  (∀ (Q' : Value → Shared → Prop) (E' : Value → Shared → Prop) (s' : Shared), s.heap.StaysIn s'.heap → Q' it s' → wpAny (model prog w) A (pyIter it) Q' E' s') ∧
  wpAny (model prog w) A (newList []) (fun acc s₃ => s.heap.StaysIn s₃.heap ∧ ∀ h', h'.Ns s₃.heap.objs.size (fun _ => none) → Heap.SameBut s₃.heap.objs.size (s₃.heap.push { cls := .type "dict", data := .dict #[] }) h' →
    CTurns prog w A (compEnvC scope cl s₃.heap.objs.size env) target elt acc (CEnd Q acc s₃.heap.objs.size) it n { s₃ with heap := h' }) E s
theorem list_comp {target elt iter : PySem.Expr} {ifs : List PySem.Expr} {scope : Scope} {pos : Pos} {cl : List (Str × Addr)} {Q : Value → Shared → Prop} (n : Nat) (hn : n = 0 ∨ ifs = [])
    (hclos : closureFor scope env = pure cl) (hcell : ∀ y ∈ scope.names, y.2 ≠ .cell) (hkind : scope.kind = .function) (hnames : ∀ y ∈ scope.names, y.2 = .local → scope.names.lookup y.1 = some .local)
    (hs : ∀ x, foldedSetIterable iter env x = pure x)
    (h : wpAny (model prog w) A (eval iter env) (fun x s₁ => wpAny (model prog w) A (pyIter x) (fun it s₂ => CStart prog w A E scope cl env target elt n Q it s₂) E s₁) E s) :
    wpAny (model prog w) A (eval (.ListComp elt [⟨target, iter, ifs, 0⟩] scope pos) env) Q E s := by
  rw [eval_ListComp]
  refine wpAny_comprehension_free (use := none) rfl hs hclos hkind hnames (wpAny_mono h (fun xv s₁ h₁ => wpAny_mono h₁ (fun it s₂ h₂ => ?_) fun _ _ e => e) fun _ _ e => e)
  obtain ⟨hit, h₃⟩ := h₂
  refine wpAny_mono h₃ (fun acc s₃ k => ?_) fun _ _ e => e
  refine wpAny_newFunctionEnv hcell (by intro y hy; simp at hy) (fun h₁ hns hsb => ?_) hkind
  have hk := k.2 h₁ hns hsb
  have st : s₂.heap.StaysIn h₁ := fun b o e => hsb.extBut b o (Nat.ne_of_lt (Heap.lt_size (k.1 b o e))) (Heap.get?_push_of_some _ (k.1 b o e))
  have go : ∀ it', it' = it → codeAny (model prog w) A (.compLoop (.ListComp elt [⟨target, iter, ifs, 0⟩] scope pos) 0 it' acc (compEnvC scope cl s₃.heap.objs.size env))
      (compPost (model prog w) A E none Q acc s₃.heap.objs.size) { s₃ with heap := h₁ } := by
    rintro _ rfl
    rcases hn with rfl | rfl
    · exact comp_loop0 hk
    · exact comp_loop n hk
  exact codeAny_compStart_list (go it rfl) (hit _ _ _ st (go it rfl))

end
/-- an object that is a name space -/
def NsO (o : Obj) (m : Str → Option Value) : Prop := ∃ es ep, o.data = .dict es ep ∧ StrKeys es ∧ ∀ name, nsFind es name = m name
section
variable {prog : Program} {w : World} {A : Around} {E : Value → Shared → Prop} {s : Shared} {env : Env} {B h₀ : Heap} {L C D I t : Addr} {m mC : Str → Option Value} {news news' led : Led} {o oC : Obj} {g : Obj → Led} {i n : Nat}
theorem NsO.notTup (z : NsO oC mC) : ¬ TupO oC := let ⟨_, _, a, _⟩ := z; Mine.notTup a
theorem NsO.at {h : Heap} (z : NsO oC mC) (hg : h.get? C = some oC) : h.Ns C mC := let ⟨es, ep, a, b, c⟩ := z; ⟨oC, es, ep, hg, a, b, c⟩
theorem nsO_of {h : Heap} (x : h.Ns C mC) : ∃ o, h.get? C = some o ∧ NsO o mC := let ⟨o, es, ep, hg, a, b, c⟩ := x; ⟨o, hg, es, ep, a, b, c⟩
theorem led_comp {scope : Scope} {cl : List (Str × Addr)} {target elt : PySem.Expr} {Q : Value → Shared → Prop} (F : Fr h₀ L s.heap m) (N : News h₀ L s.heap news) (hI : (I, o) ∈ news)
    (self : ∀ (Q' : Value → Shared → Prop) (E' : Value → Shared → Prop) (s' : Shared), s'.heap.get? I = some o → Q' (.ref I) s' → wpAny (model prog w) A (pyIter (.ref I)) Q' E' s')
    (h : ∀ D C oC h', Fr h₀ L h' m → News h₀ L h' ((C, oC) :: (D, listOf #[] 0) :: news) → (∀ p ∈ news, p.1 < D) → (∀ p ∈ news, p.1 < C) → D < C → NsO oC (fun _ => none) →
      CTurns prog w A (compEnvC scope cl C env) target elt (.ref D) (CEnd Q (.ref D) C) (.ref I) n { s with heap := h' }) : CStart prog w A E scope cl env target elt n Q (.ref I) s := by
  refine ⟨fun Q' E' s' hs q => self Q' E' s' (hs _ _ (N _ hI).1) q, wpAny_newObj_type ?_ (Nat.zero_le _)⟩
  refine ⟨fun b o e => Heap.get?_push_of_some _ e, fun h' hn hb => ?_⟩
  obtain ⟨oC, hC, z⟩ := nsO_of hn
  have F1 := F.push { cls := .type "list", data := .seq ([] : List Value).toArray }
  have N1 := News.push F N { cls := .type "list", data := .seq ([] : List Value).toArray }
  have k : ∀ b o', (s.heap.push { cls := .type "list", data := .seq ([] : List Value).toArray }).get? b = some o' → h'.get? b = some o' := fun b o' e =>
    hb.extBut b o' (Nat.ne_of_lt (Heap.lt_size e)) (Heap.get?_push_of_some _ e)
  refine h _ _ oC h' (F1.keeps k) ?_ (fun p hp => Heap.lt_size (N p hp).1) (fun p hp => Heap.lt_size (N1 p (.tail _ hp)).1) ?_ z
  · intro p hp
    rcases List.mem_cons.mp hp with rfl | hp
    · exact ⟨hC, Nat.ne_of_gt F1.ns.lt, none_at_size (s := { s with heap := s.heap.push { cls := .type "list", data := .seq ([] : List Value).toArray } }) F1⟩
    · exact ⟨k _ _ (N1 p hp).1, (N1 p hp).2⟩
  · show s.heap.objs.size < (s.heap.push _).objs.size
    rw [Heap.size_push]
    exact Nat.lt_succ_self _
theorem led_compT {scope : Scope} {cl : List (Str × Addr)} {target elt : PySem.Expr} {Q : Value → Shared → Prop} (F : Fr h₀ L s.heap m) (N : News h₀ L s.heap news) (z : TI o t i) (hI : (I, o) ∈ news)
    (h : ∀ D C oC h', Fr h₀ L h' m → News h₀ L h' ((C, oC) :: (D, listOf #[] 0) :: news) → (∀ p ∈ news, p.1 < D) → (∀ p ∈ news, p.1 < C) → D < C → NsO oC (fun _ => none) →
      CTurns prog w A (compEnvC scope cl C env) target elt (.ref D) (CEnd Q (.ref D) C) (.ref I) n { s with heap := h' }) : CStart prog w A E scope cl env target elt n Q (.ref I) s :=
  led_comp F N hI (fun _ _ _ e q => wpAny_pyIter_tupleiter ⟨o, e, z.c, z.d⟩ q) h
theorem led_cend {Q : Value → Shared → Prop} {acc : Value} (F : Fr h₀ L s.heap m) (N : News h₀ L s.heap news) (z : NsO oC mC) (d : Del C oC news news') (h : ∀ h', Fr h₀ L h' m → News h₀ L h' news' → Keep TupO news news' → Q acc { s with heap := h' }) : CEnd Q acc C s :=
  ⟨mC, z.at (N _ d.mem.1).1, fun h' hb => have q := del_led F N d hb.extBut; h h' q.1 q.2 (d.keep z.notTup)⟩
theorem led_stC {x : Str} {v : Value} {scope : Scope} {cl : List (Str × Addr)} {Q : Unit → Shared → Prop} (F : Fr h₀ L s.heap m) (N : News h₀ L s.heap news) (z : NsO oC mC) (U : UpdG C oC news g) (hl : (compEnvC scope cl C env).kindOf x = some .local) (hk : scope.kind = .function)
    (h : ∀ o' h', NsO o' (fun y => if y = x then some v else mC y) → Fr h₀ L h' m → News h₀ L h' (g o') → Keep TupO news (g o') → Q () { s with heap := h', toks := s.toks + 1 }) : wpAny (model prog w) A (storeName (compEnvC scope cl C env) x v) Q E s := by
  refine wpAny_storeName_local hl (z.at (N _ (upd_mem (U.upd oC)).1).1) (fun h' hn hb => ?_) ?_
  · obtain ⟨o', hg, z'⟩ := nsO_of hn
    have q := upd_led F N (U.upd o') hb hg
    exact h o' h' z' q.1 q.2 (upd_keep (U.upd o') z.notTup)
  · show (scope.kind == .class || (scope.kind == .module && _)) = false
    rw [hk]; rfl
theorem led_ldC {x : Str} {pos : Pos} {v : Value} {scope : Scope} {cl : List (Str × Addr)} {Q : Value → Shared → Prop} (N : News h₀ L s.heap news) (z : NsO oC mC) (hm : (C, oC) ∈ news) (hv : mC x = some v) (hl : (compEnvC scope cl C env).kindOf x = some .local) (hk : scope.kind = .function)
    (hd : (x == ("__debug__" : Str)) = false) (h : Q v s) : wpAny (model prog w) A (eval (.Name x pos) (compEnvC scope cl C env)) Q E s :=
  wpAny_Name (wpAny_loadName_local hk hl (z.at (N _ hm).1) hv h) hd
theorem led_ldCell {x : Str} {pos : Pos} {v : Value} {c : Addr} {scope : Scope} {cl : List (Str × Addr)} {Q : Value → Shared → Prop} (N : News h₀ L s.heap news) (hl : (compEnvC scope cl C env).kindOf x = some .cell) (hk : scope.kind = .function) (hc : cl.lookup x = some c) (hm : (c, o) ∈ news) (ho : o.data = .cell (some v))
    (hd : (x == ("__debug__" : Str)) = false) (h : Q v s) : wpAny (model prog w) A (eval (.Name x pos) (compEnvC scope cl C env)) Q E s :=
  wpAny_Name (wpAny_loadName_cell hk hl hc ⟨o, (N _ hm).1, ho⟩ h) hd
theorem led_ownT {elts : List PySem.Expr} {x1 : Nat} {pos : Pos} {v : Value} {Q : Unit → Shared → Prop} (N : News h₀ L s.heap news) (z : TI o t i) (hI : (I, o) ∈ news) (h : Q () s) : wpAny (model prog w) A (letOwnedTupleGo (.Tuple elts x1 pos) (.ref I) v) Q E s := by
  unfold letOwnedTupleGo
  cases v with
  | ref a =>
    refine wpAny_bind (wpAny_load (N _ hI).1 ?_)
    rw [z.c, z.d]
    exact wpAny_pure h
  | _ => exact wpAny_pure h
theorem led_own {x : Str} {pos : Pos} {it v : Value} {Q : Unit → Shared → Prop} (h : Q () s) : wpAny (model prog w) A (letOwnedTupleGo (.Name x pos) it v) Q E s := wpAny_pure h
/-- a list's iterator at its place -/
structure LI (o : Obj) (l : Addr) (i : Nat) : Prop where
  c : o.cls = .type "list_iterator"
  d : o.data = .fields #[.ref l, .int i 0]
theorem led_compL {scope : Scope} {cl : List (Str × Addr)} {target elt : PySem.Expr} {Q : Value → Shared → Prop} {l : Addr} (F : Fr h₀ L s.heap m) (N : News h₀ L s.heap news) (z : LI o l i) (hI : (I, o) ∈ news)
    (h : ∀ D C oC h', Fr h₀ L h' m → News h₀ L h' ((C, oC) :: (D, listOf #[] 0) :: news) → (∀ p ∈ news, p.1 < D) → (∀ p ∈ news, p.1 < C) → D < C → NsO oC (fun _ => none) →
      CTurns prog w A (compEnvC scope cl C env) target elt (.ref D) (CEnd Q (.ref D) C) (.ref I) n { s with heap := h' }) : CStart prog w A E scope cl env target elt n Q (.ref I) s :=
  led_comp F N hI (fun _ _ _ e q => wpAny_pyIter_listiter ⟨o, e, z.c, z.d⟩ q) h
theorem led_iterL {Q : Value → Shared → Prop} {l : Addr} {its : Array Value} {c : Nat} (F : Fr h₀ L s.heap m) (N : News h₀ L s.heap news) (hl : (l, listOf its c) ∈ news)
    (h : ∀ I o h', Fr h₀ L h' m → News h₀ L h' ((I, o) :: news) → (∀ p ∈ news, p.1 < I) → LI o l 0 → Q (.ref I) { s with heap := h' }) : wpAny (model prog w) A (pyIter (.ref l)) Q E s :=
  wpAny_pyIter_list ⟨_, (N _ hl).1, rfl, _, rfl⟩ (h _ _ _ (F.push _) (News.push F N _) (fun p hp => Heap.lt_size (N p hp).1) ⟨rfl, rfl⟩)
theorem led_nextL {Q : Option Value → Shared → Prop} {l : Addr} {its : Array Value} {c : Nat} {v : Value} (F : Fr h₀ L s.heap m) (N : News h₀ L s.heap news) (hl : (l, listOf its c) ∈ news) (z : LI o l i) (hx : its[i]? = some v) (U : UpdG I o news g)
    (h : ∀ o' h', LI o' l (i + 1) → Fr h₀ L h' m → News h₀ L h' (g o') → Keep TD news (g o') → Q (some v) { s with heap := h' }) : wpAny (model prog w) A (pyNext (.ref I)) Q E s :=
  wpAny_pyNext_list_item ⟨o, (N _ (upd_mem (U.upd o)).1).1, z.c, z.d⟩ ⟨_, (N _ hl).1, rfl, _, rfl⟩ hx fun h' hi hb => by
    obtain ⟨o', hg, hc, hd⟩ := hi
    have q := upd_led F N (U.upd o') hb hg
    exact h o' h' ⟨hc, hd⟩ q.1 q.2 (upd_keep (U.upd o') (notTD z.c (by decide) (by decide)))
theorem led_append {Q : Value → Shared → Prop} {its : Array Value} {c : Nat} {x : Value} {l : Addr} {news' : Led} (F : Fr h₀ L s.heap m) (N : News h₀ L s.heap news) (U : Upd l (listOf its c) (listOf (its.push x) (c + 1)) news news')
    (h : ∀ h', Fr h₀ L h' m → News h₀ L h' news' → Keep TD news news' → Q .none { s with heap := h' }) (hsz : its.size ≤ sizeLine) : wpAny (model prog w) A (call (.builtin "list.append") [.ref l, x]) Q E s :=
  append_K F N U (fun h' F' N' => h h' F' N' (upd_keep U (notTD rfl (by decide) (by decide)))) hsz
theorem led_endL {Q : Option Value → Shared → Prop} {l : Addr} {its : Array Value} {c : Nat} (hh : A.handled = none) (F : Fr h₀ L s.heap m) (N : News h₀ L s.heap news) (hl : (l, listOf its c) ∈ news) (z : LI o l i) (hx : its[i]? = none) (D : Del I o news news')
    (h : ∀ h', Fr h₀ L h' m → News h₀ L h' news' → Keep TD news news' → Q none { s with heap := h' }) : wpAny (model prog w) A (pyNext (.ref I)) Q E s :=
  wpAny_pyNext_list_end hh ⟨o, (N _ D.mem.1).1, z.c, z.d⟩ ⟨_, (N _ hl).1, rfl, _, rfl⟩ hx fun h' hb => have q := del_led F N D hb; h h' q.1 q.2 (D.keep (notTD z.c (by decide) (by decide)))
end
section
variable {prog : Program} {w : World} {A : Around} {E : Value → Shared → Prop} {s : Shared} {h₀ : Heap} {L d l : Addr} {m : Str → Option Value} {news : Led} {n : Nat}
theorem upd_nil {h : Heap} {a : Addr} (f : Array Value → Array Value) (hf : f #[] = #[]) (hg : h.get? a = some (listOf #[] n)) : ∀ b o, h.get? b = some o → (h.update a (Obj.mapSeq f)).get? b = some o := by
  intro b o e
  by_cases hb : b = a
  · subst hb
    rw [hg] at e
    cases e
    rw [Heap.get?_update_self _ hg (by simp [Obj.mapSeq, Obj.isFreed])]
    simp [Obj.mapSeq, hf]
  · rw [Heap.get?_update_ne _ _ _ _ hb]; exact e
theorem sort_nil {Q : Value → Shared → Prop} (hg : s.heap.get? l = some (listOf #[] n)) (h : ∀ h', s.heap.StaysIn h' → Q .none { s with heap := h' }) : wpAny (model prog w) A (call (.builtin "list.sort") [.ref l]) Q E s := by
  refine wpAny_call_entry PyProof.Rows.slot_list_sort ⟨_, hg, rfl⟩ PyProof.Rows.entry_list_sort (list_sort_tree (n := n) (vs := []) (ns := []) hg .nil (by decide) fun out ns' hI hp hP => ⟨.none, rfl, h _ ?_⟩) (PyProof.Rows.args_list_sort _)
  have e0 : out = #[] := by
    have e1 := hI.length
    rw [hp.length_eq] at e1
    apply Array.toList_inj.mp
    exact List.eq_nil_of_length_eq_zero e1
  subst e0
  unfold sortedHeap
  intro b o e
  have k1 := upd_nil (n := n) (fun _ => (#[] : Array Value)) rfl hg
  have k2 : ∀ b o, s.heap.get? b = some o → (((s.heap.update l (Obj.mapSeq fun _ => #[])).push (seqObj "tuple" ([] : List Value).toArray 0)).push (seqObj "list" #[] 0)).get? b = some o := fun b o e =>
    Heap.get?_push_of_some _ (Heap.get?_push_of_some _ (k1 b o e))
  exact upd_nil (n := n) (fun _ => (#[] : Array Value)) rfl (k2 _ _ hg) b o (k2 b o e)
theorem led_sortedNil {Q : Value → Shared → Prop} (hh : A.handled = none) (F : Fr h₀ L s.heap m) (N : News h₀ L s.heap news) (hd : (d, dictOf [] 0) ∈ news) (lo : (d == sysModules) = false)
    (h : ∀ B h' tk, Fr h₀ L h' m → News h₀ L h' ((B, listOf #[] 0) :: news) → (∀ p ∈ news, p.1 < B) → Q (.ref B) { s with heap := h', toks := tk }) : wpAny (model prog w) A (call (.builtin "sorted") [.ref d]) Q E s := by
  refine kdu_sortedD (knd := PySem.intKind prog w) (enc := PyData.int) (D := []) (fun _ _ => kdl_flat_int) hh F N ⟨lo, [], ⟨_, _, _, (N _ hd).1, ⟨rfl, rfl, rfl⟩, rfl, by intro e he; simp at he, .nil, List.nodup_nil⟩, .nil⟩ (by decide) fun B h' tk F' N' l1 => ?_
  exact sort_nil (s := { s with heap := h', toks := tk }) (N' _ (.head _)).1 fun h2 k => h B h2 tk (F'.keeps k) (News.grown N' k) l1
end
theorem rows_14 : True := by
  (k_with "M:call builtin:sorted" => (k_here; (with_reducible show wpAny _ _ (call (Value.builtin "sorted") [Value.ref _]) _ _ _); k_dflt (refine' led_sortedNil ?r65hh ?F ?N ?d ?r65lo ?_; (case r65hh => exact rfl); (case F => with_reducible assumption); (case N => with_reducible assumption); (case d => k_mem); (case r65lo => with_reducible assumption)); (intro D'_r h'_r tk'_r F'_r N'_r l1_r); (try k_sweep)))
  (k_with "M:eval ListComp" => (k_here; k_dflt (refine' list_comp 0 (Or.inl rfl) ?r66cl ?r66ce ?r66k ?r66n ?r66hs ?_; (case r66cl => with_unfolding_all rfl); (case r66ce => decide); (case r66k => exact rfl); (case r66n => decide); (case r66hs => exact fun _ => rfl)); k_whole))
  (k_with "M:CStart" => (k_here; k_dflt (first
  | (refine' led_compT ?F ?N ?r67z ?r67I ?_; (case r67z => with_reducible assumption); (case F => with_reducible assumption); (case N => with_reducible assumption); (case r67I => k_mem))
  | (refine' led_compL ?F ?N ?r67z ?r67I ?_; (case r67z => with_reducible assumption); (case F => with_reducible assumption); (case N => with_reducible assumption); (case r67I => k_mem))); (intro D'_r C'_r oC'_r h'_r F'_r N'_r l1_r l3_r lc_r z'_r); (replace lc_r := ltN lc_r); (try k_sweep)))
  (k_with "M:CTurns" => first | refine cturns_zero ?_ | refine cturns_succ ?_)
  (k_with "M:CEnd" => (k_here; k_dflt (refine' led_cend ?F ?N ?r69z ?d ?_; (case r69z => with_reducible assumption); (case F => with_reducible assumption); (case N => with_reducible assumption); (case d => k_extra "my del")); (intro h'_r F'_r N'_r K'_r); (try dsimp only); (try k_sweep)))
  (k_with "M:pyIter ref" => (k_here; k_dflt (first
  | (refine' led_iterT ?S ?F ?N ?r70y (fun _ h9 => h9) ?_; (case S => with_reducible assumption); (case F => with_reducible assumption); (case N => with_reducible assumption); (case r70y => k_extra "my at"))
  | (refine' led_iterL ?F ?N ?r70l ?_; (case F => with_reducible assumption); (case N => with_reducible assumption); (case r70l => k_mem))); (intro I'_r o'_r h'_r F'_r N'_r l1_r z'_r); (try k_sweep)))
  (k_with "M:pyNext ref" => (k_here; k_dflt (refine' led_endL ?r71hh ?F ?N ?r71l ?r71z ?r71x ?r71D ?_; (case F => with_reducible assumption); (case N => with_reducible assumption); (case r71z => with_reducible assumption); (case r71l => k_mem); (case r71hh => exact rfl); (case r71x => exact rfl); (case r71D => k_extra "my del"); intro h'_r F'_r N'_r K'_r; (try dsimp only); (try k_sweep))))
  (k_with "M:call builtin:list.append" => (k_here; (with_reducible show wpAny _ _ (call (Value.builtin "list.append") [Value.ref _, _]) _ _ _); k_dflt (refine' led_append ?F ?N ?r72U ?_ ?r72z; (case F => with_reducible assumption); (case N => with_reducible assumption); (case r72U => k_extra "my upd"); (case r72z => size_fits)); (intro h'_r F'_r N'_r K'_r); (try dsimp only); (try k_sweep)))
  (k_with "M:letOwnedTupleGo" => (k_here; k_dflt (first
  | refine led_own ?_
  | (refine' led_ownT ?N ?r73z ?r73I ?_; (case r73z => with_reducible assumption); (case N => with_reducible assumption); (case r73I => k_mem)))))
  (k_with "M:storeName" => (k_here; (with_reducible show wpAny _ _ (storeName (compEnvC _ _ _ _) _ _) _ _ _); k_dflt (refine' led_stC ?F ?N ?r74z ?r74U ?r74l ?r74k ?_; (case F => with_reducible assumption); (case N => with_reducible assumption); (case r74z => with_reducible assumption); (case r74U => k_extra "my updG"); (case r74l => rfl); (case r74k => rfl)); (intro o'_r h'_r z'_r F'_r N'_r K'_r); (try dsimp only at N'_r K'_r z'_r); (try dsimp only); (try k_sweep)))
  (k_with "M:eval Name" => (k_here; (with_reducible show wpAny _ _ (eval (Expr.Name _ _) (compEnvC _ _ _ _)) _ _ _); k_dflt (refine' led_ldC ?N ?r75z ?r75m ?r75v ?r75l ?r75k ?d ?_; (case r75z => with_reducible assumption); (case N => with_reducible assumption); (case r75m => k_mem); (case r75v => exact rfl); (case r75l => rfl); (case r75k => rfl); (case d => decide))))
  trivial
theorem poly0_c {B : Heap} {w : World} : Calc B w 148 8 50 [.tuple [], .tuple []] (.tuple []) := by
  unfold Calc
  intro prog p loose mean mg mb dp un gd cn cs a ccd cl outer A₀ base h₀ L m news s vs Q E Bl F X N T hk S XB hd hu W hret
  obtain ⟨v1, v2, rfl, W1, W2⟩ := W.two
  obtain ⟨a1, rfl, w1⟩ := W1.tup0_inv
  obtain ⟨a2, rfl, w2⟩ := W2.tup0_inv
  clear W W1 W2
  k_extra "my enterC"
  k_steps
  exact back hret (by with_reducible assumption) (by with_reducible assumption) (by k_extra "my ext") (by k_extra "my wn")
theorem rows_15 : True := by
  (k_with "M:call ref" => (k_here; (with_reducible show wpAny _ _ (call (Value.ref 148) _) _ _ _); k_dflt ((refine' use poly0_c ?k1 ?k2 ?k3 ?k4 ?k5 ?kK ?kS ?kB ?kW ?kd ?ku ?_); k_extra "my use"); k_extra "my back"))
  trivial
theorem rN_one (x : Int) : rN x 1 = x := by unfold rN; rw [Int.gcd_one_right]; exact Int.fdiv_one x
theorem rD_one (x : Int) : rD x 1 = 1 := by unfold rD; rw [Int.gcd_one_right]; rfl
theorem kind_product_c {B : Heap} {w : World} (p q : Int) (hp : -100 ≤ p ∧ p ≤ 100) (hq : -100 ≤ q ∧ q ≤ 100) : Calc B w 155 12 80 [kD (.tuple []) p 1, kD (.tuple []) q 1] (kD (.tuple []) (p + q) 1) := by
  unfold Calc
  intro prog p' loose mean mg mb dp un gd cn cs a ccd cl outer A₀ base h₀ L m news s vs Q E Bl F X N T hk S XB hd hu W hret
  obtain ⟨v1, v2, rfl, W1, W2⟩ := W.two
  obtain ⟨a1, b1, c1, s1, s2, s3, rfl, w1, w2, w3⟩ := W1.kD_inv
  obtain ⟨a2, b2, c2, r1, r2, r3, rfl, y1, y2, y3⟩ := W2.kD_inv
  clear W W1 W2
  k_extra "my enter"
  k_steps
  exact back hret (by with_reducible assumption) (by with_reducible assumption) (by k_extra "my ext") (by
    refine Wn.tuple (by k_extra "my at") (.cons (by k_extra "my wn") (.cons (Wn.of_pr' (by k_extra "my at") ?_ ?_) (.cons (Wn.of_int ?_) .nil))) <;> simp [rN_one, rD_one])
theorem rows_16 : True := by
  (k_with "M:call ref" => (k_here; (with_reducible show wpAny _ _ (call (Value.ref 155) _) _ _ _); k_dflt ((refine' use9 (kind_product_c _ _ ?r77p1 ?r77p2) ?k1 ?k2 ?k3 ?k4 ?k5 ?kK ?kS ?kB ?kW ?kd ?ku ?_); k_extra "my use"; (case r77p1 => omega); (case r77p2 => omega)); k_extra "my back"))
  trivial
theorem rN_lowest {a b : Int} (hb : 0 < b) : rN (rN a b) (rD a b) = rN a b ∧ rD (rN a b) (rD a b) = rD a b := by
  have hg : 0 < (Int.gcd a b : Int) := by have := Int.gcd_pos_iff.mpr (.inr (show b ≠ 0 by omega) : a ≠ 0 ∨ b ≠ 0); omega
  have h1 : Int.gcd (rN a b) (rD a b) = 1 := by
    have e1 : rN a b = a / (Int.gcd a b : Int) := Int.fdiv_eq_ediv_of_nonneg _ (by omega)
    have e2 : rD a b = b / (Int.gcd a b : Int) := Int.fdiv_eq_ediv_of_nonneg _ (by omega)
    have m1 : (Int.gcd a b : Int) * rN a b = a := by rw [e1]; exact Int.mul_ediv_cancel' (Int.gcd_dvd_left a b)
    have m2 : (Int.gcd a b : Int) * rD a b = b := by rw [e2]; exact Int.mul_ediv_cancel' (Int.gcd_dvd_right a b)
    have k : Int.gcd ((Int.gcd a b : Int) * rN a b) ((Int.gcd a b : Int) * rD a b) = (Int.gcd a b : Int).natAbs * Int.gcd (rN a b) (rD a b) := Int.gcd_mul_left ..
    rw [m1, m2] at k
    have k' : Int.gcd a b * 1 = Int.gcd a b * Int.gcd (rN a b) (rD a b) := by rw [Nat.mul_one]; simpa using k
    exact (Nat.eq_of_mul_eq_mul_left (by omega) k').symm
  unfold rN at *
  unfold rD at *
  rw [h1]
  exact ⟨Int.fdiv_one _, Int.fdiv_one _⟩
theorem rat_facts {a b z : Int} (hb : 0 < b) (ha : -z ≤ a ∧ a ≤ z) : -z ≤ rN a b ∧ rN a b ≤ z ∧ 0 < rD a b ∧ rD a b ≤ b ∧ (a ≠ 0 → rN a b ≠ 0) := by
  have hg : 0 < (Int.gcd a b : Int) := by have := Int.gcd_pos_iff.mpr (.inr (show b ≠ 0 by omega) : a ≠ 0 ∨ b ≠ 0); omega
  have e1 : rN a b = a / (Int.gcd a b : Int) := Int.fdiv_eq_ediv_of_nonneg _ (by omega)
  have e2 : rD a b = b / (Int.gcd a b : Int) := Int.fdiv_eq_ediv_of_nonneg _ (by omega)
  have m1 : (Int.gcd a b : Int) * rN a b = a := by rw [e1]; exact Int.mul_ediv_cancel' (Int.gcd_dvd_left a b)
  have m2 : (Int.gcd a b : Int) * rD a b = b := by rw [e2]; exact Int.mul_ediv_cancel' (Int.gcd_dvd_right a b)
  have hD : 0 < rD a b := by
    rcases Int.lt_or_le 0 (rD a b) with h | h
    · exact h
    · have := Int.mul_nonpos_of_nonneg_of_nonpos (Int.le_of_lt hg) h
      omega
  have k2 : rD a b ≤ b := by
    have := Int.mul_le_mul_of_nonneg_right (show (1 : Int) ≤ (Int.gcd a b : Int) by omega) (Int.le_of_lt hD)
    omega
  have k1 : (rN a b).natAbs ≤ a.natAbs := by
    have : a.natAbs = (Int.gcd a b : Int).natAbs * (rN a b).natAbs := by rw [← Int.natAbs_mul, m1]
    rw [this]
    exact Nat.le_mul_of_pos_left _ (by omega)
  refine ⟨by omega, by omega, hD, k2, fun h q => h ?_⟩
  rw [q] at m1
  omega
section
variable {prog : Program} {w : World} {A : Around} {E : Value → Shared → Prop} {s : Shared} {B h₀ : Heap} {L : Addr} {m : Str → Option Value} {news led led' : Led}
theorem led_eq {a b : Value} {d e : PyData} {q : Bool} {Q : Value → Shared → Prop} (S : B.StaysIn h₀) (F : Fr h₀ L s.heap m) (N : News h₀ L s.heap news) (W : Wn w.params B led a d) (hs : ∀ p ∈ led, p ∈ news) (W' : Wn w.params B led' b e) (hs' : ∀ p ∈ led', p ∈ news)
    (hd : SeqAt.shaped d = true) (he : SeqAt.shaped e = true) (hu : A.units + 64 < cLine) (hq : PyData.eqv d e = q) (h : Q (.bool q) s) : wpAny (model prog w) A (compareOp .Eq a b) Q E s := by
  obtain ⟨as, r1⟩ := W.reads (fun b o e => F.keep b o (S b o e)) fun p hp => (N p (hs p hp)).1
  obtain ⟨bs, r2⟩ := W'.reads (fun b o e => F.keep b o (S b o e)) fun p hp => (N p (hs' p hp)).1
  exact eq_dataH r1 r2 hd he hu (by rw [hq]; exact h)
theorem led_ne {a b : Value} {d e : PyData} {q : Bool} {Q : Value → Shared → Prop} (S : B.StaysIn h₀) (F : Fr h₀ L s.heap m) (N : News h₀ L s.heap news) (W : Wn w.params B led a d) (hs : ∀ p ∈ led, p ∈ news) (W' : Wn w.params B led' b e) (hs' : ∀ p ∈ led', p ∈ news)
    (hd : SeqAt.shaped d = true) (he : SeqAt.shaped e = true) (hu : A.units + 64 < cLine) (hq : PyData.eqv d e = q) (h : Q (.bool (!q)) s) : wpAny (model prog w) A (compareOp .NotEq a b) Q E s := by
  obtain ⟨as, r1⟩ := W.reads (fun b o e => F.keep b o (S b o e)) fun p hp => (N p (hs p hp)).1
  obtain ⟨bs, r2⟩ := W'.reads (fun b o e => F.keep b o (S b o e)) fun p hp => (N p (hs' p hp)).1
  exact ne_dataH r1 r2 hd he hu (by rw [hq]; exact h)
end
theorem rows_17 : True := by
  (k_with "my eqv" => (
  (case S => with_reducible assumption); (case F => with_reducible assumption); (case N => with_reducible assumption); (case W => k_extra "my wn"); (case V => k_extra "my wn"); (case d => first | exact rfl | decide | (simp [SeqAt.shaped, PyData.canLay0, PyData.canLayAll0, PyData.depth, PyData.depthAll]; done)); (case e => first | exact rfl | decide | (simp [SeqAt.shaped, PyData.canLay0, PyData.canLayAll0, PyData.depth, PyData.depthAll]; done)); (case u => k_extra "my units");
  (case q => first | exact rfl | assumption | (simp only [PyData.eqv, PyData.eqvAll, Bool.and_true, Bool.and_eq_true, Bool.and_eq_false_iff, beq_iff_eq, beq_eq_false_iff_ne, ne_eq]; omega) | (simp [PyData.eqv, PyData.eqvAll]; done))))
  (k_with "M:compareOp Eq ref ref" => (k_here; k_dflt (first
  | (refine' led_eq (q := true) ?S ?F ?N ?W (fun _ h9 => h9) ?V (fun _ h9 => h9) ?d ?e ?u ?q ?_; k_extra "my eqv")
  | (refine' led_eq (q := false) ?S ?F ?N ?W (fun _ h9 => h9) ?V (fun _ h9 => h9) ?d ?e ?u ?q ?_; k_extra "my eqv"))))
  (k_with "M:compareOp NotEq ref ref" => (k_here; k_dflt (first
  | (refine' led_ne (q := true) ?S ?F ?N ?W (fun _ h9 => h9) ?V (fun _ h9 => h9) ?d ?e ?u ?q ?_; k_extra "my eqv")
  | (refine' led_ne (q := false) ?S ?F ?N ?W (fun _ h9 => h9) ?V (fun _ h9 => h9) ?d ?e ?u ?q ?_; k_extra "my eqv"))))
  trivial
/-- ginsert of a kind that the empty dict has not: the dict has it now -/
def GinsC (B : Heap) (w : World) (kd : PyData) (x y : Int) : Prop :=
  ∀ (prog : Program) (p : Program) (loose : List Str) (mean : ExcName → Option Value) (mg mb : Str → Option Value) (dp un : Nat) (gd : Option (List Code)) (cn : Str) (cs : Scope) (a : Addr) (ccd : Value) (cl : List (Str × Addr)) (outer : List Env) (A₀ : Around) (base h₀ : Heap) (L : Addr) (m : Str → Option Value) (news : Led) (s : Shared) (d ka ua : Addr) (n : Nat) (g : Obj → Led) (Q E : Value → Shared → Prop),
    Below A₀ base outer h₀ → Fr h₀ L s.heap m → (KQ w.params).In h₀ → News h₀ L s.heap news → Top p loose mean mg mb h₀ → cs.kind = .function → B.StaysIn h₀ → (KQ w.params).In B → dp + 10 < recursionLimit → un + 100 < cLine →
    UpdG d (dictOf [] n) news g → (d == sysModules) = false → Wn w.params B news (.ref ka) kd → Wn w.params B news (.ref ua) (pr x y) →
    (∀ tl o' h' tk', Fr h₀ L h' m → News h₀ L h' (tl ++ g o') → (∀ q ∈ news, ∀ p ∈ tl, q.1 < p.1) → Keep TupO news (g o') → Wn w.params B (tl ++ g o') (.ref d) (.dict [(kd, pr x y)]) → Q .none { s with heap := h', toks := tk' }) →
    wpAny (model prog w) (ktrTop dp un gd cn cs L a ccd cl outer) (call (.ref 136) [.ref d, .ref ka, .ref ua]) Q E s
theorem upd_new {d : Addr} {o o' : Obj} {l l' : Led} (U : Upd d o o' l l') : (d, o') ∈ l' := by
  obtain ⟨pre, post, rfl, rfl, _, _⟩ := U.split
  exact List.mem_append.mpr (.inr (.head _))
theorem Keep.appR {T : Obj → Prop} {a b tl : Led} (h : Keep T a b) : Keep T (tl ++ a) (tl ++ b) := fun q hq t => (List.mem_append.mp hq).elim (fun x => List.mem_append.mpr (.inl x)) fun x => List.mem_append.mpr (.inr (h q x t))
theorem gins_c {B : Heap} {w : World} {kd : PyData} {x y : Int} (hk : keyD kd = true) (hd : (ofPy kd).depth ≤ 8) (hx : -1000 ≤ x ∧ x ≤ 1000) (hx0 : x ≠ 0) (hy : 0 < y ∧ y ≤ 1000) (e1 : rN x y = x) (e2 : rD x y = y) : GinsC B w kd x y := by
  unfold GinsC
  intro prog p loose mean mg mb dp un gd cn cs a ccd cl outer A₀ base h₀ L m news s d ka ua n g Q E Bl F X N T hkc S XB hdp hu U lo W1 W2 hret
  obtain ⟨ua', t, t', e, w2⟩ := W2.pr_inv
  obtain rfl : ua = ua' := by injection e
  have hm : (d, dictOf [] n) ∈ news := (upd_mem (U.upd (dictOf [] 0))).1
  have yd : At B news d (dictOf [] n) := .inr hm
  have e3 : (0 : Int) * y + x * 1 = x := by omega
  have e4 : (1 : Int) * y = y := by omega
  have e5 : rN (0 * y + x * 1) (1 * y) = x := by rw [e3, e4, e1]
  have e6 : rD (0 * y + x * 1) (1 * y) = y := by rw [e3, e4, e2]
  k_extra "my enter"
  k_steps
  refine hret _ _ _ _ (by with_reducible assumption) (by with_reducible assumption) (by with_reducible assumption) (upd_keep (U.upd _) (notTup rfl)) ?_
  refine Wn.dict (.inr (List.mem_append.mpr (.inr (upd_new (U.upd _))))) lo (.cons (Wn.keepT (Keep.app (upd_keep (U.upd _) (notTup rfl))) W1 hk) (Wn.of_pr' (At.keep (T := TupO) ?_ (TupO.tup _) (by with_reducible assumption)) e5 e6) .nil)
  exact Keep.appR (upd_keep (U.upd _) (notTup rfl))
theorem gins_use {prog : Program} {w : World} {E : Value → Shared → Prop} {s : Shared} {B h₀ : Heap} {L : Addr} {m : Str → Option Value} {news : Led} {kd : PyData} {x y : Int} {p : Program} {loose : List Str} {mean : ExcName → Option Value} {mg mb : Str → Option Value} {dp un : Nat} {gd : Option (List Code)} {cn : Str} {cs : Scope} {a : Addr} {ccd : Value} {cl : List (Str × Addr)} {outer : List Env} {A₀ : Around} {base : Heap} {d ka ua : Addr} {n : Nat} {g : Obj → Led} {Q : Value → Shared → Prop}
    (C : GinsC B w kd x y) (Bl : Below A₀ base outer h₀) (F : Fr h₀ L s.heap m) (X : (KQ w.params).In h₀) (N : News h₀ L s.heap news) (T : Top p loose mean mg mb h₀) (hk : cs.kind = .function) (S : B.StaysIn h₀) (XB : (KQ w.params).In B) (hd : dp + 10 < recursionLimit) (hu : un + 100 < cLine)
    (U : UpdG d (dictOf [] n) news g) (lo : (d == sysModules) = false) (W1 : Wn w.params B news (.ref ka) kd) (W2 : Wn w.params B news (.ref ua) (pr x y))
    (ret : ∀ tl o' h' tk', Fr h₀ L h' m → News h₀ L h' (tl ++ g o') → (∀ q ∈ news, ∀ p ∈ tl, q.1 < p.1) → Keep TupO news (g o') → Wn w.params B (tl ++ g o') (.ref d) (.dict [(kd, pr x y)]) → Q .none { s with heap := h', toks := tk' }) :
    wpAny (model prog w) (ktrTop dp un gd cn cs L a ccd cl outer) (call (.ref 136) [.ref d, .ref ka, .ref ua]) Q E s := C _ _ _ _ _ _ _ _ _ _ _ _ _ _ _ _ _ _ _ _ _ _ _ _ _ _ _ Q E Bl F X N T hk S XB hd hu U lo W1 W2 ret
theorem rows_18 : True := by
  (k_with "M:call ref" => (k_here; (with_reducible show wpAny _ _ (call (Value.ref 136) _) _ _ _); k_dflt ((refine' gins_use (gins_c ?r81p1 ?r81p2 ?r81p3 ?r81p4 ?r81p5 ?r81p6 ?r81p7) ?k1 ?k2 ?k3 ?k4 ?k5 ?kK ?kS ?kB ?kd ?ku ?r81kU ?r81lo ?r81w1 ?r81w2 ?_); (case k1 => k_asm); (case k2 => k_asm); (case k3 => k_asm); (case k4 => k_asm); (case k5 => k_asm); (case kK => first | exact rfl | assumption); (case kS => k_asm); (case kB => k_asm); (case kd => k_extra "my room"); (case ku => k_extra "my units"); (case r81kU => k_extra "my updG"); (case r81lo => with_reducible assumption); (case r81w1 => k_extra "my wn"); (case r81w2 => k_extra "my wn"); (case r81p1 => exact rfl); (case r81p2 => exact Nat.le_of_ble_eq_true rfl); (case r81p3 => omega); (case r81p4 => omega); (case r81p5 => omega); (case r81p6 => first | with_reducible assumption | exact rfl); (case r81p7 => first | with_reducible assumption | exact rfl)); intro tl9_r o9_r h9_r tk9_r F9_r N9_r O9_r K9_r W9_r; (try dsimp only at N9_r K9_r W9_r); k_sweep; (try dsimp only); (try k_fold)))
  trivial
theorem gmul_c {B : Heap} {w : World} (p q n d m' e : Int) (hp : -100 ≤ p ∧ p ≤ 100) (hq : -100 ≤ q ∧ q ≤ 100) (hn : -30 ≤ n ∧ n ≤ 30) (hn0 : n ≠ 0) (hd' : 0 < d ∧ d ≤ 30) (hm : -30 ≤ m' ∧ m' ≤ 30) (hm0 : m' ≠ 0) (he : 0 < e ∧ e ≤ 30) :
    Calc B w 162 20 150 [gD (.tuple []) p 1 n d, gD (.tuple []) q 1 m' e] (gD (.tuple []) (p + q) 1 (rN (n * m') (d * e)) (rD (n * m') (d * e))) := by
  unfold Calc
  intro prog p' loose mean mg mb dp un gd cn cs a ccd cl outer A₀ base h₀ L m news s vs Q E Bl F X N T hk S XB hd hu W hret
  obtain ⟨v1, v2, rfl, W1, W2⟩ := W.two
  obtain ⟨a1, k1, u1, m1, s1, s2, rfl, w1, lo1, y1, z1⟩ := W1.gD_inv
  obtain ⟨a2, k2, u2, m2, r1, r2, rfl, w2, lo2, y2, z2⟩ := W2.gD_inv
  clear W
  have b1 := mulB hn hm
  have b2 := mulP hd' he
  have b3 := rat_facts b2.1 b1
  have b4 := b3.2.2.2.2 (Int.mul_ne_zero hn0 hm0)
  have b5 := (rN_lowest (a := n * m') b2.1).1
  have b6 := (rN_lowest (a := n * m') b2.1).2
  k_extra "my enter"
  k_steps
  exact back hret (by with_reducible assumption) (by with_reducible assumption) (by k_extra "my ext") (by k_extra "my wn")
theorem rows_19 : True := by
  (k_with "M:call ref" => (k_here; (with_reducible show wpAny _ _ (call (Value.ref 162) _) _ _ _); k_dflt ((refine' use9 (gmul_c _ _ _ _ _ _ ?r82p1 ?r82p2 ?r82p3 ?r82p4 ?r82p5 ?r82p6 ?r82p7 ?r82p8) ?k1 ?k2 ?k3 ?k4 ?k5 ?kK ?kS ?kB ?kW ?kd ?ku ?_); k_extra "my use"; (case r82p1 => omega); (case r82p2 => omega); (case r82p3 => omega); (case r82p4 => omega); (case r82p5 => omega); (case r82p6 => omega); (case r82p7 => omega); (case r82p8 => omega)); k_extra "my back"))
  trivial
theorem fastest_c {B : Heap} {w : World} {poly : PyData} (p q n d : Int) (hk' : keyD (kD poly p q) = true) (hd' : (ofPy (kD poly p q)).depth ≤ 8) : Calc B w 174 8 60 [gD poly p q n d] (.tuple [kD poly p q, pr n d]) := by
  unfold Calc
  intro prog p' loose mean mg mb dp un gd cn cs a ccd cl outer A₀ base h₀ L m news s vs Q E Bl F X N T hk S XB hd hu W hret
  obtain ⟨v1, rfl, W1⟩ := W.one
  obtain ⟨a1, k1, u1, m1, s1, s2, rfl, w1, lo1, y1, z1⟩ := W1.gD_inv
  clear W
  k_extra "my enter"
  k_steps
  exact back hret (by with_reducible assumption) (by with_reducible assumption) (by k_extra "my ext") (by k_extra "my wn")
theorem rows_20 : True := by
  (k_with "M:call ref" => (k_here; (with_reducible show wpAny _ _ (call (Value.ref 174) _) _ _ _); k_dflt ((refine' use9 (fastest_c _ _ _ _ ?r83p1 ?r83p2) ?k1 ?k2 ?k3 ?k4 ?k5 ?kK ?kS ?kB ?kW ?kd ?ku ?_); k_extra "my use"; (case r83p1 => first | with_reducible assumption | exact rfl | (simp only [keyD, keyD.keyDs, Bool.and_true, Bool.and_self]; done)); (case r83p2 => first | with_reducible assumption | exact Nat.le_of_ble_eq_true rfl | decide | (simp [ofPy, ofPys, WData.depth, WData.depthAll]; done))); k_extra "my back"))
  trivial
theorem kind_compare_c {B : Heap} {w : World} (p q p2 q2 : Int) (hp : -100 ≤ p ∧ p ≤ 100) (hq : 0 < q ∧ q ≤ 100) (hp2 : -100 ≤ p2 ∧ p2 ≤ 100) (hq2 : 0 < q2 ∧ q2 ≤ 100) :
    Calc B w 167 12 100 [kD (.tuple []) p q, kD (.tuple []) p2 q2] (.int (b2i (decide (0 < p * q2 - p2 * q)) - b2i (decide (p * q2 - p2 * q < 0)))) := by
  unfold Calc
  intro prog p' loose mean mg mb dp un gd cn cs a ccd cl outer A₀ base h₀ L m news s vs Q E Bl F X N T hk S XB hd hu W hret
  obtain ⟨v1, v2, rfl, W1, W2⟩ := W.two
  obtain ⟨a1, b1, c1, s1, s2, s3, rfl, w1, w2, w3⟩ := W1.k0_inv
  obtain ⟨a2, b2, c2, r1, r2, r3, rfl, y1, y2, y3⟩ := W2.k0_inv
  clear W W1 W2
  k_extra "my enter"
  k_steps
  · exact back hret (by with_reducible assumption) (by with_reducible assumption) (by k_extra "my ext") (by k_extra "my wn")
  · exact back hret (by with_reducible assumption) (by with_reducible assumption) (by k_extra "my ext") (Wn.of_int ((show _ = (0 : Int) by decide).trans (Eq.symm (by assumption))))
theorem rows_21 : True := by
  (k_with "M:call ref" => (k_here; (with_reducible show wpAny _ _ (call (Value.ref 167) _) _ _ _); k_dflt ((refine' use9 (kind_compare_c _ _ _ _ ?r84p1 ?r84p2 ?r84p3 ?r84p4) ?k1 ?k2 ?k3 ?k4 ?k5 ?kK ?kS ?kB ?kW ?kd ?ku ?_); k_extra "my use"; (case r84p1 => omega); (case r84p2 => omega); (case r84p3 => omega); (case r84p4 => omega)); k_extra "my back"))
  (k_with "M:call ref" => (k_here; (with_reducible rename Calc _ _ _ _ _ _ _ => C9_r); k_dflt ((refine' use9 ?r85C ?k1 ?k2 ?k3 ?k4 ?k5 ?kK ?kS ?kB ?kW ?kd ?ku ?_); (case k1 => k_asm); (case k2 => k_asm); (case k3 => k_asm); (case k4 => k_asm); (case k5 => k_asm); (case kK => first | exact rfl | assumption); (case kS => k_asm); (case kB => k_asm); (case kW => k_extra "my wns"); (case r85C => with_reducible assumption); (case kd => k_extra "my room"); (case ku => k_extra "my units")); k_extra "my back"))
  trivial
theorem gpower_c {B : Heap} {w : World} (p n d k n' d' : Int) (hp : -30 ≤ p ∧ p ≤ 30) (hk2 : 1 ≤ k ∧ k ≤ 4) (C : Calc B w 113 8 50 [pr n d, .int k] (pr n' d')) : Calc B w 186 14 120 [gD (.tuple []) p 1 n d, .int k] (gD (.tuple []) (p * k) 1 n' d') := by
  unfold Calc
  intro prog p' loose mean mg mb dp un gd cn cs a ccd cl outer A₀ base h₀ L m news s vs Q E Bl F X N T hk S XB hd hu W hret
  obtain ⟨v1, v2, rfl, W1, W2⟩ := W.two
  obtain ⟨a1, k1, u1, m1, s1, s2, b1, c1, s3, s4, s5, rfl, w1, lo1, y1, z1, x1, x2, x3⟩ := W1.g0_inv
  obtain ⟨t2, rfl⟩ := W2.int_inv
  clear W
  k_extra "my enterC"
  k_steps
  refine back hret (by with_reducible assumption) (by with_reducible assumption) (by k_extra "my ext") ?_
  have e1 : rN (p * k) (1 * 1) = p * k := rN_one _
  have e2 : rD (p * k) (1 * 1) = 1 := rD_one _
  have e3 : (0 : Int) * k = 0 := Int.zero_mul _
  rw [show gD (.tuple []) (p * k) 1 n' d' = .dict [(.tuple [.tuple [], pr (rN (p * k) (1 * 1)) (rD (p * k) (1 * 1)), .int (0 * k)], pr n' d')] from by rw [e1, e2, e3]]
  k_extra "my wn"
theorem gratio0_c {B : Heap} {w : World} (g1 g2 : PyData) : Calc B w 193 22 200 [.tuple [g1, g2], .int 0] (.tuple [gS, gS]) := by
  unfold Calc
  intro prog p' loose mean mg mb dp un gd cn cs a ccd cl outer A₀ base h₀ L m news s vs Q E Bl F X N T hk S XB hd hu W hret
  obtain ⟨v1, v2, rfl, W1, W2⟩ := W.two
  obtain ⟨a1, x1, x2, rfl, w1, y1, y2⟩ := W1.tup2_inv
  obtain ⟨t2, rfl⟩ := W2.int_inv
  clear W W1 W2
  k_extra "my enter"
  k_steps
  exact back hret (by with_reducible assumption) (by with_reducible assumption) (by k_extra "my ext") (by k_extra "my wn")
theorem gratioP_c {B : Heap} {w : World} (g1 g2 r1 r2 : PyData) (k : Int) (hk1 : 0 < k ∧ k ≤ 4) (C1 : Calc B w 186 14 120 [g1, .int k] r1) (C2 : Calc B w 186 14 120 [g2, .int k] r2) : Calc B w 193 22 200 [.tuple [g1, g2], .int k] (.tuple [r1, r2]) := by
  unfold Calc
  intro prog p' loose mean mg mb dp un gd cn cs a ccd cl outer A₀ base h₀ L m news s vs Q E Bl F X N T hk S XB hd hu W hret
  obtain ⟨v1, v2, rfl, W1, W2⟩ := W.two
  obtain ⟨a1, x1, x2, rfl, w1, y1, y2⟩ := W1.tup2_inv
  obtain ⟨t2, rfl⟩ := W2.int_inv
  clear W W1 W2
  have e0 : k = (if k < 0 then -k else k) := by rw [if_neg (by omega)]
  rw [e0] at C1 C2
  k_extra "my enter"
  k_steps
  exact back hret (by with_reducible assumption) (by with_reducible assumption) (by k_extra "my ext") (by k_extra "my wn")
theorem gratioN_c {B : Heap} {w : World} (g1 g2 r1 r2 : PyData) (k : Int) (hk1 : k < 0 ∧ -4 ≤ k) (C1 : Calc B w 186 14 120 [g2, .int (-k)] r1) (C2 : Calc B w 186 14 120 [g1, .int (-k)] r2) : Calc B w 193 22 200 [.tuple [g1, g2], .int k] (.tuple [r1, r2]) := by
  unfold Calc
  intro prog p' loose mean mg mb dp un gd cn cs a ccd cl outer A₀ base h₀ L m news s vs Q E Bl F X N T hk S XB hd hu W hret
  obtain ⟨v1, v2, rfl, W1, W2⟩ := W.two
  obtain ⟨a1, x1, x2, rfl, w1, y1, y2⟩ := W1.tup2_inv
  obtain ⟨t2, rfl⟩ := W2.int_inv
  clear W W1 W2
  have e0 : -k = (if k < 0 then -k else k) := by rw [if_pos (by omega)]
  rw [e0] at C1 C2
  k_extra "my enter"
  k_steps
  exact back hret (by with_reducible assumption) (by with_reducible assumption) (by k_extra "my ext") (by k_extra "my wn")
theorem growth_num_c {B : Heap} {w : World} (n d : Int) (hn : n ≠ 0) : Calc B w 205 10 100 [tNum n d, S "x"] (.tuple [gD (.tuple []) 0 1 n d, gS]) := by
  unfold Calc
  intro prog p' loose mean mg mb dp un gd cn cs a ccd cl outer A₀ base h₀ L m news s vs Q E Bl F X N T hk S XB hd hu W hret
  obtain ⟨v1, v2, rfl, W1, W2⟩ := W.two
  obtain ⟨a1, x1, x2, x3, rfl, w1, y1, y2, y3⟩ := W1.tup3_inv
  obtain ⟨t1, rfl⟩ := y1.str_inv
  obtain ⟨t2, rfl⟩ := y2.int_inv
  obtain ⟨t3, rfl⟩ := y3.int_inv
  obtain ⟨t4, rfl⟩ := W2.str_inv
  clear W W1 W2 y1 y2 y3
  k_extra "my enter"
  k_steps
  exact back hret (by with_reducible assumption) (by with_reducible assumption) (by k_extra "my ext") (by k_extra "my wn")
theorem growth_x_c {B : Heap} {w : World} : Calc B w 205 10 100 [tX, S "x"] (.tuple [gD (.tuple []) 1 1 1 1, gS]) := by
  unfold Calc
  intro prog p' loose mean mg mb dp un gd cn cs a ccd cl outer A₀ base h₀ L m news s vs Q E Bl F X N T hk S XB hd hu W hret
  obtain ⟨v1, v2, rfl, W1, W2⟩ := W.two
  obtain ⟨a1, x1, x2, rfl, w1, y1, y2⟩ := W1.tup2_inv
  obtain ⟨t1, rfl⟩ := y1.str_inv
  obtain ⟨t2, rfl⟩ := y2.str_inv
  obtain ⟨t4, rfl⟩ := W2.str_inv
  clear W W1 W2 y1 y2
  k_extra "my enter"
  k_steps
  exact back hret (by with_reducible assumption) (by with_reducible assumption) (by k_extra "my ext") (by k_extra "my wn")
theorem rows_22 : True := by
  (k_with "M:exec For Name Subscript cons nil" => (
  k_here;
  (refine' For_n 2 ?_ ?r86ht ?r86hs; (case r86ht => exact fun _ _ => rfl); (case r86hs => exact fun _ => rfl)); (try k_fold)))
  trivial
theorem growth_prod2_c {B : Heap} {w : World} {dd uu : Nat} (hdd : 20 ≤ dd) (huu : 150 ≤ uu) (t1 t2 a1 b1 a2 b2 x1 y1 x2 y2 : PyData) (C1 : Calc B w 205 dd uu [t1, S "x"] (.tuple [a1, b1])) (C2 : Calc B w 205 dd uu [t2, S "x"] (.tuple [a2, b2]))
    (M1 : Calc B w 162 20 150 [gS, a1] x1) (M2 : Calc B w 162 20 150 [gS, b1] y1) (M3 : Calc B w 162 20 150 [x1, a2] x2) (M4 : Calc B w 162 20 150 [y1, b2] y2) : Calc B w 205 (dd + 4) (uu + 100) [tProd [t1, t2], S "x"] (.tuple [x2, y2]) := by
  unfold Calc
  intro prog p' loose mean mg mb dp un gd cn cs a ccd cl outer A₀ base h₀ L m news s vs Q E Bl F X N T hk S XB hd hu W hret
  obtain ⟨v1, v2, rfl, W1, W2⟩ := W.two
  obtain ⟨d1, u1, u2, rfl, w1, z1, z2⟩ := W1.tup2_inv
  obtain ⟨t1, rfl⟩ := z1.str_inv
  obtain ⟨d2, u3, u4, rfl, w2, z3, z4⟩ := z2.tup2_inv
  obtain ⟨t4, rfl⟩ := W2.str_inv
  clear W W1 W2 z1 z2
  k_extra "my enter"
  k_steps
  exact back hret (by with_reducible assumption) (by with_reducible assumption) (by k_extra "my ext") (by k_extra "my wn")
theorem rows_23 : True := by
  (k_with "M:exec For Name Subscript cons nil" => (
  k_here;
  (refine' For_n 3 ?_ ?r87ht ?r87hs; (case r87ht => exact fun _ _ => rfl); (case r87hs => exact fun _ => rfl)); (try k_fold)))
  trivial
theorem growth_prod3_c {B : Heap} {w : World} {dd uu : Nat} (hdd : 20 ≤ dd) (huu : 150 ≤ uu) (t1 t2 t3 a1 b1 a2 b2 a3 b3 x1 y1 x2 y2 x3 y3 : PyData) (C1 : Calc B w 205 dd uu [t1, S "x"] (.tuple [a1, b1])) (C2 : Calc B w 205 dd uu [t2, S "x"] (.tuple [a2, b2])) (C3 : Calc B w 205 dd uu [t3, S "x"] (.tuple [a3, b3]))
    (M1 : Calc B w 162 20 150 [gS, a1] x1) (M2 : Calc B w 162 20 150 [gS, b1] y1) (M3 : Calc B w 162 20 150 [x1, a2] x2) (M4 : Calc B w 162 20 150 [y1, b2] y2) (M5 : Calc B w 162 20 150 [x2, a3] x3) (M6 : Calc B w 162 20 150 [y2, b3] y3) : Calc B w 205 (dd + 4) (uu + 100) [tProd [t1, t2, t3], S "x"] (.tuple [x3, y3]) := by
  unfold Calc
  intro prog p' loose mean mg mb dp un gd cn cs a ccd cl outer A₀ base h₀ L m news s vs Q E Bl F X N T hk S XB hd hu W hret
  obtain ⟨v1, v2, rfl, W1, W2⟩ := W.two
  obtain ⟨d1, u1, u2, rfl, w1, z1, z2⟩ := W1.tup2_inv
  obtain ⟨t1, rfl⟩ := z1.str_inv
  obtain ⟨d2, u3, u4, u5, rfl, w2, z3, z4, z5⟩ := z2.tup3_inv
  obtain ⟨t4, rfl⟩ := W2.str_inv
  clear W W1 W2 z1 z2
  k_extra "my enter"
  k_steps
  exact back hret (by with_reducible assumption) (by with_reducible assumption) (by k_extra "my ext") (by k_extra "my wn")
theorem ord_zero {z : Int} (h : b2i (decide (0 < z)) - b2i (decide (z < 0)) = 0) : z = 0 := by
  by_cases h1 : 0 < z <;> by_cases h2 : z < 0 <;> simp [h1, h2, b2i] at h <;> omega
theorem ord_neg {z : Int} (h : b2i (decide (0 < z)) - b2i (decide (z < 0)) < 0) : z < 0 := by
  by_cases h1 : 0 < z <;> by_cases h2 : z < 0 <;> simp [h1, h2, b2i] at h <;> omega
theorem ord_pos {z : Int} (h : b2i (decide (0 < z)) - b2i (decide (z < 0)) ≠ 0) (k : ¬ b2i (decide (0 < z)) - b2i (decide (z < 0)) < 0) : 0 < z := by
  by_cases h1 : 0 < z <;> by_cases h2 : z < 0 <;> simp [h1, h2, b2i] at h k <;> omega
theorem far_limit_c {B : Heap} {w : World} (p q p2 q2 : Int) (hp : -50 ≤ p ∧ p ≤ 50) (hq : 0 < q ∧ q ≤ 50) (hp2 : -50 ≤ p2 ∧ p2 ≤ 50) (hq2 : 0 < q2 ∧ q2 ≤ 50) (r : PyData)
    (h1 : 0 < p * q2 - p2 * q → r = S "inf") (h2 : p * q2 - p2 * q < 0 → r = pr 0 1) (h3 : p * q2 - p2 * q = 0 → r = pr 1 1) :
    Calc B w 219 16 160 [.tuple [gD (.tuple []) p q 1 1, gD (.tuple []) p2 q2 1 1]] r := by
  unfold Calc
  intro prog p' loose mean mg mb dp un gd cn cs a ccd cl outer A₀ base h₀ L m news s vs Q E Bl F X N T hk S XB hd hu W hret
  obtain ⟨v1, rfl, W1⟩ := W.one
  obtain ⟨a1, x1, x2, rfl, w1, y1, y2⟩ := W1.tup2_inv
  clear W W1
  have e1 : rN (1 * 1) (1 * 1) = 1 := by decide
  have e2 : rD (1 * 1) (1 * 1) = 1 := by decide
  k_extra "my enter"
  k_steps
  · refine back hret (by with_reducible assumption) (by with_reducible assumption) (by k_extra "my ext") ?_
    rw [h3 (ord_zero (by assumption))]
    exact Wn.of_pr' (by k_extra "my at") e1 e2
  · refine back hret (by with_reducible assumption) (by with_reducible assumption) (by k_extra "my ext") ?_
    rw [h2 (ord_neg (by assumption))]
    k_extra "my wn"
  · refine back hret (by with_reducible assumption) (by with_reducible assumption) (by k_extra "my ext") ?_
    rw [h1 (ord_pos (by assumption) (by assumption))]
    k_extra "my wn"
theorem other_ratio_c {B : Heap} {w : World} {dd uu : Nat} (hdd : 30 ≤ dd) (huu : 400 ≤ uu) (b told r : PyData) (k : Int) (C1 : Calc B w 205 dd uu [b, S "x"] told) (C2 : Calc B w 193 22 200 [told, .int k] r) : Calc B w 212 (dd + 4) (uu + 100) [tPow b k 1, S "x"] r := by
  unfold Calc
  intro prog p' loose mean mg mb dp un gd cn cs a ccd cl outer A₀ base h₀ L m news s vs Q E Bl F X N T hk S XB hd hu W hret
  obtain ⟨v1, v2, rfl, W1, W2⟩ := W.two
  obtain ⟨d1, u1, u2, u3, rfl, w1, z1, z2, z3⟩ := W1.tup3_inv
  obtain ⟨t1, rfl⟩ := z1.str_inv
  obtain ⟨d2, u3, u4, u5, rfl, w2, z4, z5, z6⟩ := z3.tup3_inv
  obtain ⟨t2, rfl⟩ := z4.str_inv
  obtain ⟨t3, rfl⟩ := z5.int_inv
  obtain ⟨t5, rfl⟩ := z6.int_inv
  obtain ⟨t4, rfl⟩ := W2.str_inv
  clear W W1 W2 z1 z3 z4 z5 z6
  k_extra "my enter"
  k_steps
  exact back hret (by with_reducible assumption) (by with_reducible assumption) (by k_extra "my ext") (by k_extra "my wn")
theorem other_root_c {B : Heap} {w : World} {dd uu : Nat} (hdd : 30 ≤ dd) (huu : 400 ≤ uu) (b told r : PyData) (k d : Int) (hd' : d ≠ 1) (C1 : Calc B w 205 dd uu [b, S "x"] told) (C2 : Calc B w 198 30 400 [told, pr k d] r) : Calc B w 212 (dd + 4) (uu + 100) [tPow b k d, S "x"] r := by
  unfold Calc
  intro prog p' loose mean mg mb dp un gd cn cs a ccd cl outer A₀ base h₀ L m news s vs Q E Bl F X N T hk S XB hd hu W hret
  obtain ⟨v1, v2, rfl, W1, W2⟩ := W.two
  obtain ⟨d1, u1, u2, u3, rfl, w1, z1, z2, z3⟩ := W1.tup3_inv
  obtain ⟨t1, rfl⟩ := z1.str_inv
  obtain ⟨d2, u3, u4, u5, rfl, w2, z4, z5, z6⟩ := z3.tup3_inv
  obtain ⟨t2, rfl⟩ := z4.str_inv
  obtain ⟨t3, rfl⟩ := z5.int_inv
  obtain ⟨t5, rfl⟩ := z6.int_inv
  obtain ⟨t4, rfl⟩ := W2.str_inv
  clear W W1 W2 z1 z3 z4 z5 z6
  k_extra "my enter"
  k_steps
  exact back hret (by with_reducible assumption) (by with_reducible assumption) (by k_extra "my ext") (by k_extra "my wn")
theorem other_sqrt_c {B : Heap} {w : World} {dd uu : Nat} (hdd : 30 ≤ dd) (huu : 400 ≤ uu) (b told r : PyData) (C1 : Calc B w 205 dd uu [b, S "x"] told) (C2 : Calc B w 198 30 400 [told, pr 1 2] r) : Calc B w 212 (dd + 4) (uu + 100) [tSqrt b, S "x"] r := by
  unfold Calc
  intro prog p' loose mean mg mb dp un gd cn cs a ccd cl outer A₀ base h₀ L m news s vs Q E Bl F X N T hk S XB hd hu W hret
  obtain ⟨v1, v2, rfl, W1, W2⟩ := W.two
  obtain ⟨d1, u1, u2, u3, rfl, w1, z1, z2, z3⟩ := W1.tup3_inv
  obtain ⟨t1, rfl⟩ := z1.str_inv
  obtain ⟨t2, rfl⟩ := z2.str_inv
  obtain ⟨d2, u4, rfl, w2, z4⟩ := z3.tup1_inv
  obtain ⟨t4, rfl⟩ := W2.str_inv
  clear W W1 W2 z1 z3 z2
  k_extra "my enter"
  k_steps
  exact back hret (by with_reducible assumption) (by with_reducible assumption) (by k_extra "my ext") (by k_extra "my wn")
theorem growth_pow_c {B : Heap} {w : World} {dd uu : Nat} (d1 d2 r : PyData) (C1 : Calc B w 212 dd uu [.tuple [S "pow", d1, d2], S "x"] r) : Calc B w 205 (dd + 4) (uu + 100) [.tuple [S "pow", d1, d2], S "x"] r := by
  unfold Calc
  intro prog p' loose mean mg mb dp un gd cn cs a ccd cl outer A₀ base h₀ L m news s vs Q E Bl F X N T hk S XB hd hu W hret
  obtain ⟨v1, v2, rfl, W1, W2⟩ := W.two
  obtain ⟨a1, u1, u2, u3, rfl, w1, z1, z2, z3⟩ := W1.tup3_inv
  obtain ⟨t1, rfl⟩ := z1.str_inv
  obtain ⟨t4, rfl⟩ := W2.str_inv
  clear W W2 z1
  k_extra "my enter"
  k_steps
  exact back hret (by with_reducible assumption) (by with_reducible assumption) (by k_extra "my ext") (by k_extra "my wn")
theorem growth_call_c {B : Heap} {w : World} {dd uu : Nat} (d1 d2 r : PyData) (C1 : Calc B w 212 dd uu [.tuple [S "call", d1, d2], S "x"] r) : Calc B w 205 (dd + 4) (uu + 100) [.tuple [S "call", d1, d2], S "x"] r := by
  unfold Calc
  intro prog p' loose mean mg mb dp un gd cn cs a ccd cl outer A₀ base h₀ L m news s vs Q E Bl F X N T hk S XB hd hu W hret
  obtain ⟨v1, v2, rfl, W1, W2⟩ := W.two
  obtain ⟨a1, u1, u2, u3, rfl, w1, z1, z2, z3⟩ := W1.tup3_inv
  obtain ⟨t1, rfl⟩ := z1.str_inv
  obtain ⟨t4, rfl⟩ := W2.str_inv
  clear W W2 z1
  k_extra "my enter"
  k_steps
  exact back hret (by with_reducible assumption) (by with_reducible assumption) (by k_extra "my ext") (by k_extra "my wn")
theorem rows_24 : True := by
  (k_with "M:eval ListComp" => (k_here; k_dflt (refine' list_comp 1 (Or.inr rfl) ?r88cl ?r88ce ?r88k ?r88n ?r88hs ?_; (case r88cl => with_unfolding_all rfl); (case r88ce => decide); (case r88k => exact rfl); (case r88n => decide); (case r88hs => exact fun _ => rfl)); k_whole))
  trivial
theorem mirrored_num_c {B : Heap} {w : World} (n d : Int) : Calc B w 449 10 100 [tNum n d, S "x"] (tNum n d) := by
  unfold Calc
  intro prog p' loose mean mg mb dp un gd cn cs a ccd cl outer A₀ base h₀ L m news s vs Q E Bl F X N T hk S XB hd hu W hret
  obtain ⟨v1, v2, rfl, W1, W2⟩ := W.two
  obtain ⟨a1, u1, u2, u3, rfl, w1, z1, z2, z3⟩ := W1.tup3_inv
  obtain ⟨t1, rfl⟩ := z1.str_inv
  obtain ⟨t4, rfl⟩ := W2.str_inv
  clear W W2 z1
  k_extra "my enterC"
  k_steps
  exact back hret (by with_reducible assumption) (by with_reducible assumption) (by k_extra "my ext") (by k_extra "my wn")
theorem mirrored_x_c {B : Heap} {w : World} : Calc B w 449 10 100 [tX, S "x"] (tProd [tNum (-1) 1, tX]) := by
  unfold Calc
  intro prog p' loose mean mg mb dp un gd cn cs a ccd cl outer A₀ base h₀ L m news s vs Q E Bl F X N T hk S XB hd hu W hret
  obtain ⟨v1, v2, rfl, W1, W2⟩ := W.two
  obtain ⟨a1, x1, x2, rfl, w1, y1, y2⟩ := W1.tup2_inv
  obtain ⟨t1, rfl⟩ := y1.str_inv
  obtain ⟨t2, rfl⟩ := y2.str_inv
  obtain ⟨t4, rfl⟩ := W2.str_inv
  clear W W2 y1 y2
  k_extra "my enterC"
  k_steps
  exact back hret (by with_reducible assumption) (by with_reducible assumption) (by k_extra "my ext") (by k_extra "my wn")
theorem mirrored_pow_c {B : Heap} {w : World} {dd uu : Nat} (hdd : 10 ≤ dd) (huu : 100 ≤ uu) (d1 d2 r1 r2 : PyData) (C1 : Calc B w 449 dd uu [d1, S "x"] r1) (C2 : Calc B w 449 dd uu [d2, S "x"] r2) : Calc B w 449 (dd + 4) (uu + 200) [.tuple [S "pow", d1, d2], S "x"] (.tuple [S "pow", r1, r2]) := by
  unfold Calc
  intro prog p' loose mean mg mb dp un gd cn cs a ccd cl outer A₀ base h₀ L m news s vs Q E Bl F X N T hk S XB hd hu W hret
  obtain ⟨v1, v2, rfl, W1, W2⟩ := W.two
  obtain ⟨a1, u1, u2, u3, rfl, w1, z1, z2, z3⟩ := W1.tup3_inv
  obtain ⟨t1, rfl⟩ := z1.str_inv
  obtain ⟨t4, rfl⟩ := W2.str_inv
  clear W W2 z1
  k_extra "my enterC"
  k_steps
  exact back hret (by with_reducible assumption) (by with_reducible assumption) (by k_extra "my ext") (by k_extra "my wn")
theorem mirrored_sqrt_c {B : Heap} {w : World} {dd uu : Nat} (hdd : 10 ≤ dd) (huu : 100 ≤ uu) (d1 r1 : PyData) (hk1 : keyD r1 = true) (C1 : Calc B w 449 dd uu [d1, S "x"] r1) : Calc B w 449 (dd + 4) (uu + 200) [tSqrt d1, S "x"] (tSqrt r1) := by
  unfold Calc
  intro prog p' loose mean mg mb dp un gd cn cs a ccd cl outer A₀ base h₀ L m news s vs Q E Bl F X N T hk S XB hd hu W hret
  obtain ⟨v1, v2, rfl, W1, W2⟩ := W.two
  obtain ⟨a1, u1, u2, u3, rfl, w1, z1, z2, z3⟩ := W1.tup3_inv
  obtain ⟨t1, rfl⟩ := z1.str_inv
  obtain ⟨t2, rfl⟩ := z2.str_inv
  obtain ⟨d2, u4, rfl, w2, z4⟩ := z3.tup1_inv
  obtain ⟨t4, rfl⟩ := W2.str_inv
  clear W W2 z1 z2
  k_extra "my enterC"
  k_steps
  exact back hret (by with_reducible assumption) (by with_reducible assumption) (by k_extra "my ext") (by k_extra "my wn")
theorem rows_25 : True := by
  (k_with "M:eval ListComp" => (k_here; k_dflt (refine' list_comp 2 (Or.inr rfl) ?r89cl ?r89ce ?r89k ?r89n ?r89hs ?_; (case r89cl => with_unfolding_all rfl); (case r89ce => decide); (case r89k => exact rfl); (case r89n => decide); (case r89hs => exact fun _ => rfl)); k_whole))
  trivial
theorem mirrored_prod2_c {B : Heap} {w : World} {dd uu : Nat} (hdd : 10 ≤ dd) (huu : 100 ≤ uu) (d1 r1 d2 r2 : PyData) (hk1 : keyD r1 = true) (hk2 : keyD r2 = true) (C1 : Calc B w 449 dd uu [d1, S "x"] r1) (C2 : Calc B w 449 dd uu [d2, S "x"] r2) : Calc B w 449 (dd + 4) (uu + 200) [tProd [d1, d2], S "x"] (tProd [r1, r2]) := by
  unfold Calc
  intro prog p' loose mean mg mb dp un gd cn cs a ccd cl outer A₀ base h₀ L m news s vs Q E Bl F X N T hk S XB hd hu W hret
  obtain ⟨v1, v2, rfl, W1, W2⟩ := W.two
  obtain ⟨a1, u1, u2, rfl, w1, z1, z2⟩ := W1.tup2_inv
  obtain ⟨t1, rfl⟩ := z1.str_inv
  obtain ⟨d2, e1, e2, rfl, w2, f1, f2⟩ := z2.tup2_inv
  obtain ⟨t4, rfl⟩ := W2.str_inv
  clear W W2 z1 z2
  k_extra "my enterC"
  k_steps
  exact back hret (by with_reducible assumption) (by with_reducible assumption) (by k_extra "my ext") (by k_extra "my wn")
theorem rows_26 : True := by
  (k_with "M:eval ListComp" => (k_here; k_dflt (refine' list_comp 3 (Or.inr rfl) ?r90cl ?r90ce ?r90k ?r90n ?r90hs ?_; (case r90cl => with_unfolding_all rfl); (case r90ce => decide); (case r90k => exact rfl); (case r90n => decide); (case r90hs => exact fun _ => rfl)); k_whole))
  trivial
theorem mirrored_prod3_c {B : Heap} {w : World} {dd uu : Nat} (hdd : 10 ≤ dd) (huu : 100 ≤ uu) (d1 r1 d2 r2 d3 r3 : PyData) (hk1 : keyD r1 = true) (hk2 : keyD r2 = true) (hk3 : keyD r3 = true) (C1 : Calc B w 449 dd uu [d1, S "x"] r1) (C2 : Calc B w 449 dd uu [d2, S "x"] r2) (C3 : Calc B w 449 dd uu [d3, S "x"] r3) : Calc B w 449 (dd + 4) (uu + 200) [tProd [d1, d2, d3], S "x"] (tProd [r1, r2, r3]) := by
  unfold Calc
  intro prog p' loose mean mg mb dp un gd cn cs a ccd cl outer A₀ base h₀ L m news s vs Q E Bl F X N T hk S XB hd hu W hret
  obtain ⟨v1, v2, rfl, W1, W2⟩ := W.two
  obtain ⟨a1, u1, u2, rfl, w1, z1, z2⟩ := W1.tup2_inv
  obtain ⟨t1, rfl⟩ := z1.str_inv
  obtain ⟨d2, e1, e2, e3, rfl, w2, f1, f2, f3⟩ := z2.tup3_inv
  obtain ⟨t4, rfl⟩ := W2.str_inv
  clear W W2 z1 z2
  k_extra "my enterC"
  k_steps
  exact back hret (by with_reducible assumption) (by with_reducible assumption) (by k_extra "my ext") (by k_extra "my wn")
theorem rows_27 : True := by
  (k_with "M:eval ListComp" => (k_here; k_dflt (refine' list_comp 0 (Or.inl rfl) ?r91cl ?r91ce ?r91k ?r91n ?r91hs ?_; (case r91cl => with_unfolding_all rfl); (case r91ce => decide); (case r91k => exact rfl); (case r91n => decide); (case r91hs => exact fun _ => rfl)); k_whole))
  trivial
theorem limit_far_c {B : Heap} {w : World} {dd uu : Nat} (hdd : 20 ≤ dd) (huu : 200 ≤ uu) (t t' g r : PyData) (C1 : Calc B w 449 dd uu [t, S "x"] t') (C2 : Calc B w 205 dd uu [t', S "x"] g) (C3 : Calc B w 219 16 160 [g] r) : Calc B w 456 (dd + 4) (uu + 200) [t, S "x", .bool false] r := by
  unfold Calc
  intro prog p' loose mean mg mb dp un gd cn cs a ccd cl outer A₀ base h₀ L m news s vs Q E Bl F X N T hk S XB hd hu W hret
  obtain ⟨v1, v2, v3, rfl, W1, W2, W3⟩ := W.three
  obtain ⟨t4, rfl⟩ := W2.str_inv
  obtain rfl := W3.bool_inv
  clear W W2 W3
  k_extra "my enter"
  k_steps
  exact back hret (by with_reducible assumption) (by with_reducible assumption) (by k_extra "my ext") (by k_extra "my wn")
theorem limit_c {B : Heap} {w : World} {dd uu : Nat} (t r : PyData) (C1 : Calc B w 456 dd uu [t, S "x", .bool false] r) : Calc B w 463 (dd + 4) (uu + 100) [t, S "x", S "-inf", .int 0] r := by
  unfold Calc
  intro prog p' loose mean mg mb dp un gd cn cs a ccd cl outer A₀ base h₀ L m news s vs Q E Bl F X N T hk S XB hd hu W hret
  obtain ⟨v1, v2', rfl, W1, W2'⟩ := W.cons_inv
  obtain ⟨v2, v3, v4, rfl, W2, W3, W4⟩ := W2'.three
  obtain ⟨t2, rfl⟩ := W2.str_inv
  obtain ⟨t3, rfl⟩ := W3.str_inv
  obtain ⟨t4, rfl⟩ := W4.int_inv
  clear W W2 W3 W4
  k_extra "my enter"
  k_steps
  rw [show (("-inf" : Str) == ("inf" : Str)) = false from by decide]
  k_steps
  exact back hret (by with_reducible assumption) (by with_reducible assumption) (by k_extra "my ext") (by k_extra "my wn")
abbrev casObj (dx : Option Addr) (t : Addr) : Obj := { cls := .ref 31, dict := dx, data := .fields #[.ref t, .none, .none, .none, .bool false, .none] }
-- an error of the program's own class in flight: its record keeps its class and its dict
theorem dict_mapFields (f : Array Value → Array Value) (o : Obj) : (Obj.mapFields f o).dict = o.dict := by
  obtain ⟨_, _, dt, _⟩ := o
  cases dt <;> rfl
def Trail (h B : Heap) (e : Addr) (vs : Array Value) : Option Value → Prop
  | none => vs[1]? = some .none
  | some v => ∃ T oT ts, vs[1]? = some (.ref T) ∧ B.get? T = none ∧ T ≠ e ∧ h.get? T = some oT ∧ oT.data = .fields ts ∧ ts[3]? = some v
structure FlyX (B : Heap) (l : List Env) (e d : Addr) (fl : Option Value) (h : Heap) : Prop where
  stays : B.StaysIn h
  fresh : B.get? e = none
  frames : h.FunFrames B l
  exc : ∃ oe vs, h.get? e = some oe ∧ oe.cls = .ref 31 ∧ oe.dict = some d ∧ oe.data = .fields vs ∧ 1 < vs.size ∧ Trail h B e vs fl
section
variable {M : Model} {A : Around} {E : Value → Shared → Prop} {s : Shared} {B : Heap} {env : Env} {outer : List Env} {L e d : Addr} {Q : Unit → Shared → Prop}
theorem not_rec {h : Heap} {e b : Addr} {oe o : Obj} {vs : Array Value} (he : h.get? e = some oe) (hd : oe.data = .fields vs) (hb : h.get? b = some o) (hn : ∀ ws, o.data ≠ .fields ws) : b ≠ e := fun q => by
  rw [q, he] at hb
  cases hb
  exact hn vs hd
theorem entryX {oe : Obj} {vs : Array Value} {head : Value} {hadNext : Bool} (hfr : A.frames = some (env :: outer)) (hf : env.frame = some L) (kb : B.StaysIn s.heap) (hen : B.get? e = none) (hl : s.heap.FunFrames B (env :: outer))
    (he : s.heap.get? e = some oe) (hc : oe.cls = .ref 31) (hdd : oe.dict = some d) (hd : oe.data = .fields vs) (hsz : 1 < vs.size)
    (h : ∀ h', FlyX B (env :: outer) e d (some (rawInt L)) h' → s.heap.UpToSlots h' → Q () { s with heap := h' }) :
    wpAny M A (do let a ← frameOf env; let pl ← entryPlaceOf L hadNext; let b ← EntryCells.newEntry head a .none (rawInt L) .none pl; setField (.ref e) 1 b) Q E s := by
  have off : e ∉ (env :: outer).filterMap (·.frame) := fun hm => by
    obtain ⟨_, o, ho, hn⟩ := hl.mem hm
    exact not_rec he hd ho hn rfl
  refine wpAny_bind (wpAny_frameOf_fun hfr hl hf fun h₁ sl₁ => wpAny_bind (wpAny_entryPlaceOf fun pl hpl => ?_))
  unfold EntryCells.newEntry newFields
  refine wpAny_bind (wpAny_newObj_type ?_ (hpl.sizeOk5 _ _ _ _ _))
  generalize hob : ({ cls := .type "traceback", dict := none, data := .fields ([head, .ref L, .none, rawInt L, .none] ++ (if pl.isEmpty then List.replicate 6 Value.none else pl)).toArray } : Obj) = tb
  have e₁ : h₁.get? e = some oe := (sl₁.2.1 e off).trans he
  have k₁ : B.StaysIn h₁ := fun b o q => (sl₁.2.1 b fun hm => by rw [(hl.mem hm).1] at q; cases q).trans (kb b o q)
  have e₂ := Heap.get?_push_of_some (h := h₁) tb e₁
  refine wpAny_setField e₂ hd hsz ?_
  have ne : h₁.objs.size ≠ e := Nat.ne_of_gt (Heap.lt_size e₁)
  have d₃ := Obj.data_mapFields hd (·.setIfInBounds 1 (Value.ref h₁.objs.size))
  have e₃ := Heap.get?_update_self (Obj.mapFields (·.setIfInBounds 1 (Value.ref h₁.objs.size))) e₂ (Obj.isFreed_of_fields d₃)
  have t₃ := (Heap.get?_update_other (h₁.push tb) (Obj.mapFields (·.setIfInBounds 1 (Value.ref h₁.objs.size))) (Ne.symm ne)).trans (Heap.get?_push_size h₁ (by rw [← hob]; rfl))
  have keep : ∀ b o, b ≠ e → h₁.get? b = some o → ((h₁.push tb).update e (Obj.mapFields (·.setIfInBounds 1 (Value.ref h₁.objs.size)))).get? b = some o := fun b o nb hb => by
    rw [Heap.get?_update_other _ _ (Ne.symm nb)]
    exact Heap.get?_push_of_some _ hb
  have up : s.heap.UpToSlots ((h₁.push tb).update e (Obj.mapFields (·.setIfInBounds 1 (Value.ref h₁.objs.size)))) := fun b o hb hn => by
    obtain ⟨sl, hs⟩ := sl₁.2.2 b o hb
    exact ⟨sl, keep b _ (not_rec he hd hb hn) hs⟩
  refine h _ ⟨fun b o q => keep b o (fun z => by rw [z, hen] at q; cases q) (k₁ b o q), hen, hl.of_keeps fun b o hb hn => ?_, ?_⟩ up
  · obtain ⟨sl, hs⟩ := up b o hb hn
    exact ⟨_, hs, rfl⟩
  · refine ⟨_, _, e₃, (Obj.cls_mapFields _ _).trans hc, (dict_mapFields _ _).trans hdd, d₃, by simpa using hsz, h₁.objs.size, tb, ([head, .ref L, .none, rawInt L, .none] ++ (if pl.isEmpty then List.replicate 6 Value.none else pl)).toArray, by simp [hsz], k₁.fresh, ne, t₃, by rw [← hob], ?_⟩
    simp
theorem noteX {fl : Option Value} (hfl : fl = none ∨ fl = some .none) (hfr : A.frames = some (env :: outer)) (hf : env.frame = some L) (x : FlyX B (env :: outer) e d fl s.heap)
    (h : ∀ h', FlyX B (env :: outer) e d (some (rawInt L)) h' → s.heap.UpToSlots h' → Q () { s with heap := h' }) : wpAny M A (noteFrame (.ref e) env) Q E s := by
  obtain ⟨kb, hen, hl, oe, vs, he, hc, hdd, hd, hsz, tr⟩ := x
  unfold noteFrame
  simp only [hf]
  rcases hfl with rfl | rfl
  · refine wpAny_bind (wpAny_field he hd tr ?_)
    rw [if_neg (by decide)]
    exact entryX hfr hf kb hen hl he hc hdd hd hsz h
  · obtain ⟨T, oT, ts, h1, nT, ne, hT, hdT, h3⟩ := tr
    refine wpAny_bind (wpAny_field he hd h1 ?_)
    rw [if_pos (show (Value.ref T != Value.none) = true from by simp)]
    refine wpAny_bind (wpAny_field hT hdT h3 ?_)
    rw [if_neg (show ¬ ((Value.none == rawInt L) = true) from by simp [rawInt])]
    refine wpAny_bind (wpAny_setField hT hdT (Array.getElem?_eq_some_iff.mp h3).1 ?_)
    have other : ∀ b, b ≠ T → (s.heap.update T (Obj.mapFields (·.setIfInBounds 3 Value.none))).get? b = s.heap.get? b := fun b nb => Heap.get?_update_other _ _ (Ne.symm nb)
    exact entryX hfr hf (fun b o q => (other b fun z => by rw [z, nT] at q; cases q).trans (kb b o q)) hen (hl.of_keeps fun b o hb hn => ⟨o, (other b (not_rec hT hdT hb hn)).trans hb, rfl⟩) ((other e (Ne.symm ne)).trans he) hc hdd hd hsz
      fun h' y u => h h' y fun b o hb hn => u b o ((other b (not_rec hT hdT hb hn)).trans hb) hn
theorem flightX {l : List Env} {v : Value} (x : FlyX B l e d (some v) s.heap) (h : ∀ h', FlyX B l e d (some .none) h' → s.heap.UpToSlots h' → Q () { s with heap := h' }) : wpAny M A (setFlight (.ref e) none) Q E s := by
  obtain ⟨kb, hen, hl, oe, vs, he, hc, hdd, hd, hsz, T, oT, ts, h1, nT, ne, hT, hdT, h3⟩ := x
  have s3 : 3 < ts.size := (Array.getElem?_eq_some_iff.mp h3).1
  have other : ∀ b, b ≠ T → (s.heap.update T (Obj.mapFields (·.setIfInBounds 3 ((none : Option Addr).elim Value.none fun f => rawInt f)))).get? b = s.heap.get? b := fun b nb => Heap.get?_update_other _ _ (Ne.symm nb)
  unfold setFlight
  refine wpAny_bind (wpAny_field he hd h1 ?_)
  rw [if_pos (show (Value.ref T != Value.none) = true from by simp)]
  refine wpAny_setField hT hdT s3 (h _ ⟨fun b o q => (other b fun z => by rw [z, nT] at q; cases q).trans (kb b o q), hen, hl.of_keeps fun b o hb hn => ⟨o, (other b (not_rec hT hdT hb hn)).trans hb, rfl⟩, ?_⟩
    fun b o hb hn => ⟨o.slots, (other b (not_rec hT hdT hb hn)).trans hb⟩)
  exact ⟨oe, vs, (other e (Ne.symm ne)).trans he, hc, hdd, hd, hsz, T, _, _, h1, nT, ne, Heap.get?_update_self _ hT (Obj.isFreed_of_fields (Obj.data_mapFields hdT _)), Obj.data_mapFields hdT _, by simp [s3]⟩
theorem noteAgainX {l : List Env} (hf : env.frame = some L) (x : FlyX B l e d (some (rawInt L)) s.heap) (h : Q () s) : wpAny M A (noteFrame (.ref e) env) Q E s := by
  obtain ⟨kb, hen, hl, oe, vs, he, hc, hdd, hd, hsz, T, oT, ts, h1, nT, ne, hT, hdT, h3⟩ := x
  unfold noteFrame
  simp only [hf]
  refine wpAny_bind (wpAny_field he hd h1 ?_)
  rw [if_pos (show (Value.ref T != Value.none) = true from by simp)]
  refine wpAny_bind (wpAny_field hT hdT h3 ?_)
  rw [if_pos (show (rawInt L == rawInt L) = true from by simp)]
  exact wpAny_pure h
theorem leavesX {fl : Option Value} (hfl : fl = none ∨ fl = some .none) (hfr : A.frames = some (env :: outer)) (hf : env.frame = some L) (x : FlyX B (env :: outer) e d fl s.heap)
    (h : ∀ h', FlyX B outer e d (some .none) h' → s.heap.UpToSlots h' → Q () { s with heap := h' }) : wpAny M A (leaving env (.ref e)) Q E s := by
  unfold leaving
  refine wpAny_bind (noteX hfl hfr hf x fun h₁ y u => flightX y fun h₂ z u' => h h₂ ⟨z.stays, z.fresh, z.frames.2.2, z.exc⟩ (u.trans u'))
end
/-- e flies over the frames l: its dict dct and the ledger stand below it -/
def RaisedX (base G : Heap) (l : List Env) (e : Addr) (dct : Obj) (news : Led) (h : Heap) : Prop :=
  ∃ B d, base.StaysIn B ∧ (∀ b o, G.get? b = some o → b ∉ l.filterMap (·.frame) → B.get? b = some o) ∧ (∀ q ∈ (d, dct) :: news, B.get? q.1 = some q.2 ∧ G.get? q.1 = none ∧ base.get? q.1 = none) ∧ FlyX B l e d (some .none) h
theorem RaisedX.sub {base G : Heap} {l : List Env} {e : Addr} {dct : Obj} {news news' : Led} {h : Heap} (R : RaisedX base G l e dct news h) (hs : ∀ p ∈ news', p ∈ news) : RaisedX base G l e dct news' h := by
  obtain ⟨B, d, r1, r2, r3, r4⟩ := R
  exact ⟨B, d, r1, r2, fun q hq => r3 q ((List.mem_cons.mp hq).elim (fun z => z ▸ .head _) fun z => .tail _ (hs q z)), r4⟩
theorem frame_mem {env : Env} {outer : List Env} {L b : Addr} (hf : env.frame = some L) (hm : b ∈ (env :: outer).filterMap (·.frame)) : b = L ∨ b ∈ outer.filterMap (·.frame) := by
  rw [List.filterMap_cons, hf] at hm
  exact List.mem_cons.mp hm
section
variable {M : Model} {A : Around} {E : Value → Shared → Prop} {s : Shared} {base g G h : Heap} {env : Env} {outer : List Env} {L e d : Addr} {m : Str → Option Value} {Q : Unit → Shared → Prop} {news l : Led} {dct : Obj}
theorem leave_raiseX {t : Addr} (K : Below A base outer g) (F : Fr g L s.heap m) (N : News g L s.heap l) (he : (e, casObj (some d) t) ∈ l) (hd : (d, dct) ∈ l) (hs : ∀ q ∈ news, q ∈ l) (hn : ∀ q ∈ (d, dct) :: news, q.1 ≠ e) (hf : env.frame = some L) (hk : env.scope.kind = .function)
    (hQ : ∀ h', RaisedX base g outer e dct news h' → g.UpToSlots h' → Q () { s with heap := h' }) : wpAny M (A.deeper env) (leaving env (.ref e)) Q E s := by
  have K' := pushX K F hf hk
  have off : ∀ q ∈ l, q.1 ∉ (env :: outer).filterMap (·.frame) := fun q hq hm => by
    rcases frame_mem hf hm with z | z
    · exact (N q hq).2.1 z
    · obtain ⟨_, o, ho, _⟩ := K.frames.mem z
      rw [(N q hq).2.2] at ho
      cases ho
  have up : base.StaysIn s.heap := K'.stays
  have eb : base.get? e = none := fresh_of_stays K.stays (N _ he).2.2
  have st : base.StaysIn (hideAll s.heap (e :: (env :: outer).filterMap (·.frame))) := fun b o q => hideAll_get _ (up b o q) fun hm => by
    rcases List.mem_cons.mp hm with z | z
    · rw [z, eb] at q
      cases q
    · rw [(K'.frames.mem z).1] at q
      cases q
  refine leavesX (B := hideAll s.heap (e :: (env :: outer).filterMap (·.frame))) (d := d) (fl := none) (.inl rfl) K'.stack hf
    ⟨fun b o q => of_hideAll _ q, hideAll_none _ (.head _), funFrames_hide K'.frames fun env he b hb => .tail _ (List.mem_filterMap.mpr ⟨env, he, hb⟩), _, _, (N _ he).1, rfl, rfl, rfl, (by show 1 < 6; omega), rfl⟩ fun h' x u => hQ h' ⟨_, d, st, fun b o q nm => ?_, fun q hq => ?_, x⟩ ((Heap.UpToSlots.of_keeps F.keep).trans u)
  · refine hideAll_get _ (F.keep b o q) fun hm => ?_
    rcases List.mem_cons.mp hm with z | z
    · have := (N _ he).2.2
      rw [← z, q] at this
      cases this
    · rcases frame_mem hf z with z | z
      · rw [z, kts_self F] at q
        cases q
      · exact nm z
  · have hq' : q ∈ l := (List.mem_cons.mp hq).elim (fun z => z ▸ hd) (hs q)
    refine ⟨hideAll_get _ (N q hq').1 fun hm => ?_, (N q hq').2.2, fresh_of_stays K.stays (N q hq').2.2⟩
    rcases List.mem_cons.mp hm with z | z
    · exact hn q hq z
    · exact off q hq' z
theorem leave_onX (K : Below A base outer g) (F : Fr g L G m) (R : RaisedX base G (env :: outer) e dct news s.heap) (hsm : G.UpToSlots s.heap) (hf : env.frame = some L)
    (hQ : ∀ h', RaisedX base g outer e dct news h' → g.UpToSlots h' → Q () { s with heap := h' }) : wpAny M (A.deeper env) (leaving env (.ref e)) Q E s := by
  obtain ⟨B, d, r1, r2, r3, r4⟩ := R
  refine leavesX (.inr rfl) (Around.frames_deeper K.stack) hf r4 fun h' x u => hQ h' ⟨B, d, r1, fun b o q nm => r2 b o (F.keep b o q) fun hm => ?_, fun q hq => ⟨(r3 q hq).1, kts_none F.keep (r3 q hq).2.1, (r3 q hq).2.2⟩, x⟩ ((Heap.UpToSlots.of_keeps F.keep).trans (hsm.trans u))
  rcases frame_mem hf hm with z | z
  · rw [z, kts_self F] at q
    cases q
  · exact nm z
end
-- the program's own error: its making
theorem cas_cls (P : Params) : ∃ nm q bs sn sub ab col dd k0 k1 k2 k3 k5, (KQ P).lookup 31 = some (excClassObj nm q 31 30 bs [.type "Exception", .type "BaseException", .type "object"] true sn sub ab col dd k0 k1 k2 k3 k5 "Exception.__new__") :=
  ⟨_, _, _, _, _, _, _, _, _, _, _, _, _, rfl⟩
theorem ns_some_of {K : Frag} {h : Heap} {N : Addr} {mg : Str → Option Value} {n : Str} {v : Value} (X : K.In h) (G : h.Ns N mg) (e : nsIn K N n = some (some v)) : mg n = some v := by
  obtain ⟨o, es, ep, ho, hd, _, hf⟩ := G
  unfold nsIn at e
  split at e
  · rename_i c d es' n' sl q
    have := X _ _ q
    rw [ho] at this
    cases this
    cases hd
    split at e
    · rename_i en he
      cases e
      rw [← hf]
      unfold nsFind findBy
      rw [← Array.find?_toList, he]
      rfl
    · split at e <;> cases e
  · cases e
theorem cas_fn (P : Params) : ∃ o, (KQ P).lookup 28 = some o ∧ o.cls = .type "function" := ⟨_, rfl, rfl⟩
theorem new_add {h₀ h : Heap} {L e t : Addr} {m : Str → Option Value} {news : Led} {h' : Heap} {args : List Value} (F : Fr h₀ L h m) (N : News h₀ L h news) (M : Heap.MadeExcOf h h' e (.ref 31) args) :
    ∃ t, Fr h₀ L h' m ∧ News h₀ L h' ((e, casObj none t) :: (t, tupO args) :: news) ∧ (∀ p ∈ news, p.1 ≠ e) ∧ (∀ p ∈ news, p.1 ≠ t) ∧ t ≠ e := by
  obtain ⟨t, he, htn, ht⟩ := M.there
  have F' := F.keeps M.keeps
  have fr : ∀ b, h.get? b = none → h₀.get? b = none := fun b hb => by
    cases q : h₀.get? b with
    | none => rfl
    | some o => have := F.keep b o q; rw [hb] at this; cases this
  have N1 := News.more F' (N.keeps M.keeps) ht (fun es n q => by cases q) (fr t htn)
  refine ⟨t, F', News.more F' N1 he (fun es n q => by cases q) (fr e M.new), fun p hp q => ?_, fun p hp q => ?_, fun q => ?_⟩
  · have := (N p hp).1; rw [q, M.new] at this; cases this
  · have := (N p hp).1; rw [q, htn] at this; cases this
  · subst q; rw [he] at ht; cases ht
abbrev CasC (h : Heap) : Prop := ∃ nm q bs sn sub ab col dd k0 k1 k2 k3 k5, h.get? 31 = some (excClassObj nm q 31 30 bs [.type "Exception", .type "BaseException", .type "object"] true sn sub ab col dd k0 k1 k2 k3 k5 "Exception.__new__")
theorem casC {P : Params} {h : Heap} (X : (KQ P).In h) : CasC h := by
  obtain ⟨nm, q, bs, sn, sub, ab, col, dd, k0, k1, k2, k3, k5, hC⟩ := cas_cls P
  exact ⟨nm, q, bs, sn, sub, ab, col, dd, k0, k1, k2, k3, k5, X _ _ hC⟩
/-- the record of names m -/
def IsNs (o : Obj) (m : Str → Option Value) : Prop := ∃ es ep, o.data = .dict es ep ∧ StrKeys es ∧ UniqKeys es ∧ ∀ name, nsFind es name = m name
theorem IsNs.at {h : Heap} {d : Addr} {o : Obj} {m : Str → Option Value} (x : IsNs o m) (e : h.get? d = some o) : h.Ns1 d m := let ⟨es, ep, r⟩ := x; ⟨o, es, ep, e, r⟩
theorem IsNs.notFreed {o : Obj} {m : Str → Option Value} (x : IsNs o m) : o.isFreed = false := by
  obtain ⟨es, ep, e, _⟩ := x
  obtain ⟨_, _, dt, _⟩ := o
  cases e
  rfl
section
variable {prog : Program} {w : World} {A : Around} {E : Value → Shared → Prop} {s : Shared} {h₀ : Heap} {L e : Addr} {m : Str → Option Value} {rest : Led}
theorem cas_init {t : Addr} {v : Value} {Q : Value → Shared → Prop} (C : CasC s.heap) (F : Fr h₀ L s.heap m) (N : News h₀ L s.heap ((e, casObj none t) :: rest)) (hn : ∀ p ∈ rest, p.1 ≠ e)
    (k : ∀ h' t', Fr h₀ L h' m → News h₀ L h' ((e, casObj none t') :: (t', tupO [v]) :: rest) → t' ≠ e → Q .none { s with heap := h' }) :
    wpAny (model prog w) A (call (.builtin "Exception.__init__") [.ref e, v]) Q E s := by
  obtain ⟨nm, q, bs, sn, sub, ab, col, dd, k0, k1, k2, k3, k5, hC⟩ := C
  obtain ⟨h, g, dr, tk, os⟩ := s
  have he := (N _ (.head _)).1
  dsimp only at hC he
  refine wpAny_call (codeAny_call_builtin PySem.F.excBase_Exception.init.plain PySem.F.excBase_Exception.initEntry (wpAny_check_init_sub PySem.F.excBase_Exception hC he rfl ?_))
  wp_walk
  have N1 := N.push F (tupO [v])
  have ne : h.objs.size ≠ e := Nat.ne_of_gt (Heap.lt_size he)
  obtain ⟨F2, N2⟩ := news_upd (pre := [(h.objs.size, tupO [v])]) (f := Obj.mapFields fun x => x.setIfInBounds 0 (.ref h.objs.size)) (o' := casObj none h.objs.size) (F.push (tupO [v])) N1 (fun p hp => by rw [List.mem_singleton.mp hp]; exact ne) hn rfl rfl
  refine k _ h.objs.size F2 (fun p hp => N2 p ?_) ne
  rcases List.mem_cons.mp hp with rfl | hp
  · exact .tail _ (.head _)
  · rcases List.mem_cons.mp hp with rfl | hp
    · exact .head _
    · exact .tail _ (.tail _ hp)
end
section
variable {prog : Program} {w : World} {A : Around} {E : Value → Shared → Prop} {s : Shared} {h₀ : Heap} {L e : Addr} {m : Str → Option Value} {rest : Led}
structure CasN (h : Heap) (mN : Str → Option Value) : Prop where
  cls : CasC h
  ns : h.Ns 30 mN
  set : mN "__setattr__" = none
  get : mN "__getattribute__" = none
  kind : mN "kind" = none
  text : mN "text" = none
  hook : mN "__getattr__" = none
theorem casN {P : Params} {h : Heap} (X : (KQ P).In h) : ∃ mN, CasN h mN := by
  have hok : nsOkIn (KQ P) 30 = true := by kernel_rfl
  have h1 : nsIn (KQ P) 30 "__setattr__" = some none := by kernel_rfl
  have h2 : nsIn (KQ P) 30 "__getattribute__" = some none := by kernel_rfl
  have h3 : nsIn (KQ P) 30 "kind" = some none := by kernel_rfl
  have h4 : nsIn (KQ P) 30 "text" = some none := by kernel_rfl
  have h5 : nsIn (KQ P) 30 "__getattr__" = some none := by kernel_rfl
  have G : h.Ns 30 (h.nsMap 30) := .of_isNs (isNs_of_in X hok)
  exact ⟨_, casC X, G, ns_none_of X G h1, ns_none_of X G h2, ns_none_of X G h3, ns_none_of X G h4, ns_none_of X G h5⟩
theorem no_kind : typeLookup (.type "Exception") "kind" = pure none := by rw [typeLookup_type, builtinLookup_eq_fast]; kernel_rfl
theorem no_text : typeLookup (.type "Exception") "text" = pure none := by rw [typeLookup_type, builtinLookup_eq_fast]; kernel_rfl
theorem made_dict {h : Heap} {e : Addr} {oe : Obj} (he : h.get? e = some oe) (hn : oe.isFreed = false) : let h₂ := (h.push emptyDict).update e fun o => { cls := o.cls, dict := some h.objs.size, data := o.data, slots := o.slots }
    h₂.get? e = some { cls := oe.cls, dict := some h.objs.size, data := oe.data, slots := oe.slots } ∧ h₂.get? h.objs.size = some emptyDict ∧ (∀ b o, b ≠ e → h.get? b = some o → h₂.get? b = some o) ∧ h.objs.size ≠ e := by
  have ne : h.objs.size ≠ e := Nat.ne_of_gt (Heap.lt_size he)
  refine ⟨Heap.get?_update_self _ (Heap.get?_push_of_some _ he) ?_, (Heap.get?_update_ne _ _ _ _ ne).trans (Heap.get?_push_at rfl rfl), fun b o nb hb => (Heap.get?_update_ne _ _ _ _ nb).trans (Heap.get?_push_of_some _ hb), ne⟩
  obtain ⟨oc, od, dt, osl⟩ := oe
  cases dt <;> first | rfl | exact hn
theorem cas_store1 {v : Value} {oe : Obj} {mN : Str → Option Value} {h : Heap} {g : Array GenState} {dr : Drawn} {tk : Nat} {os : OsState} {Q : Unit → Shared → Prop} (C : CasN h mN) (he : h.get? e = some oe) (hc : oe.cls = .ref 31) (hd : oe.dict = none) (hv : ∃ vs, oe.data = .fields vs)
    (k : ∀ h' tk', Heap.SameBut h.objs.size ((h.push emptyDict).update e fun o => { cls := o.cls, dict := some h.objs.size, data := o.data, slots := o.slots }) h' → h'.Ns1 h.objs.size (fun y => if y = "kind" then some v else none) → Q () ⟨h', g, dr, tk', os⟩) :
    wpAny (model prog w) A (setAttr (.ref e) "kind" v) Q E ⟨h, g, dr, tk, os⟩ := by
  obtain ⟨⟨nm, q, bs, sn, sub, ab, col, dd, k0, k1, k2, k3, k5, hC⟩, G, c1, c2, c3, c4, c5⟩ := C
  have SF := PySem.F.store_Exception
  have hpass := SF.passes (.ref e)
  have f3 := SF.slot.bind (.ref e)
  obtain ⟨vs, hv⟩ := hv
  unfold setAttr callSpecial? specialOf
  repeat (any_goals (first | assumption | (with_reducible refine wpAny_loadPart_at he ?_; rw [hc]) | (with_reducible refine wpAny_typeLookup_exc hC G SF.mro SF.slot.lookup ?_; rw [c1]) | wp_step))
  show codeAny (model prog w) A (.call (.builtin "object.__setattr__") ⟨[.ref e, .str "kind" tk, v], []⟩) _ _
  refine codeAny_call_builtin (b := Builtin.«object.__setattr__») SF.slot.plain SF.entry (@wpAny_check_sa _ _ h g dr (tk + 1) os nm q 31 30 e bs [.type "Exception", .type "BaseException", .type "object"] sn sub ab col dd k0 k1 k2 k3 k5 "Exception" "Exception.__new__" "object.__setattr__" "object" v _ oe _ _ SF hC he hc ?_)
  unfold Builtin.«object.__setattr__»
  repeat (first | rw [refuse_eq] | (rw [refuseLoop_ref, hpass]) | (with_reducible refine wpAny_loadPart_at he ?_; rw [hc]) | with_reducible refine wpAny_mroOf_exc hC ?_ | (with_reducible refine wpAny_typeLookup_exc hC G SF.mro no_kind ?_; rw [c3]) | wp_step)
  rw [hd]
  dsimp only
  rw [if_neg (by simp [typeHasDict]), hv]
  dsimp only
  refine wpAny_bind (wpAny_alloc' (wpAny_bind (wpAny_update' (Heap.get?_push_of_some _ he) (wpAny_pure ?_))))
  obtain ⟨x1, x2, x3, ne⟩ := made_dict he (Obj.isFreed_of_fields hv)
  show wpAny _ _ (Builtin.ObjectAttr.storeInDict h.objs.size (.str "kind" tk) "kind" v) _ _ _
  unfold Builtin.ObjectAttr.storeInDict Builtin.ObjectAttr.newKeyGuard
  refine wpAny_bind (wpAny_pure (wpAny_bind (wpAny_nsSet1 (Heap.Ns1.of_empty ⟨_, #[], _, x2, rfl, fun e he => absurd he (by simp), fun _ => rfl⟩) fun h' hn' hs => ?_)))
  obtain ⟨oD, es, ep, hoD, hdD, hcD⟩ := hn'.count (PySem.Within.cons "kind" v PySem.Within.nil)
  refine wpAny_bind (wpAny_lookBehind hoD (by rw [hdD]; exact pastItsLine_dict (Nat.le_trans hcD (by rw [List.length_cons, List.length_nil, sizeLine_eq]; omega))) ?_)
  wp_walk
  exact k _ _ hs hn'
theorem cas_set1 {t : Addr} {v : Value} {mN : Str → Option Value} {Q : Unit → Shared → Prop} (C : CasN s.heap mN) (F : Fr h₀ L s.heap m) (N : News h₀ L s.heap ((e, casObj none t) :: rest)) (hn : ∀ p ∈ rest, p.1 ≠ e)
    (k : ∀ h' tk' d o, Fr h₀ L h' m → News h₀ L h' ((e, casObj (some d) t) :: (d, o) :: rest) → d ≠ e → (∀ p ∈ rest, p.1 ≠ d) → IsNs o (fun y => if y = "kind" then some v else none) → Q () { s with heap := h', toks := tk' }) :
    wpAny (model prog w) A (setAttr (.ref e) "kind" v) Q E s := by
  obtain ⟨h, g, dr, tk, os⟩ := s
  have he := (N _ (.head _)).1
  dsimp only at he
  refine cas_store1 C he rfl rfl ⟨_, rfl⟩ fun h' tk' hs hn' => ?_
  obtain ⟨x1, x2, x3, ne⟩ := made_dict he rfl
  have N1 := N.push F emptyDict
  obtain ⟨F2, N2⟩ := news_upd (pre := [(h.objs.size, emptyDict)]) (f := fun o => { cls := o.cls, dict := some h.objs.size, data := o.data, slots := o.slots }) (o' := casObj (some h.objs.size) t) (F.push emptyDict) N1 (fun p hp => by rw [List.mem_singleton.mp hp]; exact ne) hn rfl rfl
  have nd : ∀ p ∈ (e, casObj (some h.objs.size) t) :: rest, p.1 ≠ h.objs.size := fun p hp => by
    rcases List.mem_cons.mp hp with rfl | hp
    · exact ne.symm
    · exact Nat.ne_of_lt (Heap.lt_size (N p (.tail _ hp)).1)
  obtain ⟨oD, es, ep, hoD, r⟩ := hn'
  have N3 := News.setAt (own := []) N2 (fun p hp => nomatch hp) nd hs hoD
  refine k h' tk' h.objs.size oD (F2.update N2 (.head _) hs) (fun p hp => N3 p ?_) ne (fun p hp => nd p (.tail _ hp)) ⟨es, ep, r⟩
  rcases List.mem_cons.mp hp with rfl | hp
  · exact .tail _ (.head _)
  · rcases List.mem_cons.mp hp with rfl | hp
    · exact .head _
    · exact .tail _ (.tail _ hp)
theorem cas_set2 {t d : Addr} {v : Value} {o : Obj} {mN mA : Str → Option Value} {Q : Unit → Shared → Prop} (C : CasN s.heap mN) (F : Fr h₀ L s.heap m) (N : News h₀ L s.heap ((e, casObj (some d) t) :: (d, o) :: rest)) (hn : ∀ p ∈ rest, p.1 ≠ e) (hd : d ≠ e) (hr : ∀ p ∈ rest, p.1 ≠ d)
    (I : IsNs o mA) (h31 : e ≠ 31) {ns : List Str} (hw : PySem.Within mA ns) (hl : ns.length ≤ sizeLine)
    (k : ∀ h' tk' o', Fr h₀ L h' m → News h₀ L h' ((e, casObj (some d) t) :: (d, o') :: rest) → IsNs o' (fun y => if y = "text" then some v else mA y) → Q () { s with heap := h', toks := tk' }) :
    wpAny (model prog w) A (setAttr (.ref e) "text" v) Q E s := by
  obtain ⟨⟨nm, q, bs, sn, sub, ab, col, dd, k0, k1, k2, k3, k5, hC⟩, G, c1, c2, c3, c4, c5⟩ := C
  obtain ⟨h, g, dr, tk, os⟩ := s
  have he := (N _ (.head _)).1
  have hD := (N _ (.tail _ (.head _))).1
  dsimp only at he hD
  have inst : h.Inst e 31 mA := ⟨_, he, rfl, (fun _ q => by cases q), .inr ⟨d, rfl, hd, I.at hD⟩⟩
  refine @store_attr prog w _ _ h g dr tk os nm q 31 30 e bs [.type "Exception", .type "BaseException", .type "object"] sn sub ab col dd k0 k1 k2 k3 k5 "Exception" "Exception.__new__" "object.__setattr__" "object" mN mA "text" v _ ns PySem.F.store_Exception hC G c1 c4 no_text h31 inst (fun h' tk' I' keep same => ?_) hw hl
  obtain ⟨o₁, g1, g2, g3, g4, g5⟩ := same _ he
  have eo : o₁ = casObj (some d) t := by
    obtain ⟨oc, od, dt, osl⟩ := o₁
    have := g5 d rfl
    dsimp only at g2 g3 g4 this
    rw [g2, g3, g4, this]
  rw [eo] at g1
  obtain ⟨o₂, i1, i2, _, hD'⟩ := I'
  rw [g1] at i1
  cases i1
  rcases hD' with ⟨z, _⟩ | ⟨d', z, nd', oD, es, ep, hoD, r⟩
  · cases z
  cases z
  have kp : ∀ p ∈ rest, h'.get? p.1 = some p.2 := fun p hp => keep p.1 p.2 (hn p hp) (fun o₀ dx q q' => by rw [he] at q; cases q; cases q'; exact hr p hp) (N p (.tail _ (.tail _ hp))).1
  have Nd := (N _ (.tail _ (.head _))).2
  have Ne := (N _ (.head _)).2
  have kb : ∀ b o, b ≠ e → b ≠ d → h.get? b = some o → h'.get? b = some o := fun b o n1 n2 q => keep b o n1 (fun o₀ dx q q' => by rw [he] at q; cases q; cases q'; exact n2) q
  obtain ⟨oL, es', ep', hL, hr'⟩ := F.ns
  refine k h' tk' oD ⟨⟨oL, es', ep', kb _ _ (fun z => Ne.1 z.symm) (fun z => Nd.1 z.symm) hL, hr'⟩, fun b o q => kb b o (fun z => ?_) (fun z => ?_) (F.keep b o q), F.above⟩ (fun p hp => ?_) ⟨es, ep, r⟩
  · rw [z] at q
    exact nomatch q.symm.trans Ne.2
  · rw [z] at q
    exact nomatch q.symm.trans Nd.2
  · rcases List.mem_cons.mp hp with rfl | hp
    · exact ⟨g1, Ne⟩
    · rcases List.mem_cons.mp hp with rfl | hp
      · exact ⟨hoD, Nd⟩
      · exact ⟨kp p hp, (N p (.tail _ (.tail _ hp))).2⟩
theorem cas_load {d : Addr} {o oe : Obj} {v : Value} {expr : Bool} {mN mA : Str → Option Value} {h : Heap} {g : Array GenState} {dr : Drawn} {tk : Nat} {os : OsState} {Q : Value → Shared → Prop} (C : CasN h mN) (he : h.get? e = some oe) (hc : oe.cls = .ref 31) (hd : oe.dict = some d) (hv : ∃ vs, oe.data = .fields vs)
    (hD : h.get? d = some o) (I : IsNs o mA) (hk : mA "kind" = some v) (hh : handedOut v = pure v) (k : Q v ⟨h, g, dr, tk + 1, os⟩) : wpAny (model prog w) A (getAttr (.ref e) "kind" expr) Q E ⟨h, g, dr, tk, os⟩ := by
  obtain ⟨⟨nm, q, bs, sn, sub, ab, col, dd, k0, k1, k2, k3, k5, hC⟩, G, c1, c2, c3, c4, c5⟩ := C
  have FB := PySem.F.attrBase_Exception
  have f3 := FB.ga.bind (.ref e)
  obtain ⟨vs, hv⟩ := hv
  have hx0 : (expr && onTheHeap (Value.builtin "BaseException.__getattribute__")) = false := by cases expr <;> rfl
  have hx2 : (Value.builtin "BaseException.__getattribute__" == Value.builtin "object.__getattribute__") = false := by decide +kernel
  have hx1 : (onTheHeap (Value.ref 31) && Value.builtin "BaseException.__getattribute__" == Value.builtin "object.__getattribute__") = false := by rw [hx2]; rfl
  unfold getAttr getAttrBy
  repeat (any_goals (first | assumption | (with_reducible refine wpAny_loadPart_at he ?_; rw [hc]) | (with_reducible refine wpAny_typeLookup_exc hC G FB.mro FB.ga.lookup ?_; rw [c2]) | (with_reducible refine wpAny_typeLookup_exc hC G FB.mro FB.noGetattr ?_; rw [c5]) | wp_step))
  show codeAny (model prog w) A (.call (.builtin "BaseException.__getattribute__") ⟨[.ref e, .str "kind" tk], []⟩) _ _
  refine codeAny_call_builtin (b := Builtin.«object.__getattribute__») FB.ga.plain PySem.F.entry_bexc_ga ?_
  refine @wpAny_check_ga_own _ _ h g dr (tk + 1) os e oe nm q 31 30 bs [.type "Exception", .type "BaseException", .type "object"] [.type "Exception", .type "BaseException", .type "object"] true sn sub ab col dd k0 k1 k2 k3 k5 "Exception" "Exception.__new__" _ (.str "kind" tk) _ FB hC .base he hc ?_
  unfold Builtin.«object.__getattribute__»
  repeat (first | (with_reducible refine wpAny_loadPart_at he ?_; rw [hc]) | (with_reducible refine wpAny_typeLookup_exc hC G FB.mro no_kind ?_; rw [c3]) | wp_step)
  rw [hv]
  dsimp only
  unfold instanceDict
  repeat (first | (with_reducible refine wpAny_loadPart_at he ?_; rw [hc]) | with_reducible refine wpAny_loadPart_at hC ?_ | wp_step)
  rw [hd]
  repeat (first | (with_reducible refine wpAny_nsGet (I.at hD).ns ?_; rw [hk]) | wp_step)
  exact k
end
theorem meta_Exception : typeOf (.type "Exception") = pure (.type "type") := by kernel_rfl
theorem rows_28 : True := by
  (k_with "M:getMethod type:Exception" => (k_here; refine' method_type ?F ?r92X ?r92m (by decide +kernel) ?e ?r92h ?_; (case F => k_asm); (case r92X => k_asm); (case r92m => exact meta_Exception); (case e => k_dflt k_is); (case r92h => k_handed)))
  trivial
def IsKind (o : Obj) : Prop := ∃ mA tk, IsNs o mA ∧ mA "kind" = some (.str "domain" tk)
theorem isKind_of {o : Obj} {v : Value} {tk : Tok} (I : IsNs o (fun y => if y = "text" then some v else if y = "kind" then some (.str "domain" tk) else none)) : IsKind o := ⟨_, tk, I, (if_neg (by decide)).trans (if_pos rfl)⟩
section
variable {prog : Program} {w : World} {A : Around} {E : Value → Shared → Prop} {s : Shared} {h₀ : Heap} {L e : Addr} {m : Str → Option Value} {rest : Led}
theorem cas_initK {t : Addr} {v : Value} {Q : Value → Shared → Prop} (F : Fr h₀ L s.heap m) (X : (KQ w.params).In h₀) (N : News h₀ L s.heap ((e, casObj none t) :: rest)) (hn : ∀ p ∈ rest, p.1 ≠ e)
    (k : ∀ h' t', Fr h₀ L h' m → News h₀ L h' ((e, casObj none t') :: (t', tupO [v]) :: rest) → t' ≠ e → Q .none { s with heap := h' }) :
    wpAny (model prog w) A (call (.builtin "Exception.__init__") [.ref e, v]) Q E s := cas_init (casC (X.keeps F.keep)) F N hn k
theorem cas_set1K {t : Addr} {v : Value} {Q : Unit → Shared → Prop} (F : Fr h₀ L s.heap m) (X : (KQ w.params).In h₀) (N : News h₀ L s.heap ((e, casObj none t) :: rest)) (hn : ∀ p ∈ rest, p.1 ≠ e)
    (k : ∀ h' tk' d o, Fr h₀ L h' m → News h₀ L h' ((e, casObj (some d) t) :: (d, o) :: rest) → d ≠ e → (∀ p ∈ rest, p.1 ≠ d) → IsNs o (fun y => if y = "kind" then some v else none) → Q () { s with heap := h', toks := tk' }) :
    wpAny (model prog w) A (setAttr (.ref e) "kind" v) Q E s := by
  obtain ⟨mN, C⟩ := casN (X.keeps F.keep)
  exact cas_set1 C F N hn k
theorem cas_set2K {t d : Addr} {v u : Value} {o : Obj} {Q : Unit → Shared → Prop} (F : Fr h₀ L s.heap m) (X : (KQ w.params).In h₀) (N : News h₀ L s.heap ((e, casObj (some d) t) :: (d, o) :: rest)) (hn : ∀ p ∈ rest, p.1 ≠ e) (hd : d ≠ e) (hr : ∀ p ∈ rest, p.1 ≠ d)
    (I : IsNs o (fun y => if y = "kind" then some u else none))
    (k : ∀ h' tk' o', Fr h₀ L h' m → News h₀ L h' ((e, casObj (some d) t) :: (d, o') :: rest) → IsNs o' (fun y => if y = "text" then some v else if y = "kind" then some u else none) → Q () { s with heap := h', toks := tk' }) :
    wpAny (model prog w) A (setAttr (.ref e) "text" v) Q E s := by
  obtain ⟨mN, C⟩ := casN (X.keeps F.keep)
  refine cas_set2 C F N hn hd hr I (fun z => ?_) (PySem.Within.cons "kind" u PySem.Within.nil) (by rw [List.length_cons, List.length_nil, sizeLine_eq]; omega) k
  obtain ⟨_, _, _, _, _, _, _, _, _, _, _, _, _, hC⟩ := cas_cls w.params
  have := (N _ (.head _)).2.2
  rw [z, X _ _ hC] at this
  cases this
end
theorem rows_29 : True := by
  (k_with "cas nes" => first
  | with_reducible assumption
  | (refine' List.forall_mem_cons.mpr ⟨?_, ?_⟩; (focus (first | with_reducible assumption | exact Ne.symm (by with_reducible assumption))); k_extra "cas nes")
  | fail "cas nes")
  (k_with "M:call builtin:Exception.__init__" => (k_here; k_dflt (refine' cas_initK ?F ?r94X ?N ?r94n ?_; (case F => k_asm); (case r94X => k_asm); (case N => k_asm); (case r94n => k_extra "cas nes")); intro h9_r t9_r F9_r N9_r n9_r; (try k_sweep)))
  (k_with "M:setAttr ref" => (k_here; k_dflt (first
  | (refine' cas_set2K ?F ?r95X ?N ?r95n ?d ?r95r ?r95I ?_; (case F => k_asm); (case r95X => k_asm); (case N => k_asm); (case r95n => k_extra "cas nes"); (case d => with_reducible assumption); (case r95r => k_extra "cas nes"); (case r95I => with_reducible assumption); (intro h9_r tk9_r o9_r F9_r N9_r I9_r))
  | (refine' cas_set1K ?F ?r95X ?N ?r95n ?_; (case F => k_asm); (case r95X => k_asm); (case N => k_asm); (case r95n => k_extra "cas nes"); (intro h9_r tk9_r d9_r o9_r F9_r N9_r n9_r r9_r I9_r))); (try k_sweep)))
  trivial
theorem cas_make {B : Heap} {w : World} {prog : Program} {p : Program} {loose : List Str} {mean : ExcName → Option Value} {mg mb : Str → Option Value} {dp un : Nat} {gd : Option (List Code)} {cn : Str} {cs : Scope} {a : Addr} {ccd : Value} {cl : List (Str × Addr)} {outer : List Env} {A₀ : Around} {base h₀ : Heap} {L : Addr} {m : Str → Option Value} {news : Led} {s : Shared} {tk tx : Tok} {Q : Value → Shared → Prop} {E : Value → Shared → Prop}
    (Bl : Below A₀ base outer h₀) (F : Fr h₀ L s.heap m) (X : (KQ w.params).In h₀) (N : News h₀ L s.heap news) (T : Top p loose mean mg mb h₀) (hk : cs.kind = .function) (S : B.StaysIn h₀) (XB : (KQ w.params).In B) (hd' : dp + 4 < recursionLimit) (hu : un + 50 < cLine)
    (ret : ∀ e d t o h' tk' l, Fr h₀ L h' m → News h₀ L h' l → (∀ q ∈ news, q ∈ l) → (e, casObj (some d) t) ∈ l → (d, o) ∈ l → (∀ q ∈ (d, o) :: news, q.1 ≠ e) → IsKind o → Q (.ref e) { s with heap := h', toks := tk' }) :
    wpAny (model prog w) (ktrTop dp un gd cn cs L a ccd cl outer) (call (.ref 31) [.str "domain" tk, .str "a root of a number, or of log" tx]) Q E s := by
  obtain ⟨nm, q, bs, sn, sub, ab, col, dd, k0, k1, k2, k3, k5, hC⟩ := cas_cls w.params
  obtain ⟨oI, hI, hIc⟩ := cas_fn w.params
  have Xs := X.keeps F.keep
  have hok : nsOkIn (KQ w.params) 30 = true := by kernel_rfl
  have hni : nsIn (KQ w.params) 30 "__init__" = some (some (.ref 28)) := by kernel_rfl
  have G : s.heap.Ns 30 (s.heap.nsMap 30) := .of_isNs (isNs_of_in Xs hok)
  obtain ⟨h, g, dr, t, os⟩ := s
  refine wpAny_call_exc_init PySem.F.excBase_Exception (Xs _ _ hC) G (ns_some_of Xs G hni) (Xs _ _ hI) hIc (fun h' e M => ?_)
  obtain ⟨tt, F', N', n1, n2, n3⟩ := new_add (t := 0) F N M
  clear M hC hI hIc Xs hok hni G F N
  k_extra "my enter"
  k_steps
  refine ret e _ _ _ _ _ _ (by with_reducible assumption) (by with_reducible assumption) ?_ (.head _) (.tail _ (.head _)) ?_ (isKind_of (by with_reducible assumption))
  · k_extra "my sub"
  · k_extra "cas nes"
/-- a call of f upon the data ds raises CasFail of kind "domain"; every object that stood before it stands as it was -/
def CalcE (B : Heap) (w : World) (f : Addr) (dd uu : Nat) (ds : List PyData) : Prop :=
  ∀ (prog : Program) (p : Program) (loose : List Str) (mean : ExcName → Option Value) (mg mb : Str → Option Value) (dp un : Nat) (gd : Option (List Code)) (cn : Str) (cs : Scope) (a : Addr) (ccd : Value) (cl : List (Str × Addr)) (outer : List Env) (A₀ : Around) (base h₀ : Heap) (L : Addr) (m : Str → Option Value) (news : Led) (s : Shared) (vs : List Value) (Q E : Value → Shared → Prop),
    Below A₀ base outer h₀ → Fr h₀ L s.heap m → (KQ w.params).In h₀ → News h₀ L s.heap news → Top p loose mean mg mb h₀ → cs.kind = .function → B.StaysIn h₀ → (KQ w.params).In B → dp + dd < recursionLimit → un + uu < cLine → WnAll w.params B news vs ds →
    (∀ e o g h' tk', Fr h₀ L g m → g.UpToSlots h' → RaisedX base g (envX cn cs L a ccd cl :: outer) e o news h' → IsKind o → E (.ref e) { s with heap := h', toks := tk' }) →
    wpAny (model prog w) (ktrTop dp un gd cn cs L a ccd cl outer) (call (.ref f) vs) Q E s
section
variable {prog : Program} {w : World} {E : Value → Shared → Prop} {s : Shared} {B h₀ : Heap} {L : Addr} {m : Str → Option Value} {news : Led}
theorem useE {f : Addr} {dd uu : Nat} {ds : List PyData} {p : Program} {loose : List Str} {mean : ExcName → Option Value} {mg mb : Str → Option Value} {dp un : Nat} {gd : Option (List Code)} {cn : Str} {cs : Scope} {a : Addr} {ccd : Value} {cl : List (Str × Addr)} {outer : List Env} {A₀ : Around} {base : Heap} {vs : List Value} {Q : Value → Shared → Prop}
    (C : CalcE B w f dd uu ds) (Bl : Below A₀ base outer h₀) (F : Fr h₀ L s.heap m) (X : (KQ w.params).In h₀) (N : News h₀ L s.heap news) (T : Top p loose mean mg mb h₀) (hk : cs.kind = .function) (S : B.StaysIn h₀) (XB : (KQ w.params).In B) (W : WnAll w.params B news vs ds) (hd : dp + dd < recursionLimit) (hu : un + uu < cLine)
    (ret : ∀ e o g h' tk', Fr h₀ L g m → g.UpToSlots h' → RaisedX base g (envX cn cs L a ccd cl :: outer) e o news h' → IsKind o → E (.ref e) { s with heap := h', toks := tk' }) :
    wpAny (model prog w) (ktrTop dp un gd cn cs L a ccd cl outer) (call (.ref f) vs) Q E s := C _ _ _ _ _ _ _ _ _ _ _ _ _ _ _ _ _ _ _ _ _ _ _ Q E Bl F X N T hk S XB hd hu W ret
theorem raise_cas {M : Model} {A : Around} {env : Env} {exc : PySem.Expr} {pos : Pos} {Q : Flow → Shared → Prop} (hh : A.handled = none)
    (h : wpAny M A (eval exc env) (fun v s₁ => ∃ e dx t, v = .ref e ∧ CasC s₁.heap ∧ s₁.heap.get? e = some (casObj dx t) ∧ E (.ref e) s₁) E s) : wpAny M A (exec (.Raise (some exc) none pos) env) Q E s := by
  rw [arm_exec_Raise]
  simp only [evalOpt, Option.map]
  refine wpAny_bind (wpAny_standAt ?_)
  unfold raiseStmt
  refine wpAny_bind (wpAny_bind (wpAny_mono h (fun v s₁ h₁ => wpAny_bind (wpAny_standAt (wpAny_pure ?_))) fun _ _ x => x))
  obtain ⟨e, dx, t, rfl, ⟨nm, q, bs, sn, sub, ab, col, dd, k0, k1, k2, k3, k5, hC⟩, he, hE⟩ := h₁
  obtain ⟨hp, g, d, tk, os⟩ := s₁
  dsimp only at hC he
  have hcB : (Value.ref 31 :: [Value.type "Exception", .type "BaseException", .type "object"]).contains (.type "BaseException") = true := by decide +kernel
  repeat (first | with_reducible refine wpAny_loadPart_at he ?_ | with_reducible refine wpAny_loadPart_at hC ?_ | (with_reducible refine wpAny_isSubtype_exc hC ?_; rw [hcB]) | wp_step)
  exact wpAny_raiseNew_none hh hE
theorem raised_back {cn : Str} {cs : Scope} {a : Addr} {ccd : Value} {cl : List (Str × Addr)} {outer : List Env} {base g h' : Heap} {e : Addr} {o : Obj} {news' : Led} {tk' : Nat}
    (hret : ∀ e o g h' tk', Fr h₀ L g m → g.UpToSlots h' → RaisedX base g (envX cn cs L a ccd cl :: outer) e o news h' → IsKind o → E (.ref e) { s with heap := h', toks := tk' })
    (R : RaisedX base g (envX cn cs L a ccd cl :: outer) e o news' h') (F : Fr h₀ L g m) (U : g.UpToSlots h') (K : IsKind o) (hs : ∀ p ∈ news, p ∈ news') : E (.ref e) { s with heap := h', toks := tk' } := hret e o g h' tk' F U (R.sub hs) K
end
theorem rows_30 : True := by
  (k_with "M:exec Raise some none" => (k_here; k_dflt (refine' raise_cas ?r96h9 ?_; (case r96h9 => exact rfl))))
  (k_with "M:call ref" => (k_here; (with_reducible show wpAny _ _ (call (Value.ref 31) _) _ _ _); k_dflt ((refine' cas_make ?k1 ?k2 ?k3 ?k4 ?k5 ?kK ?kS ?kB ?kd ?ku ?_); (case k1 => k_asm); (case k2 => k_asm); (case k3 => k_asm); (case k4 => k_asm); (case k5 => k_asm); (case kK => first | exact rfl | assumption); (case kS => k_asm); (case kB => k_asm); (case kd => k_extra "my room"); (case ku => k_extra "my units")); intro e9_r d9_r t9_r o9_r h9_r tk9_r l9_r F9_r N9_r s9_r m9_r y9_r n9_r k9_r; (try dsimp only); (refine' ⟨e9_r, _, _, rfl, casC (PySem.W.Frag.In.keeps (by with_reducible assumption) F9_r.keep), (N9_r _ m9_r).1, ?_⟩); (try dsimp only); (refine leave_raiseX (by with_reducible assumption) F9_r N9_r m9_r y9_r s9_r n9_r rfl (by first | exact rfl | assumption) ?_); intro h9_r R9_r U9_r; (try dsimp only)))
  (k_with "M:call ref" => (k_here; (with_reducible rename CalcE _ _ _ _ _ _ => C9_r); k_dflt ((refine' useE ?r98C ?k1 ?k2 ?k3 ?k4 ?k5 ?kK ?kS ?kB ?kW ?kd ?ku ?_); (case k1 => k_asm); (case k2 => k_asm); (case k3 => k_asm); (case k4 => k_asm); (case k5 => k_asm); (case kK => first | exact rfl | assumption); (case kS => k_asm); (case kB => k_asm); (case kW => k_extra "my wns"); (case r98C => with_reducible assumption); (case kd => k_extra "my room"); (case ku => k_extra "my units")); intro e9_r o9_r g9_r h9_r tk9_r F9_r U9_r R9_r K9_r; (try dsimp only); (refine leave_onX (by with_reducible assumption) F9_r R9_r U9_r rfl ?_); intro h9_r R9_r U9_r; (try dsimp only)))
  trivial
-- the fastest growth of one alone: its kind and its number
theorem rows_31 : True := by
  (k_with "my back" => (
  intro r9_r tl9_r h9_r tk9_r F9_r N9_r O9_r W9_r;
  (obtain ⟨a9_r, v9_r, u9_r, e9_r, w9_r, y9_r, z9_r⟩ := Wn.tup2_inv W9_r; subst e9_r; obtain ⟨b9_r, t9_r, s9_r, e9_r, x9_r⟩ := Wn.pr_inv z9_r; subst e9_r);
  k_sweep; (try dsimp only); (try k_fold)))
  trivial
theorem groot_e {B : Heap} {w : World} {f1 f2 : PyData} (p1 q1 n1 d1 p2 q2 n2 d2 r0 r1 : Int) (hk1 : keyD (kD f1 p1 q1) = true) (hz1 : (ofPy (kD f1 p1 q1)).depth ≤ 8) (hk2 : keyD (kD f2 p2 q2) = true) (hz2 : (ofPy (kD f2 p2 q2)).depth ≤ 8) (hne : n1 ≠ n2 ∨ d1 ≠ d2) :
    CalcE B w 198 30 400 [.tuple [gD f1 p1 q1 n1 d1, gD f2 p2 q2 n2 d2], pr r0 r1] := by
  unfold CalcE
  intro prog p' loose mean mg mb dp un gd cn cs a ccd cl outer A₀ base h₀ L m news s vs Q E Bl F X N T hk S XB hd hu W hret
  obtain ⟨v1, v2, rfl, W1, W2⟩ := W.two
  obtain ⟨a0, v3, v4, rfl, w0, W3, W4⟩ := W1.tup2_inv
  obtain ⟨a1, k1, u1, m1, s1, s2, rfl, w1, lo1, y1, z1⟩ := W3.gD_inv
  obtain ⟨a2, k2, u2, m2, s3, s4, rfl, w2, lo2, y2, z2⟩ := W4.gD_inv
  obtain ⟨a3, t3, t4, rfl, w3⟩ := W2.pr_inv
  clear W W1 W2 W3 W4
  k_extra "my enterC"
  k_steps
  exact raised_back hret (by with_reducible assumption) (by with_reducible assumption) (by with_reducible assumption) (by with_reducible assumption) (by k_extra "my sub")
theorem rows_32 : True := by
  (k_with "my back" => (
  (first
  | (refine' retI ?_; intro t9_r h9_r tk9_r F9_r N9_r)
  | (refine' retS ?_; intro t9_r h9_r tk9_r F9_r N9_r)
  | (refine' retB ?_; intro h9_r tk9_r F9_r N9_r)
  | (refine' retP ?_; intro a9_r t9_r u9_r tl9_r h9_r tk9_r F9_r N9_r O9_r w9_r)
  | (refine' retK ?_; intro a9_r b9_r c9_r t9_r u9_r o9_r tl9_r h9_r tk9_r F9_r N9_r O9_r w9_r x9_r y9_r z9_r)
  | (refine' retG ?_; intro a9_r k9_r u9_r c9_r t9_r o9_r tl9_r h9_r tk9_r F9_r N9_r O9_r w9_r x9_r lo9_r y9_r z9_r)
  | (refine' ret0 ?_; intro a9_r tl9_r h9_r tk9_r F9_r N9_r O9_r w9_r)
  | (refine' ret2 ?_; intro a9_r v9_r u9_r tl9_r h9_r tk9_r F9_r N9_r O9_r w9_r y9_r z9_r)
  | intro r9_r tl9_r h9_r tk9_r F9_r N9_r O9_r W9_r);
  k_sweep; (try dsimp only); (try k_fold)))
  trivial
theorem other_root_e {B : Heap} {w : World} {dd uu : Nat} (hdd : 30 ≤ dd) (huu : 400 ≤ uu) (b told : PyData) (k d : Int) (hd' : d ≠ 1) (C1 : Calc B w 205 dd uu [b, S "x"] told) (C2 : CalcE B w 198 30 400 [told, pr k d]) : CalcE B w 212 (dd + 4) (uu + 100) [tPow b k d, S "x"] := by
  unfold CalcE
  intro prog p' loose mean mg mb dp un gd cn cs a ccd cl outer A₀ base h₀ L m news s vs Q E Bl F X N T hk S XB hd hu W hret
  obtain ⟨v1, v2, rfl, W1, W2⟩ := W.two
  obtain ⟨d1, u1, u2, u3, rfl, w1, z1, z2, z3⟩ := W1.tup3_inv
  obtain ⟨t1, rfl⟩ := z1.str_inv
  obtain ⟨d2, u3, u4, u5, rfl, w2, z4, z5, z6⟩ := z3.tup3_inv
  obtain ⟨t2, rfl⟩ := z4.str_inv
  obtain ⟨t3, rfl⟩ := z5.int_inv
  obtain ⟨t5, rfl⟩ := z6.int_inv
  obtain ⟨t4, rfl⟩ := W2.str_inv
  clear W W1 W2 z1 z3 z4 z5 z6
  k_extra "my enter"
  k_steps
  exact raised_back hret (by with_reducible assumption) (by with_reducible assumption) (by with_reducible assumption) (by with_reducible assumption) (by k_extra "my sub")
theorem other_sqrt_e {B : Heap} {w : World} {dd uu : Nat} (hdd : 30 ≤ dd) (huu : 400 ≤ uu) (b told : PyData) (C1 : Calc B w 205 dd uu [b, S "x"] told) (C2 : CalcE B w 198 30 400 [told, pr 1 2]) : CalcE B w 212 (dd + 4) (uu + 100) [tSqrt b, S "x"] := by
  unfold CalcE
  intro prog p' loose mean mg mb dp un gd cn cs a ccd cl outer A₀ base h₀ L m news s vs Q E Bl F X N T hk S XB hd hu W hret
  obtain ⟨v1, v2, rfl, W1, W2⟩ := W.two
  obtain ⟨d1, u1, u2, u3, rfl, w1, z1, z2, z3⟩ := W1.tup3_inv
  obtain ⟨t1, rfl⟩ := z1.str_inv
  obtain ⟨t2, rfl⟩ := z2.str_inv
  obtain ⟨d2, u4, rfl, w2, z4⟩ := z3.tup1_inv
  obtain ⟨t4, rfl⟩ := W2.str_inv
  clear W W1 W2 z1 z3 z2
  k_extra "my enter"
  k_steps
  exact raised_back hret (by with_reducible assumption) (by with_reducible assumption) (by with_reducible assumption) (by with_reducible assumption) (by k_extra "my sub")
theorem growth_pow_e {B : Heap} {w : World} {dd uu : Nat} (d1 d2 : PyData) (C1 : CalcE B w 212 dd uu [.tuple [S "pow", d1, d2], S "x"]) : CalcE B w 205 (dd + 4) (uu + 100) [.tuple [S "pow", d1, d2], S "x"] := by
  unfold CalcE
  intro prog p' loose mean mg mb dp un gd cn cs a ccd cl outer A₀ base h₀ L m news s vs Q E Bl F X N T hk S XB hd hu W hret
  obtain ⟨v1, v2, rfl, W1, W2⟩ := W.two
  obtain ⟨a1, u1, u2, u3, rfl, w1, z1, z2, z3⟩ := W1.tup3_inv
  obtain ⟨t1, rfl⟩ := z1.str_inv
  obtain ⟨t4, rfl⟩ := W2.str_inv
  clear W W2 z1
  k_extra "my enter"
  k_steps
  exact raised_back hret (by with_reducible assumption) (by with_reducible assumption) (by with_reducible assumption) (by with_reducible assumption) (by k_extra "my sub")
theorem growth_call_e {B : Heap} {w : World} {dd uu : Nat} (d1 d2 : PyData) (C1 : CalcE B w 212 dd uu [.tuple [S "call", d1, d2], S "x"]) : CalcE B w 205 (dd + 4) (uu + 100) [.tuple [S "call", d1, d2], S "x"] := by
  unfold CalcE
  intro prog p' loose mean mg mb dp un gd cn cs a ccd cl outer A₀ base h₀ L m news s vs Q E Bl F X N T hk S XB hd hu W hret
  obtain ⟨v1, v2, rfl, W1, W2⟩ := W.two
  obtain ⟨a1, u1, u2, u3, rfl, w1, z1, z2, z3⟩ := W1.tup3_inv
  obtain ⟨t1, rfl⟩ := z1.str_inv
  obtain ⟨t4, rfl⟩ := W2.str_inv
  clear W W2 z1
  k_extra "my enter"
  k_steps
  exact raised_back hret (by with_reducible assumption) (by with_reducible assumption) (by with_reducible assumption) (by with_reducible assumption) (by k_extra "my sub")
-- the frame that catches: its caller's frame may have other slots when it comes back
section
variable {prog : Program} {w : World} {A₀ A : Around} {s : Shared} {base h₀ g : Heap} {L : Addr} {m : Str → Option Value} {env : Env} {news : Led} {K : Frag} {p : Program} {loose : List Str} {mean : ExcName → Option Value} {mg mb : Str → Option Value} {R : Result → Shared → Prop}
theorem leaveS0_up {v : Value} {s' : Shared} (FG : Fr h₀ L g m) (hl : LeaveS0 [L] h₀ L m g R v s') : R (.ok (.ret v)) s' := by
  obtain ⟨g', L', m', news', T', F', N', k⟩ := hl
  obtain ⟨oL, es, ep, hL, r⟩ := FG.ns
  obtain ⟨sl, hs⟩ := T'.up hL
  have nL : ∀ b o, h₀.get? b = some o → b ∉ [L] := fun b o e q => by
    rw [List.mem_singleton.mp q, kts_self FG] at e
    cases e
  have kp : ∀ b o, h₀.get? b = some o → g'.get? b = some o := fun b o e => T'.other b o (FG.keep b o e) (nL b o e)
  refine k ⟨⟨_, es, ep, F'.keep _ _ hs, r⟩, fun b o e => F'.keep b o (kp b o e), FG.above⟩ fun q hq => ⟨(N' q hq).1, fun z => ?_, kts_none kp (N' q hq).2.2⟩
  have := (N' q hq).2.2
  rw [z, hs] at this
  cases this
theorem enter_S0 {cn : Str} {cs : Scope} {a : Addr} {ccd : Value} {cl : List (Str × Addr)} {name qual : Str} {params : Arguments} {body : List Stmt} {scope : Scope} {dV kV doc pm cdv ct oc : Value} {an od : Option Addr} {osl : Array (Option Value)} {f : Addr} {args : Args} {binds : List (Str × Value)}
    (B : Below A₀ base [] h₀) (F : Fr h₀ L s.heap m) (X₀ : K.In h₀) (N : News h₀ L s.heap news) (T : Top p loose mean mg mb h₀) (hA : A.frames = some [envX cn cs L a ccd cl]) (hke : cs.kind = .function)
    (ho : K.lookup f = some ⟨oc, od, .func (fnOf name qual params body scope dV kV doc pm an cdv ct), osl⟩) (hcd : codeIn K cdv qual = true) (hroom : A.depth < recursionLimit)
    (hbind : BindsTo s (fnOf name qual params body scope dV kV doc pm an cdv ct) args binds) (hloc : ∀ y ∈ binds, scope.names.lookup y.1 = some .local)
    (h : ∀ g L' h₁, Fr h₀ L g m → Fr g L' h₁ (fun y => binds.reverse.lookup y) → News g L' h₁ news → Below A base [envX cn cs L a ccd cl] g → K.In g → Top p loose mean mg mb g → KtsDicts ([envX cn cs L a ccd cl].filterMap (·.frame)) g →
      wpAny (model prog w) (A.deeper (envOf qual scope L' f cdv)) (execs body (envOf qual scope L' f cdv))
        (fun fl s' => LeaveS0 ([envX cn cs L a ccd cl].filterMap (·.frame)) h₀ L m g R (match fl with | .ret v => v | _ => .none) s')
        (fun e s' => wpAny (model prog w) (A.deeper (envOf qual scope L' f cdv)) (leaving (envOf qual scope L' f cdv) e) (fun _ s'' => R (.error e) s'') (fun e' s'' => R (.error e') s'') s')
        { s with heap := h₁, toks := s.toks + binds.length })
    (hco : scope.isCoroutine = false) (hgen : scope.isGenerator = false) (hk : scope.kind = .function)
    (hcell : ∀ x ∈ scope.names, x.2 ≠ .cell) : codeAny (model prog w) A (.call (.ref f) args) R s := by
  obtain ⟨FG, BG, st, _⟩ := groundX (R := R) B F N hA rfl hke
  have X := X₀.keeps F.keep
  refine codeAny_call_def (fd := fnOf name qual params body scope dV kV doc pm an cdv ct) (body := body) (binds := binds) hroom (X _ _ ho) rfl (T.nolimit.keeps F.keep) (codeRec_of X hcd) rfl hbind hcell hloc (fun h₁ hns hk₁ => ?_) hco hgen hk
  refine wpAny_mono (h _ s.heap.objs.size h₁ FG ⟨hns, fun b o e => hk₁ b o (of_hideAll _ e), Nat.le_of_eq (hideAll_size _ _)⟩
    (fun q hq => ⟨hk₁ _ _ (N q hq).1, Nat.ne_of_lt (Heap.lt_size (N q hq).1), hideAll_none _ (List.mem_map_of_mem hq)⟩) BG (X₀.keeps st) (T.keeps st) (fun b hb => ?_)) (fun fl s' hl => leaveS0_up FG hl) fun _ _ y => y
  obtain ⟨oL, es, ep, hL, hd, _⟩ := FG.ns
  rw [List.mem_singleton.mp (show b ∈ [L] from hb)]
  exact ⟨oL, es, ep, hL, hd⟩
end
section
variable {prog : Program} {w : World} {A₀ : Around} {E : Value → Shared → Prop} {s' : Shared} {base g G : Heap} {outer : List Env} {L a e : Addr} {m : Str → Option Value} {name : Str} {scope : Scope} {cd : Value}
  {n : Str} {b₀ : Stmt} {suite : List Stmt} {pos np : Pos} {rest : List ExceptHandler} {Q : Flow → Shared → Prop} {news : Led} {o : Obj} {p : Program} {loose : List Str} {mean : ExcName → Option Value} {mg mb : Str → Option Value} {KF : Frag} {x : Str}
theorem caughtX (R : RaisedX base G (envOf name scope L a cd :: outer) e o news s'.heap) (F : Fr g L G m) (K : Below A₀ base outer g) (hsm : G.UpToSlots s'.heap) (XB : (KQ w.params).In base) (TB : Top p loose mean mg mb base)
    (D : KtsDicts (outer.filterMap (·.frame)) g) (ex : nsIn (KQ w.params) mainGlobals x = some (some (.ref 31)))
    (k : ∀ h' g' oe d tk, KtsTurn (outer.filterMap (·.frame)) g g' → Fr g' L h' (fun y => if y = n then some (.ref e) else m y) → News g' L h' ((e, oe) :: (d, o) :: news) → oe.cls = .ref 31 → oe.dict = some d → (∃ vs, oe.data = .fields vs) → Below A₀ base outer g' → (KQ w.params).In g' → Top p loose mean mg mb g' → KtsDicts (outer.filterMap (·.frame)) g' →
      wpAny (model prog w) ((A₀.deeper (envOf name scope L a cd)).mark (some (.ref e))) (execs (b₀ :: suite) (envOf name scope L a cd))
        (fun f s₄ => wpAny (model prog w) (A₀.deeper (envOf name scope L a cd)) (do bindName (envOf name scope L a cd) n .none; unbindBehindTheSuite (envOf name scope L a cd) n pos) (fun _ s₅ => Q f s₅) E s₄)
        (AsSuiteRaised (model prog w) ((A₀.deeper (envOf name scope L a cd)).mark (some (.ref e))) (envOf name scope L a cd) n pos (notedBy (model prog w) ((A₀.deeper (envOf name scope L a cd)).mark (some (.ref e))) (envOf name scope L a cd) (cameBackBy (model prog w) (A₀.deeper (envOf name scope L a cd)) (envOf name scope L a cd) E)))
        { s' with heap := h', toks := tk })
    (hk : scope.kind = .function := by rfl) (hlo : (envOf name scope L a cd).kindOf n = some .local := by rfl) (hx : (envOf name scope L a cd).kindOf x = some .globalImplicit := by rfl) (hdb : (x == ("__debug__" : Str)) = false := by decide) :
    wpAny (model prog w) (A₀.deeper (envOf name scope L a cd)) (noteFrame (.ref e) (envOf name scope L a cd))
      (fun _ s₂ => wpAny (model prog w) (A₀.deeper (envOf name scope L a cd)) (setFlight (.ref e) none) (fun _ s₃ =>
        wpAny (model prog w) (A₀.deeper (envOf name scope L a cd)) (handleBy (.ref e) (envOf name scope L a cd) (.ExceptHandler (some (.Name x np)) (some n) (b₀ :: suite) pos :: rest)) Q E s₃) E s₂) E s' := by
  obtain ⟨B, d, hB, hBG, hl, hfl⟩ := R
  have hL : B.get? L = none := by
    obtain ⟨_, ⟨L', _, hf, hn', _⟩, _⟩ := hfl.frames
    obtain rfl : L = L' := Option.some.inj hf
    exact hn'
  refine noteX (.inr rfl) (Around.frames_deeper K.stack) rfl hfl fun h₄ x₄ u₄ => flightX x₄ fun h₅ x₅ u₅' => ?_
  have u₅ := u₄.trans u₅'
  obtain ⟨g₅, T₅, F₅, K₅⟩ := kts_ground K F hBG x₅.stays (hsm.trans u₅)
  have X₅ : (KQ w.params).In g₅ := XB.keeps K₅.stays
  have P₅ : TopRead p loose mg mb g₅ := topRead_of (TB.keeps K₅.stays)
  obtain ⟨oe, vs, he, hc, hdd, hdt, hsz, tr⟩ := x₅.exc
  obtain ⟨nm, q, bs, sn, sub, ab, col, dd, k0, k1, k2, k3, k5, hC⟩ := casC (X₅.keeps F₅.keep)
  refine wpAny_handleBy_cons (codeAny_handlers_test (name_K F₅ X₅ P₅ ex ?_ hk hx hdb)) (by intro q; cases q)
  refine wpAny_excMatches_sub_self hC he hc (by decide +kernel) (codeAny_handlers_suite_as ?_)
  refine flightX x₅ fun h₆ x₆ u₆ => ?_
  obtain ⟨g₆, T₆, F₆, K₆⟩ := kts_ground K F hBG x₆.stays ((hsm.trans u₅).trans u₆)
  obtain ⟨oe, vs, he, hc, hdd, hdt, hsz, tr⟩ := x₆.exc
  have ne₆ : g₆.get? e = none := T₆.none_ _ (kts_fresh F hBG x₆.fresh fun o ho hm => by
    obtain ⟨_, o', ho', hd⟩ := K.frames.mem hm
    rw [ho] at ho'
    cases ho'
    obtain ⟨sl, hs⟩ := ((hsm.trans u₅).trans u₆) _ _ (F.keep _ _ ho) hd
    rw [he] at hs
    cases hs
    exact hd _ hdt)
  have X₆ : (KQ w.params).In g₆ := XB.keeps K₆.stays
  have P₆ : Top p loose mean mg mb g₆ := TB.keeps K₆.stays
  have Nl : News g₆ L h₆ ((d, o) :: news) := fun q hq => ⟨x₆.stays _ _ (hl q hq).1, (fun z => by have := (hl q hq).1; rw [z, hL] at this; cases this), T₆.none_ _ (kts_none F.keep (hl q hq).2.1)⟩
  have N₆ := News.more F₆ Nl he (fun es n q => by rw [hdt] at q; cases q) ne₆
  refine stN F₆ N₆ (fun h₇ F₇ N₇ => ?_) hk hlo
  exact k h₇ g₆ oe d _ T₆ F₇ N₇ hc hdd ⟨vs, hdt⟩ K₆ X₆ P₆ (D.turn T₆)
end
/-- a call of the function object at f, which closes over what led holds, raises CasFail of kind "domain" -/
def DeedE (B : Heap) (w : World) (led : Led) (f : Addr) (dd uu : Nat) : Prop :=
  ∀ (prog : Program) (p : Program) (loose : List Str) (mean : ExcName → Option Value) (mg mb : Str → Option Value) (dp un : Nat) (gd : Option (List Code)) (cn : Str) (cs : Scope) (a : Addr) (ccd : Value) (cl : List (Str × Addr)) (outer : List Env) (A₀ : Around) (base h₀ : Heap) (L : Addr) (m : Str → Option Value) (news : Led) (s : Shared) (Q E : Value → Shared → Prop),
    Below A₀ base outer h₀ → Fr h₀ L s.heap m → (KQ w.params).In h₀ → News h₀ L s.heap news → Top p loose mean mg mb h₀ → cs.kind = .function → B.StaysIn h₀ → (KQ w.params).In B → dp + dd < recursionLimit → un + uu < cLine → (∀ q ∈ led, q ∈ news) →
    (∀ e o g h' tk', Fr h₀ L g m → g.UpToSlots h' → RaisedX base g (envX cn cs L a ccd cl :: outer) e o news h' → IsKind o → E (.ref e) { s with heap := h', toks := tk' }) →
    wpAny (model prog w) (ktrTop dp un gd cn cs L a ccd cl outer) (call (.ref f) []) Q E s
section
variable {prog : Program} {w : World} {E : Value → Shared → Prop} {s : Shared} {B h₀ : Heap} {L : Addr} {m : Str → Option Value} {news led : Led}
theorem useD {f : Addr} {dd uu : Nat} {p : Program} {loose : List Str} {mean : ExcName → Option Value} {mg mb : Str → Option Value} {dp un : Nat} {gd : Option (List Code)} {cn : Str} {cs : Scope} {a : Addr} {ccd : Value} {cl : List (Str × Addr)} {outer : List Env} {A₀ : Around} {base : Heap} {Q : Value → Shared → Prop}
    (C : DeedE B w led f dd uu) (Bl : Below A₀ base outer h₀) (F : Fr h₀ L s.heap m) (X : (KQ w.params).In h₀) (N : News h₀ L s.heap news) (T : Top p loose mean mg mb h₀) (hk : cs.kind = .function) (S : B.StaysIn h₀) (XB : (KQ w.params).In B) (hl : ∀ q ∈ led, q ∈ news) (hd : dp + dd < recursionLimit) (hu : un + uu < cLine)
    (ret : ∀ e o g h' tk', Fr h₀ L g m → g.UpToSlots h' → RaisedX base g (envX cn cs L a ccd cl :: outer) e o news h' → IsKind o → E (.ref e) { s with heap := h', toks := tk' }) :
    wpAny (model prog w) (ktrTop dp un gd cn cs L a ccd cl outer) (call (.ref f) []) Q E s := C _ _ _ _ _ _ _ _ _ _ _ _ _ _ _ _ _ _ _ _ _ _ Q E Bl F X N T hk S XB hd hu hl ret
end
theorem rows_33 : True := by
  (k_with "M:call ref" => (k_here; (with_reducible rename DeedE _ _ _ _ _ _ => C9_r); k_dflt ((refine' useD ?r101C ?k1 ?k2 ?k3 ?k4 ?k5 ?kK ?kS ?kB ?kW ?kd ?ku ?_); (case k1 => k_asm); (case k2 => k_asm); (case k3 => k_asm); (case k4 => k_asm); (case k5 => k_asm); (case kK => first | exact rfl | assumption); (case kS => k_asm); (case kB => k_asm); (case r101C => with_reducible assumption); (case kW => first | with_reducible assumption | k_extra "my sub"); (case kd => k_extra "my room"); (case ku => k_extra "my units")); intro e9_r o9_r g9_r h9_r tk9_r F9_r U9_r R9_r K9_r; (try dsimp only)))
  (k_with "M:noteFrame ref" => (k_here; (with_reducible rename RaisedX _ _ _ _ _ _ _ => R9_r); k_dflt (refine' caughtX R9_r ?F ?r102K ?r102U ?r102XB ?r102TB ?r102D ?r102ex ?_ ?r102c1 ?r102c2 ?r102c3 ?r102c4; (case F => with_reducible assumption); (case r102K => assumption); (case r102U => with_reducible assumption); (case r102XB => assumption); (case r102TB => assumption); (case r102D => assumption); (case r102ex => k_is); (case r102c1 => exact rfl); (case r102c2 => exact rfl); (case r102c3 => exact rfl); (case r102c4 => decide)); intro h9_r g9_r oe9_r d9_r tk9_r T9_r F9_r N9_r c9_r x9_r y9_r K9_r X9_r P9_r D9_r; (try k_lift K9_r)))
  (k_with "my enterS" => (
  (refine wpAny_call ?_); k_dflt (refine' enter_S0 ?k1 ?k2 ?k3 ?k4 ?k5 ?r103kA ?kK ?r103k6 ?r103k7 ?r103k8 ?r103k9 ?kB ?_ ?r103c2 ?r103c3 ?r103c4 ?r103c5; (case r103kA => exact rfl); (case kK => assumption); (case k1 => k_asm); (case k2 => k_asm); (case k3 => k_asm); (case k4 => k_asm); (case k5 => k_asm); (case r103k6 => k_is); (case r103k7 => k_is); (case r103k8 => k_extra "my room"); (case r103k9 => exact BindsTo.of_eq rfl); (case r103c5 => decide); (case kB => exact locs rfl); (case r103c2 => exact rfl); (case r103c3 => exact rfl); (case r103c4 => exact rfl); k_whole; intro g'_r L'_r h'_r FG'_r F'_r N'_r B'_r X'_r T'_r D'_r; (try dsimp only); (try k_fold));
  (have S9_r := enter_stays (by with_reducible assumption) (by with_reducible assumption) (by with_reducible assumption) (by with_reducible assumption))))
  trivial
theorem news_tl2 {h₀ h : Heap} {L : Addr} {a b : Addr × Obj} {news : Led} (N : News h₀ L h (a :: b :: news)) : News h₀ L h news := fun q hq => N q (.tail _ (.tail _ hq))
theorem cas_loadK {prog : Program} {w : World} {A : Around} {E : Value → Shared → Prop} {s : Shared} {h₀ : Heap} {L e d : Addr} {m : Str → Option Value} {news : Led} {o oe : Obj} {expr : Bool} {Q : Value → Shared → Prop} (F : Fr h₀ L s.heap m) (X : (KQ w.params).In h₀) (N : News h₀ L s.heap news) (he : (e, oe) ∈ news) (hD : (d, o) ∈ news)
    (hc : oe.cls = .ref 31) (hd : oe.dict = some d) (hv : ∃ vs, oe.data = .fields vs) (I : IsKind o) (k : ∀ t, Q (.str "domain" t) { s with toks := s.toks + 1 }) : wpAny (model prog w) A (getAttr (.ref e) "kind" expr) Q E s := by
  obtain ⟨mN, C⟩ := casN (X.keeps F.keep)
  obtain ⟨mA, tk, I, hk⟩ := I
  obtain ⟨h, g, dr, tk', os⟩ := s
  exact cas_load C (N _ he).1 hc hd hv (N _ hD).1 I hk (handedOut_of rfl) (k tk)
theorem rows_34 : True := by
  (k_with "M:getAttr ref" => (k_here; k_dflt (refine' cas_loadK ?F ?r104X ?N ?r104m ?r104n ?r104c ?d ?r104v ?r104I ?_; (case F => k_asm); (case r104X => k_asm); (case N => k_asm); (case r104m => exact List.Mem.head _); (case r104n => exact List.Mem.tail _ (List.Mem.head _)); (case r104c => with_reducible assumption); (case d => with_reducible assumption); (case r104v => assumption); (case r104I => with_reducible assumption)); intro t9_r))
  (k_with "M:callWith ref" => (k_here; k_dflt (refine' callWith_F0 ?k1 ?_; (case k1 => exact FnAt.of (by k_asm) (by assumption)); k_whole; try dsimp only [List.nil_append, List.cons_append])))
  trivial
theorem refused_c {B : Heap} {w : World} {led : Led} {f : Addr} {oc : Value} {od : Option Addr} {fd : FuncData} {sl : Array (Option Value)} (hf : (f, (⟨oc, od, .func fd, sl⟩ : Obj)) ∈ led) (C : DeedE B w led f 130 2200) :
  ∀ (prog : Program) (p : Program) (loose : List Str) (mean : ExcName → Option Value) (mg mb : Str → Option Value) (dp un : Nat) (gd : Option (List Code)) (cn : Str) (cs : Scope) (a : Addr) (ccd : Value) (cl : List (Str × Addr)) (A₀ : Around) (base h₀ : Heap) (L : Addr) (m : Str → Option Value) (news : Led) (s : Shared) (Q E : Value → Shared → Prop),
    Below A₀ base [] h₀ → Fr h₀ L s.heap m → (KQ w.params).In h₀ → News h₀ L s.heap news → Top p loose mean mg mb h₀ → cs.kind = .function → B.StaysIn h₀ → (KQ w.params).In B → (KQ w.params).In base → Top p loose mean mg mb base → dp + 140 < recursionLimit → un + 2400 < cLine → (∀ q ∈ led, q ∈ news) →
    (∀ t h' tk', Fr h₀ L h' m → News h₀ L h' news → Q (.str "domain" t) { s with heap := h', toks := tk' }) →
    wpAny (model prog w) (ktrTop dp un gd cn cs L a ccd cl []) (call (.ref 496) [.ref f]) Q E s := by
  intro prog p' loose mean mg mb dp un gd cn cs a ccd cl A₀ base h₀ L m news s Q E Bl F X N T hk S XB XO TO hd hu hl hret
  have hf := hl _ hf
  k_extra "my enterS"
  k_steps
  exact hret _ _ _ (by with_reducible assumption) (news_tl2 (by with_reducible assumption))
theorem starEach_dict (ks : List (Option PySem.Expr)) (vs : List PySem.Expr) (dp : Pos) (rest : List PySem.Expr) (env : Env) : starEach (.Dict ks vs dp :: rest) env = (false, eval (.Dict ks vs dp) env) :: starEach rest env := by
  rw [starEach]
  intro e p h
  cases h
theorem callWith_dict1 {M : Model} {A : Around} {E : Value → Shared → Prop} {s : Shared} {env : Env} {pos dp : Pos} {id : String} {first : List Value} {ks : List (Option PySem.Expr)} {vs : List PySem.Expr} {Q : Value → Shared → Prop}
    (h : wpAny M A (spliced (backTo pos (starEach [.Dict ks vs dp] env))) (fun us s₁ => wpAny M A (call (.builtin id) (first ++ us)) Q E s₁) E s) : wpAny M A (callWith pos (.builtin id) first (backTo pos (starEach [.Dict ks vs dp] env)) []) Q E s := callWith_method1 h (starEach_dict _ _ _ _ _) (by rw [arm_starEach_nil]; rfl)
theorem retF {h₀ : Heap} {L : Addr} {m : Str → Option Value} {news : Led} {B : Heap} {P : Params} {gn : Array GenState} {dr : Drawn} {os : OsState} {Q : Value → Shared → Prop} {poly : PyData} {x y n d : Int}
    (k : ∀ (a k u : Addr) (b : Value) (c : Addr) (e f g : Tok) (tl : Led) (h' : Heap) (tk' : Nat), Fr h₀ L h' m → News h₀ L h' (tl ++ news) → (∀ q ∈ news, ∀ p ∈ tl, q.1 < p.1) → At B (tl ++ news) a (tupO [.ref k, .ref u]) → Wn P B (tl ++ news) (.ref k) (kD poly x y) → At B (tl ++ news) k (tupO [b, .ref c, .int 0 g]) → At B (tl ++ news) u (tupO [.int n e, .int d f]) → Q (.ref a) ⟨h', gn, dr, tk', os⟩) :
    Ret h₀ L m news B P gn dr os Q (.tuple [kD poly x y, pr n d]) := fun r tl h' tk' F N O W => by
  obtain ⟨a, v, u, rfl, w, y, z⟩ := W.tup2_inv
  obtain ⟨u', e, f, rfl, z'⟩ := z.pr_inv
  obtain ⟨k', b, c, _, _, g, rfl, y', _, _⟩ := y.kD_inv
  exact k a k' u' b c e f g tl h' tk' F N O w y y' z'
/-- a poly of no kind or of one, and the same times a ratio -/
inductive PolyR (r0 r1 : Int) : PyData → PyData → Prop
  | nil : PolyR r0 r1 (.tuple []) (.tuple [])
  | one (i : Int) (hi : -4 ≤ i ∧ i ≤ 4) : PolyR r0 r1 (.tuple [.tuple [.int 1, pr i 1]]) (.tuple [.tuple [.int 1, pr (rN (i * r0) (1 * r1)) (rD (i * r0) (1 * r1))]])
theorem PolyR.key {r0 r1 : Int} {a b : PyData} (h : PolyR r0 r1 a b) (p q : Int) : keyD (kD a p q) = true := by cases h <;> simp [keyD, keyD.keyDs]
theorem PolyR.depth {r0 r1 : Int} {a b : PyData} (h : PolyR r0 r1 a b) (p q : Int) : (ofPy (kD a p q)).depth ≤ 8 := by cases h <;> simp [ofPy, ofPys, WData.depth, WData.depthAll]
theorem mem_updG {d : Addr} {o o' : Obj} {l : Led} {g : Obj → Led} (U : UpdG d o l g) : ∀ q ∈ g o', ∃ q' ∈ l, q'.1 = q.1 := by
  obtain ⟨pre, post, rfl, e, _, _⟩ := (U.upd o').split
  rw [e]
  intro q hq
  rcases List.mem_append.mp hq with hq | hq
  · exact ⟨q, List.mem_append.mpr (.inl hq), rfl⟩
  · cases hq with
    | head => exact ⟨(d, o), List.mem_append.mpr (.inr (.head _)), rfl⟩
    | tail _ hq => exact ⟨q, List.mem_append.mpr (.inr (.tail _ hq)), rfl⟩
theorem lt_updG {d a : Addr} {o o' : Obj} {l : Led} {g : Obj → Led} (U : UpdG d o l g) (h : ∀ p ∈ l, p.1 < a) : ∀ p ∈ g o', p.1 < a := fun p hp => by
  obtain ⟨q, hq, e⟩ := mem_updG U p hp
  exact e ▸ h q hq
theorem ord_updG {d : Addr} {o o' : Obj} {l tl : Led} {g : Obj → Led} (U : UpdG d o l g) (h : ∀ q ∈ l, ∀ p ∈ tl, q.1 < p.1) : ∀ q ∈ g o', ∀ p ∈ tl, q.1 < p.1 := fun p hp => by
  obtain ⟨q, hq, e⟩ := mem_updG U p hp
  exact e ▸ h q hq
noncomputable def grootTurn : List Stmt := match pwAt 34 with | Stmt.FunctionDef _ _ body _ _ _ _ _ _ _ => (match body[4]? with | some (Stmt.For _ _ b _ _) => b | _ => []) | _ => []
noncomputable def grootSc : Scope := match pwAt 34 with | Stmt.FunctionDef _ _ _ _ _ _ scope _ _ _ => scope | _ => default
/-- a turn of groot's loop: the kind's poly times the ratio, a growth of it appended to what is found -/
def TurnOk (B : Heap) (w : World) (poly polyR : PyData) (x r0 r1 : Int) : Prop :=
  ∀ (prog : Program) (p : Program) (loose : List Str) (mean : ExcName → Option Value) (mg mb : Str → Option Value) (dp un : Nat) (gd : Option (List Code)) (outer : List Env) (A₀ : Around) (base h₀ : Heap) (L : Addr) (m : Str → Option Value) (news : Led) (h : Heap) (gn : Array GenState) (dr : Drawn) (tk₀ : Nat) (os : OsState) (Q : Flow → Shared → Prop) (E : Value → Shared → Prop) (l na k : Addr) (xs : List Value) (c : Nat) (g : Obj → Led) (oc : Obj) (t0 t1 : Tok),
    Below A₀ base outer h₀ → Fr h₀ L h m → (KQ w.params).In h₀ → News h₀ L h news → Top p loose mean mg mb h₀ → B.StaysIn h₀ → (KQ w.params).In B → dp + 20 < recursionLimit → un + 300 < cLine →
    UpdG l (listOf xs.toArray c) news g → (l, listOf xs.toArray c) ∈ news → xs.length ≤ 1 → (L + 1, oc) ∈ news → CellO oc (some (.ref na)) → At B news na (tupO [.int r0 t0, .int r1 t1]) → m (Str.ofString "kind") = some (.ref k) → m (Str.ofString "found") = some (.ref l) → Wn w.params B news (.ref k) (kD poly x 1) →
    (∀ (h' : Heap) (tk' : Nat) (pa : Addr) (tl : Led) (d : Addr), Fr h₀ L h' (put m (Str.ofString "poly") (.ref pa)) → News h₀ L h' (tl ++ g (listOf (xs ++ [Value.ref d]).toArray (c + 1))) → (∀ q ∈ g (listOf (xs ++ [Value.ref d]).toArray (c + 1)), ∀ p ∈ tl, q.1 < p.1) → Keep TD news (g (listOf (xs ++ [Value.ref d]).toArray (c + 1))) →
      Wn w.params B (tl ++ g (listOf (xs ++ [Value.ref d]).toArray (c + 1))) (.ref d) (gD polyR (rN (x * r0) (1 * r1)) (rD (x * r0) (1 * r1)) 1 1) → Q .next ⟨h', gn, dr, tk', os⟩) →
    wpAny (model prog w) (ktrTop dp un gd (Str.ofString "groot") grootSc L 198 (.ref 197) [(Str.ofString "number", L + 1)] outer) (execs grootTurn (envX (Str.ofString "groot") grootSc L 198 (.ref 197) [(Str.ofString "number", L + 1)])) Q E ⟨h, gn, dr, tk₀, os⟩
theorem turn_back {B h₀ h' : Heap} {w : World} {L l d pa : Addr} {m : Str → Option Value} {news l' : Led} {gn : Array GenState} {dr : Drawn} {tk' : Nat} {os : OsState} {Q : Flow → Shared → Prop} {xs : List Value} {c : Nat} {g : Obj → Led} {rd : PyData}
    (next : ∀ (h' : Heap) (tk' : Nat) (pa : Addr) (tl : Led) (d : Addr), Fr h₀ L h' (put m (Str.ofString "poly") (.ref pa)) → News h₀ L h' (tl ++ g (listOf (xs ++ [Value.ref d]).toArray (c + 1))) → (∀ q ∈ g (listOf (xs ++ [Value.ref d]).toArray (c + 1)), ∀ p ∈ tl, q.1 < p.1) → Keep TD news (g (listOf (xs ++ [Value.ref d]).toArray (c + 1))) →
      Wn w.params B (tl ++ g (listOf (xs ++ [Value.ref d]).toArray (c + 1))) (.ref d) rd → Q .next ⟨h', gn, dr, tk', os⟩)
    (F : Fr h₀ L h' (put m (Str.ofString "poly") (.ref pa))) (N : News h₀ L h' l') (U : UpdG l (listOf xs.toArray c) news g) (X : Ext (g (listOf (xs.toArray.push (.ref d)) (c + 1))) l') (W : Wn w.params B l' (.ref d) rd) : Q .next ⟨h', gn, dr, tk', os⟩ := by
  rw [List.push_toArray] at X
  obtain ⟨tl, rfl, o⟩ := X.out
  exact next _ _ _ tl _ F N o (upd_keep (U.upd _) (notTD rfl (by decide) (by decide))) W
theorem rows_35 : True := by
  (k_with "my back" => (refine' retF ?_; intro a9_r k9_r u9_r b9_r c9_r e9_r f9_r g9_r tl9_r h9_r tk9_r F9_r N9_r O9_r w9_r x9_r y9_r z9_r; k_sweep; (try dsimp only); (try k_fold)))
  (k_with "M:exec For Name Tuple cons nil" => (k_here; k_dflt (refine' For_n 2 ?_ ?r107ht ?r107hs; (case r107ht => exact fun _ _ => rfl); (case r107hs => exact fun _ => rfl)); (try k_fold)))
  (k_with "M:callWith" => (k_here; first | with_reducible refine callWith_dict1 ?_ | dsimp only))
  (k_with "M:ite" => (k_here; dsimp only))
  (k_with "M:call type:tuple" => (k_here; (with_reducible show wpAny _ _ (call (Value.type _) [Value.ref _]) _ _ _); k_dflt (refine' kde_tupleOf ?k1 ?k2 ?k3 ?k4 ?k5 ?_; (case k1 => k_asm); (case k2 => k_asm); (case k3 => exact News.isList (by k_asm) (by k_mem)); (case k4 => exact Nat.le_of_ble_eq_true rfl); (case k5 => kun_lit); k_whole); intro D'_r h'_r F'_r N'_r l1_r; (try k_sweep)))
  (k_with "M:subscriptTail" => (k_here; (with_reducible show wpAny _ _ (subscriptTail _ _ (Value.ref _) (Value.int _ _)) _ _ _); k_dflt (refine' PyProof.Rows.item_listL ?r111l ?r111a ?r111b ?r111x ?_; (case r111l => exact News.isList (by with_reducible assumption) (by k_mem)); (case r111a => decide); (case r111b => decide); (case r111x => exact rfl))))
  (k_with "M:eval Name" => (k_here; k_dflt (refine' nameX_L ?F ?r112v ?_ ?k1 ?k2; (case F => with_reducible assumption); (case k1 => rfl); (case k2 => rfl); (case r112v => k_extra "my look"); k_whole)))
  (k_with "M:getMethod ref" => (k_here; (with_reducible show wpAny _ _ (getMethod (Value.ref _) (Str.ofString "append") _) _ _ _); k_dflt (refine' getMethod_append_N ?r113n ?r113m ?_ ?r113c ?r113g; (case r113n => with_reducible assumption); (case r113m => k_mem); (case r113c => exact rfl); (case r113g => exact rfl))))
  (k_with "my lt" => (refine lt_updG (by with_reducible assumption) ?_; k_extra "my lt"))
  (k_with "my ord" => (refine ord_updG (by with_reducible assumption) ?_; k_extra "my ord"))
  (k_with "my cut" => (
  (conv => arg 3; arg 1; whnf)))
  (k_with "M:eval ListComp" => (k_here; k_dflt (refine' list_comp 0 (Or.inl rfl) ?r117cl ?r117ce ?r117k ?r117n ?r117hs ?_; (case r117cl => with_unfolding_all rfl); (case r117ce => decide); (case r117k => exact rfl); (case r117n => decide); (case r117hs => exact fun _ => rfl)); k_whole))
  trivial
set_option maxHeartbeats 3000000 in
theorem turn0 {B : Heap} {w : World} (x r0 r1 : Int) (hx : -4 ≤ x ∧ x ≤ 4) (hr : -4 ≤ r0 ∧ r0 ≤ 4) (hs : 0 < r1 ∧ r1 ≤ 4) : TurnOk B w (.tuple []) (.tuple []) x r0 r1 := by
  intro prog p loose mean mg mb dp un gd outer A₀ base h₀ L m news h gn dr tk₀ os Q E l na k xs c g oc t0 t1 Bl F X N T S XB hd hu U hm hz hc hoc yn hk hf W next
  obtain ⟨a1, b1, c1, s1, s2, s3, e1, y1, W1, z1⟩ := W.kD_inv
  cases e1
  obtain ⟨a2, rfl, y2⟩ := W1.tup0_inv
  have hm9 : List.Mem (l, listOf xs.toArray c) news := hm
  have hc9 : List.Mem (L + 1, oc) news := hc
  k_extra "my cut"
  k_extra "my let"
  k_steps
  exact turn_back next (by with_reducible assumption) (by with_reducible assumption) U (by k_extra "my ext") (by k_extra "my wn")
theorem rows_36 : True := by
  (k_with "M:eval ListComp" => (k_here; k_dflt (refine' list_comp 1 (Or.inr rfl) ?r118cl ?r118ce ?r118k ?r118n ?r118hs ?_; (case r118cl => with_unfolding_all rfl); (case r118ce => decide); (case r118k => exact rfl); (case r118n => decide); (case r118hs => exact fun _ => rfl)); k_whole))
  trivial
set_option maxHeartbeats 3000000 in
theorem turn1 {B : Heap} {w : World} (i x r0 r1 : Int) (hi : -4 ≤ i ∧ i ≤ 4) (hx : -4 ≤ x ∧ x ≤ 4) (hr : -4 ≤ r0 ∧ r0 ≤ 4) (hs : 0 < r1 ∧ r1 ≤ 4) : TurnOk B w (.tuple [.tuple [.int 1, pr i 1]]) (.tuple [.tuple [.int 1, pr (rN (i * r0) (1 * r1)) (rD (i * r0) (1 * r1))]]) x r0 r1 := by
  intro prog p loose mean mg mb dp un gd outer A₀ base h₀ L m news h gn dr tk₀ os Q E l na k xs c g oc t0 t1 Bl F X N T S XB hd hu U hm hz hc hoc yn hk hf W next
  obtain ⟨a1, b1, c1, s1, s2, s3, e1, y1, W1, z1⟩ := W.kD_inv
  cases e1
  obtain ⟨a2, b2, rfl, y2, W2⟩ := W1.tup1_inv
  obtain ⟨a3, b3, b4, rfl, y3, W3, W4⟩ := W2.tup2_inv
  obtain ⟨s4, rfl⟩ := W3.int_inv
  obtain ⟨a4, s5, s6, rfl, y4⟩ := W4.pr_inv
  have hm9 : List.Mem (l, listOf xs.toArray c) news := hm
  have hc9 : List.Mem (L + 1, oc) news := hc
  k_extra "my cut"
  k_extra "my let"
  k_steps
  exact turn_back next (by with_reducible assumption) (by with_reducible assumption) U (by k_extra "my ext") (by k_extra "my wn")
theorem turn_any {B : Heap} {w : World} {f g : PyData} {x r0 r1 : Int} (P : PolyR r0 r1 f g) (hx : -4 ≤ x ∧ x ≤ 4) (hr : -4 ≤ r0 ∧ r0 ≤ 4) (hs : 0 < r1 ∧ r1 ≤ 4) : TurnOk B w f g x r0 r1 := by
  cases P with
  | nil => exact turn0 x r0 r1 hx hr hs
  | one i hi => exact turn1 i x r0 r1 hi hx hr hs
theorem turn_use {B : Heap} {w : World} {prog : Program} {p : Program} {loose : List Str} {mean : ExcName → Option Value} {mg mb : Str → Option Value} {dp un : Nat} {gd : Option (List Code)} {outer : List Env} {A₀ : Around} {base h₀ h : Heap} {L l na k : Addr} {m : Str → Option Value} {news : Led} {gn : Array GenState} {dr : Drawn} {tk₀ : Nat} {os : OsState} {Q : Flow → Shared → Prop} {E : Value → Shared → Prop} {xs : List Value} {c : Nat} {g : Obj → Led} {oc : Obj} {t0 t1 : Tok} {f fR : PyData} {x r0 r1 : Int}
    (Bl : Below A₀ base outer h₀) (F : Fr h₀ L h m) (X : (KQ w.params).In h₀) (N : News h₀ L h news) (T : Top p loose mean mg mb h₀) (S : B.StaysIn h₀) (XB : (KQ w.params).In B) (hk : m (Str.ofString "kind") = some (.ref k)) (hf : m (Str.ofString "found") = some (.ref l))
    (W : Wn w.params B news (.ref k) (kD f x 1)) (P : PolyR r0 r1 f fR) (hx : -4 ≤ x ∧ x ≤ 4) (hr : -4 ≤ r0 ∧ r0 ≤ 4) (hs : 0 < r1 ∧ r1 ≤ 4) (hd : dp + 20 < recursionLimit) (hu : un + 300 < cLine)
    (U : UpdG l (listOf xs.toArray c) news g) (hm : (l, listOf xs.toArray c) ∈ news) (hz : xs.length ≤ 1) (hc : (L + 1, oc) ∈ news) (hoc : CellO oc (some (.ref na))) (yn : At B news na (tupO [.int r0 t0, .int r1 t1]))
    (next : ∀ (h' : Heap) (tk' : Nat) (pa : Addr) (tl : Led) (d : Addr), Fr h₀ L h' (put m (Str.ofString "poly") (.ref pa)) → News h₀ L h' (tl ++ g (listOf (xs ++ [Value.ref d]).toArray (c + 1))) → (∀ q ∈ g (listOf (xs ++ [Value.ref d]).toArray (c + 1)), ∀ p ∈ tl, q.1 < p.1) → Keep TD news (g (listOf (xs ++ [Value.ref d]).toArray (c + 1))) →
      Wn w.params B (tl ++ g (listOf (xs ++ [Value.ref d]).toArray (c + 1))) (.ref d) (gD fR (rN (x * r0) (1 * r1)) (rD (x * r0) (1 * r1)) 1 1) → Q .next ⟨h', gn, dr, tk', os⟩) :
    wpAny (model prog w) (ktrTop dp un gd (Str.ofString "groot") grootSc L 198 (.ref 197) [(Str.ofString "number", L + 1)] outer) (execs grootTurn (envX (Str.ofString "groot") grootSc L 198 (.ref 197) [(Str.ofString "number", L + 1)])) Q E ⟨h, gn, dr, tk₀, os⟩ :=
  turn_any P hx hr hs prog p loose mean mg mb dp un gd outer A₀ base h₀ L m news h gn dr tk₀ os Q E l na k xs c g oc t0 t1 Bl F X N T S XB hd hu U hm hz hc hoc yn hk hf W next
theorem rows_37 : True := by
  (k_with "M:execs cons" => (k_here; (with_reducible show wpAny _ _ (execs (Stmt.Assign [Expr.Name (Str.ofString "poly") _] _ _ :: _) _) _ _ _); k_dflt (refine' turn_use ?r119Bl ?F ?r119X ?N ?r119T ?S ?r119XB ?hk ?r119hf ?W ?r119P ?r119hx ?r119hr ?r119hs ?hd ?r119hu ?r119U ?r119hm ?r119hz ?r119hc ?r119hoc ?r119yn ?_; (case r119Bl => k_asm); (case F => k_asm); (case r119X => k_asm); (case N => k_asm); (case r119T => k_asm); (case S => k_asm); (case r119XB => k_asm); (case hk => exact rfl); (case r119hf => exact rfl); (case W => k_extra "my wn"); (case r119P => assumption); (case r119hx => omega); (case r119hr => omega); (case r119hs => omega); (case hd => k_extra "my room"); (case r119hu => k_extra "my units"); (case r119hm => k_mem); (case r119U => k_extra "my updG"); (case r119hz => exact Nat.le_of_ble_eq_true rfl); (case r119hc => k_mem); (case r119hoc => assumption); (case r119yn => k_extra "my at")); (intro h'_r tk'_r a'_r tl'_r d'_r F'_r N'_r O'_r K'_r W'_r); (try dsimp only [List.nil_append, List.cons_append] at N'_r O'_r K'_r W'_r); (try dsimp only); (try k_sweep)))
  trivial
set_option maxHeartbeats 3000000 in
theorem groot_c {B : Heap} {w : World} {f1 g1 f2 g2 : PyData} (p q n d r0 r1 : Int) (P1 : PolyR r0 r1 f1 g1) (P2 : PolyR r0 r1 f2 g2) (hp : -4 ≤ p ∧ p ≤ 4) (hq : -4 ≤ q ∧ q ≤ 4) (hr : -4 ≤ r0 ∧ r0 ≤ 4) (hs : 0 < r1 ∧ r1 ≤ 4) :
    Calc B w 198 30 400 [.tuple [gD f1 p 1 n d, gD f2 q 1 n d], pr r0 r1] (.tuple [gD g1 (rN (p * r0) (1 * r1)) (rD (p * r0) (1 * r1)) 1 1, gD g2 (rN (q * r0) (1 * r1)) (rD (q * r0) (1 * r1)) 1 1]) := by
  unfold Calc
  intro prog p' loose mean mg mb dp un gd cn cs a ccd cl outer A₀ base h₀ L m news s vs Q E Bl F X N T hk S XB hd hu W hret
  obtain ⟨v1, v2, rfl, W1, W2⟩ := W.two
  obtain ⟨a0, v3, v4, rfl, w0, W3, W4⟩ := W1.tup2_inv
  obtain ⟨a1, k1, u1, m1, s1, s2, rfl, w1, lo1, y1, z1⟩ := W3.gD_inv
  obtain ⟨a2, k2, u2, m2, s3, s4, rfl, w2, lo2, y2, z2⟩ := W4.gD_inv
  obtain ⟨a3, t3, t4, rfl, w3⟩ := W2.pr_inv
  clear W W1 W2 W3 W4
  have hk1 := P1.key p 1
  have hk2 := P2.key q 1
  have hd1 := P1.depth p 1
  have hd2 := P2.depth q 1
  k_extra "my enterC"
  k_steps
  exact back hret (by with_reducible assumption) (by with_reducible assumption) (by k_extra "my ext") (by k_extra "my wn")
theorem groot_00 {B : Heap} {w : World} (i j p q n d r0 r1 : Int) (hi : -4 ≤ i ∧ i ≤ 4) (hj : -4 ≤ j ∧ j ≤ 4) (hp : -4 ≤ p ∧ p ≤ 4) (hq : -4 ≤ q ∧ q ≤ 4) (hr : -4 ≤ r0 ∧ r0 ≤ 4) (hs : 0 < r1 ∧ r1 ≤ 4) :
    Calc B w 198 30 400 [.tuple [gD (.tuple []) p 1 n d, gD (.tuple []) q 1 n d], pr r0 r1] (.tuple [gD (.tuple []) (rN (p * r0) (1 * r1)) (rD (p * r0) (1 * r1)) 1 1, gD (.tuple []) (rN (q * r0) (1 * r1)) (rD (q * r0) (1 * r1)) 1 1]) := groot_c p q n d r0 r1 .nil .nil hp hq hr hs
theorem groot_01 {B : Heap} {w : World} (i j p q n d r0 r1 : Int) (hi : -4 ≤ i ∧ i ≤ 4) (hj : -4 ≤ j ∧ j ≤ 4) (hp : -4 ≤ p ∧ p ≤ 4) (hq : -4 ≤ q ∧ q ≤ 4) (hr : -4 ≤ r0 ∧ r0 ≤ 4) (hs : 0 < r1 ∧ r1 ≤ 4) :
    Calc B w 198 30 400 [.tuple [gD (.tuple []) p 1 n d, gD (.tuple [.tuple [.int 1, pr j 1]]) q 1 n d], pr r0 r1] (.tuple [gD (.tuple []) (rN (p * r0) (1 * r1)) (rD (p * r0) (1 * r1)) 1 1, gD (.tuple [.tuple [.int 1, pr (rN (j * r0) (1 * r1)) (rD (j * r0) (1 * r1))]]) (rN (q * r0) (1 * r1)) (rD (q * r0) (1 * r1)) 1 1]) := groot_c p q n d r0 r1 .nil (.one j hj) hp hq hr hs
theorem groot_10 {B : Heap} {w : World} (i j p q n d r0 r1 : Int) (hi : -4 ≤ i ∧ i ≤ 4) (hj : -4 ≤ j ∧ j ≤ 4) (hp : -4 ≤ p ∧ p ≤ 4) (hq : -4 ≤ q ∧ q ≤ 4) (hr : -4 ≤ r0 ∧ r0 ≤ 4) (hs : 0 < r1 ∧ r1 ≤ 4) :
    Calc B w 198 30 400 [.tuple [gD (.tuple [.tuple [.int 1, pr i 1]]) p 1 n d, gD (.tuple []) q 1 n d], pr r0 r1] (.tuple [gD (.tuple [.tuple [.int 1, pr (rN (i * r0) (1 * r1)) (rD (i * r0) (1 * r1))]]) (rN (p * r0) (1 * r1)) (rD (p * r0) (1 * r1)) 1 1, gD (.tuple []) (rN (q * r0) (1 * r1)) (rD (q * r0) (1 * r1)) 1 1]) := groot_c p q n d r0 r1 (.one i hi) .nil hp hq hr hs
theorem groot_11 {B : Heap} {w : World} (i j p q n d r0 r1 : Int) (hi : -4 ≤ i ∧ i ≤ 4) (hj : -4 ≤ j ∧ j ≤ 4) (hp : -4 ≤ p ∧ p ≤ 4) (hq : -4 ≤ q ∧ q ≤ 4) (hr : -4 ≤ r0 ∧ r0 ≤ 4) (hs : 0 < r1 ∧ r1 ≤ 4) :
    Calc B w 198 30 400 [.tuple [gD (.tuple [.tuple [.int 1, pr i 1]]) p 1 n d, gD (.tuple [.tuple [.int 1, pr j 1]]) q 1 n d], pr r0 r1] (.tuple [gD (.tuple [.tuple [.int 1, pr (rN (i * r0) (1 * r1)) (rD (i * r0) (1 * r1))]]) (rN (p * r0) (1 * r1)) (rD (p * r0) (1 * r1)) 1 1, gD (.tuple [.tuple [.int 1, pr (rN (j * r0) (1 * r1)) (rD (j * r0) (1 * r1))]]) (rN (q * r0) (1 * r1)) (rD (q * r0) (1 * r1)) 1 1]) := groot_c p q n d r0 r1 (.one i hi) (.one j hj) hp hq hr hs
theorem rows_38 : True := by
  (k_with "my lt" => first
  | with_reducible assumption
  | (refine lt_sub (by with_reducible assumption) ?_; k_extra "my sub")
  | (refine lt_sub (ktn_ltOf (by with_reducible assumption : AllLt _ _)) ?_; k_extra "my sub")
  | (refine lt_sub (ktn_ltOf ((by with_reducible assumption : _ ∧ AllLt _ _).2)) ?_; k_extra "my sub")
  | (refine lt_sub (ktn_ltOf ((by with_reducible assumption : _ ∧ _ ∧ AllLt _ _).2.2)) ?_; k_extra "my sub")
  | (refine lt_sub (ktn_ltOf ((by with_reducible assumption : _ ∧ _ ∧ _ ∧ AllLt _ _).2.2.2)) ?_; k_extra "my sub")
  | (refine lt_sub (ktn_ltOf ((by with_reducible assumption : _ ∧ _ ∧ _ ∧ _ ∧ AllLt _ _).2.2.2.2)) ?_; k_extra "my sub")
  | (refine lt_sub (ktn_ltOf ((by with_reducible assumption : _ ∧ _ ∧ _ ∧ _ ∧ _ ∧ AllLt _ _).2.2.2.2.2)) ?_; k_extra "my sub")
  | (refine lt_sub (ktn_ltOf ((by with_reducible assumption : _ ∧ _ ∧ _ ∧ _ ∧ _ ∧ _ ∧ AllLt _ _).2.2.2.2.2.2)) ?_; k_extra "my sub")
  | (refine lt_sub (ktn_ltOf ((by with_reducible assumption : _ ∧ _ ∧ _ ∧ _ ∧ _ ∧ _ ∧ _ ∧ AllLt _ _).2.2.2.2.2.2.2)) ?_; k_extra "my sub")
  | (refine lt_sub (lt_succ1 (by with_reducible assumption)) ?_; k_extra "my sub")
  | fail "my lt")
  (k_with "my ord" => first
  | with_reducible assumption
  | (refine ord_sub (by with_reducible assumption) ?_; k_extra "my sub")
  | fail "my ord")
  (k_with "M:subscriptTail" => (k_here; (with_reducible show wpAny _ _ (subscriptTail _ _ (Value.ref _) (Value.int _ _)) _ _ _); k_dflt (refine' my_item ?S ?F ?N ?r122y (fun _ h9 => h9) ?r122a ?r122b ?r122c ?d ?_; (case S => with_reducible assumption); (case F => with_reducible assumption); (case N => with_reducible assumption); (case r122y => k_extra "my at"); (case r122a => decide); (case r122b => decide); (case r122c => rfl); (case d => rfl))))
  (k_with "my back" => (
  (first
  | (refine' retI ?_; intro t9_r h9_r tk9_r F9_r N9_r)
  | (refine' retS ?_; intro t9_r h9_r tk9_r F9_r N9_r)
  | (refine' retB ?_; intro h9_r tk9_r F9_r N9_r)
  | (refine' retP ?_; intro a9_r t9_r u9_r tl9_r h9_r tk9_r F9_r N9_r O9_r w9_r)
  | (refine' retK ?_; intro a9_r b9_r c9_r t9_r u9_r o9_r tl9_r h9_r tk9_r F9_r N9_r O9_r w9_r x9_r y9_r z9_r)
  | (refine' retG ?_; intro a9_r k9_r u9_r c9_r t9_r o9_r tl9_r h9_r tk9_r F9_r N9_r O9_r w9_r x9_r lo9_r y9_r z9_r)
  | (refine' ret0 ?_; intro a9_r tl9_r h9_r tk9_r F9_r N9_r O9_r w9_r)
  | (refine' ret2 ?_; intro a9_r v9_r u9_r tl9_r h9_r tk9_r F9_r N9_r O9_r w9_r y9_r z9_r)
  | intro r9_r tl9_r h9_r tk9_r F9_r N9_r O9_r W9_r);
  k_sweep; (try dsimp only); (try k_fold)))
  (k_with "M:ite" => (k_here; k_openite; first
  | (refine' ite_neg ?r124kc ?_; (case r124kc => ((try simp only [decide_eq_true_eq, beq_iff_eq, bne_iff_ne, ne_eq, Bool.not_eq_true', decide_eq_false_iff_not]); omega)))
  | (refine' ite_pos ?r124kc ?_; (case r124kc => ((try simp only [decide_eq_true_eq, beq_iff_eq, bne_iff_ne, ne_eq, Bool.not_eq_true', decide_eq_false_iff_not]); omega)))))
  (k_with "M:ite" => (k_here; (first | (with_reducible refine' ite_pos (rfl : true = true) ?_) | (with_reducible refine' ite_neg (Bool.false_ne_true : ¬ (false = true)) ?_) | (with_reducible refine' ite_pos (beq_self_eq_true (_ : Str)) ?_))))
  (k_with "M:subscriptTail" => (k_here; (with_reducible show wpAny _ _ (subscriptTail _ _ (Value.ref _) (Value.ref _)) _ _ _); k_dflt (refine' led_item ?hk ?hd ?u ?S ?F ?N ?W (fun _ h9 => h9) ?r126y (fun _ h9 => h9) ?_; (case S => with_reducible assumption); (case F => with_reducible assumption); (case N => with_reducible assumption); (case r126y => k_extra "my at"); k_extra "my key2"); (intro tk'_r)))
  (k_with "M:getMethod ref" => (k_here; k_dflt (refine' led_get ?S ?F ?N ?r127y (fun _ h9 => h9) ?_; (case S => with_reducible assumption); (case F => with_reducible assumption); (case N => with_reducible assumption); (case r127y => k_extra "my at"))))
  (k_with "M:eval ListComp" => (k_here; k_dflt (refine' list_comp 0 (Or.inl rfl) ?r128cl ?r128ce ?r128k ?r128n ?r128hs ?_; (case r128cl => with_unfolding_all rfl); (case r128ce => decide); (case r128k => exact rfl); (case r128n => decide); (case r128hs => exact fun _ => rfl)); k_whole))
  (k_with "M:eval Name" => (k_here; (with_reducible show wpAny _ _ (eval (Expr.Name _ _) (compEnvC _ _ _ _)) _ _ _); k_dflt (refine' led_ldC ?N ?r129z ?r129m ?r129v ?r129l ?r129k ?d ?_; (case r129z => with_reducible assumption); (case N => with_reducible assumption); (case r129m => k_mem); (case r129v => exact rfl); (case r129l => rfl); (case r129k => rfl); (case d => decide))))
  trivial
theorem rows_39 : True := by
  (k_with "M:exec For Name Tuple cons nil" => (k_here; k_dflt (refine' For_n 2 ?_ ?r130ht ?r130hs; (case r130ht => exact fun _ _ => rfl); (case r130hs => exact fun _ => rfl)); (try k_fold)))
  (k_with "M:callWith" => (k_here; first | with_reducible refine callWith_dict1 ?_ | dsimp only))
  (k_with "M:ite" => (k_here; dsimp only))
  (k_with "M:call type:tuple" => (k_here; (with_reducible show wpAny _ _ (call (Value.type _) [Value.ref _]) _ _ _); k_dflt (refine' kde_tupleOf ?k1 ?k2 ?k3 ?k4 ?k5 ?_; (case k1 => k_asm); (case k2 => k_asm); (case k3 => exact News.isList (by k_asm) (by k_mem)); (case k4 => exact Nat.le_of_ble_eq_true rfl); (case k5 => kun_lit); k_whole); intro D'_r h'_r F'_r N'_r l1_r; (try k_sweep)))
  (k_with "M:subscriptTail" => (k_here; (with_reducible show wpAny _ _ (subscriptTail _ _ (Value.ref _) (Value.int _ _)) _ _ _); k_dflt (refine' PyProof.Rows.item_listL ?r134l ?r134a ?r134b ?r134x ?_; (case r134l => exact News.isList (by with_reducible assumption) (by k_mem)); (case r134a => decide); (case r134b => decide); (case r134x => exact rfl))))
  trivial
-- a list comprehension over a range, with a test
theorem compTurn_listI (elt target iter c : PySem.Expr) (scope : Scope) (pos : Pos) (it acc : Value) (env : Env) :
    compTurn (.ListComp elt [⟨target, iter, [c], 0⟩] scope pos) 0 it acc env = (standAt iter.pos >>= fun _ => pyNext it >>= fun r => match r with
      | none => pure (.done .next)
      | some v => letOwnedTupleGo target it v >>= fun _ => assign target env v >>= fun _ => isTrue c env (eval c env) >>= fun b =>
        if b = true then (eval elt env >>= fun x => call (.builtin "list.append") [acc, x] >>= fun _ => again (.compLoop (.ListComp elt [⟨target, iter, [c], 0⟩] scope pos) 0 it acc env))
        else again (.compLoop (.ListComp elt [⟨target, iter, [c], 0⟩] scope pos) 0 it acc env)) := by
  unfold compTurn
  simp only [List.getElem?_cons_zero, List.getElem?_cons_succ, List.getElem?_nil, List.forIn_cons, List.forIn_nil, pure_bind, if_true, bind_assoc, bne_self_eq_false, Bool.false_eq_true, if_false]
  rfl
section
variable {prog : Program} {w : World} {A : Around} {E : Value → Shared → Prop} {s : Shared} {env : Env}
def ITurns (prog : Program) (w : World) (A : Around) (env : Env) (target elt c : PySem.Expr) (acc : Value) (R : Shared → Prop) (it : Value) : Nat → Shared → Prop
  | 0, s => wpAny (model prog w) A (pyNext it) (fun r s₁ => match r with | none => R s₁ | some _ => False) (fun _ _ => False) s
  | n + 1, s => wpAny (model prog w) A (pyNext it) (fun r s₁ => match r with
      | none => False
      | some v => wpAny (model prog w) A (letOwnedTupleGo target it v) (fun _ s₂ => wpAny (model prog w) A (assign target env v) (fun _ s₃ => wpAny (model prog w) A (isTrue c env (eval c env)) (fun b s₃' =>
          if b = true then wpAny (model prog w) A (eval elt env) (fun x s₄ => wpAny (model prog w) A (call (.builtin "list.append") [acc, x]) (fun _ s₅ => ITurns prog w A env target elt c acc R it n s₅) (fun _ _ => False) s₄) (fun _ _ => False) s₃'
          else ITurns prog w A env target elt c acc R it n s₃') (fun _ _ => False) s₃) (fun _ _ => False) s₂) (fun _ _ => False) s₁) (fun _ _ => False) s
theorem iturns_zero {target elt c : PySem.Expr} {acc it : Value} {R : Shared → Prop} (h : wpAny (model prog w) A (pyNext it) (fun r s₁ => match r with | none => R s₁ | some _ => False) (fun _ _ => False) s) : ITurns prog w A env target elt c acc R it 0 s := h
theorem iturns_succ {target elt c : PySem.Expr} {acc it : Value} {R : Shared → Prop} {n : Nat} (h : wpAny (model prog w) A (pyNext it) (fun r s₁ => match r with
      | none => False
      | some v => wpAny (model prog w) A (letOwnedTupleGo target it v) (fun _ s₂ => wpAny (model prog w) A (assign target env v) (fun _ s₃ => wpAny (model prog w) A (isTrue c env (eval c env)) (fun b s₃' =>
          if b = true then wpAny (model prog w) A (eval elt env) (fun x s₄ => wpAny (model prog w) A (call (.builtin "list.append") [acc, x]) (fun _ s₅ => ITurns prog w A env target elt c acc R it n s₅) (fun _ _ => False) s₄) (fun _ _ => False) s₃'
          else ITurns prog w A env target elt c acc R it n s₃') (fun _ _ => False) s₃) (fun _ _ => False) s₂) (fun _ _ => False) s₁) (fun _ _ => False) s) : ITurns prog w A env target elt c acc R it (n + 1) s := h
theorem comp_loopI {target elt iter c : PySem.Expr} {scope : Scope} {pos : Pos} {acc it : Value} {R : Result → Shared → Prop} (n : Nat)
    (h : ITurns prog w A env target elt c acc (R (.ok .next)) it n s) : codeAny (model prog w) A (.compLoop (.ListComp elt [⟨target, iter, [c], 0⟩] scope pos) 0 it acc env) R s := by
  refine codeAny_loop rfl (fun k s' => ITurns prog w A env target elt c acc (R (.ok .next)) it k s') (fun k s' hI => ?_) n h
  show wpAny _ _ ((compTurn (.ListComp elt [⟨target, iter, [c], 0⟩] scope pos) 0 it acc env).onRaise (fun x => do noteFrame x env; theTreesLotGoes x)) _ _ s'
  refine wpAny_noted ?_
  rw [compTurn_listI]
  refine wpAny_bind (wpAny_standAt (wpAny_bind ?_))
  cases k with
  | zero =>
    refine wpAny_mono hI (fun r s₁ h₁ => ?_) fun _ _ e => e.elim
    cases r with
    | none => exact wpAny_pure h₁
    | some v => exact h₁.elim
  | succ k =>
    refine wpAny_mono hI (fun r s₁ h₁ => ?_) fun _ _ e => e.elim
    cases r with
    | none => exact h₁.elim
    | some v =>
      refine wpAny_bind (wpAny_mono h₁ (fun _ s₂ h₂ => ?_) fun _ _ e => e.elim)
      refine wpAny_bind (wpAny_mono h₂ (fun _ s₃ h₃ => ?_) fun _ _ e => e.elim)
      refine wpAny_bind (wpAny_mono h₃ (fun b s₃' h₃' => ?_) fun _ _ e => e.elim)
      cases b with
      | false => exact wpAny_pure ⟨rfl, k, Nat.lt_succ_self k, h₃'⟩
      | true =>
        refine wpAny_bind (wpAny_mono h₃' (fun x s₄ h₄ => ?_) fun _ _ e => e.elim)
        exact wpAny_bind (wpAny_mono h₄ (fun _ s₅ h₅ => wpAny_pure ⟨rfl, k, Nat.lt_succ_self k, h₅⟩) fun _ _ e => e.elim)
def IStart (prog : Program) (w : World) (A : Around) (E : Value → Shared → Prop) (scope : Scope) (cl : List (Str × Addr)) (env : Env) (target elt c : PySem.Expr) (n : Nat) (Q : Value → Shared → Prop) (it : Value) (s : Shared) : Prop :=
  (∀ (Q' : Value → Shared → Prop) (E' : Value → Shared → Prop) (s' : Shared), s.heap.StaysIn s'.heap → Q' it s' → wpAny (model prog w) A (pyIter it) Q' E' s') ∧
  wpAny (model prog w) A (newList []) (fun acc s₃ => s.heap.StaysIn s₃.heap ∧ ∀ h', h'.Ns s₃.heap.objs.size (fun _ => none) → Heap.SameBut s₃.heap.objs.size (s₃.heap.push { cls := .type "dict", data := .dict #[] }) h' →
    ITurns prog w A (compEnvC scope cl s₃.heap.objs.size env) target elt c acc (CEnd Q acc s₃.heap.objs.size) it n { s₃ with heap := h' }) E s
theorem list_compI {target elt iter c : PySem.Expr} {scope : Scope} {pos : Pos} {cl : List (Str × Addr)} {Q : Value → Shared → Prop} (n : Nat)
    (hclos : closureFor scope env = pure cl) (hcell : ∀ y ∈ scope.names, y.2 ≠ .cell) (hkind : scope.kind = .function) (hnames : ∀ y ∈ scope.names, y.2 = .local → scope.names.lookup y.1 = some .local)
    (hs : ∀ x, foldedSetIterable iter env x = pure x)
    (h : wpAny (model prog w) A (eval iter env) (fun x s₁ => wpAny (model prog w) A (pyIter x) (fun it s₂ => IStart prog w A E scope cl env target elt c n Q it s₂) E s₁) E s) :
    wpAny (model prog w) A (eval (.ListComp elt [⟨target, iter, [c], 0⟩] scope pos) env) Q E s := by
  rw [eval_ListComp]
  refine wpAny_comprehension_free (use := none) rfl hs hclos hkind hnames (wpAny_mono h (fun xv s₁ h₁ => wpAny_mono h₁ (fun it s₂ h₂ => ?_) fun _ _ e => e) fun _ _ e => e)
  obtain ⟨hit, h₃⟩ := h₂
  refine wpAny_mono h₃ (fun acc s₃ k => ?_) fun _ _ e => e
  refine wpAny_newFunctionEnv hcell (by intro y hy; simp at hy) (fun h₁ hns hsb => ?_) hkind
  have hk := k.2 h₁ hns hsb
  have st : s₂.heap.StaysIn h₁ := fun b o e => hsb.extBut b o (Nat.ne_of_lt (Heap.lt_size (k.1 b o e))) (Heap.get?_push_of_some _ (k.1 b o e))
  have go : ∀ it', it' = it → codeAny (model prog w) A (.compLoop (.ListComp elt [⟨target, iter, [c], 0⟩] scope pos) 0 it' acc (compEnvC scope cl s₃.heap.objs.size env))
      (compPost (model prog w) A E none Q acc s₃.heap.objs.size) { s₃ with heap := h₁ } := by
    rintro _ rfl
    exact comp_loopI n hk
  exact codeAny_compStart_list (go it rfl) (hit _ _ _ st (go it rfl))
end
abbrev rangeO (a b c : Int) (t u v : Tok) : Obj := { cls := .type "range", dict := none, data := .fields #[.int a t, .int b u, .int c v], slots := #[] }
abbrev rangeI (x left step : Int) : Obj := { cls := .type "range_iterator", dict := none, data := .fields #[rawInt x, rawInt left, rawInt step], slots := #[] }
section
variable {prog : Program} {w : World} {A : Around} {E : Value → Shared → Prop} {s : Shared} {env : Env} {h₀ : Heap} {L R I : Addr} {m : Str → Option Value} {news news' : Led} {n : Nat}
theorem led_range {a b : Int} {t u : Tok} {Q : Value → Shared → Prop} (F : Fr h₀ L s.heap m) (N : News h₀ L s.heap news) (h : ∀ R t' u' v' h' tk, Fr h₀ L h' m → News h₀ L h' ((R, rangeO a b 1 t' u' v') :: news) → (∀ p ∈ news, p.1 < R) → Q (.ref R) { s with heap := h', toks := tk }) :
    wpAny (model prog w) A (call (.type "range") [.int a t, .int b u]) Q E s :=
  call_range_2 (h _ _ _ _ _ _ (F.push _) (N.push F _) fun p hp => Heap.lt_size (N p hp).1)
theorem led_iterR {a b : Int} {t u v : Tok} {n : Int} {Q : Value → Shared → Prop} (F : Fr h₀ L s.heap m) (N : News h₀ L s.heap news) (hm : (R, rangeO a b 1 t u v) ∈ news) (hz : Builtin.Range.small a b 1 = true) (hn : Builtin.Range.rangeSize a b 1 = n)
    (h : ∀ I h', Fr h₀ L h' m → News h₀ L h' ((I, rangeI a n 1) :: news) → (∀ p ∈ news, p.1 < I) → Q (.ref I) { s with heap := h' }) : wpAny (model prog w) A (pyIter (.ref R)) Q E s :=
  wpAny_pyIter_range (N _ hm).1 hz (hn ▸ h _ _ (F.push _) (N.push F _) fun p hp => Heap.lt_size (N p hp).1)
theorem led_compR {scope : Scope} {cl : List (Str × Addr)} {target elt c : PySem.Expr} {x l : Int} {Q : Value → Shared → Prop} (F : Fr h₀ L s.heap m) (N : News h₀ L s.heap news) (hI : (I, rangeI x l 1) ∈ news)
    (h : ∀ D C oC h', Fr h₀ L h' m → News h₀ L h' ((C, oC) :: (D, listOf #[] 0) :: news) → (∀ p ∈ news, p.1 < D) → (∀ p ∈ news, p.1 < C) → D < C → NsO oC (fun _ => none) →
      ITurns prog w A (compEnvC scope cl C env) target elt c (.ref D) (CEnd Q (.ref D) C) (.ref I) n { s with heap := h' }) : IStart prog w A E scope cl env target elt c n Q (.ref I) s := by
  refine ⟨fun Q' E' s' hs q => wpAny_pyIter_rangeiter (hs _ _ (N _ hI).1) q, wpAny_newObj_type ?_ (Nat.zero_le _)⟩
  refine ⟨fun b o e => Heap.get?_push_of_some _ e, fun h' hn hb => ?_⟩
  obtain ⟨oC, hC, z⟩ := nsO_of hn
  have F1 := F.push { cls := .type "list", data := .seq ([] : List Value).toArray }
  have N1 := News.push F N { cls := .type "list", data := .seq ([] : List Value).toArray }
  have k : ∀ b o', (s.heap.push { cls := .type "list", data := .seq ([] : List Value).toArray }).get? b = some o' → h'.get? b = some o' := fun b o' e =>
    hb.extBut b o' (Nat.ne_of_lt (Heap.lt_size e)) (Heap.get?_push_of_some _ e)
  refine h _ _ oC h' (F1.keeps k) ?_ (fun p hp => Heap.lt_size (N p hp).1) (fun p hp => Heap.lt_size (N1 p (.tail _ hp)).1) ?_ z
  · intro p hp
    rcases List.mem_cons.mp hp with rfl | hp
    · exact ⟨hC, Nat.ne_of_gt F1.ns.lt, none_at_size (s := { s with heap := s.heap.push { cls := .type "list", data := .seq ([] : List Value).toArray } }) F1⟩
    · exact ⟨k _ _ (N1 p hp).1, (N1 p hp).2⟩
  · show s.heap.objs.size < (s.heap.push _).objs.size
    rw [Heap.size_push]
    exact Nat.lt_succ_self _
theorem led_nextR {x l x' l' : Int} {Q : Option Value → Shared → Prop} (F : Fr h₀ L s.heap m) (N : News h₀ L s.heap news) (U : Upd I (rangeI x l 1) (rangeI x' l' 1) news news') (hl : 0 < l) (hx : x + 1 = x') (hl' : l - 1 = l')
    (h : ∀ h' t, Fr h₀ L h' m → News h₀ L h' news' → Keep TD news news' → Q (some (.int x t)) { s with heap := h', toks := s.toks + 1 }) : wpAny (model prog w) A (pyNext (.ref I)) Q E s :=
  wpAny_pyNext_range_item (N _ (upd_mem U).1).1 hl fun h' hi hb => by
    rw [hx, hl'] at hi
    have q := upd_led F N U hb hi
    exact h h' _ q.1 q.2 (upd_keep U (notTD rfl (by decide) (by decide)))
theorem led_endR {x l : Int} {Q : Option Value → Shared → Prop} (hh : A.handled = none) (F : Fr h₀ L s.heap m) (N : News h₀ L s.heap news) (D : Del I (rangeI x l 1) news news') (hl : l ≤ 0)
    (h : ∀ h', Fr h₀ L h' m → News h₀ L h' news' → Keep TD news news' → Q none { s with heap := h' }) : wpAny (model prog w) A (pyNext (.ref I)) Q E s :=
  wpAny_pyNext_range_end hh (N _ D.mem.1).1 hl fun h' hb => have z := del_led F N D hb; h h' z.1 z.2 (D.keep (notTD rfl (by decide) (by decide)))
end
theorem rows_40 : True := by
  (k_with "M:ITurns" => first | refine iturns_zero ?_ | refine iturns_succ ?_)
  (k_with "M:IStart" => (k_here; k_dflt (refine' led_compR ?F ?N ?r136I ?_; (case F => with_reducible assumption); (case N => with_reducible assumption); (case r136I => k_mem)); (intro D'_r C'_r oC'_r h'_r F'_r N'_r l1_r l3_r lc_r z'_r); (replace lc_r := ltN lc_r); (try k_sweep)))
  (k_with "M:call type:range" => (k_here; (with_reducible show wpAny _ _ (call (Value.type "range") [Value.int _ _, Value.int _ _]) _ _ _); k_dflt (refine' led_range ?F ?N ?_; (case F => with_reducible assumption); (case N => with_reducible assumption)); (intro R'_r t'_r u'_r v'_r h'_r tk'_r F'_r N'_r l1_r); (try k_sweep)))
  (k_with "M:pyIter ref" => (k_here; k_dflt (refine' led_iterR ?F ?N ?r138l ?r138z ?r138n ?_; (case F => with_reducible assumption); (case N => with_reducible assumption); (case r138l => k_mem); (case r138z => decide); (case r138n => exact rfl)); (intro I'_r h'_r F'_r N'_r l1_r); (try k_sweep)))
  (k_with "M:pyNext ref" => (k_here; k_dflt (first
  | (refine' led_nextR ?F ?N ?r139U ?r139l ?r139x ?r139y ?_; (case F => with_reducible assumption); (case N => with_reducible assumption); (case r139x => exact rfl); (case r139y => exact rfl); (case r139U => k_extra "my upd"); (case r139l => decide); (intro h'_r t'_r F'_r N'_r K'_r))
  | (refine' led_endR ?r139hh ?F ?N ?r139D ?r139l ?_; (case r139hh => exact rfl); (case F => with_reducible assumption); (case N => with_reducible assumption); (case r139D => k_extra "my del"); (case r139l => decide); (intro h'_r F'_r N'_r K'_r))); (try dsimp only); (try k_sweep)))
  trivial
theorem lt_succ2 {l : Led} {a : Addr} (h : ∀ p ∈ l, p.1 < a) : ∀ p ∈ l, p.1 < a + 1 + 1 := fun p hp => Nat.lt_succ_of_lt (Nat.lt_succ_of_lt (h p hp))
theorem rows_41 : True := by
  (k_with "my lt" => (refine' lt_succ2 ?r140h; (case r140h => with_reducible assumption)))
  (k_with "my wn" => (refine' Wn.of_int ?r141h; (case r141h => first | (exact congrArg (Int.fdiv _) (by omega)) | fail "my wn")))
  (k_with "M:eval ListComp" => (k_here; k_dflt (refine' list_compI 1 ?r142cl ?r142ce ?r142k ?r142n ?r142hs ?_; (case r142cl => with_unfolding_all rfl); (case r142ce => decide); (case r142k => exact rfl); (case r142n => decide); (case r142hs => exact fun _ => rfl)); k_whole))
  trivial
set_option maxHeartbeats 3000000 in
theorem lowest1_c {B : Heap} {w : World} (t : Int) : Calc B w 482 20 200 [.int t, .int 1] (pr (Int.fdiv t 1) (Int.fdiv 1 1)) := by
  unfold Calc
  intro prog p' loose mean mg mb dp un gd cn cs a ccd cl outer A₀ base h₀ L m news s vs Q E Bl F X N T hk S XB hd hu W hret
  obtain ⟨v1, v2, rfl, W1, W2⟩ := W.two
  obtain ⟨t1, rfl⟩ := W1.int_inv
  obtain ⟨t2, rfl⟩ := W2.int_inv
  clear W W1 W2
  have e1 : Int.fmod t 1 = 0 := Int.fmod_one t
  k_extra "my enterC"
  k_steps
  all_goals exact back hret (by with_reducible assumption) (by with_reducible assumption) (by k_extra "my ext") (by k_extra "my wn")
theorem rows_42 : True := by
  (k_with "M:eval ListComp" => (k_here; k_dflt (refine' list_compI 2 ?r143cl ?r143ce ?r143k ?r143n ?r143hs ?_; (case r143cl => with_unfolding_all rfl); (case r143ce => decide); (case r143k => exact rfl); (case r143n => decide); (case r143hs => exact fun _ => rfl)); k_whole))
  trivial
set_option maxHeartbeats 3000000 in
theorem lowest2a_c {B : Heap} {w : World} (t : Int) (h2 : Int.fmod t 2 = 0) : Calc B w 482 20 200 [.int t, .int 2] (pr (Int.fdiv t 2) (Int.fdiv 2 2)) := by
  unfold Calc
  intro prog p' loose mean mg mb dp un gd cn cs a ccd cl outer A₀ base h₀ L m news s vs Q E Bl F X N T hk S XB hd hu W hret
  obtain ⟨v1, v2, rfl, W1, W2⟩ := W.two
  obtain ⟨t1, rfl⟩ := W1.int_inv
  obtain ⟨t2, rfl⟩ := W2.int_inv
  clear W W1 W2
  have e1 : Int.fmod t 1 = 0 := Int.fmod_one t
  have e2 : Int.fmod 2 1 = 0 := rfl
  have e3 : Int.fmod 2 (1 + 1) = 0 := rfl
  replace h2 : Int.fmod t (1 + 1) = 0 := h2
  k_extra "my enterC"
  k_steps
  all_goals exact back hret (by with_reducible assumption) (by with_reducible assumption) (by k_extra "my ext") (by k_extra "my wn")
theorem rows_43 : True := by
  (k_with "M:eval ListComp" => (k_here; k_dflt (refine' list_compI 2 ?r144cl ?r144ce ?r144k ?r144n ?r144hs ?_; (case r144cl => with_unfolding_all rfl); (case r144ce => decide); (case r144k => exact rfl); (case r144n => decide); (case r144hs => exact fun _ => rfl)); k_whole))
  trivial
set_option maxHeartbeats 3000000 in
theorem lowest2b_c {B : Heap} {w : World} (t : Int) (h2 : Int.fmod t 2 ≠ 0) : Calc B w 482 20 200 [.int t, .int 2] (pr (Int.fdiv t 1) (Int.fdiv 2 1)) := by
  unfold Calc
  intro prog p' loose mean mg mb dp un gd cn cs a ccd cl outer A₀ base h₀ L m news s vs Q E Bl F X N T hk S XB hd hu W hret
  obtain ⟨v1, v2, rfl, W1, W2⟩ := W.two
  obtain ⟨t1, rfl⟩ := W1.int_inv
  obtain ⟨t2, rfl⟩ := W2.int_inv
  clear W W1 W2
  have e1 : Int.fmod t 1 = 0 := Int.fmod_one t
  have e2 : Int.fmod 2 1 = 0 := rfl
  replace h2 : Int.fmod t (1 + 1) ≠ 0 := h2
  k_extra "my enterC"
  k_steps
  all_goals exact back hret (by with_reducible assumption) (by with_reducible assumption) (by k_extra "my ext") (by k_extra "my wn")
theorem rows_44 : True := by
  (k_with "M:eval ListComp" => (k_here; k_dflt (refine' list_compI 3 ?r145cl ?r145ce ?r145k ?r145n ?r145hs ?_; (case r145cl => with_unfolding_all rfl); (case r145ce => decide); (case r145k => exact rfl); (case r145n => decide); (case r145hs => exact fun _ => rfl)); k_whole))
  trivial
set_option maxHeartbeats 3000000 in
theorem lowest3a_c {B : Heap} {w : World} (t : Int) (h3 : Int.fmod t 3 = 0) : Calc B w 482 20 200 [.int t, .int 3] (pr (Int.fdiv t 3) (Int.fdiv 3 3)) := by
  unfold Calc
  intro prog p' loose mean mg mb dp un gd cn cs a ccd cl outer A₀ base h₀ L m news s vs Q E Bl F X N T hk S XB hd hu W hret
  obtain ⟨v1, v2, rfl, W1, W2⟩ := W.two
  obtain ⟨t1, rfl⟩ := W1.int_inv
  obtain ⟨t2, rfl⟩ := W2.int_inv
  clear W W1 W2
  have e1 : Int.fmod t 1 = 0 := Int.fmod_one t
  have e2 : Int.fmod 3 1 = 0 := rfl
  have e3 : Int.fmod 3 (1 + 1) = 1 := rfl
  have e4 : Int.fmod 3 (1 + 1 + 1) = 0 := rfl
  replace h3 : Int.fmod t (1 + 1 + 1) = 0 := h3
  k_extra "my enterC"
  k_steps
  all_goals exact back hret (by with_reducible assumption) (by with_reducible assumption) (by k_extra "my ext") (by k_extra "my wn")
theorem rows_45 : True := by
  (k_with "M:eval ListComp" => (k_here; k_dflt (refine' list_compI 3 ?r146cl ?r146ce ?r146k ?r146n ?r146hs ?_; (case r146cl => with_unfolding_all rfl); (case r146ce => decide); (case r146k => exact rfl); (case r146n => decide); (case r146hs => exact fun _ => rfl)); k_whole))
  trivial
set_option maxHeartbeats 3000000 in
theorem lowest3b_c {B : Heap} {w : World} (t : Int) (h3 : Int.fmod t 3 ≠ 0) : Calc B w 482 20 200 [.int t, .int 3] (pr (Int.fdiv t 1) (Int.fdiv 3 1)) := by
  unfold Calc
  intro prog p' loose mean mg mb dp un gd cn cs a ccd cl outer A₀ base h₀ L m news s vs Q E Bl F X N T hk S XB hd hu W hret
  obtain ⟨v1, v2, rfl, W1, W2⟩ := W.two
  obtain ⟨t1, rfl⟩ := W1.int_inv
  obtain ⟨t2, rfl⟩ := W2.int_inv
  clear W W1 W2
  have e1 : Int.fmod t 1 = 0 := Int.fmod_one t
  have e2 : Int.fmod 3 1 = 0 := rfl
  have e3 : Int.fmod 3 (1 + 1) = 1 := rfl
  replace h3 : Int.fmod t (1 + 1 + 1) ≠ 0 := h3
  k_extra "my enterC"
  k_steps
  all_goals exact back hret (by with_reducible assumption) (by with_reducible assumption) (by k_extra "my ext") (by k_extra "my wn")
theorem rows_46 : True := by
  (k_with "my wn" => first
  | exact Wn.int _ _
  | exact Wn.str _ _
  | exact Wn.none
  | exact Wn.bool _
  | with_reducible assumption
  | (refine Wn.keepR (by with_reducible assumption) ?_; k_extra "my keep")
  | (refine Wn.keepTR (by with_reducible assumption) (by first | with_reducible assumption | exact rfl | (simp only [keyD, keyD.keyDs, Bool.and_true, Bool.and_self]; done)) ?_; k_extra "my keep")
  | (refine' Wn.tuple ?_ ?_; rotate_right 2; (focus (k_extra "my at"; done)); (focus (k_extra "my wns"; done)))
  | (refine' Wn.dict ?r147h ?r147lo ?r147r; (case r147h => k_extra "my at"); (case r147lo => with_reducible assumption); (case r147r => k_extra "my wnk"))
  | fail "my wn")
  (k_with "my lt" => first
  | with_reducible assumption
  | (refine lt_sub (by with_reducible assumption) ?_; k_extra "my sub")
  | (refine lt_sub (ktn_ltOf (by with_reducible assumption : AllLt _ _)) ?_; k_extra "my sub")
  | (refine lt_sub (ktn_ltOf ((by with_reducible assumption : _ ∧ AllLt _ _).2)) ?_; k_extra "my sub")
  | (refine lt_sub (ktn_ltOf ((by with_reducible assumption : _ ∧ _ ∧ AllLt _ _).2.2)) ?_; k_extra "my sub")
  | (refine lt_sub (ktn_ltOf ((by with_reducible assumption : _ ∧ _ ∧ _ ∧ AllLt _ _).2.2.2)) ?_; k_extra "my sub")
  | (refine lt_sub (ktn_ltOf ((by with_reducible assumption : _ ∧ _ ∧ _ ∧ _ ∧ AllLt _ _).2.2.2.2)) ?_; k_extra "my sub")
  | (refine lt_sub (ktn_ltOf ((by with_reducible assumption : _ ∧ _ ∧ _ ∧ _ ∧ _ ∧ AllLt _ _).2.2.2.2.2)) ?_; k_extra "my sub")
  | (refine lt_sub (ktn_ltOf ((by with_reducible assumption : _ ∧ _ ∧ _ ∧ _ ∧ _ ∧ _ ∧ AllLt _ _).2.2.2.2.2.2)) ?_; k_extra "my sub")
  | (refine lt_sub (ktn_ltOf ((by with_reducible assumption : _ ∧ _ ∧ _ ∧ _ ∧ _ ∧ _ ∧ _ ∧ AllLt _ _).2.2.2.2.2.2.2)) ?_; k_extra "my sub")
  | (refine lt_sub (lt_succ1 (by with_reducible assumption)) ?_; k_extra "my sub")
  | fail "my lt")
  (k_with "M:eval ListComp" => (k_here; k_dflt (refine' list_comp 0 (Or.inl rfl) ?r149cl ?r149ce ?r149k ?r149n ?r149hs ?_; (case r149cl => with_unfolding_all rfl); (case r149ce => decide); (case r149k => exact rfl); (case r149n => decide); (case r149hs => exact fun _ => rfl)); k_whole))
  trivial
theorem upd_in {d : Addr} {o o' : Obj} {l l' : Led} (U : Upd d o o' l l') : (d, o') ∈ l' := by
  obtain ⟨pre, post, rfl, rfl, _, _⟩ := U.split
  exact List.mem_append.mpr (.inr (.head _))
theorem upd_old {d b : Addr} {o o' ob : Obj} {l l' : Led} (U : Upd d o o' l l') (hb : (b, ob) ∈ l) (ne : b ≠ d) : (b, ob) ∈ l' := by
  obtain ⟨pre, post, rfl, rfl, _, _⟩ := U.split
  rcases List.mem_append.mp hb with h | h
  · exact List.mem_append.mpr (.inl h)
  · rcases List.mem_cons.mp h with h | h
    · cases h; exact absurd rfl ne
    · exact List.mem_append.mpr (.inr (.tail _ h))
theorem my_itemL {prog : Program} {w : World} {A : Around} {E : Value → Shared → Prop} {s : Shared} {value slice : PySem.Expr} {l : Addr} {items : Array Value} {k : Int} {u : Tok} {x : Value} {Q : Value → Shared → Prop} (hl : s.heap.IsList l items)
    (h0 : 0 ≤ k) (hfit : k < 2 ^ 63) (hx : items.toList[k.toNat]? = some x) (h : Q x s)
    (hs : subscripted slice false (.ref l) (.int k u) = operate [.ref l, .int k u] (getItem (.ref l) (.int k u)) := by with_unfolding_all rfl) (hg : ∀ r, letTemporaryGo value (.ref l) r = pure () := by intro _; with_unfolding_all rfl) :
    wpAny (model prog w) A (subscriptTail value slice (.ref l) (.int k u)) Q E s := PyProof.Rows.item_list hl h0 hfit (by simpa using hx) h hs hg
theorem rows_47 : True := by
  (k_with "M:subscriptTail" => (k_here; (with_reducible show wpAny _ _ (subscriptTail _ _ (Value.ref _) (Value.int _ _)) _ _ _); k_dflt (refine' my_itemL ?r150l ?r150a ?r150b ?r150x ?_; (case r150l => exact News.isList (by with_reducible assumption) (by k_mem)); (case r150a => first | decide | omega); (case r150b => first | decide | omega); (case r150x => first | exact rfl | with_reducible assumption))))
  trivial
/-- the box of draws: the script's first numbers and how many are drawn -/
def BoxO (o : Obj) (sc : Addr) (i : Int) : Prop := o.cls = .type "list" ∧ ∃ t c, o.data = .seq #[.ref sc, .int i t] c
section
variable {prog : Program} {w : World} {A : Around} {E : Value → Shared → Prop} {s : Shared} {h₀ : Heap} {L bx sc : Addr} {m : Str → Option Value} {news : Led} {o : Obj} {g : Obj → Led} {i : Int} {value slice : PySem.Expr} {u : Tok} {Q : Value → Shared → Prop}
theorem box_zero (N : News h₀ L s.heap news) (hm : (bx, o) ∈ news) (Z : BoxO o sc i) (h : Q (.ref sc) s)
    (hs : subscripted slice false (.ref bx) (.int 0 u) = operate [.ref bx, .int 0 u] (getItem (.ref bx) (.int 0 u)) := by with_unfolding_all rfl) (hg : ∀ r, letTemporaryGo value (.ref bx) r = pure () := by intro _; with_unfolding_all rfl) :
    wpAny (model prog w) A (subscriptTail value slice (.ref bx) (.int 0 u)) Q E s := by
  obtain ⟨z1, t, c, z2⟩ := Z
  exact my_itemL ⟨_, (N _ hm).1, z1, _, z2⟩ (by decide) (by decide) rfl h hs hg
theorem box_one (N : News h₀ L s.heap news) (hm : (bx, o) ∈ news) (Z : BoxO o sc i) (h : ∀ t, Q (.int i t) s)
    (hs : subscripted slice false (.ref bx) (.int 1 u) = operate [.ref bx, .int 1 u] (getItem (.ref bx) (.int 1 u)) := by with_unfolding_all rfl) (hg : ∀ r, letTemporaryGo value (.ref bx) r = pure () := by intro _; with_unfolding_all rfl) :
    wpAny (model prog w) A (subscriptTail value slice (.ref bx) (.int 1 u)) Q E s := by
  obtain ⟨z1, t, c, z2⟩ := Z
  exact my_itemL ⟨_, (N _ hm).1, z1, _, z2⟩ (by decide) (by decide) rfl (h t) hs hg
theorem box_set {Q : Unit → Shared → Prop} {j : Int} {tj : Tok} (F : Fr h₀ L s.heap m) (N : News h₀ L s.heap news) (U : UpdG bx o news g) (Z : BoxO o sc i)
    (h : ∀ o' h', BoxO o' sc j → Fr h₀ L h' m → News h₀ L h' (g o') → (bx, o') ∈ g o' → (∀ b ob, (b, ob) ∈ news → b ≠ bx → (b, ob) ∈ g o') → Q () { s with heap := h' }) : wpAny (model prog w) A (setItem (.ref bx) (.int 1 u) (.int j tj)) Q E s := by
  obtain ⟨z1, t, c, z2⟩ := Z
  refine wpAny_setItem_list ⟨_, (N _ (upd_mem (U.upd o)).1).1, z1, _, z2⟩ (by decide) (by decide) (by show (1 : Int) < 2; decide) fun h' hl hb => ?_
  obtain ⟨o', hg, hc, c', hd⟩ := hl
  have q := upd_led F N (U.upd o') hb hg
  exact h o' h' ⟨hc, tj, c', hd⟩ q.1 q.2 (upd_in (U.upd o')) fun b ob hb' ne => upd_old (U.upd o') hb' ne
theorem ints_item {l : Addr} {vs : List Value} {ns : List Int} {k : Int} {c : Nat} (N : News h₀ L s.heap news) (hm : (l, listOf vs.toArray c) ∈ news) (I : IntsAre vs ns) (h0 : 0 ≤ k) (h1 : k < ns.length) (hz : k < 2 ^ 63) (h : ∀ n t, Q (.int n t) s)
    (hs : subscripted slice false (.ref l) (.int k u) = operate [.ref l, .int k u] (getItem (.ref l) (.int k u)) := by with_unfolding_all rfl) (hg : ∀ r, letTemporaryGo value (.ref l) r = pure () := by intro _; with_unfolding_all rfl) :
    wpAny (model prog w) A (subscriptTail value slice (.ref l) (.int k u)) Q E s :=
  item_list_ints (News.isList N hm) I h0 h1 hz (fun t => h _ t) hs hg
theorem ints_len {l : Addr} {vs : List Value} {ns : List Int} {c : Nat} {Q : Value → Shared → Prop} (N : News h₀ L s.heap news) (hm : (l, listOf vs.toArray c) ∈ news) (I : IntsAre vs ns) (hz : ns.length ≤ 100) (h : ∀ t tk, Q (.int ns.length t) { s with toks := tk }) :
    wpAny (model prog w) A (call (.builtin "len") [.ref l]) Q E s := by
  have e : vs.length = ns.length := IntsAre.length I
  refine call_len_list (News.isList N hm) (by simp only [List.size_toArray]; omega) ?_
  simp only [List.size_toArray, e]
  exact h _ _
end
theorem rows_48 : True := by
  (k_with "M:subscriptTail" => (k_here; (with_reducible show wpAny _ _ (subscriptTail _ _ (Value.ref _) (Value.int _ _)) _ _ _); k_dflt (first
  | ((with_reducible show wpAny _ _ (subscriptTail _ _ _ (Value.int 0 _)) _ _ _); refine' box_zero ?N ?r151m ?r151Z ?_; (case r151Z => with_reducible assumption); (case N => with_reducible assumption); (case r151m => k_mem))
  | ((with_reducible show wpAny _ _ (subscriptTail _ _ _ (Value.int 1 _)) _ _ _); refine' box_one ?N ?r151m ?r151Z ?_; (case r151Z => with_reducible assumption); (case N => with_reducible assumption); (case r151m => k_mem); intro t9_r)
  | (refine' ints_item ?N ?r151m ?r151I ?r151a ?r151b ?r151c ?_; (case r151I => with_reducible assumption); (case N => with_reducible assumption); (case r151m => k_mem); (case r151a => omega); (case r151b => omega); (case r151c => omega); intro n9_r t9_r))))
  (k_with "M:setItem ref" => (k_here; k_dflt (refine' box_set ?F ?N ?r152U ?r152Z ?_; (case F => with_reducible assumption); (case N => with_reducible assumption); (case r152U => with_reducible assumption); (case r152Z => with_reducible assumption)); (intro o9_r h9_r Z9_r F9_r N9_r m9_r q9_r); (have y9_r := q9_r _ _ (by with_reducible assumption : (_, listOf _ _) ∈ _) (by with_reducible assumption)); (try k_sweep)))
  (k_with "M:call builtin:len" => (k_here; k_dflt (refine' ints_len ?N ?r153m ?r153I ?r153z ?_; (case r153I => with_reducible assumption); (case r153z => with_reducible assumption); (case N => with_reducible assumption); (case r153m => with_reducible assumption)); (intro t9_r tk9_r)))
  trivial
theorem take_walk {B : Heap} {w : World} (k : Int) (hk0 : 0 < k ∧ k ≤ 10) :
  ∀ (prog : Program) (p : Program) (loose : List Str) (mean : ExcName → Option Value) (mg mb : Str → Option Value) (dp un : Nat) (gd : Option (List Code)) (cn : Str) (cs : Scope) (a : Addr) (ccd : Value) (cl : List (Str × Addr)) (outer : List Env) (A₀ : Around) (base h₀ : Heap) (L : Addr) (m : Str → Option Value) (news : Led) (s : Shared) (Q E : Value → Shared → Prop) (bx sc : Addr) (i : Int) (tk : Tok) (c' : Nat) (o : Obj) (xs : List Value) (ns : List Int) (g : Obj → Led),
    Below A₀ base outer h₀ → Fr h₀ L s.heap m → (KQ w.params).In h₀ → News h₀ L s.heap news → Top p loose mean mg mb h₀ → cs.kind = .function → B.StaysIn h₀ → (KQ w.params).In B → dp + 10 < recursionLimit → un + 60 < cLine →
    UpdG bx o news g → (bx, o) ∈ news → BoxO o sc i → (sc, listOf xs.toArray c') ∈ news → sc ≠ bx → IntsAre xs ns → ns.length ≤ 100 → 0 ≤ i ∧ i ≤ 100 →
    (∀ r t o' h' tk', 0 ≤ r → r < k → BoxO o' sc (i + 1) → Fr h₀ L h' m → News h₀ L h' (g o') → Q (.int r t) { s with heap := h', toks := tk' }) →
    wpAny (model prog w) (ktrTop dp un gd cn cs L a ccd cl outer) (call (.ref 477) [.ref bx, .int k tk]) Q E s := by
  intro prog p' loose mean mg mb dp un gd cn cs a ccd cl outer A₀ base h₀ L m news s Q E bx sc i tk c' o xs ns g Bl F X N T hk S XB hd hu U hm Z hms hne I hl hi hret
  k_extra "my enter"
  k_steps
  all_goals exact hret _ _ _ _ _ (Int.fmod_nonneg_of_pos _ hk0.1) (Int.fmod_lt_of_pos _ hk0.1) (by with_reducible assumption) (by with_reducible assumption) (by with_reducible assumption)
theorem rows_49 : True := by
  (k_with "M:subscriptTail" => (k_here; (with_reducible show wpAny _ _ (subscriptTail _ _ (Value.ref _) (Value.int _ _)) _ _ _); k_dflt (refine' my_item ?S ?F ?N ?r154y (fun _ h9 => h9) ?r154a ?r154b ?r154c ?d ?_; (case S => with_reducible assumption); (case F => with_reducible assumption); (case N => with_reducible assumption); (case r154y => k_extra "my at"); (case r154a => decide); (case r154b => decide); (case r154c => rfl); (case d => rfl))))
  (k_with "M:subscriptTail" => (k_here; (with_reducible show wpAny _ _ (subscriptTail _ _ (Value.ref _) (Value.ref _)) _ _ _); k_dflt (refine' led_item ?hk ?hd ?u ?S ?F ?N ?W (fun _ h9 => h9) ?r155y (fun _ h9 => h9) ?_; (case S => with_reducible assumption); (case F => with_reducible assumption); (case N => with_reducible assumption); (case r155y => k_extra "my at"); k_extra "my key2"); (intro tk'_r)))
  (k_with "M:call builtin:len" => (k_here; (with_reducible show wpAny _ _ (call (Value.builtin "len") [Value.ref _]) _ _ _); k_dflt (first
  | (refine' led_len ?S ?F ?N ?r156y (fun _ h9 => h9) ?r156lo ?r156z ?_; (case S => with_reducible assumption); (case F => with_reducible assumption); (case N => with_reducible assumption); (case r156y => k_extra "my at"); (case r156lo => with_reducible assumption); (case r156z => exact Nat.le_of_ble_eq_true rfl))
  | (refine' led_lenT ?S ?F ?N ?r156y (fun _ h9 => h9) ?r156z ?_; (case S => with_reducible assumption); (case F => with_reducible assumption); (case N => with_reducible assumption); (case r156y => k_extra "my at"); (case r156z => exact Nat.le_of_ble_eq_true rfl))); intro t'_r tk'_r; (try simp only [List.length_cons, List.length_nil])))
  (k_with "M:subscriptTail" => (k_here; (with_reducible show wpAny _ _ (subscriptTail _ _ (Value.ref _) (Value.int _ _)) _ _ _); k_dflt (refine' PyProof.Rows.item_listL ?r157l ?r157a ?r157b ?r157x ?_; (case r157l => exact News.isList (by with_reducible assumption) (by k_mem)); (case r157a => decide); (case r157b => decide); (case r157x => exact rfl))))
  trivial
theorem kind0_c {B : Heap} {w : World} (q r0 r1 e f : Int) (hq : -4 ≤ q ∧ q ≤ 4) (hr : -4 ≤ r0 ∧ r0 ≤ 4) (C2 : Calc B w 482 20 200 [.int (q * r0), .int r1] (pr e f)) : Calc B w 489 24 300 [.int 0, .int q, pr r0 r1] (kD (.tuple []) e f) := by
  unfold Calc
  intro prog p' loose mean mg mb dp un gd cn cs a ccd cl outer A₀ base h₀ L m news s vs Q E Bl F X N T hk S XB hd hu W hret
  obtain ⟨v1, v2, v3, rfl, W1, W2, W3⟩ := W.three
  obtain ⟨t1, rfl⟩ := W1.int_inv
  obtain ⟨t2, rfl⟩ := W2.int_inv
  obtain ⟨a3, t3, t4, rfl, w3⟩ := W3.pr_inv
  clear W W1 W2 W3
  have b1 := mulB hq hr
  k_extra "my enter"
  k_steps
  exact back hret (by with_reducible assumption) (by with_reducible assumption) (by k_extra "my ext") (by k_extra "my wn")
theorem kind1_c {B : Heap} {w : World} (i q r0 r1 c d e f : Int) (hi' : -4 ≤ i ∧ i ≤ 4) (hq : -4 ≤ q ∧ q ≤ 4) (hr : -4 ≤ r0 ∧ r0 ≤ 4) (hi : i ≠ 0) (C1 : Calc B w 482 20 200 [.int (i * r0), .int r1] (pr c d)) (C2 : Calc B w 482 20 200 [.int (q * r0), .int r1] (pr e f)) : Calc B w 489 24 300 [.int i, .int q, pr r0 r1] (kD (.tuple [.tuple [.int 1, pr c d]]) e f) := by
  unfold Calc
  intro prog p' loose mean mg mb dp un gd cn cs a ccd cl outer A₀ base h₀ L m news s vs Q E Bl F X N T hk S XB hd hu W hret
  obtain ⟨v1, v2, v3, rfl, W1, W2, W3⟩ := W.three
  obtain ⟨t1, rfl⟩ := W1.int_inv
  obtain ⟨t2, rfl⟩ := W2.int_inv
  obtain ⟨a3, t3, t4, rfl, w3⟩ := W3.pr_inv
  clear W W1 W2 W3
  have b1 := mulB hq hr
  have b2 := mulB hi' hr
  k_extra "my enter"
  k_steps
  exact back hret (by with_reducible assumption) (by with_reducible assumption) (by k_extra "my ext") (by k_extra "my wn")
abbrev numsD : List PyData := [pr 1 1, pr (-1) 1, pr 2 1, pr (-3) 2]
theorem back_list {w : World} {B h₀ : Heap} {L : Addr} {m : Str → Option Value} {news : Led} {s : Shared} {Q : Value → Shared → Prop} {ds : List PyData} {l : Addr} {c : Nat} {vs : List Value} {l9 : Led} {h' : Heap} {tk' : Nat}
    (hret : ∀ l c vs tl h' tk', Fr h₀ L h' m → News h₀ L h' ((l, listOf vs.toArray c) :: (tl ++ news)) → (∀ q ∈ news, ∀ p ∈ tl, q.1 < p.1) → (∀ p ∈ tl ++ news, p.1 < l) → WnAll w.params B (tl ++ news) vs ds → Q (.ref l) { s with heap := h', toks := tk' })
    (F : Fr h₀ L h' m) (N : News h₀ L h' ((l, listOf vs.toArray c) :: l9)) (X : Ext news l9) (hl : ∀ p ∈ l9, p.1 < l) (W : WnAll w.params B l9 vs ds) : Q (.ref l) { s with heap := h', toks := tk' } := by
  obtain ⟨tl, rfl, o⟩ := X.out
  exact hret l c vs tl h' tk' F N o hl W
theorem numbers_walk {B : Heap} {w : World} :
  ∀ (prog : Program) (p : Program) (loose : List Str) (mean : ExcName → Option Value) (mg mb : Str → Option Value) (dp un : Nat) (gd : Option (List Code)) (cn : Str) (cs : Scope) (a : Addr) (ccd : Value) (cl : List (Str × Addr)) (outer : List Env) (A₀ : Around) (base h₀ : Heap) (L : Addr) (m : Str → Option Value) (news : Led) (s : Shared) (Q E : Value → Shared → Prop),
    Below A₀ base outer h₀ → Fr h₀ L s.heap m → (KQ w.params).In h₀ → News h₀ L s.heap news → Top p loose mean mg mb h₀ → cs.kind = .function → B.StaysIn h₀ → (KQ w.params).In B → dp + 10 < recursionLimit → un + 60 < cLine →
    (∀ l c vs tl h' tk', Fr h₀ L h' m → News h₀ L h' ((l, listOf vs.toArray c) :: (tl ++ news)) → (∀ q ∈ news, ∀ p ∈ tl, q.1 < p.1) → (∀ p ∈ tl ++ news, p.1 < l) → WnAll w.params B (tl ++ news) vs numsD → Q (.ref l) { s with heap := h', toks := tk' }) →
    wpAny (model prog w) (ktrTop dp un gd cn cs L a ccd cl outer) (call (.ref 470) []) Q E s := by
  intro prog p' loose mean mg mb dp un gd cn cs a ccd cl outer A₀ base h₀ L m news s Q E Bl F X N T hk S XB hd hu hret
  k_extra "my enter"
  k_steps
  exact back_list (vs := [_, _, _, _]) hret (by with_reducible assumption) (by with_reducible assumption) (by k_extra "my ext") (List.forall_mem_cons.mpr ⟨(by refine ltN ?_; dsimp only; omega), List.forall_mem_cons.mpr ⟨(by refine ltN ?_; dsimp only; omega), List.forall_mem_cons.mpr ⟨(by refine ltN ?_; dsimp only; omega), List.forall_mem_cons.mpr ⟨(by refine ltN ?_; dsimp only; omega), by k_extra "my lt"⟩⟩⟩⟩) (by k_extra "my wns")
theorem pick_data {w : World} {B : Heap} {led : Led} {vs : List Value} {ds : List PyData} (W : WnAll w.params B led vs ds) : ∀ k : Nat, k < ds.length → ∃ v, vs[k]? = some v ∧ Wn w.params B led v (ds.getD k .none) := by
  induction ds generalizing vs with
  | nil => exact fun k hk => absurd hk (Nat.not_lt_zero _)
  | cons d ds ih =>
    obtain ⟨v, vs', rfl, h1, h2⟩ := W.cons_inv
    intro k hk
    cases k with
    | zero => exact ⟨v, rfl, h1⟩
    | succ k => exact ih h2 k (Nat.lt_of_succ_lt_succ hk)
/-- the numbers of the law's list, by their place -/
def nN (k : Int) : Int := if k = 0 then 1 else if k = 1 then -1 else if k = 2 then 2 else -3
def nD (k : Int) : Int := if k = 3 then 2 else 1
def rN5 (k : Int) : Int := if k = 0 then 1 else if k = 1 then 1 else if k = 2 then -1 else if k = 3 then 2 else 3
def rD5 (k : Int) : Int := if k = 1 ∨ k = 3 then 3 else 2
abbrev ratsD : List PyData := [pr 1 2, pr 1 3, pr (-1) 2, pr 2 3, pr 3 2]
theorem nums_at (k : Int) (h : 0 ≤ k ∧ k < 4) : numsD.getD k.toNat .none = pr (nN k) (nD k) := by
  have : k = 0 ∨ k = 1 ∨ k = 2 ∨ k = 3 := by omega
  rcases this with rfl | rfl | rfl | rfl <;> rfl
theorem rats_at (k : Int) (h : 0 ≤ k ∧ k < 5) : ratsD.getD k.toNat .none = pr (rN5 k) (rD5 k) := by
  have : k = 0 ∨ k = 1 ∨ k = 2 ∨ k = 3 ∨ k = 4 := by omega
  rcases this with rfl | rfl | rfl | rfl | rfl <;> rfl
theorem led_pick {prog : Program} {w : World} {A : Around} {E : Value → Shared → Prop} {s : Shared} {B h₀ : Heap} {L l : Addr} {news led : Led} {vs : List Value} {ds : List PyData} {c : Nat} {k : Int} {u : Tok} {d : PyData} {value slice : PySem.Expr} {Q : Value → Shared → Prop}
    (N : News h₀ L s.heap news) (hm : (l, listOf vs.toArray c) ∈ news) (W : WnAll w.params B led vs ds) (hd : ds.getD k.toNat .none = d) (h0 : 0 ≤ k) (h1 : k < ds.length) (hz : k < 100) (h : ∀ v, Wn w.params B led v d → Q v s)
    (hs : subscripted slice false (.ref l) (.int k u) = operate [.ref l, .int k u] (getItem (.ref l) (.int k u)) := by with_unfolding_all rfl) :
    wpAny (model prog w) A (subscriptTail value slice (.ref l) (.int k u)) Q E s := by
  obtain ⟨v, hv, hw⟩ := pick_data W k.toNat (by omega)
  have hl := News.isList N hm
  exact tail_any hl.typeIs slot_list_getitem.lookup (wpAny_getItem_list hl h0 (by omega) (by simpa using hv) (h v (hd ▸ hw))) hs
section
variable {prog : Program} {w : World} {E : Value → Shared → Prop} {s : Shared} {B h₀ : Heap} {L : Addr} {m : Str → Option Value} {news : Led} {p : Program} {loose : List Str} {mean : ExcName → Option Value} {mg mb : Str → Option Value} {dp un : Nat} {gd : Option (List Code)} {cn : Str} {cs : Scope} {a : Addr} {ccd : Value} {cl : List (Str × Addr)} {outer : List Env} {A₀ : Around} {base : Heap} {Q : Value → Shared → Prop}
theorem useTake {k i : Int} {tk : Tok} {bx sc : Addr} {c' : Nat} {o : Obj} {xs : List Value} {ns : List Int} {g : Obj → Led} (hk0 : 0 < k ∧ k ≤ 10) (Bl : Below A₀ base outer h₀) (F : Fr h₀ L s.heap m) (X : (KQ w.params).In h₀) (N : News h₀ L s.heap news) (T : Top p loose mean mg mb h₀) (hk : cs.kind = .function) (S : B.StaysIn h₀) (XB : (KQ w.params).In B) (hd : dp + 10 < recursionLimit) (hu : un + 60 < cLine)
    (U : UpdG bx o news g) (hm : (bx, o) ∈ news) (Z : BoxO o sc i) (hms : (sc, listOf xs.toArray c') ∈ news) (ne : sc ≠ bx) (I : IntsAre xs ns) (hl : ns.length ≤ 100) (hi : 0 ≤ i ∧ i ≤ 100)
    (ret : ∀ r t o' h' tk', 0 ≤ r → r < k → BoxO o' sc (i + 1) → Fr h₀ L h' m → News h₀ L h' (g o') → Keep TD news (g o') → Q (.int r t) { s with heap := h', toks := tk' }) :
    wpAny (model prog w) (ktrTop dp un gd cn cs L a ccd cl outer) (call (.ref 477) [.ref bx, .int k tk]) Q E s :=
  take_walk k hk0 _ _ _ _ _ _ _ _ _ _ _ _ _ _ _ _ _ _ _ _ _ _ _ E bx sc i tk c' o xs ns g Bl F X N T hk S XB hd hu U hm Z hms ne I hl hi fun r t o' h' tk' h0 h1 Z' F' N' => ret r t o' h' tk' h0 h1 Z' F' N' (upd_keep (U.upd o') (notTD Z.1 (by decide) (by decide)))
theorem useNums (Bl : Below A₀ base outer h₀) (F : Fr h₀ L s.heap m) (X : (KQ w.params).In h₀) (N : News h₀ L s.heap news) (T : Top p loose mean mg mb h₀) (hk : cs.kind = .function) (S : B.StaysIn h₀) (XB : (KQ w.params).In B) (hd : dp + 10 < recursionLimit) (hu : un + 60 < cLine)
    (ret : ∀ l c vs tl h' tk', Fr h₀ L h' m → News h₀ L h' ((l, listOf vs.toArray c) :: (tl ++ news)) → (∀ q ∈ news, ∀ p ∈ tl, q.1 < p.1) → (∀ p ∈ tl ++ news, p.1 < l) → WnAll w.params B (tl ++ news) vs numsD → Q (.ref l) { s with heap := h', toks := tk' }) :
    wpAny (model prog w) (ktrTop dp un gd cn cs L a ccd cl outer) (call (.ref 470) []) Q E s :=
  numbers_walk _ _ _ _ _ _ _ _ _ _ _ _ _ _ _ _ _ _ _ _ _ _ _ E Bl F X N T hk S XB hd hu ret
theorem ifexp01 {M : Model} {A : Around} {env : Env} {test : PySem.Expr} {pos p1 p2 : Pos} {k1 k2 : Nat} {Q : Value → Shared → Prop}
    (h : wpAny M A (isTrue test env (eval test env)) (fun _ s₁ => ∀ j t tk, 0 ≤ j → j ≤ 1 → Q (.int j t) { s₁ with toks := tk }) E s) : wpAny M A (eval (.IfExp test (.Constant (.int 1) k1 p1) (.Constant (.int 0) k2 p2) pos) env) Q E s := by
  refine wpAny_IfExp (wpAny_mono h (fun b s₁ h₁ => ?_) fun _ _ x => x)
  cases b with
  | true => 
    rw [if_pos rfl, arm_eval_Constant]
    exact wpAny_mkInt (h₁ 1 _ _ (by decide) (by decide))
  | false =>
    rw [if_neg Bool.false_ne_true, arm_eval_Constant]
    exact wpAny_mkInt (h₁ 0 _ _ (by decide) (by decide))
end
theorem led_pickN {prog : Program} {w : World} {A : Around} {E : Value → Shared → Prop} {s : Shared} {B h₀ : Heap} {L l : Addr} {news : Led} {vs : List Value} {ds : List PyData} {c : Nat} {k : Int} {u : Tok} {d : PyData} {value slice : PySem.Expr} {Q : Value → Shared → Prop}
    (S : B.StaysIn h₀) (N : News h₀ L s.heap news) (hm : (l, listOf vs.toArray c) ∈ news) (W : WnAll w.params B news vs ds) (hd : ds.getD k.toNat .none = d) (h0 : 0 ≤ k) (h1 : k < ds.length) (hz : k < 100) (h : ∀ v, Wn w.params B news v d → Q v s)
    (hs : subscripted slice false (.ref l) (.int k u) = operate [.ref l, .int k u] (getItem (.ref l) (.int k u)) := by with_unfolding_all rfl) :
    wpAny (model prog w) A (subscriptTail value slice (.ref l) (.int k u)) Q E s := led_pick N hm W hd h0 h1 hz h hs
theorem rows_50 : True := by
  (k_with "my ix" => first
  | omega
  | exact Int.fmod_nonneg_of_pos _ (by decide)
  | exact Int.fmod_lt_of_pos _ (by decide)
  | exact ⟨Int.fmod_nonneg_of_pos _ (by decide), Int.fmod_lt_of_pos _ (by decide)⟩
  | exact Int.lt_trans (Int.fmod_lt_of_pos _ (by decide : (0 : Int) < 4)) (by decide)
  | fail "my ix")
  (k_with "my use2" => (
  (case k1 => k_asm); (case k2 => k_asm); (case k3 => k_asm); (case k4 => k_asm); (case k5 => k_asm); (case kK => first | exact rfl | assumption); (case kS => k_asm); (case kB => k_asm); (case kd => k_extra "my room"); (case ku => k_extra "my units")))
  (k_with "M:call ref" => (k_here; (with_reducible show wpAny _ _ (call (Value.ref 477) [Value.ref _, Value.int _ _]) _ _ _); k_dflt ((refine' useTake ?r160p0 ?k1 ?k2 ?k3 ?k4 ?k5 ?kK ?kS ?kB ?kd ?ku ?r160U ?r160m ?r160Z ?r160ms ?r160ne ?r160I ?r160l ?r160i ?_); (case r160p0 => decide); k_extra "my use2"; (case r160U => k_extra "my updG"); (case r160m => k_mem); (case r160Z => first | with_reducible assumption | exact ⟨rfl, _, _, rfl⟩); (case r160ms => k_mem); (case r160ne => k_ne); (case r160I => with_reducible assumption); (case r160l => omega); (case r160i => omega)); (intro r9_r t9_r o9_r h9_r tk9_r p9_r q9_r Z9_r F9_r N9_r K9_r); (try dsimp only at N9_r K9_r); (try dsimp only); (try k_sweep)))
  (k_with "M:call ref" => (k_here; (with_reducible show wpAny _ _ (call (Value.ref 470) _) _ _ _); k_dflt ((refine' useNums ?k1 ?k2 ?k3 ?k4 ?k5 ?kK ?kS ?kB ?kd ?ku ?_); k_extra "my use2"); (intro l9_r c9_r vs9_r tl9_r h9_r tk9_r F9_r N9_r O9_r l9_r W9_r); (try dsimp only); (try k_sweep)))
  (k_with "M:eval IfExp" => (k_here; with_reducible refine ifexp01 ?_))
  (k_with "M:subscriptTail" => (k_here; (with_reducible show wpAny _ _ (subscriptTail _ _ (Value.ref _) (Value.int _ _)) _ _ _); k_dflt (first
  | (refine' led_pick (ds := numsD) ?N ?r163m ?W (nums_at _ ?r163p1) ?r163p2 ?r163p3 ?r163p4 ?_; (case N => with_reducible assumption); (case r163m => k_mem); (case W => with_reducible assumption); (case r163p1 => k_extra "my ix"); (case r163p2 => k_extra "my ix"); (case r163p3 => (show _ < (4 : Int)); k_extra "my ix"); (case r163p4 => k_extra "my ix"))
  | (refine' led_pickN (vs := [_, _, _, _, _]) (ds := ratsD) ?S ?N ?r163m ?W (rats_at _ ?r163p1) ?r163p2 ?r163p3 ?r163p4 ?_; (case S => with_reducible assumption); (case N => with_reducible assumption); (case r163m => k_mem); (case W => k_extra "my wns"); (case r163p1 => omega); (case r163p2 => omega); (case r163p3 => (show _ < (5 : Int)); omega); (case r163p4 => omega))); (intro v9_r W9_r); (obtain ⟨a9_r, t9_r, u9_r, e9_r, w9_r⟩ := Wn.pr_inv W9_r; subst e9_r; clear W9_r)))
  (k_with "my room" => ((try simp +zetaDelta only [depth_under_make, depth_under_kw, depth_in1, depth_deeper, depth_caller]); (try dsimp only [ktrTop]); decide))
  (k_with "my units" => ((try simp +zetaDelta only [units_in1, units_deeper, Around.mark_units, units_caller]); (try dsimp only [ktrTop]); (have hc9_r := cLine_is); omega))
  trivial
-- two tuples of two dicts of one entry each, alike as data
section
variable {prog : Program} {w : World} {A : Around} {E : Value → Shared → Prop} {s : Shared}
theorem wellAll_mem {P : Params} {h : Heap} : ∀ {vs : List Value} {ds : List PyData}, WellAll P h vs (ofPys ds) → keyD.keyDs ds = true → ∀ v ∈ vs, ∃ d, keyD d = true ∧ Well P h v (ofPy d)
  | [], _, _, _, v, hv => nomatch hv
  | u :: us, [], x, _, _, _ => nomatch x
  | u :: us, d :: ds, x, hk, v, hv => by
    simp only [keyD.keyDs, Bool.and_eq_true] at hk
    cases x with
    | cons x1 x2 =>
      rcases List.mem_cons.mp hv with rfl | hv
      · exact ⟨d, hk.1, x1⟩
      · exact wellAll_mem x2 hk.2 v hv
theorem quiet_any {P : Params} : ∀ (n : Nat) (d : PyData) (v : Value) (Q : Bool → Shared → Prop), keyD d = true → Well P s.heap v (ofPy d) → (∀ b, Q b s) → wpAny (model prog w) A (eqIsQuiet n v) Q E s := by
  intro n
  induction n with
  | zero =>
    intro d v Q hk W h
    cases d with
    | tuple ds =>
      cases W with
      | tuple ho _ =>
        have hT : s.TypeIs (.ref _) "tuple" := ⟨_, ho, rfl⟩
        unfold eqIsQuiet
        refine wpAny_bind (wpAny_specialOf hT F.slot_tuple_eq.lookup ?_)
        show wpAny _ _ (isInstance _ (.type "tuple") >>= _) _ _ s
        refine wpAny_bind (wpAny_isInstance hT isSubtype_tuple_tuple ?_)
        simp only [Bool.not_true, Bool.false_eq_true, if_false]
        exact wpAny_pure (h _)
    | list ds => simp [keyD] at hk
    | dict ds => simp [keyD] at hk
    | bool b => simp [keyD] at hk
    | none => cases W; rw [eqIsQuiet_byValue _ rfl]; exact wpAny_pure (h _)
    | int i => cases W; rw [eqIsQuiet_byValue _ rfl]; exact wpAny_pure (h _)
    | str i => cases W; rw [eqIsQuiet_byValue _ rfl]; exact wpAny_pure (h _)
  | succ n ih =>
    intro d v Q hk W h
    cases d with
    | tuple ds =>
      cases W with
      | tuple ho hi =>
        have hT : s.TypeIs (.ref _) "tuple" := ⟨_, ho, rfl⟩
        unfold eqIsQuiet
        refine wpAny_bind (wpAny_specialOf hT F.slot_tuple_eq.lookup ?_)
        show wpAny _ _ (isInstance _ (.type "tuple") >>= _) _ _ s
        refine wpAny_bind (wpAny_isInstance hT isSubtype_tuple_tuple ?_)
        simp only [Bool.not_true, Bool.false_eq_true, if_false]
        refine wpAny_bind (wpAny_seqItems ho rfl ?_)
        refine wpAny_bind ?_
        show wpAny _ _ (forIn (List.toArray _) _ _) _ _ s
        rw [← Array.forIn_toList]
        refine wpAny_forIn_list _ (fun rest r s' => r.1 = none ∧ s' = s ∧ ∀ v ∈ rest, ∃ d, keyD d = true ∧ Well P s.heap v (ofPy d)) _ ?_ ?_ _ _ ⟨rfl, rfl, fun v hv => wellAll_mem hi hk v (by simpa using hv)⟩
        · rintro v rest r s' ⟨hr, rfl, hall⟩
          obtain ⟨d', hk', W'⟩ := hall v List.mem_cons_self
          refine wpAny_bind (ih d' v _ hk' W' fun b => ?_)
          cases b with
          | true =>
            simp only [Bool.not_true, Bool.false_eq_true, if_false]
            exact wpAny_pure ⟨rfl, rfl, fun u hu' => hall u (List.mem_cons_of_mem _ hu')⟩
          | false =>
            simp only [Bool.not_false, if_true]
            exact wpAny_pure (wpAny_pure (h _))
        · rintro ⟨r1, r2⟩ s' ⟨hr, rfl, _⟩
          simp only at hr
          subst hr
          exact wpAny_pure (h _)
    | list ds => simp [keyD] at hk
    | dict ds => simp [keyD] at hk
    | bool b => simp [keyD] at hk
    | none => cases W; rw [eqIsQuiet_byValue _ rfl]; exact wpAny_pure (h _)
    | int i => cases W; rw [eqIsQuiet_byValue _ rfl]; exact wpAny_pure (h _)
    | str i => cases W; rw [eqIsQuiet_byValue _ rfl]; exact wpAny_pure (h _)
theorem mayTell_any {P : Params} {k k' : Value} {kd : PyData} {Q : Bool → Shared → Prop} (hk : keyD kd = true) (W : Well P s.heap k (ofPy kd)) (W' : Well P s.heap k' (ofPy kd)) (h : ∀ b, Q b s) : wpAny (model prog w) A (tableMayTell k [k']) Q E s := by
  unfold tableMayTell
  rw [if_neg (by simp)]
  refine wpAny_bind (quiet_any 8 kd _ _ hk W fun b => ?_)
  cases b with
  | false => exact wpAny_pure (h _)
  | true =>
    simp only [Bool.not_true, Bool.false_eq_true, if_false]
    refine wpAny_bind ?_
    rw [List.forIn_cons]
    refine wpAny_bind (wpAny_bind (quiet_any 8 kd _ _ hk W' fun b => ?_))
    cases b with
    | false => exact wpAny_pure (wpAny_pure (wpAny_pure (h _)))
    | true =>
      simp only [Bool.not_true, Bool.false_eq_true, if_false]
      refine wpAny_pure ?_
      dsimp only
      rw [List.forIn_nil]
      exact wpAny_pure (wpAny_pure (h _))
theorem dictFind_eq {P : Params} {H : Int} {v : Value} {k k' d : Addr} {kd : PyData} {n : Nat} {Q : Option Nat → Shared → Prop} (hk : keyD kd = true) (W : Well P s.heap (.ref k) (ofPy kd)) (W' : Well P s.heap (.ref k') (ofPy kd)) (he : SeqAt.EqAt A s (.ref k') (.ref k) true)
    (ho : s.heap.get? d = some (dictOf [⟨H, .ref k', v⟩] n)) (h : Q (some 0) s) : wpAny (model prog w) A (dictFind d (.ref k) H) Q E s := by
  have hp : placesWithHash (#[(⟨H, .ref k', v⟩ : DictEntry)]).size (fun i => (#[(⟨H, .ref k', v⟩ : DictEntry)])[i]?.map (·.hash)) H = [0] := by simp [placesWithHash, List.range_succ]
  by_cases ne : k = k'
  · subst ne
    exact dictFind_same ho h
  have ne' : ¬ k' = k := fun e => ne e.symm
  unfold dictFind
  try with_reducible refine wpAny_holding ?_
  refine wpAny_bind (wpAny_dictEntries ho rfl ?_)
  dsimp only
  rw [show ([(⟨H, .ref k', v⟩ : DictEntry)]).toArray = #[⟨H, .ref k', v⟩] from rfl]
  rw [hp]
  rw [if_neg (by simp [carriedByValue]), if_neg (by simp), if_neg (by simp [ne'])]
  refine wpAny_bind (mayTell_any hk W W' fun b => ?_)
  rw [if_neg (by simp)]
  refine wpAny_bind ?_
  rw [List.forIn_cons]
  refine wpAny_bind ?_
  show wpAny _ _ (if (H == H) = true then _ else _) _ E s
  rw [if_pos (by simp)]
  refine wpAny_bind (wpAny_dictEpoch ho rfl (wpAny_bind (he _ _ _ _ (wpAny_bind (wpAny_dictEpoch ho rfl ?_)))))
  rw [if_neg (by simp), if_pos rfl]
  simp only [Option.isSome_none, Bool.false_eq_true, if_false]
  refine wpAny_bind (wpAny_rule ?_)
  rw [if_pos (by simp)]
  exact wpAny_pure (wpAny_pure (wpAny_pure h))
end
section
variable {A : Around} {s : Shared}
theorem rcAt_dict1 {a b ka va : Addr} {kb vb : Value} {H : Int} {n m : Nat} (ha : (a == sysModules) = false) (hb : (b == sysModules) = false) (oa : s.heap.get? a = some (dictOf [⟨H, .ref ka, .ref va⟩] n)) (ob : s.heap.get? b = some (dictOf [⟨H, kb, vb⟩] m)) (hu : A.units < cLine)
    (hf : ∀ (prog : Program) (w : World) (E : Value → Shared → Prop) (Q : Option Nat → Shared → Prop), Q (some 0) s → wpAny (model prog w) A.in1 (dictFind b (.ref ka) H) Q E s) (he : SeqAt.EqAt A.in1 s (.ref va) vb true) : SeqAt.RcAt A s (.ref a) (.ref b) true := fun prog w E Q h => by
  have ta : s.TypeIs (.ref a) "dict" := ⟨_, oa, rfl⟩
  have tb : s.TypeIs (.ref b) "dict" := ⟨_, ob, rfl⟩
  refine wpAny_richCompare_same_room (op := .Eq) ta tb PySem.F.slot_dict_eq (wpAny_call_entry PySem.F.slot_dict_eq ta PySem.F.entry_dict_eq ?_ (PySem.F.args_dict_eq_2 _ _)) hu
  show wpAny _ _ (Builtin.Dict.dictSlotArgs "__eq__" ⟨[.ref a, .ref b], []⟩ >>= _) _ _ s
  refine wpAny_bind ?_
  unfold Builtin.Dict.dictSlotArgs
  refine wpAny_bind (wpAny_notOrdered_dict ta ?_)
  show wpAny _ _ (pure (Value.ref a, Value.ref b)) _ _ s
  refine wpAny_pure ?_
  refine wpAny_bind (wpAny_isInstance (T := "dict") tb PySem.F.sub_dict_dict ?_)
  simp only [Bool.not_true, Bool.false_eq_true, if_false]
  refine wpAny_bind (wpAny_pure (wpAny_bind (wpAny_pure ?_)))
  refine wpAny_bind ?_
  unfold Builtin.Dict.samePairs Builtin.Dict.showsAll
  rw [if_neg (show ¬ (a == sysModules) = true by rw [ha]; exact Bool.false_ne_true), if_neg (show ¬ (b == sysModules) = true by rw [hb]; exact Bool.false_ne_true)]
  refine wpAny_bind (wpAny_pure (wpAny_bind (wpAny_pure ?_)))
  refine wpAny_bind (wpAny_dictEntries oa rfl ?_)
  dsimp only
  refine wpAny_bind (wpAny_dictEntries ob rfl ?_)
  rw [if_neg (by simp)]
  refine wpAny_bind (wpAny_dictEpoch oa rfl ?_)
  refine wpAny_bind ?_
  rw [Std.Legacy.Range.forIn_eq_forIn_range']
  simp only [Std.Legacy.Range.size, Nat.sub_zero, Nat.add_sub_cancel, Nat.div_one]
  show wpAny _ _ (forIn (List.range' 0 1) _ _) _ _ s
  rw [show List.range' 0 1 = [0] from rfl, List.forIn_cons]
  refine wpAny_bind (wpAny_bind (wpAny_dictEntries oa rfl ?_))
  show wpAny _ _ (holding [Value.ref ka, Value.ref va] _ >>= _) _ _ _
  refine wpAny_bind (wpAny_holding (wpAny_bind (hf _ _ _ _ ?_)))
  refine wpAny_bind (wpAny_dictEntries ob rfl ?_)
  show wpAny _ _ (holding [vb] _) _ _ _
  refine wpAny_holding (he prog w _ _ ?_)
  rw [if_neg (by decide)]
  refine wpAny_bind (wpAny_dictEpoch oa rfl ?_)
  rw [if_neg (by simp)]
  refine wpAny_pure ?_
  dsimp only
  rw [List.forIn_nil]
  refine wpAny_pure (wpAny_pure ?_)
  exact wpAny_pure ⟨_, rfl, (fun x => nomatch x), h⟩
end
section
variable {w : World} {A : Around} {s : Shared} {B h₀ : Heap} {L : Addr} {m : Str → Option Value} {news led led' : Led}
theorem eqAt_dict1 {a b : Value} {poly : PyData} {p q n d : Int} (S : B.StaysIn h₀) (F : Fr h₀ L s.heap m) (N : News h₀ L s.heap news) (W : Wn w.params B led a (gD poly p q n d)) (hs : ∀ x ∈ led, x ∈ news) (W' : Wn w.params B led' b (gD poly p q n d)) (hs' : ∀ x ∈ led', x ∈ news)
    (hk : keyD poly = true) (hc : poly.canLay0 = true) (hd : poly.depth ≤ 8) (hu : A.units + 64 < cLine) : SeqAt.EqAt A s a b true := by
  obtain ⟨a1, k1, u1, m1, t1, t2, rfl, w1, lo1, y1, z1⟩ := W.gD_inv
  obtain ⟨a2, k2, u2, m2, t3, t4, rfl, w2, lo2, y2, z2⟩ := W'.gD_inv
  by_cases e : a1 = a2
  · subst e
    exact SeqAt.EqAt.same _
  have st : ∀ b o, B.get? b = some o → s.heap.get? b = some o := fun b o e => F.keep b o (S b o e)
  have nl : ∀ p ∈ led, s.heap.get? p.1 = some p.2 := fun p hp => (N p (hs p hp)).1
  have nl' : ∀ p ∈ led', s.heap.get? p.1 = some p.2 := fun p hp => (N p (hs' p hp)).1
  have hkk : keyD (kD poly p q) = true := by simp [keyD, keyD.keyDs, hk]
  have ck : (kD poly p q).canLay0 = true := by simp [PyData.canLay0, PyData.canLayAll0, hc]
  have dk : (kD poly p q).depth ≤ 16 := by simp [PyData.depth, PyData.depthAll]; omega
  obtain ⟨as1, r1⟩ := y1.reads st nl
  obtain ⟨as2, r2⟩ := y2.reads st nl'
  obtain ⟨as3, r3⟩ := (Wn.of_pr z1 : Wn w.params B led (.ref u1) (pr n d)).reads st nl
  obtain ⟨as4, r4⟩ := (Wn.of_pr z2 : Wn w.params B led' (.ref u2) (pr n d)).reads st nl'
  have q1 : A.in1.units = A.units + 1 := rfl
  have hkey : SeqAt.EqAt A.in1 s (.ref k2) (.ref k1) true := by
    have := SeqAt.eqAt_reads _ _ A.in1 s _ _ _ _ r2 r1 ck ck (by omega)
    rwa [SeqAt.eqv_refl _ ck] at this
  have hval : SeqAt.EqAt A.in1 s (.ref u1) (.ref u2) true := by
    have := SeqAt.eqAt_reads _ _ A.in1 s _ _ _ _ r3 r4 rfl rfl (by simp [PyData.depth, PyData.depthAll]; omega)
    rwa [SeqAt.eqv_refl _ rfl] at this
  refine SeqAt.EqAt.of_refs e (rcAt_dict1 lo1 lo2 (w1.get st nl) (w2.get st nl') (by omega) (fun prog w' E Q h => ?_) hval)
  exact dictFind_eq hkk (y1.well st nl hkk) (y2.well st nl' hkk) hkey (w2.get st nl') h
theorem led_ne2 {prog : Program} {E : Value → Shared → Prop} {a b : Value} {f1 f2 : PyData} {p1 q1 n1 d1 p2 q2 n2 d2 : Int} {Q : Value → Shared → Prop} (S : B.StaysIn h₀) (F : Fr h₀ L s.heap m) (N : News h₀ L s.heap news) (W : Wn w.params B led a (.tuple [gD f1 p1 q1 n1 d1, gD f2 p2 q2 n2 d2])) (hs : ∀ x ∈ led, x ∈ news) (W' : Wn w.params B led' b (.tuple [gD f1 p1 q1 n1 d1, gD f2 p2 q2 n2 d2])) (hs' : ∀ x ∈ led', x ∈ news)
    (hk1 : keyD f1 = true) (hc1 : f1.canLay0 = true) (hd1 : f1.depth ≤ 8) (hk2 : keyD f2 = true) (hc2 : f2.canLay0 = true) (hd2 : f2.depth ≤ 8) (hu : A.units + 66 < cLine) (h : Q (.bool false) s) : wpAny (model prog w) A (compareOp .NotEq a b) Q E s := by
  obtain ⟨a0, x1, x2, rfl, w0, y1, y2⟩ := W.tup2_inv
  obtain ⟨b0, x3, x4, rfl, w1, y3, y4⟩ := W'.tup2_inv
  have q1 : A.in1.units = A.units + 1 := rfl
  have e1 := eqAt_dict1 (A := A.in1) S F N y1 hs y3 hs' hk1 hc1 hd1 (by omega)
  have e2 := eqAt_dict1 (A := A.in1) S F N y2 hs y4 hs' hk2 hc2 hd2 (by omega)
  refine SeqAt.RcNeAt.tuples (e := fun _ => true) (at_tup S F N w0 hs) (at_tup S F N w1 hs') (by omega) (fun j h1 h2 => ?_) prog w E Q h
  match j, h1, h2 with
  | 0, _, _ => exact e1
  | 1, _, _ => exact e2
  | j + 2, h1, _ => exact absurd h1 (by simp)
end
-- what the helpers of the law and the program's functions answer at the law's own data
theorem Calc.mono {B : Heap} {w : World} {f : Addr} {dd uu dd' uu' : Nat} {ds : List PyData} {r : PyData} (C : Calc B w f dd uu ds r) (h1 : dd ≤ dd') (h2 : uu ≤ uu') : Calc B w f dd' uu' ds r := by
  unfold Calc at C ⊢
  intro prog p loose mean mg mb dp un gd cn cs a ccd cl outer A₀ base h₀ L m news s vs Q E Bl F X N T hk S XB hd hu W ret
  exact C prog p loose mean mg mb dp un gd cn cs a ccd cl outer A₀ base h₀ L m news s vs Q E Bl F X N T hk S XB (by omega) (by omega) W ret
theorem CalcE.mono {B : Heap} {w : World} {f : Addr} {dd uu dd' uu' : Nat} {ds : List PyData} (C : CalcE B w f dd uu ds) (h1 : dd ≤ dd') (h2 : uu ≤ uu') : CalcE B w f dd' uu' ds := by
  unfold CalcE at C ⊢
  intro prog p loose mean mg mb dp un gd cn cs a ccd cl outer A₀ base h₀ L m news s vs Q E Bl F X N T hk S XB hd hu W ret
  exact C prog p loose mean mg mb dp un gd cn cs a ccd cl outer A₀ base h₀ L m news s vs Q E Bl F X N T hk S XB (by omega) (by omega) W ret
theorem gcd_two (t : Int) : (Int.fmod t 2 = 0 → Int.gcd t 2 = 2) ∧ (Int.fmod t 2 ≠ 0 → Int.gcd t 2 = 1) := by
  rw [Int.fmod_eq_emod_of_nonneg t (by decide : (0 : Int) ≤ 2)]
  have e : Int.gcd t 2 = Nat.gcd (t.natAbs % 2) 2 := by rw [← Nat.gcd_rec, Nat.gcd_comm]; rfl
  constructor
  · intro h
    have : t.natAbs % 2 = 0 := by omega
    rw [e, this]
    rfl
  · intro h
    have : t.natAbs % 2 = 1 := by omega
    rw [e, this]
    rfl
theorem gcd_three (t : Int) : (Int.fmod t 3 = 0 → Int.gcd t 3 = 3) ∧ (Int.fmod t 3 ≠ 0 → Int.gcd t 3 = 1) := by
  rw [Int.fmod_eq_emod_of_nonneg t (by decide : (0 : Int) ≤ 3)]
  have e : Int.gcd t 3 = Nat.gcd (t.natAbs % 3) 3 := by rw [← Nat.gcd_rec, Nat.gcd_comm]; rfl
  constructor
  · intro h
    have : t.natAbs % 3 = 0 := by omega
    rw [e, this]
    rfl
  · intro h
    have : t.natAbs % 3 = 1 ∨ t.natAbs % 3 = 2 := by omega
    rcases this with q | q <;> rw [e, q] <;> rfl
theorem lowest_any {B : Heap} {w : World} (t b : Int) (hb : b = 1 ∨ b = 2 ∨ b = 3) : Calc B w 482 20 200 [.int t, .int b] (pr (rN t b) (rD t b)) := by
  unfold rN rD
  rcases hb with rfl | rfl | rfl
  · have e : Int.gcd t 1 = 1 := Int.gcd_one_right t
    rw [e]
    exact lowest1_c t
  · by_cases h : Int.fmod t 2 = 0
    · rw [(gcd_two t).1 h]
      exact lowest2a_c t h
    · rw [(gcd_two t).2 h]
      exact lowest2b_c t h
  · by_cases h : Int.fmod t 3 = 0
    · rw [(gcd_three t).1 h]
      exact lowest3a_c t h
    · rw [(gcd_three t).2 h]
      exact lowest3b_c t h
/-- the polynomial that _law_kind makes of the drawn numbers, the growth of one such kind -/
def pK (i r0 r1 : Int) : PyData := if i = 0 then .tuple [] else .tuple [.tuple [.int 1, pr (rN (i * r0) r1) (rD (i * r0) r1)]]
abbrev kK (i q r0 r1 : Int) : PyData := kD (pK i r0 r1) (rN (q * r0) r1) (rD (q * r0) r1)
abbrev kG (i q r0 r1 n d : Int) : PyData := gD (pK i r0 r1) (rN (q * r0) r1) (rD (q * r0) r1) n d
theorem pK_key (i r0 r1 : Int) : keyD (pK i r0 r1) = true := by unfold pK; split <;> rfl
theorem pK_lay (i r0 r1 : Int) : (pK i r0 r1).canLay0 = true := by unfold pK; split <;> rfl
theorem pK_depth (i r0 r1 : Int) : (pK i r0 r1).depth ≤ 8 := by unfold pK; split <;> exact Nat.le_of_ble_eq_true rfl
theorem kK_key (i p q r0 r1 : Int) : keyD (kD (pK i r0 r1) p q) = true := by simp [keyD, keyD.keyDs, pK_key]
theorem kK_depth (i p q r0 r1 : Int) : (ofPy (kD (pK i r0 r1) p q)).depth ≤ 8 := by
  unfold pK
  split
  · exact Nat.le_of_ble_eq_true rfl
  · exact Nat.le_of_ble_eq_true rfl
theorem kind_any {B : Heap} {w : World} (i q r0 r1 : Int) (hi : -4 ≤ i ∧ i ≤ 4) (hq : -4 ≤ q ∧ q ≤ 4) (hr : -4 ≤ r0 ∧ r0 ≤ 4) (h1 : r1 = 1 ∨ r1 = 2 ∨ r1 = 3) : Calc B w 489 24 300 [.int i, .int q, pr r0 r1] (kK i q r0 r1) := by
  unfold kK pK
  by_cases h : i = 0
  · subst h
    rw [if_pos rfl]
    exact kind0_c q r0 r1 _ _ hq hr (lowest_any _ _ h1)
  · rw [if_neg h]
    exact kind1_c i q r0 r1 _ _ _ _ hi hq hr h (lowest_any _ _ h1) (lowest_any _ _ h1)
theorem kG_one (i q n d : Int) : kG i q 1 1 n d = gD (if i = 0 then .tuple [] else .tuple [.tuple [.int 1, pr i 1]]) q 1 n d := by
  unfold kG pK
  rw [Int.mul_one, Int.mul_one, rN_one, rD_one, rN_one, rD_one]
theorem groot_any {B : Heap} {w : World} (i j p q n d r0 r1 : Int) (hi : -4 ≤ i ∧ i ≤ 4) (hj : -4 ≤ j ∧ j ≤ 4) (hp : -4 ≤ p ∧ p ≤ 4) (hq : -4 ≤ q ∧ q ≤ 4) (hr : -4 ≤ r0 ∧ r0 ≤ 4) (hs : 0 < r1 ∧ r1 ≤ 4) :
    Calc B w 198 30 400 [.tuple [kG i p 1 1 n d, kG j q 1 1 n d], pr r0 r1] (.tuple [kG i p r0 r1 1 1, kG j q r0 r1 1 1]) := by
  rw [kG_one, kG_one]
  unfold kG pK
  have e : (1 : Int) * r1 = r1 := Int.one_mul r1
  by_cases h1 : i = 0 <;> by_cases h2 : j = 0
  · have := groot_00 (B := B) (w := w) i j p q n d r0 r1 hi hj hp hq hr hs
    rw [e] at this
    simpa only [h1, h2, if_true, if_false] using this
  · have := groot_01 (B := B) (w := w) i j p q n d r0 r1 hi hj hp hq hr hs
    rw [e] at this
    simpa only [h1, h2, if_true, if_false] using this
  · have := groot_10 (B := B) (w := w) i j p q n d r0 r1 hi hj hp hq hr hs
    rw [e] at this
    simpa only [h1, h2, if_true, if_false] using this
  · have := groot_11 (B := B) (w := w) i j p q n d r0 r1 hi hj hp hq hr hs
    rw [e] at this
    simpa only [h1, h2, if_true, if_false] using this
theorem groot_any_e {B : Heap} {w : World} (i j p q n d n' d' r0 r1 : Int) (hne : n ≠ n' ∨ d ≠ d') : CalcE B w 198 30 400 [.tuple [kG i p 1 1 n d, kG j q 1 1 n' d'], pr r0 r1] :=
  groot_e _ _ _ _ _ _ _ _ r0 r1 (kK_key ..) (kK_depth ..) (kK_key ..) (kK_depth ..) hne
-- the second part: a root of a quotient of powers of x, far below 0
abbrev G1 (p n d : Int) : PyData := gD (.tuple []) p 1 n d
abbrev tXm : PyData := tProd [tNum (-1) 1, tX]
abbrev tLow (x : PyData) (n d b : Int) : PyData := tProd [tNum n d, tPow x b 1]
abbrev tQuo (x : PyData) (n d t b : Int) : PyData := tProd [tNum n d, tPow x t 1, tPow (tLow x n d b) (-1) 1]
def mx (k : Int) : Int := if 0 < k then k else 0
def sg (k : Int) : Int := if k = 1 then -1 else 1
/-- a law of n ints from lo on, by one reckoning -/
def chk (lo : Int) : Nat → (Int → Bool) → Bool
  | 0, _ => true
  | n + 1, f => f (lo + n) && chk lo n f
theorem chk_spec {lo : Int} {f : Int → Bool} : ∀ {n : Nat}, chk lo n f = true → ∀ t, lo ≤ t → t < lo + n → f t = true
  | 0, _, t, h1, h2 => absurd h2 (Int.not_lt.mpr (by simpa using h1))
  | n + 1, h, t, h1, h2 => by
    obtain ⟨a, b⟩ := Bool.and_eq_true_iff.mp h
    by_cases e : t = lo + n
    · subst e; exact a
    · exact chk_spec b t h1 (by omega)
def LowN (n d : Int) : Prop := (d = 1 ∧ (n = 1 ∨ n = -1 ∨ n = 2 ∨ n = -2)) ∨ (d = 2 ∧ (n = 3 ∨ n = -3))
theorem LowN.times {n d s : Int} (h : LowN n d) (hs : s = 1 ∨ s = -1) : LowN (n * s) d ∧ LowN (s * n) d := by
  unfold LowN at h
  rcases hs with rfl | rfl <;> rcases h with ⟨rfl, rfl | rfl | rfl | rfl⟩ | ⟨rfl, rfl | rfl⟩ <;> (unfold LowN; decide)
theorem LowN.bounds {n d : Int} (h : LowN n d) : (-30 ≤ n ∧ n ≤ 30) ∧ n ≠ 0 ∧ (0 < d ∧ d ≤ 30) := by
  unfold LowN at h
  rcases h with ⟨rfl, rfl | rfl | rfl | rfl⟩ | ⟨rfl, rfl | rfl⟩ <;> decide
theorem sg_is (k : Int) : sg k = 1 ∨ sg k = -1 := by unfold sg; split <;> simp
theorem low_nums (k : Int) (h : 0 ≤ k ∧ k < 4) : LowN (nN k) (nD k) := by
  have : k = 0 ∨ k = 1 ∨ k = 2 ∨ k = 3 := by omega
  rcases this with rfl | rfl | rfl | rfl <;> (unfold LowN nN nD; decide)
theorem gm_low {B : Heap} {w : World} (p q n d s : Int) (hp : -100 ≤ p ∧ p ≤ 100) (hq : -100 ≤ q ∧ q ≤ 100) (h : LowN n d) (hs : s = 1 ∨ s = -1) :
    Calc B w 162 20 150 [G1 p n d, G1 q s 1] (G1 (p + q) (n * s) d) ∧ Calc B w 162 20 150 [G1 p s 1, G1 q n d] (G1 (p + q) (s * n) d) := by
  have b := h.bounds
  have c1 := gmul_c (B := B) (w := w) p q n d s 1 hp hq b.1 b.2.1 b.2.2 (by omega) (by omega) (by decide)
  have c2 := gmul_c (B := B) (w := w) p q s 1 n d hp hq (by omega) (by omega) (by decide) b.1 b.2.1 b.2.2
  have e1 : rN (n * s) (d * 1) = n * s ∧ rD (n * s) (d * 1) = d ∧ rN (s * n) (1 * d) = s * n ∧ rD (s * n) (1 * d) = d := by
    unfold LowN at h
    rcases hs with rfl | rfl <;> rcases h with ⟨rfl, rfl | rfl | rfl | rfl⟩ | ⟨rfl, rfl | rfl⟩ <;> decide
  rw [e1.1, e1.2.1] at c1
  rw [e1.2.2.1, e1.2.2.2] at c2
  exact ⟨c1, c2⟩
theorem low_one : LowN 1 1 := by unfold LowN; decide
theorem low_sg (k : Int) : LowN (sg k) 1 := by
  unfold LowN
  rcases sg_is k with h | h <;> rw [h] <;> decide
/-- the product of growths of one kind each, by their data -/
theorem gm {B : Heap} {w : World} (p q r n d s N : Int) (hp : -100 ≤ p ∧ p ≤ 100) (hq : -100 ≤ q ∧ q ≤ 100) (h : LowN n d) (hs : s = 1 ∨ s = -1) (hr : p + q = r) (hN : n * s = N) : Calc B w 162 20 150 [G1 p n d, G1 q s 1] (G1 r N d) := by
  subst hr hN
  exact (gm_low p q n d s hp hq h hs).1
theorem gm' {B : Heap} {w : World} (p q r n d s N : Int) (hp : -100 ≤ p ∧ p ≤ 100) (hq : -100 ≤ q ∧ q ≤ 100) (h : LowN n d) (hs : s = 1 ∨ s = -1) (hr : p + q = r) (hN : s * n = N) : Calc B w 162 20 150 [G1 p s 1, G1 q n d] (G1 r N d) := by
  subst hr hN
  exact (gm_low p q n d s hp hq h hs).2
section
variable {B : Heap} {w : World}
theorem g_num (n d : Int) (h : LowN n d) : Calc B w 205 10 100 [tNum n d, S "x"] (.tuple [G1 0 n d, gS]) := growth_num_c n d h.bounds.2.1
theorem g_xm : Calc B w 205 24 250 [tXm, S "x"] (.tuple [G1 1 (-1) 1, gS]) :=
  growth_prod2_c (dd := 20) (uu := 150) (by decide) (by decide) _ _ _ _ _ _ _ _ _ _ ((g_num (-1) 1 (by unfold LowN; decide)).mono (by decide) (by decide)) (growth_x_c.mono (by decide) (by decide))
    (gm 0 0 0 1 1 (-1) (-1) (by decide) (by decide) low_one (by decide) rfl rfl) (gm 0 0 0 1 1 1 1 (by decide) (by decide) low_one (by decide) rfl rfl)
    (gm 0 1 1 (-1) 1 1 (-1) (by decide) (by decide) (by unfold LowN; decide) (by decide) rfl rfl) (gm 0 0 0 1 1 1 1 (by decide) (by decide) low_one (by decide) rfl rfl)
/-- a power of x, seen from far below: t from -2 to 2 -/
theorem gr_xm (t : Int) (ht : -2 ≤ t ∧ t ≤ 2) : Calc B w 193 22 200 [.tuple [G1 1 (-1) 1, gS], .int t] (.tuple [G1 (mx t) (sg (mx t)) 1, G1 (mx (-t)) (sg (mx (-t))) 1]) := by
  have a1 : Calc B w 186 14 120 [G1 1 (-1) 1, .int 1] (G1 1 (-1) 1) := gpower_c 1 (-1) 1 1 (-1) 1 (by decide) (by decide) (rpower1_c (-1) 1 (by decide) (by decide))
  have a2 : Calc B w 186 14 120 [G1 1 (-1) 1, .int 2] (G1 2 1 1) := gpower_c 1 (-1) 1 2 1 1 (by decide) (by decide) rpower2m_c
  have b1 : Calc B w 186 14 120 [gS, .int 1] (G1 0 1 1) := gpower_c 0 1 1 1 1 1 (by decide) (by decide) (rpower1_c 1 1 (by decide) (by decide))
  have b2 : Calc B w 186 14 120 [gS, .int 2] (G1 0 1 1) := gpower_c 0 1 1 2 1 1 (by decide) (by decide) rpower2_c
  have : t = -2 ∨ t = -1 ∨ t = 0 ∨ t = 1 ∨ t = 2 := by omega
  rcases this with rfl | rfl | rfl | rfl | rfl
  · exact gratioN_c _ _ _ _ (-2) (by decide) b2 a2
  · exact gratioN_c _ _ _ _ (-1) (by decide) b1 a1
  · exact gratio0_c _ _
  · exact gratioP_c _ _ _ _ 1 (by decide) a1 b1
  · exact gratioP_c _ _ _ _ 2 (by decide) a2 b2
theorem g_pow (t : Int) (ht : -2 ≤ t ∧ t ≤ 2) : Calc B w 205 38 600 [tPow tXm t 1, S "x"] (.tuple [G1 (mx t) (sg (mx t)) 1, G1 (mx (-t)) (sg (mx (-t))) 1]) :=
  growth_pow_c _ _ _ (other_ratio_c (dd := 30) (uu := 400) (by decide) (by decide) _ _ _ t (g_xm.mono (by decide) (by decide)) (gr_xm t ht))
theorem mx_b {t : Int} (ht : -2 ≤ t ∧ t ≤ 2) : (-100 ≤ mx t ∧ mx t ≤ 100) ∧ (-100 ≤ mx (-t) ∧ mx (-t) ≤ 100) ∧ (0 ≤ mx t ∧ mx t ≤ 2) ∧ (0 ≤ mx (-t) ∧ mx (-t) ≤ 2) := by
  unfold mx
  split <;> split <;> omega
theorem g_low (n d b : Int) (h : LowN n d) (hb : -2 ≤ b ∧ b ≤ 2) : Calc B w 205 42 700 [tLow tXm n d b, S "x"] (.tuple [G1 (mx b) (n * sg (mx b)) d, G1 (mx (-b)) (sg (mx (-b))) 1]) := by
  have m := mx_b hb
  exact growth_prod2_c (dd := 38) (uu := 600) (by decide) (by decide) _ _ _ _ _ _ _ _ _ _ ((g_num n d h).mono (by decide) (by decide)) (g_pow b hb)
    (gm' 0 0 0 n d 1 n (by decide) (by decide) h (by decide) rfl (Int.one_mul n)) (gm 0 0 0 1 1 1 1 (by decide) (by decide) low_one (by decide) rfl rfl)
    (gm 0 (mx b) (mx b) n d (sg (mx b)) _ (by decide) m.1 h (sg_is _) (Int.zero_add _) rfl) (gm 0 (mx (-b)) (mx (-b)) 1 1 (sg (mx (-b))) _ (by decide) m.2.1 low_one (sg_is _) (Int.zero_add _) (Int.one_mul _))
theorem g_inv (n d b : Int) (h : LowN n d) (hb : -2 ≤ b ∧ b ≤ 2) : Calc B w 205 50 900 [tPow (tLow tXm n d b) (-1) 1, S "x"] (.tuple [G1 (mx (-b)) (sg (mx (-b))) 1, G1 (mx b) (n * sg (mx b)) d]) := by
  have m := mx_b hb
  have l := (h.times (sg_is (mx b))).1.bounds
  have a1 := gpower_c (B := B) (w := w) (mx (-b)) (sg (mx (-b))) 1 1 (sg (mx (-b))) 1 (by omega) (by decide) (rpower1_c _ 1 (by have := sg_is (mx (-b)); omega) (by decide))
  have a2 := gpower_c (B := B) (w := w) (mx b) (n * sg (mx b)) d 1 (n * sg (mx b)) d (by omega) (by decide) (rpower1_c _ d (by omega) (by omega))
  rw [Int.mul_one] at a1 a2
  exact growth_pow_c _ _ _ (other_ratio_c (dd := 42) (uu := 700) (by decide) (by decide) _ _ _ (-1) (g_low n d b h hb) (gratioN_c _ _ _ _ (-1) (by decide) a1 a2))
theorem g_quo (n d t b : Int) (h : LowN n d) (ht : -2 ≤ t ∧ t ≤ 2) (hb : -2 ≤ b ∧ b ≤ 2) : Calc B w 205 54 1000 [tQuo tXm n d t b, S "x"]
    (.tuple [G1 (mx t + mx (-b)) (n * sg (mx t) * sg (mx (-b))) d, G1 (mx (-t) + mx b) (sg (mx (-t)) * (n * sg (mx b))) d]) := by
  have m := mx_b hb
  have k := mx_b ht
  have l1 := (h.times (sg_is (mx t))).1
  have l2 := (h.times (sg_is (mx b))).1
  exact growth_prod3_c (dd := 50) (uu := 900) (by decide) (by decide) _ _ _ _ _ _ _ _ _ _ _ _ _ _ _ ((g_num n d h).mono (by decide) (by decide)) ((g_pow t ht).mono (by decide) (by decide)) (g_inv n d b h hb)
    (gm' 0 0 0 n d 1 n (by decide) (by decide) h (by decide) rfl (Int.one_mul n)) (gm 0 0 0 1 1 1 1 (by decide) (by decide) low_one (by decide) rfl rfl)
    (gm 0 (mx t) (mx t) n d (sg (mx t)) _ (by decide) k.1 h (sg_is _) (Int.zero_add _) rfl) (gm 0 (mx (-t)) (mx (-t)) 1 1 (sg (mx (-t))) _ (by decide) k.2.1 low_one (sg_is _) (Int.zero_add _) (Int.one_mul _))
    (gm (mx t) (mx (-b)) _ _ d (sg (mx (-b))) _ k.1 m.2.1 l1 (sg_is _) rfl rfl) (gm' (mx (-t)) (mx b) _ _ d (sg (mx (-t))) _ k.2.1 m.1 l2 (sg_is _) rfl rfl)
-- the terms mirrored
theorem m_pow (n : Int) : Calc B w 449 14 300 [tPow tX n 1, S "x"] (tPow tXm n 1) := mirrored_pow_c (dd := 10) (uu := 100) (by decide) (by decide) _ _ _ _ mirrored_x_c (mirrored_num_c n 1)
theorem m_low (n d b : Int) : Calc B w 449 18 500 [tLow tX n d b, S "x"] (tLow tXm n d b) := mirrored_prod2_c (dd := 14) (uu := 300) (by decide) (by decide) _ _ _ _ rfl rfl ((mirrored_num_c n d).mono (by decide) (by decide)) (m_pow b)
theorem m_inv (n d b : Int) : Calc B w 449 22 700 [tPow (tLow tX n d b) (-1) 1, S "x"] (tPow (tLow tXm n d b) (-1) 1) := mirrored_pow_c (dd := 18) (uu := 500) (by decide) (by decide) _ _ _ _ (m_low n d b) ((mirrored_num_c (-1) 1).mono (by decide) (by decide))
theorem m_quo (n d t b : Int) : Calc B w 449 26 900 [tQuo tX n d t b, S "x"] (tQuo tXm n d t b) :=
  mirrored_prod3_c (dd := 22) (uu := 700) (by decide) (by decide) _ _ _ _ _ _ rfl rfl rfl ((mirrored_num_c n d).mono (by decide) (by decide)) ((m_pow t).mono (by decide) (by decide)) (m_inv n d b)
theorem m_root (n d t b r0 r1 : Int) : Calc B w 449 30 1100 [tPow (tQuo tX n d t b) r0 r1, S "x"] (tPow (tQuo tXm n d t b) r0 r1) := mirrored_pow_c (dd := 26) (uu := 900) (by decide) (by decide) _ _ _ _ (m_quo n d t b) ((mirrored_num_c r0 r1).mono (by decide) (by decide))
theorem m_sqrt (n d t b : Int) : Calc B w 449 30 1100 [tSqrt (tQuo tX n d t b), S "x"] (tSqrt (tQuo tXm n d t b)) := mirrored_sqrt_c (dd := 26) (uu := 900) (by decide) (by decide) _ _ rfl (m_quo n d t b)
end
theorem sg_even (t b : Int) (ht : -2 ≤ t ∧ t ≤ 2) (hb : -2 ≤ b ∧ b ≤ 2) : (Int.fmod (t - b) 2 ≠ 1 → sg (mx t) * sg (mx (-b)) = sg (mx (-t)) * sg (mx b)) ∧ (Int.fmod (t - b) 2 = 1 → sg (mx t) * sg (mx (-b)) = -(sg (mx (-t)) * sg (mx b))) :=
  of_decide_eq_true (chk_spec (chk_spec (lo := -2) (n := 5) (f := fun t => chk (-2) 5 fun b => decide ((Int.fmod (t - b) 2 ≠ 1 → sg (mx t) * sg (mx (-b)) = sg (mx (-t)) * sg (mx b)) ∧ (Int.fmod (t - b) 2 = 1 → sg (mx t) * sg (mx (-b)) = -(sg (mx (-t)) * sg (mx b))))) (by decide +kernel) t ht.1 (by omega)) b hb.1 (by omega))
theorem nums_even (n t b : Int) (ht : -2 ≤ t ∧ t ≤ 2) (hb : -2 ≤ b ∧ b ≤ 2) (h : Int.fmod (t - b) 2 ≠ 1) : n * sg (mx t) * sg (mx (-b)) = sg (mx (-t)) * (n * sg (mx b)) := by
  rw [Int.mul_assoc, (sg_even t b ht hb).1 h, ← Int.mul_assoc, Int.mul_comm n, Int.mul_assoc]
theorem nums_odd (n t b : Int) (hn : n ≠ 0) (ht : -2 ≤ t ∧ t ≤ 2) (hb : -2 ≤ b ∧ b ≤ 2) (h : Int.fmod (t - b) 2 = 1) : n * sg (mx t) * sg (mx (-b)) ≠ sg (mx (-t)) * (n * sg (mx b)) := by
  rw [Int.mul_assoc, (sg_even t b ht hb).2 h]
  rcases sg_is (mx (-t)) with e1 | e1 <;> rcases sg_is (mx b) with e2 | e2 <;> rw [e1, e2] <;> omega
/-- what the law says of the limit: by the sign of far -/
def dueD (far : Int) : PyData := if 0 < far then S "inf" else if far < 0 then pr 0 1 else pr 1 1
theorem far_signs (k t b : Int) (hk : 0 ≤ k ∧ k < 5) (ht : -2 ≤ t ∧ t ≤ 2) (hb : -2 ≤ b ∧ b ≤ 2) :
    let p := rN ((mx t + mx (-b)) * rN5 k) (1 * rD5 k); let q := rD ((mx t + mx (-b)) * rN5 k) (1 * rD5 k); let p2 := rN ((mx (-t) + mx b) * rN5 k) (1 * rD5 k); let q2 := rD ((mx (-t) + mx b) * rN5 k) (1 * rD5 k)
    (-50 ≤ p ∧ p ≤ 50) ∧ (0 < q ∧ q ≤ 50) ∧ (-50 ≤ p2 ∧ p2 ≤ 50) ∧ (0 < q2 ∧ q2 ≤ 50) ∧ (0 < p * q2 - p2 * q ↔ 0 < (t - b) * rN5 k) ∧ (p * q2 - p2 * q < 0 ↔ (t - b) * rN5 k < 0) :=
  of_decide_eq_true (chk_spec (chk_spec (chk_spec (lo := 0) (n := 5) (f := fun k => chk (-2) 5 fun t => chk (-2) 5 fun b => decide (let p := rN ((mx t + mx (-b)) * rN5 k) (1 * rD5 k); let q := rD ((mx t + mx (-b)) * rN5 k) (1 * rD5 k); let p2 := rN ((mx (-t) + mx b) * rN5 k) (1 * rD5 k); let q2 := rD ((mx (-t) + mx b) * rN5 k) (1 * rD5 k); (-50 ≤ p ∧ p ≤ 50) ∧ (0 < q ∧ q ≤ 50) ∧ (-50 ≤ p2 ∧ p2 ≤ 50) ∧ (0 < q2 ∧ q2 ≤ 50) ∧ (0 < p * q2 - p2 * q ↔ 0 < (t - b) * rN5 k) ∧ (p * q2 - p2 * q < 0 ↔ (t - b) * rN5 k < 0))) (by decide +kernel) k hk.1 (by omega)) t ht.1 (by omega)) b hb.1 (by omega))
section
variable {B : Heap} {w : World}
theorem f_lim (k t b : Int) (hk : 0 ≤ k ∧ k < 5) (ht : -2 ≤ t ∧ t ≤ 2) (hb : -2 ≤ b ∧ b ≤ 2) :
    Calc B w 219 16 160 [.tuple [gD (.tuple []) (rN ((mx t + mx (-b)) * rN5 k) (1 * rD5 k)) (rD ((mx t + mx (-b)) * rN5 k) (1 * rD5 k)) 1 1, gD (.tuple []) (rN ((mx (-t) + mx b) * rN5 k) (1 * rD5 k)) (rD ((mx (-t) + mx b) * rN5 k) (1 * rD5 k)) 1 1]] (dueD ((t - b) * rN5 k)) := by
  obtain ⟨b1, b2, b3, b4, b5, b6⟩ := far_signs k t b hk ht hb
  refine far_limit_c _ _ _ _ b1 b2 b3 b4 _ (fun h => ?_) (fun h => ?_) (fun h => ?_)
  · exact if_pos (b5.1 h)
  · have := b6.1 h
    exact (if_neg (by omega)).trans (if_pos this)
  · have h1 : ¬ 0 < (t - b) * rN5 k := fun z => by have := b5.2 z; omega
    have h2 : ¬ (t - b) * rN5 k < 0 := fun z => by have := b6.2 z; omega
    exact (if_neg h1).trans (if_neg h2)
theorem r5_b (k : Int) (hk : 0 ≤ k ∧ k < 5) : (-4 ≤ rN5 k ∧ rN5 k ≤ 4) ∧ (0 < rD5 k ∧ rD5 k ≤ 4) ∧ rD5 k ≠ 1 ∧ (rD5 k = 1 ∨ rD5 k = 2 ∨ rD5 k = 3) := by
  have h0 : k = 0 ∨ k = 1 ∨ k = 2 ∨ k = 3 ∨ k = 4 := by omega
  rcases h0 with rfl | rfl | rfl | rfl | rfl <;> decide
/-- what the law asks of a root -/
def RootOk (B : Heap) (w : World) (root : PyData) (e : Int) (due : PyData) : Prop :=
  (Int.fmod e 2 ≠ 1 → Calc B w 463 80 2000 [root, S "x", S "-inf", .int 0] due) ∧ (Int.fmod e 2 = 1 → ∃ root', Calc B w 449 80 2000 [root, S "x"] root' ∧ CalcE B w 205 80 2000 [root', S "x"])
theorem groot_even (k t b n d : Int) (hk : 0 ≤ k ∧ k < 5) (ht : -2 ≤ t ∧ t ≤ 2) (hb : -2 ≤ b ∧ b ≤ 2) (h : Int.fmod (t - b) 2 ≠ 1) :
    Calc B w 198 30 400 [.tuple [G1 (mx t + mx (-b)) (n * sg (mx t) * sg (mx (-b))) d, G1 (mx (-t) + mx b) (sg (mx (-t)) * (n * sg (mx b))) d], pr (rN5 k) (rD5 k)]
      (.tuple [gD (.tuple []) (rN ((mx t + mx (-b)) * rN5 k) (1 * rD5 k)) (rD ((mx t + mx (-b)) * rN5 k) (1 * rD5 k)) 1 1, gD (.tuple []) (rN ((mx (-t) + mx b) * rN5 k) (1 * rD5 k)) (rD ((mx (-t) + mx b) * rN5 k) (1 * rD5 k)) 1 1]) := by
  have m := mx_b hb
  have l := mx_b ht
  have r := r5_b k hk
  rw [nums_even n t b ht hb h]
  exact groot_00 0 0 _ _ _ d _ _ (by decide) (by decide) (by omega) (by omega) r.1 r.2.1
theorem groot_odd (k t b n d r0 r1 : Int) (hn : n ≠ 0) (ht : -2 ≤ t ∧ t ≤ 2) (hb : -2 ≤ b ∧ b ≤ 2) (h : Int.fmod (t - b) 2 = 1) :
    CalcE B w 198 30 400 [.tuple [G1 (mx t + mx (-b)) (n * sg (mx t) * sg (mx (-b))) d, G1 (mx (-t) + mx b) (sg (mx (-t)) * (n * sg (mx b))) d], pr r0 r1] :=
  groot_e _ _ _ _ _ _ _ _ _ _ rfl (Nat.le_of_ble_eq_true rfl) rfl (Nat.le_of_ble_eq_true rfl) (.inl (nums_odd n t b hn ht hb h))
theorem root_ok (k t b n d : Int) (hk : 0 ≤ k ∧ k < 5) (h : LowN n d) (ht : -2 ≤ t ∧ t ≤ 2) (hb : -2 ≤ b ∧ b ≤ 2) : RootOk B w (tPow (tQuo tX n d t b) (rN5 k) (rD5 k)) (t - b) (dueD ((t - b) * rN5 k)) := by
  have r := r5_b k hk
  refine ⟨fun he => ?_, fun ho => ⟨_, (m_root n d t b _ _).mono (by decide) (by decide), ?_⟩⟩
  · have g := growth_pow_c _ _ _ (other_root_c (dd := 54) (uu := 1000) (by decide) (by decide) _ _ _ (rN5 k) (rD5 k) r.2.2.1 (g_quo (B := B) (w := w) n d t b h ht hb) (groot_even k t b n d hk ht hb he))
    exact (limit_c _ _ (limit_far_c (dd := 62) (uu := 1200) (by decide) (by decide) _ _ _ _ ((m_root n d t b _ _).mono (by decide) (by decide)) g (f_lim k t b hk ht hb))).mono (by decide) (by decide)
  · exact (growth_pow_e _ _ (other_root_e (dd := 54) (uu := 1000) (by decide) (by decide) _ _ (rN5 k) (rD5 k) r.2.2.1 (g_quo (B := B) (w := w) n d t b h ht hb) (groot_odd k t b n d _ _ h.bounds.2.1 ht hb ho))).mono (by decide) (by decide)
theorem sqrt_ok (t b n d : Int) (h : LowN n d) (ht : -2 ≤ t ∧ t ≤ 2) (hb : -2 ≤ b ∧ b ≤ 2) : RootOk B w (tSqrt (tQuo tX n d t b)) (t - b) (dueD ((t - b) * rN5 0)) := by
  refine ⟨fun he => ?_, fun ho => ⟨_, (m_sqrt n d t b).mono (by decide) (by decide), ?_⟩⟩
  · have g := growth_call_c _ _ _ (other_sqrt_c (dd := 54) (uu := 1000) (by decide) (by decide) _ _ _ (g_quo (B := B) (w := w) n d t b h ht hb) (groot_even 0 t b n d (by decide) ht hb he))
    exact (limit_c _ _ (limit_far_c (dd := 62) (uu := 1200) (by decide) (by decide) _ _ _ _ ((m_sqrt n d t b).mono (by decide) (by decide)) g (f_lim 0 t b (by decide) ht hb))).mono (by decide) (by decide)
  · exact (growth_call_e _ _ (other_sqrt_e (dd := 54) (uu := 1000) (by decide) (by decide) _ _ (g_quo (B := B) (w := w) n d t b h ht hb) (groot_odd 0 t b n d 1 2 h.bounds.2.1 ht hb ho))).mono (by decide) (by decide)
end
/-- a wrapper: the elaborator looks no further into what it holds -/
structure Go (P : Prop) : Prop where
  go : P
-- the law's own text, out of the given program
def lawParts : List Stmt × Scope := match PySem.Challenge.pw_rh0037_03.main.body.reverse with
  | .FunctionDef _ _ body _ _ _ scope _ _ _ :: _ => (body, scope)
  | _ => ([], default)
def lawBodyS : { b : List Stmt // lawParts.1 = b } := ⟨_, by conv => lhs; whnf⟩
def lawScopeS : { b : Scope // lawParts.2 = b } := ⟨_, by conv => lhs; whnf⟩
abbrev lawRest (k : Nat) : List Stmt := lawBodyS.1.drop k
abbrev lawEnv (L a c1 c2 c3 : Addr) : Env := envX (Str.ofString "law") lawScopeS.1 L a (.ref 502) [(Str.ofString "told", c3), (Str.ofString "root", c2), (Str.ofString "ratio", c1)]
/-- between two statements of the law: the frame, the box of draws, the script's numbers, the three cells, the table of the lambdas' codes, all else -/
structure LS (base : Heap) (L bx sc c1 c2 c3 : Addr) (h : Heap) (m : Str → Option Value) (ob o1 o2 o3 : Obj) (c' : Nat) (xs : List Value) (ps : Array Value) (rest : Led) : Prop where
  F : Fr base L h m
  N : News base L h ((bx, ob) :: (sc, listOf xs.toArray c') :: (c1, o1) :: (c2, o2) :: (c3, o3) :: (498, tabObj ps) :: rest)
  o498 : @LT.lt Nat _ 498 c1
  o12 : @LT.lt Nat _ c1 c2
  o23 : @LT.lt Nat _ c2 c3
  o3s : @LT.lt Nat _ c3 sc
  osb : @LT.lt Nat _ sc bx
  rb : ∀ p ∈ rest, p.1 ≠ bx
  rs : ∀ p ∈ rest, p.1 ≠ sc
  r1 : ∀ p ∈ rest, p.1 ≠ c1
  r2 : ∀ p ∈ rest, p.1 ≠ c2
  r3 : ∀ p ∈ rest, p.1 ≠ c3
  rt : ∀ p ∈ rest, p.1 ≠ 498
theorem notTD_tab {ps : Array Value} : ¬ TD (tabObj ps) := by
  rintro (⟨vs, h⟩ | ⟨es, n, h⟩) <;> cases h
section
variable {base h : Heap} {L bx sc c1 c2 c3 : Addr} {m : Str → Option Value} {ob o1 o2 o3 : Obj} {c' : Nat} {xs : List Value} {ps : Array Value} {led : Led} {i : Int} {v1 v2 v3 : Option Value}
theorem LS.of (F : Fr base L h m) (N : News base L h led) (hb : (bx, ob) ∈ led) (hs : (sc, listOf xs.toArray c') ∈ led) (h1 : (c1, o1) ∈ led) (h2 : (c2, o2) ∈ led) (h3 : (c3, o3) ∈ led) (ht : (498, tabObj ps) ∈ led)
    (o498 : @LT.lt Nat _ 498 c1) (o12 : @LT.lt Nat _ c1 c2) (o23 : @LT.lt Nat _ c2 c3) (o3s : @LT.lt Nat _ c3 sc) (osb : @LT.lt Nat _ sc bx) (Z : BoxO ob sc i) (z1 : CellO o1 v1) (z2 : CellO o2 v2) (z3 : CellO o3 v3) :
    ∃ rest, LS base L bx sc c1 c2 c3 h m ob o1 o2 o3 c' xs ps rest ∧ Keep TD led rest := by
  have key : ∀ p ∈ led.filter (fun p => p.1 != bx && p.1 != sc && p.1 != c1 && p.1 != c2 && p.1 != c3 && p.1 != 498), p ∈ led ∧ p.1 ≠ bx ∧ p.1 ≠ sc ∧ p.1 ≠ c1 ∧ p.1 ≠ c2 ∧ p.1 ≠ c3 ∧ p.1 ≠ 498 := fun p hp => by
    have := List.mem_filter.mp hp
    simpa only [Bool.and_eq_true, bne_iff_ne, ne_eq, and_assoc] using this
  refine ⟨led.filter (fun p => p.1 != bx && p.1 != sc && p.1 != c1 && p.1 != c2 && p.1 != c3 && p.1 != 498), ⟨F, fun p hp => ?_, o498, o12, o23, o3s, osb, fun p hp => (key p hp).2.1, fun p hp => (key p hp).2.2.1, fun p hp => (key p hp).2.2.2.1, fun p hp => (key p hp).2.2.2.2.1, fun p hp => (key p hp).2.2.2.2.2.1, fun p hp => (key p hp).2.2.2.2.2.2⟩, fun p hp t => ?_⟩
  · simp only [List.mem_cons] at hp
    rcases hp with rfl | rfl | rfl | rfl | rfl | rfl | hp
    · exact N _ hb
    · exact N _ hs
    · exact N _ h1
    · exact N _ h2
    · exact N _ h3
    · exact N _ ht
    · exact N _ (key p hp).1
  · have same : ∀ {a : Addr} {o : Obj}, (a, o) ∈ led → ¬ TD o → p.1 ≠ a := fun ha nt q => by
      have e1 := (N p hp).1
      have e2 := (N _ ha).1
      rw [q, e2] at e1
      cases e1
      exact nt t
    refine List.mem_filter.mpr ⟨hp, ?_⟩
    simp only [Bool.and_eq_true, bne_iff_ne, ne_eq]
    exact ⟨⟨⟨⟨⟨same hb (notTD Z.1 (by decide) (by decide)), same hs (notTD rfl (by decide) (by decide))⟩, same h1 (notTD_cell z1)⟩, same h2 (notTD_cell z2)⟩, same h3 (notTD_cell z3)⟩, same ht notTD_tab⟩
end
theorem rows_51 : True := by
  (k_with "my nes" => with_reducible assumption)
  (k_with "my look" => first
  | with_reducible assumption
  | with_reducible exact if_pos rfl
  | (refine (if_neg (by decide)).trans ?_; k_extra "my look")
  | fail "my look")
  (k_with "M:eval Name" => (k_here; k_dflt (refine' nameX_L ?F ?r168v ?_ ?k1 ?k2; (case F => with_reducible assumption); (case k1 => rfl); (case k2 => rfl); (case r168v => k_extra "my look"); k_whole)))
  (k_with "my cut" => (
  (conv => arg 3; arg 1; whnf)))
  (k_with "my go" => repeat' (first | (k_unfold; (try dsimp only)) | (k_end; wrow_close) | ((fail_if_success (k_extra "my stop")); walk1) | (dsimp only; (fail_if_success (k_extra "my stop")); walk1) | (leave1; walk_say "STEP leave1"; try dsimp only) | fail "no step"))
  (k_with "my wn" => first
  | (refine Wn.keepTR (by with_reducible assumption) (kK_key ..) ?_; k_extra "my keep")
  | fail "my wn")
  (k_with "M:newList" => (k_here; k_dflt (refine' newList_K ?r172a ?r172b ?_; (case r172a => k_asm); (case r172b => k_asm); k_whole); intro l'_r h'_r F'_r N'_r l1_r; (try k_sweep)))
  trivial
theorem rows_52 : True := by
  (k_with "my go" => repeat' (first | (k_unfold; (try dsimp only)) | (k_end; wrow_close) | ((fail_if_success (with_reducible show wpAny _ _ (execs (Stmt.Assign _ _ ⟨475, _, _, _⟩ :: _) _) _ _ _)); walk1) | (dsimp only; (fail_if_success (with_reducible show wpAny _ _ (execs (Stmt.Assign _ _ ⟨475, _, _, _⟩ :: _) _) _ _ _)); walk1) | (leave1; walk_say "STEP leave1"; try dsimp only) | fail "no step"))
  trivial
section
variable {prog : Program} {w : World} {E : Value → Shared → Prop} {s : Shared} {base : Heap} {L a bx sc c1 c2 c3 : Addr} {m : Str → Option Value} {ob o1 o2 o3 : Obj} {c' : Nat} {xs : List Value} {ns : List Int} {ps : Array Value} {rest : Led} {v1 v2 v3 : Option Value}
  {p : Program} {loose : List Str} {mean : ExcName → Option Value} {mg mb : Str → Option Value} {Q : Flow → Shared → Prop}
theorem seg2 {i k j : Int} {ta tw : Tok} (Bl : Below callerA base [] base) (X : (KQ w.params).In base) (T : Top p loose mean mg mb base) (S : base.StaysIn base)
    (H : LS base L bx sc c1 c2 c3 s.heap m ob o1 o2 o3 c' xs ps rest) (Z : BoxO ob sc i) (z1 : CellO o1 v1) (z2 : CellO o2 v2) (z3 : CellO o3 v3) (I : IntsAre xs ns) (hl : ns.length ≤ 12) (hi : 0 ≤ i ∧ i ≤ 20)
    (hat : m (Str.ofString "at") = some (.int k ta)) (hk : 0 ≤ k ∧ k < 4) (hwh : m (Str.ofString "which") = some (.int j tw))
    (next : ∀ h' tk' m' rest' i1 i2 a1 a2 t1 t2 t3 t4, LS base L bx sc c1 c2 c3 h' m' ob o1 o2 o3 c' xs ps rest' → Keep TD rest rest' → (0 ≤ i1 ∧ i1 < 4) → (0 ≤ i2 ∧ i2 < 4) →
      At base rest' a1 (tupO [.int (nN i1) t1, .int (nD i1) t2]) → At base rest' a2 (tupO [.int (nN i2) t3, .int (nD i2) t4]) →
      m' (Str.ofString "one") = some (.ref a1) → m' (Str.ofString "other") = some (.ref a2) → (∀ y, y ≠ Str.ofString "one" → y ≠ Str.ofString "other" → m' y = m y) →
      Go (wpAny (model prog w) (callerA.deeper (lawEnv L a c1 c2 c3)) (execs (lawRest 3) (lawEnv L a c1 c2 c3)) Q E { s with heap := h', toks := tk' })) :
    Go (wpAny (model prog w) (callerA.deeper (lawEnv L a c1 c2 c3)) (execs (lawRest 2) (lawEnv L a c1 c2 c3)) Q E s) := by
  refine ⟨?_⟩
  obtain ⟨F, N, o498, o12, o23, o3s, osb, rb, rs, r1, r2, r3, rt⟩ := H
  k_extra "my cut"
  k_extra "my go"
  obtain ⟨rest', H', K9⟩ := LS.of (bx := bx) (sc := sc) (c1 := c1) (c2 := c2) (c3 := c3) (xs := xs) (by with_reducible assumption) (by with_reducible assumption) (by k_mem) (by k_mem) (by k_mem) (by k_mem) (by k_mem) (by k_mem) o498 o12 o23 o3s osb (by with_reducible assumption) z1 z2 z3
  refine Go.go ?g9
  refine' next _ _ _ rest' k _ _ _ _ _ _ _ H' ?k1 hk ⟨Int.fmod_nonneg_of_pos _ ?p1, Int.fmod_lt_of_pos _ ?p2⟩ ?k2 ?k3 ?l1 ?l2 ?y
  case k1 => k_extra "my keep"
  case k2 => k_extra "my at"
  case k3 => k_extra "my at"
  case l1 => k_extra "my look"
  case l2 => k_extra "my look"
  case p1 => decide
  case p2 => decide
  case y => exact fun y n1 n2 => (if_neg n1).trans (if_neg n2)
end
theorem rows_53 : True := by
  (k_with "my go" => repeat' (first | (k_unfold; (try dsimp only)) | (k_end; wrow_close) | ((fail_if_success (k_extra "my stop")); walk1) | (dsimp only; (fail_if_success (k_extra "my stop")); walk1) | (leave1; walk_say "STEP leave1"; try dsimp only) | fail "no step"))
  trivial
theorem rows_54 : True := by
  (k_with "my go" => repeat' (first | (k_unfold; (try dsimp only)) | (k_end; wrow_close) | ((fail_if_success (with_reducible show wpAny _ _ (execs (Stmt.Assign _ _ ⟨477, _, _, _⟩ :: _) _) _ _ _)); walk1) | (dsimp only; (fail_if_success (with_reducible show wpAny _ _ (execs (Stmt.Assign _ _ ⟨477, _, _, _⟩ :: _) _) _ _ _)); walk1) | (leave1; walk_say "STEP leave1"; try dsimp only) | fail "no step"))
  trivial
section
variable {prog : Program} {w : World} {E : Value → Shared → Prop} {s : Shared} {base : Heap} {L a bx sc c1 c2 c3 : Addr} {m : Str → Option Value} {ob o1 o2 o3 : Obj} {c' : Nat} {xs : List Value} {ns : List Int} {ps : Array Value} {rest : Led} {v1 v2 v3 : Option Value}
  {p : Program} {loose : List Str} {mean : ExcName → Option Value} {mg mb : Str → Option Value} {Q : Flow → Shared → Prop}
theorem seg3 {i : Int} (Bl : Below callerA base [] base) (X : (KQ w.params).In base) (T : Top p loose mean mg mb base) (S : base.StaysIn base)
    (H : LS base L bx sc c1 c2 c3 s.heap m ob o1 o2 o3 c' xs ps rest) (Z : BoxO ob sc i) (z1 : CellO o1 v1) (z2 : CellO o2 v2) (z3 : CellO o3 v3) (I : IntsAre xs ns) (hl : ns.length ≤ 12) (hi : 0 ≤ i ∧ i ≤ 20)
    (hbox : m (Str.ofString "box") = some (.ref bx))
    (next : ∀ h' tk' m' ob' rest' i1 i2 i3 i4 t1 t2 t3 t4, LS base L bx sc c1 c2 c3 h' m' ob' o1 o2 o3 c' xs ps rest' → BoxO ob' sc (i + 1 + 1 + 1 + 1) → Keep TD rest rest' → (-1 ≤ i1 ∧ i1 ≤ 1) → (-2 ≤ i2 ∧ i2 ≤ 2) → (-1 ≤ i3 ∧ i3 ≤ 1) → (-2 ≤ i4 ∧ i4 ≤ 2) →
      m' (Str.ofString "inner") = some (.int i1 t1) → m' (Str.ofString "power") = some (.int i2 t2) → m' (Str.ofString "less") = some (.int i3 t3) → m' (Str.ofString "below") = some (.int i4 t4) →
      (∀ y, y ≠ Str.ofString "inner" → y ≠ Str.ofString "power" → y ≠ Str.ofString "less" → y ≠ Str.ofString "below" → m' y = m y) →
      Go (wpAny (model prog w) (callerA.deeper (lawEnv L a c1 c2 c3)) (execs (lawRest 5) (lawEnv L a c1 c2 c3)) Q E { s with heap := h', toks := tk' })) :
    Go (wpAny (model prog w) (callerA.deeper (lawEnv L a c1 c2 c3)) (execs (lawRest 3) (lawEnv L a c1 c2 c3)) Q E s) := by
  refine ⟨?_⟩
  obtain ⟨F, N, o498, o12, o23, o3s, osb, rb, rs, r1, r2, r3, rt⟩ := H
  k_extra "my cut"
  k_extra "my go"
  obtain ⟨rest', H', K9⟩ := LS.of (bx := bx) (sc := sc) (c1 := c1) (c2 := c2) (c3 := c3) (xs := xs) (by with_reducible assumption) (by with_reducible assumption) (by k_mem) (by k_mem) (by k_mem) (by k_mem) (by k_mem) (by k_mem) o498 o12 o23 o3s osb (by with_reducible assumption) (by with_reducible assumption) (by with_reducible assumption) (by with_reducible assumption)
  refine Go.go ?g9
  refine' next _ _ _ _ rest' _ _ _ _ _ _ _ _ H' ?z ?k1 ?b1 ?b2 ?b3 ?b4 ?l1 ?l2 ?l3 ?l4 ?y
  case z => with_reducible assumption
  case k1 => k_extra "my keep"
  case l1 => k_extra "my look"
  case l2 => k_extra "my look"
  case l3 => k_extra "my look"
  case l4 => k_extra "my look"
  case b1 => omega
  case b2 => omega
  case b3 => omega
  case b4 => omega
  case y =>
    intro y n1 n2 n3 n4
    simp only [if_neg n1, if_neg n2, if_neg n3, if_neg n4]
end
theorem rows_55 : True := by
  (k_with "my go" => repeat' (first | (k_unfold; (try dsimp only)) | (k_end; wrow_close) | ((fail_if_success (k_extra "my stop")); walk1) | (dsimp only; (fail_if_success (k_extra "my stop")); walk1) | (leave1; walk_say "STEP leave1"; try dsimp only) | fail "no step"))
  trivial
theorem rows_56 : True := by
  (k_with "my go" => repeat' (first | (k_unfold; (try dsimp only)) | (k_end; wrow_close) | ((fail_if_success (with_reducible show wpAny _ _ (execs (Stmt.Assign _ _ ⟨478, _, _, _⟩ :: _) _) _ _ _)); walk1) | (dsimp only; (fail_if_success (with_reducible show wpAny _ _ (execs (Stmt.Assign _ _ ⟨478, _, _, _⟩ :: _) _) _ _ _)); walk1) | (leave1; walk_say "STEP leave1"; try dsimp only) | fail "no step"))
  trivial
section
variable {prog : Program} {w : World} {E : Value → Shared → Prop} {s : Shared} {base : Heap} {L a bx sc c1 c2 c3 : Addr} {m : Str → Option Value} {ob o1 o2 o3 : Obj} {c' : Nat} {xs : List Value} {ns : List Int} {ps : Array Value} {rest : Led} {v1 v2 v3 : Option Value}
  {p : Program} {loose : List Str} {mean : ExcName → Option Value} {mg mb : Str → Option Value} {Q : Flow → Shared → Prop}
theorem seg5 {i : Int} (Bl : Below callerA base [] base) (X : (KQ w.params).In base) (T : Top p loose mean mg mb base) (S : base.StaysIn base)
    (H : LS base L bx sc c1 c2 c3 s.heap m ob o1 o2 o3 c' xs ps rest) (Z : BoxO ob sc i) (z1 : CellO o1 v1) (z2 : CellO o2 v2) (z3 : CellO o3 v3) (I : IntsAre xs ns) (hl : ns.length ≤ 12) (hi : 0 ≤ i ∧ i ≤ 20)
    (hbox : m (Str.ofString "box") = some (.ref bx))
    (next : ∀ h' tk' ob' o1' rest' k a1 t1 t2, LS base L bx sc c1 c2 c3 h' m ob' o1' o2 o3 c' xs ps rest' → BoxO ob' sc (i + 1) → CellO o1' (some (.ref a1)) → Keep TD rest rest' → (0 ≤ k ∧ k < 5) → At base rest' a1 (tupO [.int (rN5 k) t1, .int (rD5 k) t2]) →
      Go (wpAny (model prog w) (callerA.deeper (lawEnv L a c1 c2 c3)) (execs (lawRest 6) (lawEnv L a c1 c2 c3)) Q E { s with heap := h', toks := tk' })) :
    Go (wpAny (model prog w) (callerA.deeper (lawEnv L a c1 c2 c3)) (execs (lawRest 5) (lawEnv L a c1 c2 c3)) Q E s) := by
  refine ⟨?_⟩
  obtain ⟨F, N, o498, o12, o23, o3s, osb, rb, rs, r1, r2, r3, rt⟩ := H
  k_extra "my cut"
  k_extra "my go"
  obtain ⟨rest', H', K9⟩ := LS.of (bx := bx) (sc := sc) (c1 := c1) (c2 := c2) (c3 := c3) (xs := xs) (by with_reducible assumption) (by with_reducible assumption) (by k_mem) (by k_mem) (by k_mem) (by k_mem) (by k_mem) (by k_mem) o498 o12 o23 o3s osb (by with_reducible assumption) (by with_reducible assumption) (by with_reducible assumption) (by with_reducible assumption)
  refine Go.go ?g9
  refine' next _ _ _ _ rest' _ _ _ _ H' ?z ?z1 ?k1 ?b1 ?k2
  case z => with_reducible assumption
  case z1 => with_reducible assumption
  case k1 => k_extra "my keep"
  case k2 => k_extra "my at"
  case b1 => omega
end
theorem rows_57 : True := by
  (k_with "my go" => repeat' (first | (k_unfold; (try dsimp only)) | (k_end; wrow_close) | ((fail_if_success (k_extra "my stop")); walk1) | (dsimp only; (fail_if_success (k_extra "my stop")); walk1) | (leave1; walk_say "STEP leave1"; try dsimp only) | fail "no step"))
  trivial
theorem rows_58 : True := by
  (k_with "my go" => repeat' (first | (k_unfold; (try dsimp only)) | (k_end; wrow_close) | ((fail_if_success (with_reducible show wpAny _ _ (execs (Stmt.If _ _ _ _ :: _) _) _ _ _)); walk1) | (dsimp only; (fail_if_success (with_reducible show wpAny _ _ (execs (Stmt.If _ _ _ _ :: _) _) _ _ _)); walk1) | (leave1; walk_say "STEP leave1"; try dsimp only) | fail "no step"))
  (k_with "M:call ref" => (k_here; (with_reducible show wpAny _ _ (call (Value.ref 489) _) _ _ _); k_dflt ((refine' use9 (kind_any _ _ _ _ ?r180p1 ?r180p2 ?r180p3 ?r180p4) ?k1 ?k2 ?k3 ?k4 ?k5 ?kK ?kS ?kB ?kW ?kd ?ku ?_); k_extra "my use"; (case r180p1 => omega); (case r180p2 => omega); (case r180p3 => omega); (case r180p4 => first | exact Or.inl rfl | assumption)); k_extra "my back"))
  (k_with "my key2" => ((case W => k_extra "my wn"); (case hk => exact kK_key ..); (case hd => exact kK_depth ..); (case u => k_extra "my units")))
  trivial
section
variable {prog : Program} {w : World} {E : Value → Shared → Prop} {s : Shared} {base : Heap} {L a bx sc c1 c2 c3 : Addr} {m : Str → Option Value} {ob o1 o2 o3 : Obj} {c' : Nat} {xs : List Value} {ns : List Int} {ps : Array Value} {rest : Led} {v1 v2 v3 : Option Value}
  {p : Program} {loose : List Str} {mean : ExcName → Option Value} {mg mb : Str → Option Value} {Q : Flow → Shared → Prop}
theorem seg6 {i k1 k2 k3 k4 n1 d1 n2 d2 : Int} {a1 a2 : Addr} {t1 t2 t3 t4 u1 u2 u3 u4 : Tok} (Bl : Below callerA base [] base) (X : (KQ w.params).In base) (T : Top p loose mean mg mb base) (S : base.StaysIn base)
    (H : LS base L bx sc c1 c2 c3 s.heap m ob o1 o2 o3 c' xs ps rest) (Z : BoxO ob sc i) (z1 : CellO o1 v1) (z2 : CellO o2 v2) (z3 : CellO o3 v3)
    (h1 : m (Str.ofString "inner") = some (.int k1 t1)) (h2 : m (Str.ofString "power") = some (.int k2 t2)) (h3 : m (Str.ofString "less") = some (.int k3 t3)) (h4 : m (Str.ofString "below") = some (.int k4 t4))
    (b1 : -1 ≤ k1 ∧ k1 ≤ 1) (b2 : -2 ≤ k2 ∧ k2 ≤ 2) (b3 : -1 ≤ k3 ∧ k3 ≤ 1) (b4 : -2 ≤ k4 ∧ k4 ≤ 2)
    (hone : m (Str.ofString "one") = some (.ref a1)) (hother : m (Str.ofString "other") = some (.ref a2)) (y1 : At base rest a1 (tupO [.int n1 u1, .int d1 u2])) (y2 : At base rest a2 (tupO [.int n2 u3, .int d2 u4]))
    (next : ∀ h' tk' o3' rest' a3, LS base L bx sc c1 c2 c3 h' m ob o1 o2 o3' c' xs ps rest' → CellO o3' (some (.ref a3)) → Keep TD rest rest' → Wn w.params base rest' (.ref a3) (.tuple [kG k1 k2 1 1 n1 d1, kG k3 k4 1 1 n2 d2]) →
      Go (wpAny (model prog w) (callerA.deeper (lawEnv L a c1 c2 c3)) (execs (lawRest 7) (lawEnv L a c1 c2 c3)) Q E { s with heap := h', toks := tk' })) :
    Go (wpAny (model prog w) (callerA.deeper (lawEnv L a c1 c2 c3)) (execs (lawRest 6) (lawEnv L a c1 c2 c3)) Q E s) := by
  refine ⟨?_⟩
  obtain ⟨F, N, o498, o12, o23, o3s, osb, rb, rs, r1, r2, r3, rt⟩ := H
  k_extra "my cut"
  k_extra "my go"
  obtain ⟨rest', H', K9⟩ := LS.of (bx := bx) (sc := sc) (c1 := c1) (c2 := c2) (c3 := c3) (xs := xs) (by with_reducible assumption) (by with_reducible assumption) (by k_mem) (by k_mem) (by k_mem) (by k_mem) (by k_mem) (by k_mem) o498 o12 o23 o3s osb (by with_reducible assumption) (by with_reducible assumption) (by with_reducible assumption) (by with_reducible assumption)
  refine Go.go ?g9
  refine' next _ _ _ rest' _ H' ?z ?k1 ?w
  case z => with_reducible assumption
  case k1 => k_extra "my keep"
  case w => exact Wn.keep K9 (by k_extra "my wn")
end
theorem rows_59 : True := by
  (k_with "M:call ref" => (k_here; (with_reducible show wpAny _ _ (call (Value.ref 41) _) _ _ _); k_dflt ((refine' use9 (gcd_c _ _) ?k1 ?k2 ?k3 ?k4 ?k5 ?kK ?kS ?kB ?kW ?kd ?ku ?_); k_extra "my use"); k_extra "my back"))
  (k_with "M:call ref" => (k_here; (with_reducible show wpAny _ _ (call (Value.ref 64) _) _ _ _); k_dflt ((refine' use9 (rat_c _ _ ?r183p1 ?r183p2) ?k1 ?k2 ?k3 ?k4 ?k5 ?kK ?kS ?kB ?kW ?kd ?ku ?_); k_extra "my use"; (case r183p1 => omega); (case r183p2 => omega);); k_extra "my back"))
  (k_with "M:call ref" => (k_here; (with_reducible show wpAny _ _ (call (Value.ref 85) _) _ _ _); k_dflt ((refine' use9 (rmul_c _ _ _ _ ?r184p1 ?r184p2 ?r184p3 ?r184p4) ?k1 ?k2 ?k3 ?k4 ?k5 ?kK ?kS ?kB ?kW ?kd ?ku ?_); k_extra "my use"; (case r184p1 => omega); (case r184p2 => omega); (case r184p3 => omega); (case r184p4 => omega);); k_extra "my back"))
  (k_with "M:call ref" => (k_here; (with_reducible show wpAny _ _ (call (Value.ref 71) _) _ _ _); k_dflt ((refine' use9 (radd_c _ _ _ _ ?r185p1 ?r185p2 ?r185p3 ?r185p4) ?k1 ?k2 ?k3 ?k4 ?k5 ?kK ?kS ?kB ?kW ?kd ?ku ?_); k_extra "my use"; (case r185p1 => omega); (case r185p2 => omega); (case r185p3 => omega); (case r185p4 => omega);); k_extra "my back"))
  (k_with "M:call ref" => (k_here; (with_reducible show wpAny _ _ (call (Value.ref 127) _) _ _ _); k_dflt ((refine' use9 (rcompare_c _ _ _ _ ?r186p1 ?r186p2 ?r186p3 ?r186p4) ?k1 ?k2 ?k3 ?k4 ?k5 ?kK ?kS ?kB ?kW ?kd ?ku ?_); k_extra "my use"; (case r186p1 => omega); (case r186p2 => omega); (case r186p3 => omega); (case r186p4 => omega);); k_extra "my back"))
  (k_with "M:call ref" => (k_here; (with_reducible show wpAny _ _ (call (Value.ref 106) _) _ _ _); k_dflt ((refine' use9 (rinv_c _ _ ?r187p1 ?r187p2) ?k1 ?k2 ?k3 ?k4 ?k5 ?kK ?kS ?kB ?kW ?kd ?ku ?_); k_extra "my use"; (case r187p1 => omega); (case r187p2 => omega);); k_extra "my back"))
  (k_with "M:call ref" => (k_here; (with_reducible show wpAny _ _ (call (Value.ref 113) _) _ _ _); k_dflt ((refine' use9 (rpowerm_c ) ?k1 ?k2 ?k3 ?k4 ?k5 ?kK ?kS ?kB ?kW ?kd ?ku ?_); k_extra "my use";); k_extra "my back"))
  (k_with "M:call ref" => (k_here; (with_reducible show wpAny _ _ (call (Value.ref 113) _) _ _ _); k_dflt ((refine' use9 (rpower2_c ) ?k1 ?k2 ?k3 ?k4 ?k5 ?kK ?kS ?kB ?kW ?kd ?ku ?_); k_extra "my use";); k_extra "my back"))
  (k_with "M:call ref" => (k_here; (with_reducible show wpAny _ _ (call (Value.ref 113) _) _ _ _); k_dflt ((refine' use9 (rpower2m_c ) ?k1 ?k2 ?k3 ?k4 ?k5 ?kK ?kS ?kB ?kW ?kd ?ku ?_); k_extra "my use";); k_extra "my back"))
  (k_with "M:call ref" => (k_here; (with_reducible show wpAny _ _ (call (Value.ref 113) _) _ _ _); k_dflt ((refine' use9 (rpower1_c _ _ ?r191p1 ?r191p2) ?k1 ?k2 ?k3 ?k4 ?k5 ?kK ?kS ?kB ?kW ?kd ?ku ?_); k_extra "my use"; (case r191p1 => omega); (case r191p2 => omega);); k_extra "my back"))
  (k_with "my key2" => (
  (case W => k_extra "my wn"); (case hk => first | with_reducible assumption | exact rfl | (simp only [keyD, keyD.keyDs, Bool.and_true, Bool.and_self]; done)); (case hd => first | with_reducible assumption | exact Nat.le_of_ble_eq_true rfl | decide | (simp [ofPy, ofPys, WData.depth, WData.depthAll]; done)); (case u => k_extra "my units")))
  (k_with "M:call ref" => (k_here; (with_reducible show wpAny _ _ (call (Value.ref 148) _) _ _ _); k_dflt ((refine' use poly0_c ?k1 ?k2 ?k3 ?k4 ?k5 ?kK ?kS ?kB ?kW ?kd ?ku ?_); k_extra "my use"); k_extra "my back"))
  (k_with "M:call ref" => (k_here; (with_reducible show wpAny _ _ (call (Value.ref 155) _) _ _ _); k_dflt ((refine' use9 (kind_product_c _ _ ?r194p1 ?r194p2) ?k1 ?k2 ?k3 ?k4 ?k5 ?kK ?kS ?kB ?kW ?kd ?ku ?_); k_extra "my use"; (case r194p1 => omega); (case r194p2 => omega)); k_extra "my back"))
  (k_with "M:call ref" => (k_here; (with_reducible show wpAny _ _ (call (Value.ref 136) _) _ _ _); k_dflt ((refine' gins_use (gins_c ?r195p1 ?r195p2 ?r195p3 ?r195p4 ?r195p5 ?r195p6 ?r195p7) ?k1 ?k2 ?k3 ?k4 ?k5 ?kK ?kS ?kB ?kd ?ku ?r195kU ?r195lo ?r195w1 ?r195w2 ?_); (case k1 => k_asm); (case k2 => k_asm); (case k3 => k_asm); (case k4 => k_asm); (case k5 => k_asm); (case kK => first | exact rfl | assumption); (case kS => k_asm); (case kB => k_asm); (case kd => k_extra "my room"); (case ku => k_extra "my units"); (case r195kU => k_extra "my updG"); (case r195lo => with_reducible assumption); (case r195w1 => k_extra "my wn"); (case r195w2 => k_extra "my wn"); (case r195p1 => exact rfl); (case r195p2 => exact Nat.le_of_ble_eq_true rfl); (case r195p3 => omega); (case r195p4 => omega); (case r195p5 => omega); (case r195p6 => first | with_reducible assumption | exact rfl); (case r195p7 => first | with_reducible assumption | exact rfl)); intro tl9_r o9_r h9_r tk9_r F9_r N9_r O9_r K9_r W9_r; (try dsimp only at N9_r K9_r W9_r); k_sweep; (try dsimp only); (try k_fold)))
  (k_with "M:call ref" => (k_here; (with_reducible show wpAny _ _ (call (Value.ref 162) _) _ _ _); k_dflt ((refine' use9 (gmul_c _ _ _ _ _ _ ?r196p1 ?r196p2 ?r196p3 ?r196p4 ?r196p5 ?r196p6 ?r196p7 ?r196p8) ?k1 ?k2 ?k3 ?k4 ?k5 ?kK ?kS ?kB ?kW ?kd ?ku ?_); k_extra "my use"; (case r196p1 => omega); (case r196p2 => omega); (case r196p3 => omega); (case r196p4 => omega); (case r196p5 => omega); (case r196p6 => omega); (case r196p7 => omega); (case r196p8 => omega)); k_extra "my back"))
  (k_with "M:call ref" => (k_here; (with_reducible show wpAny _ _ (call (Value.ref 174) _) _ _ _); k_dflt ((refine' use9 (fastest_c _ _ _ _ ?r197p1 ?r197p2) ?k1 ?k2 ?k3 ?k4 ?k5 ?kK ?kS ?kB ?kW ?kd ?ku ?_); k_extra "my use"; (case r197p1 => first | with_reducible assumption | exact rfl | (simp only [keyD, keyD.keyDs, Bool.and_true, Bool.and_self]; done)); (case r197p2 => first | with_reducible assumption | exact Nat.le_of_ble_eq_true rfl | decide | (simp [ofPy, ofPys, WData.depth, WData.depthAll]; done))); k_extra "my back"))
  (k_with "M:call ref" => (k_here; (with_reducible show wpAny _ _ (call (Value.ref 167) _) _ _ _); k_dflt ((refine' use9 (kind_compare_c _ _ _ _ ?r198p1 ?r198p2 ?r198p3 ?r198p4) ?k1 ?k2 ?k3 ?k4 ?k5 ?kK ?kS ?kB ?kW ?kd ?ku ?_); k_extra "my use"; (case r198p1 => omega); (case r198p2 => omega); (case r198p3 => omega); (case r198p4 => omega)); k_extra "my back"))
  (k_with "M:call ref" => (k_here; (with_reducible rename Calc _ _ _ _ _ _ _ => C9_r); k_dflt ((refine' use9 ?r199C ?k1 ?k2 ?k3 ?k4 ?k5 ?kK ?kS ?kB ?kW ?kd ?ku ?_); (case k1 => k_asm); (case k2 => k_asm); (case k3 => k_asm); (case k4 => k_asm); (case k5 => k_asm); (case kK => first | exact rfl | assumption); (case kS => k_asm); (case kB => k_asm); (case kW => k_extra "my wns"); (case r199C => with_reducible assumption); (case kd => k_extra "my room"); (case ku => k_extra "my units")); k_extra "my back"))
  (k_with "M:call ref" => (k_here; (with_reducible show wpAny _ _ (call (Value.ref 31) _) _ _ _); k_dflt ((refine' cas_make ?k1 ?k2 ?k3 ?k4 ?k5 ?kK ?kS ?kB ?kd ?ku ?_); (case k1 => k_asm); (case k2 => k_asm); (case k3 => k_asm); (case k4 => k_asm); (case k5 => k_asm); (case kK => first | exact rfl | assumption); (case kS => k_asm); (case kB => k_asm); (case kd => k_extra "my room"); (case ku => k_extra "my units")); intro e9_r d9_r t9_r o9_r h9_r tk9_r l9_r F9_r N9_r s9_r m9_r y9_r n9_r k9_r; (try dsimp only); (refine' ⟨e9_r, _, _, rfl, casC (PySem.W.Frag.In.keeps (by with_reducible assumption) F9_r.keep), (N9_r _ m9_r).1, ?_⟩); (try dsimp only); (refine leave_raiseX (by with_reducible assumption) F9_r N9_r m9_r y9_r s9_r n9_r rfl (by first | exact rfl | assumption) ?_); intro h9_r R9_r U9_r; (try dsimp only)))
  (k_with "M:call ref" => (k_here; (with_reducible rename CalcE _ _ _ _ _ _ => C9_r); k_dflt ((refine' useE ?r201C ?k1 ?k2 ?k3 ?k4 ?k5 ?kK ?kS ?kB ?kW ?kd ?ku ?_); (case k1 => k_asm); (case k2 => k_asm); (case k3 => k_asm); (case k4 => k_asm); (case k5 => k_asm); (case kK => first | exact rfl | assumption); (case kS => k_asm); (case kB => k_asm); (case kW => k_extra "my wns"); (case r201C => with_reducible assumption); (case kd => k_extra "my room"); (case ku => k_extra "my units")); intro e9_r o9_r g9_r h9_r tk9_r F9_r U9_r R9_r K9_r; (try dsimp only); (refine leave_onX (by with_reducible assumption) F9_r R9_r U9_r rfl ?_); intro h9_r R9_r U9_r; (try dsimp only)))
  (k_with "M:call ref" => (k_here; (with_reducible rename DeedE _ _ _ _ _ _ => C9_r); k_dflt ((refine' useD ?r202C ?k1 ?k2 ?k3 ?k4 ?k5 ?kK ?kS ?kB ?kW ?kd ?ku ?_); (case k1 => k_asm); (case k2 => k_asm); (case k3 => k_asm); (case k4 => k_asm); (case k5 => k_asm); (case kK => first | exact rfl | assumption); (case kS => k_asm); (case kB => k_asm); (case r202C => with_reducible assumption); (case kW => first | with_reducible assumption | k_extra "my sub"); (case kd => k_extra "my room"); (case ku => k_extra "my units")); intro e9_r o9_r g9_r h9_r tk9_r F9_r U9_r R9_r K9_r; (try dsimp only)))
  (k_with "M:call ref" => (k_here; (with_reducible show wpAny _ _ (call (Value.ref 477) [Value.ref _, Value.int _ _]) _ _ _); k_dflt ((refine' useTake ?r203p0 ?k1 ?k2 ?k3 ?k4 ?k5 ?kK ?kS ?kB ?kd ?ku ?r203U ?r203m ?r203Z ?r203ms ?r203ne ?r203I ?r203l ?r203i ?_); (case r203p0 => decide); k_extra "my use2"; (case r203U => k_extra "my updG"); (case r203m => k_mem); (case r203Z => first | with_reducible assumption | exact ⟨rfl, _, _, rfl⟩); (case r203ms => k_mem); (case r203ne => k_ne); (case r203I => with_reducible assumption); (case r203l => omega); (case r203i => omega)); (intro r9_r t9_r o9_r h9_r tk9_r p9_r q9_r Z9_r F9_r N9_r K9_r); (try dsimp only at N9_r K9_r); (try dsimp only); (try k_sweep)))
  (k_with "M:call ref" => (k_here; (with_reducible show wpAny _ _ (call (Value.ref 470) _) _ _ _); k_dflt ((refine' useNums ?k1 ?k2 ?k3 ?k4 ?k5 ?kK ?kS ?kB ?kd ?ku ?_); k_extra "my use2"); (intro l9_r c9_r vs9_r tl9_r h9_r tk9_r F9_r N9_r O9_r l9_r W9_r); (try dsimp only); (try k_sweep)))
  (k_with "my go" => repeat' (first | (k_unfold; (try dsimp only)) | (k_end; wrow_close) | ((fail_if_success (k_extra "my stop")); walk1) | (dsimp only; (fail_if_success (k_extra "my stop")); walk1) | (leave1; walk_say "STEP leave1"; try dsimp only) | fail "no step"))
  trivial
section
variable {prog : Program} {w : World} {E : Value → Shared → Prop} {s : Shared} {B h₀ : Heap} {L : Addr} {m : Str → Option Value} {news : Led} {p : Program} {loose : List Str} {mean : ExcName → Option Value} {mg mb : Str → Option Value} {dp un : Nat} {gd : Option (List Code)} {cn : Str} {cs : Scope} {a : Addr} {ccd : Value} {cl : List (Str × Addr)} {A₀ : Around} {base : Heap} {Q : Value → Shared → Prop}
theorem useR {f : Addr} {oc : Value} {od : Option Addr} {fd : FuncData} {sl : Array (Option Value)} (hf : (f, (⟨oc, od, .func fd, sl⟩ : Obj)) ∈ news) (C : DeedE B w news f 130 2200) (Bl : Below A₀ base [] h₀) (F : Fr h₀ L s.heap m) (X : (KQ w.params).In h₀) (N : News h₀ L s.heap news) (T : Top p loose mean mg mb h₀) (hk : cs.kind = .function) (S : B.StaysIn h₀) (XB : (KQ w.params).In B) (XO : (KQ w.params).In base) (TO : Top p loose mean mg mb base) (hd' : dp + 140 < recursionLimit) (hu : un + 2400 < cLine)
    (ret : ∀ t h' tk', Fr h₀ L h' m → News h₀ L h' news → Q (.str "domain" t) { s with heap := h', toks := tk' }) :
    wpAny (model prog w) (ktrTop dp un gd cn cs L a ccd cl []) (call (.ref 496) [.ref f]) Q E s :=
  refused_c hf C _ _ _ _ _ _ _ _ _ _ _ _ _ _ _ _ _ _ _ _ _ Q E Bl F X N T hk S XB XO TO hd' hu (fun _ h => h) ret
end
theorem rows_60 : True := by
  (k_with "my enterL" => (
  (refine wpAny_call ?_); k_dflt (refine' kla_code ?k1 ?k2 ?k3 ?k4 ?k5 ?r206kA ?r206kF ?kK ?r206k6 ?r206k7 ?r206k8 ?r206k9 ?kB ?_ ?r206c2 ?r206c3 ?r206c4 ?r206c5; (case r206kA => exact rfl); (case r206kF => exact rfl); (case kK => assumption); (case k1 => k_asm); (case k2 => k_asm); (case k3 => k_asm); (case k4 => k_asm); (case k5 => k_asm); (case r206k6 => with_reducible assumption); (case r206k7 => exact codeRec_news (by k_asm) (by with_reducible assumption) (by assumption) (by assumption)); (case r206k8 => k_extra "my room"); (case r206k9 => exact rfl); (case r206c5 => decide); (case kB => exact locs rfl); (case r206c2 => exact rfl); (case r206c3 => exact rfl); (case r206c4 => exact rfl); k_whole; intro g'_r L'_r h'_r FG'_r F'_r N'_r B'_r X'_r T'_r; (try dsimp only); (try k_fold));
  (have S9_r := enter_stays (by with_reducible assumption) (by with_reducible assumption) (by with_reducible assumption) (by with_reducible assumption))))
  (k_with "M:call ref" => (k_here; (with_reducible show wpAny _ _ (call (Value.ref 496) _) _ _ _); k_dflt ((refine' useR ?r207hf ?r207C ?k1 ?k2 ?k3 ?k4 ?k5 ?kK ?kS ?kB ?r207kX ?r207kT ?kd ?ku ?_); (case k1 => k_asm); (case k2 => k_asm); (case k3 => k_asm); (case k4 => k_asm); (case k5 => k_asm); (case kK => first | exact rfl | assumption); (case kS => k_asm); (case kB => k_asm); (case r207kX => k_asm); (case r207kT => k_asm); (case kd => k_extra "my room"); (case ku => k_extra "my units"); (case r207hf => k_mem); (case r207C => k_extra "my deed")); (intro t9_r h9_r tk9_r F9_r N9_r); (try dsimp only); (try k_sweep)))
  trivial
theorem rows_61 : True := by
  (k_with "my go" => repeat' (first | (k_unfold; (try dsimp only)) | (k_end; wrow_close) | ((fail_if_success (with_reducible show wpAny _ _ (execs (Stmt.Assign _ _ _ :: _) _) _ _ _)); walk1) | (dsimp only; (fail_if_success (with_reducible show wpAny _ _ (execs (Stmt.Assign _ _ _ :: _) _) _ _ _)); walk1) | (leave1; walk_say "STEP leave1"; try dsimp only) | fail "no step"))
  (k_with "M:call ref" => (k_here; (with_reducible show wpAny _ _ (call (Value.ref 489) _) _ _ _); k_dflt ((refine' use9 (kind_any _ _ _ _ ?r209p1 ?r209p2 ?r209p3 ?r209p4) ?k1 ?k2 ?k3 ?k4 ?k5 ?kK ?kS ?kB ?kW ?kd ?ku ?_); k_extra "my use"; (case r209p1 => omega); (case r209p2 => omega); (case r209p3 => omega); (case r209p4 => first | exact Or.inl rfl | assumption)); k_extra "my back"))
  (k_with "my key2" => ((case W => k_extra "my wn"); (case hk => exact kK_key ..); (case hd => exact kK_depth ..); (case u => k_extra "my units")))
  (k_with "M:compareOp NotEq ref ref" => (k_here; k_dflt (refine' led_ne2 ?S ?F ?N ?W (fun _ h9 => h9) ?V (fun _ h9 => h9) (pK_key ..) (pK_lay ..) (pK_depth ..) (pK_key ..) (pK_lay ..) (pK_depth ..) ?u ?_; (case S => with_reducible assumption); (case F => with_reducible assumption); (case N => with_reducible assumption); (case W => k_extra "my wn"); (case V => k_extra "my wn"); (case u => k_extra "my units"))))
  trivial
section
variable {prog : Program} {w : World} {E : Value → Shared → Prop} {s : Shared} {base : Heap} {L a bx sc c1 c2 c3 : Addr} {m : Str → Option Value} {ob o1 o2 o3 : Obj} {c' : Nat} {xs : List Value} {ns : List Int} {ps : Array Value} {rest : Led} {v1 v2 v3 : Option Value}
  {p : Program} {loose : List Str} {mean : ExcName → Option Value} {mg mb : Str → Option Value} {Q : Flow → Shared → Prop}
theorem seg7b {k1 k2 k3 k4 n1 d1 r0 r1 : Int} {a1 a2 a3 a4 : Addr} {t1 t2 t3 t4 u1 u2 u3 u4 u5 u6 : Tok} (Bl : Below callerA base [] base) (X : (KQ w.params).In base) (T : Top p loose mean mg mb base) (S : base.StaysIn base)
    (H : LS base L bx sc c1 c2 c3 s.heap m ob o1 o2 o3 c' xs ps rest) (z2 : CellO o2 v2)
    (h1 : m (Str.ofString "inner") = some (.int k1 t1)) (h2 : m (Str.ofString "power") = some (.int k2 t2)) (h3 : m (Str.ofString "less") = some (.int k3 t3)) (h4 : m (Str.ofString "below") = some (.int k4 t4))
    (b1 : -1 ≤ k1 ∧ k1 ≤ 1) (b2 : -2 ≤ k2 ∧ k2 ≤ 2) (b3 : -1 ≤ k3 ∧ k3 ≤ 1) (b4 : -2 ≤ k4 ∧ k4 ≤ 2) (b5 : -4 ≤ r0 ∧ r0 ≤ 4) (b6 : r1 = 1 ∨ r1 = 2 ∨ r1 = 3)
    (hone : m (Str.ofString "one") = some (.ref a1)) (hother : m (Str.ofString "other") = some (.ref a2)) (y1 : At base rest a1 (tupO [.int n1 u1, .int d1 u2])) (y2 : At base rest a2 (tupO [.int n1 u3, .int d1 u4]))
    (z1 : CellO o1 (some (.ref a4))) (y4 : At base rest a4 (tupO [.int r0 u5, .int r1 u6])) (z3 : CellO o3 (some (.ref a3))) (W3 : Wn w.params base rest (.ref a3) (.tuple [kG k1 k2 1 1 n1 d1, kG k3 k4 1 1 n1 d1]))
    (C : Calc base w 198 30 400 [.tuple [kG k1 k2 1 1 n1 d1, kG k3 k4 1 1 n1 d1], pr r0 r1] (.tuple [kG k1 k2 r0 r1 1 1, kG k3 k4 r0 r1 1 1]))
    (he : PyData.eqv (pr n1 d1) (pr n1 d1) = true)
    (Z : BoxO ob sc i)
    (next : ∀ h' tk' rest', LS base L bx sc c1 c2 c3 h' m ob o1 o2 o3 c' xs ps rest' → Keep TD rest rest' →
      Go (wpAny (model prog w) (callerA.deeper (lawEnv L a c1 c2 c3)) (execs (lawRest 8) (lawEnv L a c1 c2 c3)) Q E { s with heap := h', toks := tk' })) :
    Go (wpAny (model prog w) (callerA.deeper (lawEnv L a c1 c2 c3)) (execs (lawRest 7) (lawEnv L a c1 c2 c3)) Q E s) := by
  refine ⟨?_⟩
  obtain ⟨F, N, o498, o12, o23, o3s, osb, rb, rs, r1', r2', r3', rt⟩ := H
  k_extra "my cut"
  k_extra "my go"
  (try dsimp only)
  obtain ⟨rest', H', K9⟩ := LS.of (bx := bx) (sc := sc) (c1 := c1) (c2 := c2) (c3 := c3) (xs := xs) (by with_reducible assumption) (by with_reducible assumption) (by k_mem) (by k_mem) (by k_mem) (by k_mem) (by k_mem) (by k_mem) o498 o12 o23 o3s osb Z z1 z2 z3
  refine Go.go ?g9
  refine' next _ _ rest' H' ?k1
  case k1 => k_extra "my keep"
end
theorem rows_62 : True := by
  (k_with "M:call ref" => (k_here; (with_reducible show wpAny _ _ (call (Value.ref 41) _) _ _ _); k_dflt ((refine' use9 (gcd_c _ _) ?k1 ?k2 ?k3 ?k4 ?k5 ?kK ?kS ?kB ?kW ?kd ?ku ?_); k_extra "my use"); k_extra "my back"))
  (k_with "M:call ref" => (k_here; (with_reducible show wpAny _ _ (call (Value.ref 64) _) _ _ _); k_dflt ((refine' use9 (rat_c _ _ ?r213p1 ?r213p2) ?k1 ?k2 ?k3 ?k4 ?k5 ?kK ?kS ?kB ?kW ?kd ?ku ?_); k_extra "my use"; (case r213p1 => omega); (case r213p2 => omega);); k_extra "my back"))
  (k_with "M:call ref" => (k_here; (with_reducible show wpAny _ _ (call (Value.ref 85) _) _ _ _); k_dflt ((refine' use9 (rmul_c _ _ _ _ ?r214p1 ?r214p2 ?r214p3 ?r214p4) ?k1 ?k2 ?k3 ?k4 ?k5 ?kK ?kS ?kB ?kW ?kd ?ku ?_); k_extra "my use"; (case r214p1 => omega); (case r214p2 => omega); (case r214p3 => omega); (case r214p4 => omega);); k_extra "my back"))
  (k_with "M:call ref" => (k_here; (with_reducible show wpAny _ _ (call (Value.ref 71) _) _ _ _); k_dflt ((refine' use9 (radd_c _ _ _ _ ?r215p1 ?r215p2 ?r215p3 ?r215p4) ?k1 ?k2 ?k3 ?k4 ?k5 ?kK ?kS ?kB ?kW ?kd ?ku ?_); k_extra "my use"; (case r215p1 => omega); (case r215p2 => omega); (case r215p3 => omega); (case r215p4 => omega);); k_extra "my back"))
  (k_with "M:call ref" => (k_here; (with_reducible show wpAny _ _ (call (Value.ref 127) _) _ _ _); k_dflt ((refine' use9 (rcompare_c _ _ _ _ ?r216p1 ?r216p2 ?r216p3 ?r216p4) ?k1 ?k2 ?k3 ?k4 ?k5 ?kK ?kS ?kB ?kW ?kd ?ku ?_); k_extra "my use"; (case r216p1 => omega); (case r216p2 => omega); (case r216p3 => omega); (case r216p4 => omega);); k_extra "my back"))
  (k_with "M:call ref" => (k_here; (with_reducible show wpAny _ _ (call (Value.ref 106) _) _ _ _); k_dflt ((refine' use9 (rinv_c _ _ ?r217p1 ?r217p2) ?k1 ?k2 ?k3 ?k4 ?k5 ?kK ?kS ?kB ?kW ?kd ?ku ?_); k_extra "my use"; (case r217p1 => omega); (case r217p2 => omega);); k_extra "my back"))
  (k_with "M:call ref" => (k_here; (with_reducible show wpAny _ _ (call (Value.ref 113) _) _ _ _); k_dflt ((refine' use9 (rpowerm_c ) ?k1 ?k2 ?k3 ?k4 ?k5 ?kK ?kS ?kB ?kW ?kd ?ku ?_); k_extra "my use";); k_extra "my back"))
  (k_with "M:call ref" => (k_here; (with_reducible show wpAny _ _ (call (Value.ref 113) _) _ _ _); k_dflt ((refine' use9 (rpower2_c ) ?k1 ?k2 ?k3 ?k4 ?k5 ?kK ?kS ?kB ?kW ?kd ?ku ?_); k_extra "my use";); k_extra "my back"))
  (k_with "M:call ref" => (k_here; (with_reducible show wpAny _ _ (call (Value.ref 113) _) _ _ _); k_dflt ((refine' use9 (rpower2m_c ) ?k1 ?k2 ?k3 ?k4 ?k5 ?kK ?kS ?kB ?kW ?kd ?ku ?_); k_extra "my use";); k_extra "my back"))
  (k_with "M:call ref" => (k_here; (with_reducible show wpAny _ _ (call (Value.ref 113) _) _ _ _); k_dflt ((refine' use9 (rpower1_c _ _ ?r221p1 ?r221p2) ?k1 ?k2 ?k3 ?k4 ?k5 ?kK ?kS ?kB ?kW ?kd ?ku ?_); k_extra "my use"; (case r221p1 => omega); (case r221p2 => omega);); k_extra "my back"))
  (k_with "my key2" => (
  (case W => k_extra "my wn"); (case hk => first | with_reducible assumption | exact rfl | (simp only [keyD, keyD.keyDs, Bool.and_true, Bool.and_self]; done)); (case hd => first | with_reducible assumption | exact Nat.le_of_ble_eq_true rfl | decide | (simp [ofPy, ofPys, WData.depth, WData.depthAll]; done)); (case u => k_extra "my units")))
  (k_with "M:call ref" => (k_here; (with_reducible show wpAny _ _ (call (Value.ref 148) _) _ _ _); k_dflt ((refine' use poly0_c ?k1 ?k2 ?k3 ?k4 ?k5 ?kK ?kS ?kB ?kW ?kd ?ku ?_); k_extra "my use"); k_extra "my back"))
  (k_with "M:call ref" => (k_here; (with_reducible show wpAny _ _ (call (Value.ref 155) _) _ _ _); k_dflt ((refine' use9 (kind_product_c _ _ ?r224p1 ?r224p2) ?k1 ?k2 ?k3 ?k4 ?k5 ?kK ?kS ?kB ?kW ?kd ?ku ?_); k_extra "my use"; (case r224p1 => omega); (case r224p2 => omega)); k_extra "my back"))
  (k_with "M:compareOp NotEq ref ref" => (k_here; k_dflt (first
  | (refine' led_ne (q := true) ?S ?F ?N ?W (fun _ h9 => h9) ?V (fun _ h9 => h9) ?d ?e ?u ?q ?_; k_extra "my eqv")
  | (refine' led_ne (q := false) ?S ?F ?N ?W (fun _ h9 => h9) ?V (fun _ h9 => h9) ?d ?e ?u ?q ?_; k_extra "my eqv"))))
  (k_with "M:call ref" => (k_here; (with_reducible show wpAny _ _ (call (Value.ref 136) _) _ _ _); k_dflt ((refine' gins_use (gins_c ?r226p1 ?r226p2 ?r226p3 ?r226p4 ?r226p5 ?r226p6 ?r226p7) ?k1 ?k2 ?k3 ?k4 ?k5 ?kK ?kS ?kB ?kd ?ku ?r226kU ?r226lo ?r226w1 ?r226w2 ?_); (case k1 => k_asm); (case k2 => k_asm); (case k3 => k_asm); (case k4 => k_asm); (case k5 => k_asm); (case kK => first | exact rfl | assumption); (case kS => k_asm); (case kB => k_asm); (case kd => k_extra "my room"); (case ku => k_extra "my units"); (case r226kU => k_extra "my updG"); (case r226lo => with_reducible assumption); (case r226w1 => k_extra "my wn"); (case r226w2 => k_extra "my wn"); (case r226p1 => exact rfl); (case r226p2 => exact Nat.le_of_ble_eq_true rfl); (case r226p3 => omega); (case r226p4 => omega); (case r226p5 => omega); (case r226p6 => first | with_reducible assumption | exact rfl); (case r226p7 => first | with_reducible assumption | exact rfl)); intro tl9_r o9_r h9_r tk9_r F9_r N9_r O9_r K9_r W9_r; (try dsimp only at N9_r K9_r W9_r); k_sweep; (try dsimp only); (try k_fold)))
  (k_with "M:call ref" => (k_here; (with_reducible show wpAny _ _ (call (Value.ref 162) _) _ _ _); k_dflt ((refine' use9 (gmul_c _ _ _ _ _ _ ?r227p1 ?r227p2 ?r227p3 ?r227p4 ?r227p5 ?r227p6 ?r227p7 ?r227p8) ?k1 ?k2 ?k3 ?k4 ?k5 ?kK ?kS ?kB ?kW ?kd ?ku ?_); k_extra "my use"; (case r227p1 => omega); (case r227p2 => omega); (case r227p3 => omega); (case r227p4 => omega); (case r227p5 => omega); (case r227p6 => omega); (case r227p7 => omega); (case r227p8 => omega)); k_extra "my back"))
  (k_with "M:call ref" => (k_here; (with_reducible show wpAny _ _ (call (Value.ref 174) _) _ _ _); k_dflt ((refine' use9 (fastest_c _ _ _ _ ?r228p1 ?r228p2) ?k1 ?k2 ?k3 ?k4 ?k5 ?kK ?kS ?kB ?kW ?kd ?ku ?_); k_extra "my use"; (case r228p1 => first | with_reducible assumption | exact rfl | (simp only [keyD, keyD.keyDs, Bool.and_true, Bool.and_self]; done)); (case r228p2 => first | with_reducible assumption | exact Nat.le_of_ble_eq_true rfl | decide | (simp [ofPy, ofPys, WData.depth, WData.depthAll]; done))); k_extra "my back"))
  (k_with "M:call ref" => (k_here; (with_reducible show wpAny _ _ (call (Value.ref 167) _) _ _ _); k_dflt ((refine' use9 (kind_compare_c _ _ _ _ ?r229p1 ?r229p2 ?r229p3 ?r229p4) ?k1 ?k2 ?k3 ?k4 ?k5 ?kK ?kS ?kB ?kW ?kd ?ku ?_); k_extra "my use"; (case r229p1 => omega); (case r229p2 => omega); (case r229p3 => omega); (case r229p4 => omega)); k_extra "my back"))
  (k_with "M:call ref" => (k_here; (with_reducible rename Calc _ _ _ _ _ _ _ => C9_r); k_dflt ((refine' use9 ?r230C ?k1 ?k2 ?k3 ?k4 ?k5 ?kK ?kS ?kB ?kW ?kd ?ku ?_); (case k1 => k_asm); (case k2 => k_asm); (case k3 => k_asm); (case k4 => k_asm); (case k5 => k_asm); (case kK => first | exact rfl | assumption); (case kS => k_asm); (case kB => k_asm); (case kW => k_extra "my wns"); (case r230C => with_reducible assumption); (case kd => k_extra "my room"); (case ku => k_extra "my units")); k_extra "my back"))
  (k_with "M:call ref" => (k_here; (with_reducible show wpAny _ _ (call (Value.ref 31) _) _ _ _); k_dflt ((refine' cas_make ?k1 ?k2 ?k3 ?k4 ?k5 ?kK ?kS ?kB ?kd ?ku ?_); (case k1 => k_asm); (case k2 => k_asm); (case k3 => k_asm); (case k4 => k_asm); (case k5 => k_asm); (case kK => first | exact rfl | assumption); (case kS => k_asm); (case kB => k_asm); (case kd => k_extra "my room"); (case ku => k_extra "my units")); intro e9_r d9_r t9_r o9_r h9_r tk9_r l9_r F9_r N9_r s9_r m9_r y9_r n9_r k9_r; (try dsimp only); (refine' ⟨e9_r, _, _, rfl, casC (PySem.W.Frag.In.keeps (by with_reducible assumption) F9_r.keep), (N9_r _ m9_r).1, ?_⟩); (try dsimp only); (refine leave_raiseX (by with_reducible assumption) F9_r N9_r m9_r y9_r s9_r n9_r rfl (by first | exact rfl | assumption) ?_); intro h9_r R9_r U9_r; (try dsimp only)))
  (k_with "M:call ref" => (k_here; (with_reducible rename CalcE _ _ _ _ _ _ => C9_r); k_dflt ((refine' useE ?r232C ?k1 ?k2 ?k3 ?k4 ?k5 ?kK ?kS ?kB ?kW ?kd ?ku ?_); (case k1 => k_asm); (case k2 => k_asm); (case k3 => k_asm); (case k4 => k_asm); (case k5 => k_asm); (case kK => first | exact rfl | assumption); (case kS => k_asm); (case kB => k_asm); (case kW => k_extra "my wns"); (case r232C => with_reducible assumption); (case kd => k_extra "my room"); (case ku => k_extra "my units")); intro e9_r o9_r g9_r h9_r tk9_r F9_r U9_r R9_r K9_r; (try dsimp only); (refine leave_onX (by with_reducible assumption) F9_r R9_r U9_r rfl ?_); intro h9_r R9_r U9_r; (try dsimp only)))
  (k_with "M:call ref" => (k_here; (with_reducible rename DeedE _ _ _ _ _ _ => C9_r); k_dflt ((refine' useD ?r233C ?k1 ?k2 ?k3 ?k4 ?k5 ?kK ?kS ?kB ?kW ?kd ?ku ?_); (case k1 => k_asm); (case k2 => k_asm); (case k3 => k_asm); (case k4 => k_asm); (case k5 => k_asm); (case kK => first | exact rfl | assumption); (case kS => k_asm); (case kB => k_asm); (case r233C => with_reducible assumption); (case kW => first | with_reducible assumption | k_extra "my sub"); (case kd => k_extra "my room"); (case ku => k_extra "my units")); intro e9_r o9_r g9_r h9_r tk9_r F9_r U9_r R9_r K9_r; (try dsimp only)))
  (k_with "M:call ref" => (k_here; (with_reducible show wpAny _ _ (call (Value.ref 477) [Value.ref _, Value.int _ _]) _ _ _); k_dflt ((refine' useTake ?r234p0 ?k1 ?k2 ?k3 ?k4 ?k5 ?kK ?kS ?kB ?kd ?ku ?r234U ?r234m ?r234Z ?r234ms ?r234ne ?r234I ?r234l ?r234i ?_); (case r234p0 => decide); k_extra "my use2"; (case r234U => k_extra "my updG"); (case r234m => k_mem); (case r234Z => first | with_reducible assumption | exact ⟨rfl, _, _, rfl⟩); (case r234ms => k_mem); (case r234ne => k_ne); (case r234I => with_reducible assumption); (case r234l => omega); (case r234i => omega)); (intro r9_r t9_r o9_r h9_r tk9_r p9_r q9_r Z9_r F9_r N9_r K9_r); (try dsimp only at N9_r K9_r); (try dsimp only); (try k_sweep)))
  (k_with "M:call ref" => (k_here; (with_reducible show wpAny _ _ (call (Value.ref 470) _) _ _ _); k_dflt ((refine' useNums ?k1 ?k2 ?k3 ?k4 ?k5 ?kK ?kS ?kB ?kd ?ku ?_); k_extra "my use2"); (intro l9_r c9_r vs9_r tl9_r h9_r tk9_r F9_r N9_r O9_r l9_r W9_r); (try dsimp only); (try k_sweep)))
  (k_with "my go" => repeat' (first | (k_unfold; (try dsimp only)) | (k_end; wrow_close) | ((fail_if_success (k_extra "my stop")); walk1) | (dsimp only; (fail_if_success (k_extra "my stop")); walk1) | (leave1; walk_say "STEP leave1"; try dsimp only) | fail "no step"))
  (k_with "M:call ref" => (k_here; (with_reducible show wpAny _ _ (call (Value.ref 496) _) _ _ _); k_dflt ((refine' useR ?r237hf ?r237C ?k1 ?k2 ?k3 ?k4 ?k5 ?kK ?kS ?kB ?r237kX ?r237kT ?kd ?ku ?_); (case k1 => k_asm); (case k2 => k_asm); (case k3 => k_asm); (case k4 => k_asm); (case k5 => k_asm); (case kK => first | exact rfl | assumption); (case kS => k_asm); (case kB => k_asm); (case r237kX => k_asm); (case r237kT => k_asm); (case kd => k_extra "my room"); (case ku => k_extra "my units"); (case r237hf => k_mem); (case r237C => k_extra "my deed")); (intro t9_r h9_r tk9_r F9_r N9_r); (try dsimp only); (try k_sweep)))
  trivial
theorem rows_63 : True := by
  (k_with "my go" => repeat' (first | (k_unfold; (try dsimp only)) | (k_end; wrow_close) | ((fail_if_success (with_reducible show wpAny _ _ (execs (Stmt.Assign _ _ _ :: _) _) _ _ _)); walk1) | (dsimp only; (fail_if_success (with_reducible show wpAny _ _ (execs (Stmt.Assign _ _ _ :: _) _) _ _ _)); walk1) | (leave1; walk_say "STEP leave1"; try dsimp only) | fail "no step"))
  (k_with "my deed" => (
  unfold DeedE; intro prog8_r p8_r loose8_r mean8_r mg8_r mb8_r dp8_r un8_r gd8_r cn8_r cs8_r a8_r ccd8_r cl8_r outer8_r A8_r base8_r h8_r L8_r m8_r news8_r s8_r Q8_r E8_r Bl8_r F8_r X8_r N8_r T8_r hk8_r S8_r XB8_r hd8_r hu8_r hl8_r hret8_r; (have q1_r := hl8_r _ (List.Mem.head _)); (have q2_r := hl8_r _ (.tail _ (.head _))); (have q3_r := hl8_r _ (.tail _ (.tail _ (.tail _ (.tail _ (.head _)))))); (have q4_r := hl8_r _ (.tail _ (.tail _ (.tail _ (.tail _ (.tail _ (.tail _ (.head _))))))));
  (have K8 : Keep TD _ news8_r := Keep.of_sub hl8_r);
  k_extra "my enterL"; k_steps;
  exact raised_back hret8_r (by with_reducible assumption) (by with_reducible assumption) (by with_reducible assumption) (by with_reducible assumption) (by k_extra "my sub")))
  trivial
section
variable {prog : Program} {w : World} {E : Value → Shared → Prop} {s : Shared} {base : Heap} {L a bx sc c1 c2 c3 : Addr} {m : Str → Option Value} {ob o1 o2 o3 : Obj} {c' : Nat} {xs : List Value} {ns : List Int} {ps : Array Value} {rest : Led} {v1 v2 v3 : Option Value}
  {p : Program} {loose : List Str} {mean : ExcName → Option Value} {mg mb : Str → Option Value} {Q : Flow → Shared → Prop}
theorem seg7a {i n1 d1 n2 d2 : Int} {a1 a2 a3 a4 : Addr} {r0 r1 : Int} {u1 u2 u3 u4 u5 u6 : Tok} {td : PyData} (Bl : Below callerA base [] base) (X : (KQ w.params).In base) (T : Top p loose mean mg mb base) (S : base.StaysIn base) (CH : CodeHd base 502 498)
    (H : LS base L bx sc c1 c2 c3 s.heap m ob o1 o2 o3 c' xs #[] rest) (Z : BoxO ob sc i) (z2 : CellO o2 v2)
    (hone : m (Str.ofString "one") = some (.ref a1)) (hother : m (Str.ofString "other") = some (.ref a2)) (y1 : At base rest a1 (tupO [.int n1 u1, .int d1 u2])) (y2 : At base rest a2 (tupO [.int n2 u3, .int d2 u4]))
    (z1 : CellO o1 (some (.ref a4))) (y4 : At base rest a4 (tupO [.int r0 u5, .int r1 u6])) (z3 : CellO o3 (some (.ref a3))) (W3 : Wn w.params base rest (.ref a3) td)
    (C : CalcE base w 198 30 400 [td, pr r0 r1])
    (he : PyData.eqv (pr n1 d1) (pr n2 d2) = false)
    (next : ∀ h' tk' rest' c4, LS base L bx sc c1 c2 c3 h' m ob o1 o2 o3 c' xs (#[] ++ #[rawInt 480, rawInt 24, .ref c4]) rest' → Keep TD rest rest' →
      Go (wpAny (model prog w) (callerA.deeper (lawEnv L a c1 c2 c3)) (execs (lawRest 8) (lawEnv L a c1 c2 c3)) Q E { s with heap := h', toks := tk' })) :
    Go (wpAny (model prog w) (callerA.deeper (lawEnv L a c1 c2 c3)) (execs (lawRest 7) (lawEnv L a c1 c2 c3)) Q E s) := by
  refine ⟨?_⟩
  obtain ⟨F, N, o498, o12, o23, o3s, osb, rb, rs, r1', r2', r3', rt⟩ := H
  k_extra "my cut"
  k_extra "my go"
  (try dsimp only)
  obtain ⟨rest', H', K9⟩ := LS.of (bx := bx) (sc := sc) (c1 := c1) (c2 := c2) (c3 := c3) (xs := xs) (by with_reducible assumption) (by with_reducible assumption) (by k_mem) (by k_mem) (by k_mem) (by k_mem) (by k_mem) (by k_mem) o498 o12 o23 o3s osb Z z1 z2 z3
  refine Go.go ?g9
  refine' next _ _ rest' _ H' ?k1
  case k1 => k_extra "my keep"
end
theorem rows_64 : True := by
  (k_with "my go" => repeat' (first | (k_unfold; (try dsimp only)) | (k_end; wrow_close) | ((fail_if_success (k_extra "my stop")); walk1) | (dsimp only; (fail_if_success (k_extra "my stop")); walk1) | (leave1; walk_say "STEP leave1"; try dsimp only) | fail "no step"))
  trivial
theorem rows_65 : True := by
  (k_with "my go" => repeat' (first | (k_unfold; (try dsimp only)) | (k_end; wrow_close) | ((fail_if_success (with_reducible show wpAny _ _ (execs (Stmt.Assign _ _ ⟨486, _, _, _⟩ :: _) _) _ _ _)); walk1) | (dsimp only; (fail_if_success (with_reducible show wpAny _ _ (execs (Stmt.Assign _ _ ⟨486, _, _, _⟩ :: _) _) _ _ _)); walk1) | (leave1; walk_say "STEP leave1"; try dsimp only) | fail "no step"))
  (k_with "M:binaryOp Add ref ref" => (k_here; k_dflt (refine' kde_addT ?k1 ?k2 ?k3 ?k4 ?k5 ?r242k6 ?r242k7 ?r242k8 ?_; (case k1 => k_asm); (case k2 => k_asm); (case k3 => exact at_tup (by with_reducible assumption) (by with_reducible assumption) (by with_reducible assumption) (by k_extra "my at") (fun _ h9 => h9)); (case k4 => exact at_tup (by with_reducible assumption) (by with_reducible assumption) (by with_reducible assumption) (by k_extra "my at") (fun _ h9 => h9)); (case k5 => exact List.cons_ne_nil _ _); (case r242k6 => exact List.cons_ne_nil _ _); (case r242k7 => exact Nat.le_of_ble_eq_true rfl); (case r242k8 => kun_lit); k_whole); (intro D'_r h'_r F'_r N'_r l1_r); (try k_sweep)))
  trivial
section
variable {prog : Program} {w : World} {E : Value → Shared → Prop} {s : Shared} {base : Heap} {L a bx sc c1 c2 c3 : Addr} {m : Str → Option Value} {ob o1 o2 o3 : Obj} {c' : Nat} {xs : List Value} {ns : List Int} {ps : Array Value} {rest : Led} {v1 v2 v3 : Option Value}
  {p : Program} {loose : List Str} {mean : ExcName → Option Value} {mg mb : Str → Option Value} {Q : Flow → Shared → Prop}
theorem seg8 {i : Int} (Bl : Below callerA base [] base) (X : (KQ w.params).In base) (T : Top p loose mean mg mb base) (S : base.StaysIn base)
    (H : LS base L bx sc c1 c2 c3 s.heap m ob o1 o2 o3 c' xs ps rest) (Z : BoxO ob sc i) (z1 : CellO o1 v1) (z2 : CellO o2 v2) (z3 : CellO o3 v3) (I : IntsAre xs ns) (hl : ns.length ≤ 12) (hi : 0 ≤ i ∧ i ≤ 20)
    (hbox : m (Str.ofString "box") = some (.ref bx))
    (next : ∀ h' tk' m' ob' rest' k i1 i2 a1 t1 t2, LS base L bx sc c1 c2 c3 h' m' ob' o1 o2 o3 c' xs ps rest' → BoxO ob' sc (i + 1 + 1 + 1) → Keep TD rest rest' → (0 ≤ k ∧ k < 4) → (-2 ≤ i1 ∧ i1 ≤ 2) → (-2 ≤ i2 ∧ i2 ≤ 2) →
      Wn w.params base rest' (.ref a1) (tNum (nN k) (nD k)) →
      m' (Str.ofString "number") = some (.ref a1) → m' (Str.ofString "top") = some (.int i1 t1) → m' (Str.ofString "bottom") = some (.int i2 t2) →
      (∀ y, y ≠ Str.ofString "number" → y ≠ Str.ofString "top" → y ≠ Str.ofString "bottom" → m' y = m y) →
      Go (wpAny (model prog w) (callerA.deeper (lawEnv L a c1 c2 c3)) (execs (lawRest 10) (lawEnv L a c1 c2 c3)) Q E { s with heap := h', toks := tk' })) :
    Go (wpAny (model prog w) (callerA.deeper (lawEnv L a c1 c2 c3)) (execs (lawRest 8) (lawEnv L a c1 c2 c3)) Q E s) := by
  refine ⟨?_⟩
  obtain ⟨F, N, o498, o12, o23, o3s, osb, rb, rs, r1, r2, r3, rt⟩ := H
  k_extra "my cut"
  k_extra "my go"
  obtain ⟨rest', H', K9⟩ := LS.of (bx := bx) (sc := sc) (c1 := c1) (c2 := c2) (c3 := c3) (xs := xs) (by with_reducible assumption) (by with_reducible assumption) (by k_mem) (by k_mem) (by k_mem) (by k_mem) (by k_mem) (by k_mem) o498 o12 o23 o3s osb (by with_reducible assumption) z1 z2 z3
  refine Go.go ?g9
  refine' next _ _ _ _ rest' _ _ _ _ _ _ H' ?z ?k1 ?b0 ?b1 ?b2 ?w ?l1 ?l2 ?l3 ?y
  case z => with_reducible assumption
  case k1 => k_extra "my keep"
  case l1 => k_extra "my look"
  case l2 => k_extra "my look"
  case l3 => k_extra "my look"
  case w => exact Wn.keep K9 (by k_extra "my wn")
  case b0 => omega
  case b1 => omega
  case b2 => omega
  case y =>
    intro y n1 n2 n3
    simp only [if_neg n1, if_neg n2, if_neg n3]
end
theorem rows_66 : True := by
  (k_with "my go" => repeat' (first | (k_unfold; (try dsimp only)) | (k_end; wrow_close) | ((fail_if_success (k_extra "my stop")); walk1) | (dsimp only; (fail_if_success (k_extra "my stop")); walk1) | (leave1; walk_say "STEP leave1"; try dsimp only) | fail "no step"))
  trivial
section
variable {base h : Heap} {L bx sc c1 c2 c3 : Addr} {m : Str → Option Value} {ob o1 o2 o3 : Obj} {c' : Nat} {xs : List Value} {ps : Array Value} {led : Led} {i : Int} {v1 v2 v3 : Option Value}
/-- the same, and what else stands on the ledger stands in the rest -/
theorem LS.of2 (F : Fr base L h m) (N : News base L h led) (hb : (bx, ob) ∈ led) (hs : (sc, listOf xs.toArray c') ∈ led) (h1 : (c1, o1) ∈ led) (h2 : (c2, o2) ∈ led) (h3 : (c3, o3) ∈ led) (ht : (498, tabObj ps) ∈ led)
    (o498 : @LT.lt Nat _ 498 c1) (o12 : @LT.lt Nat _ c1 c2) (o23 : @LT.lt Nat _ c2 c3) (o3s : @LT.lt Nat _ c3 sc) (osb : @LT.lt Nat _ sc bx) (Z : BoxO ob sc i) (z1 : CellO o1 v1) (z2 : CellO o2 v2) (z3 : CellO o3 v3) :
    ∃ rest, LS base L bx sc c1 c2 c3 h m ob o1 o2 o3 c' xs ps rest ∧ Keep TD led rest ∧ ∀ q ∈ led, q.1 ≠ bx → q.1 ≠ sc → q.1 ≠ c1 → q.1 ≠ c2 → q.1 ≠ c3 → q.1 ≠ 498 → q ∈ rest := by
  obtain ⟨rest, H, K⟩ := LS.of F N hb hs h1 h2 h3 ht o498 o12 o23 o3s osb Z z1 z2 z3
  let r2 := led.filter (fun p => p.1 != bx && p.1 != sc && p.1 != c1 && p.1 != c2 && p.1 != c3 && p.1 != 498)
  have key : ∀ p ∈ r2, p ∈ led ∧ p.1 ≠ bx ∧ p.1 ≠ sc ∧ p.1 ≠ c1 ∧ p.1 ≠ c2 ∧ p.1 ≠ c3 ∧ p.1 ≠ 498 := fun p hp => by
    have := List.mem_filter.mp hp
    simpa only [Bool.and_eq_true, bne_iff_ne, ne_eq, and_assoc] using this
  refine ⟨rest ++ r2, ⟨F, fun p hp => ?_, o498, o12, o23, o3s, osb, fun p hp => ?_, fun p hp => ?_, fun p hp => ?_, fun p hp => ?_, fun p hp => ?_, fun p hp => ?_⟩, fun p hp t => List.mem_append.mpr (.inl (K p hp t)), fun q hq n1 n2 n3 n4 n5 n6 => List.mem_append.mpr (.inr (List.mem_filter.mpr ⟨hq, by simp only [Bool.and_eq_true, bne_iff_ne, ne_eq]; exact ⟨⟨⟨⟨⟨n1, n2⟩, n3⟩, n4⟩, n5⟩, n6⟩⟩))⟩
  · have := H.N p
    simp only [List.mem_cons, List.mem_append] at hp this
    rcases hp with hp | hp | hp | hp | hp | hp | hp | hp
    · exact this (.inl hp)
    · exact this (.inr (.inl hp))
    · exact this (.inr (.inr (.inl hp)))
    · exact this (.inr (.inr (.inr (.inl hp))))
    · exact this (.inr (.inr (.inr (.inr (.inl hp)))))
    · exact this (.inr (.inr (.inr (.inr (.inr (.inl hp))))))
    · exact this (.inr (.inr (.inr (.inr (.inr (.inr hp))))))
    · exact N p (key p hp).1
  all_goals rcases List.mem_append.mp hp with hp | hp
  · exact H.rb p hp
  · exact (key p hp).2.1
  · exact H.rs p hp
  · exact (key p hp).2.2.1
  · exact H.r1 p hp
  · exact (key p hp).2.2.2.1
  · exact H.r2 p hp
  · exact (key p hp).2.2.2.2.1
  · exact H.r3 p hp
  · exact (key p hp).2.2.2.2.2.1
  · exact H.rt p hp
  · exact (key p hp).2.2.2.2.2.2
end
theorem rows_67 : True := by
  (k_with "my go" => repeat' (first | (k_unfold; (try dsimp only)) | (k_end; wrow_close) | ((fail_if_success (with_reducible show wpAny _ _ (execs (Stmt.Assign _ _ ⟨488, _, _, _⟩ :: _) _) _ _ _)); walk1) | (dsimp only; (fail_if_success (with_reducible show wpAny _ _ (execs (Stmt.Assign _ _ ⟨488, _, _, _⟩ :: _) _) _ _ _)); walk1) | (leave1; walk_say "STEP leave1"; try dsimp only) | fail "no step"))
  trivial
section
variable {prog : Program} {w : World} {E : Value → Shared → Prop} {s : Shared} {base : Heap} {L a bx sc c1 c2 c3 : Addr} {m : Str → Option Value} {ob o1 o2 o3 : Obj} {c' : Nat} {xs : List Value} {ns : List Int} {ps : Array Value} {rest : Led} {v1 v2 v3 : Option Value}
  {p : Program} {loose : List Str} {mean : ExcName → Option Value} {mg mb : Str → Option Value} {Q : Flow → Shared → Prop}
theorem seg9 {i n d t b : Int} {a1 ax : Addr} {u1 u2 : Tok} (Bl : Below callerA base [] base) (X : (KQ w.params).In base) (T : Top p loose mean mg mb base) (S : base.StaysIn base)
    (H : LS base L bx sc c1 c2 c3 s.heap m ob o1 o2 o3 c' xs ps rest) (Z : BoxO ob sc i) (z1 : CellO o1 v1) (z2 : CellO o2 v2) (z3 : CellO o3 v3)
    (hx : m (Str.ofString "x") = some (.ref ax)) (Wx : Wn w.params base rest (.ref ax) tX) (hn : m (Str.ofString "number") = some (.ref a1)) (W1 : Wn w.params base rest (.ref a1) (tNum n d))
    (ht : m (Str.ofString "top") = some (.int t u1)) (hb : m (Str.ofString "bottom") = some (.int b u2))
    (next : ∀ h' tk' m' rest' q, LS base L bx sc c1 c2 c3 h' m' ob o1 o2 o3 c' xs ps rest' → Keep TD rest rest' → Wn w.params base rest' (.ref q) (tQuo tX n d t b) →
      m' (Str.ofString "quotient") = some (.ref q) → (∀ y, y ≠ Str.ofString "lower" → y ≠ Str.ofString "quotient" → m' y = m y) →
      Go (wpAny (model prog w) (callerA.deeper (lawEnv L a c1 c2 c3)) (execs (lawRest 12) (lawEnv L a c1 c2 c3)) Q E { s with heap := h', toks := tk' })) :
    Go (wpAny (model prog w) (callerA.deeper (lawEnv L a c1 c2 c3)) (execs (lawRest 10) (lawEnv L a c1 c2 c3)) Q E s) := by
  refine ⟨?_⟩
  obtain ⟨F, N, o498, o12, o23, o3s, osb, rb, rs, r1', r2', r3', rt⟩ := H
  k_extra "my cut"
  k_extra "my go"
  obtain ⟨rest', H', K9⟩ := LS.of (bx := bx) (sc := sc) (c1 := c1) (c2 := c2) (c3 := c3) (xs := xs) (by with_reducible assumption) (by with_reducible assumption) (by k_mem) (by k_mem) (by k_mem) (by k_mem) (by k_mem) (by k_mem) o498 o12 o23 o3s osb Z z1 z2 z3
  refine Go.go ?g9
  refine' next _ _ _ rest' _ H' ?k1 ?w ?l1 ?y
  case k1 => k_extra "my keep"
  case l1 => k_extra "my look"
  case w => exact Wn.keep K9 (by k_extra "my wn")
  case y =>
    intro y n1 n2
    simp only [if_neg n1, if_neg n2]
end
theorem rows_68 : True := by
  (k_with "my go" => repeat' (first | (k_unfold; (try dsimp only)) | (k_end; wrow_close) | ((fail_if_success (k_extra "my stop")); walk1) | (dsimp only; (fail_if_success (k_extra "my stop")); walk1) | (leave1; walk_say "STEP leave1"; try dsimp only) | fail "no step"))
  trivial
theorem rows_69 : True := by
  (k_with "my go" => repeat' (first | (k_unfold; (try dsimp only)) | (k_end; wrow_close) | ((fail_if_success (with_reducible show wpAny _ _ (execs (Stmt.Assign _ _ ⟨491, _, _, _⟩ :: _) _) _ _ _)); walk1) | (dsimp only; (fail_if_success (with_reducible show wpAny _ _ (execs (Stmt.Assign _ _ ⟨491, _, _, _⟩ :: _) _) _ _ _)); walk1) | (leave1; walk_say "STEP leave1"; try dsimp only) | fail "no step"))
  trivial
section
variable {prog : Program} {w : World} {E : Value → Shared → Prop} {s : Shared} {base : Heap} {L a bx sc c1 c2 c3 : Addr} {m : Str → Option Value} {ob o1 o2 o3 : Obj} {c' : Nat} {xs : List Value} {ns : List Int} {ps : Array Value} {rest : Led} {v1 v2 v3 : Option Value}
  {p : Program} {loose : List Str} {mean : ExcName → Option Value} {mg mb : Str → Option Value} {Q : Flow → Shared → Prop}
theorem seg12a {i n d t b : Int} {a4 q : Addr} {r0 r1 : Int} {u5 u6 : Tok} (Bl : Below callerA base [] base) (X : (KQ w.params).In base) (T : Top p loose mean mg mb base) (S : base.StaysIn base)
    (H : LS base L bx sc c1 c2 c3 s.heap m ob o1 o2 o3 c' xs ps rest) (Z : BoxO ob sc i) (z2 : CellO o2 v2) (z3 : CellO o3 v3) (z1 : CellO o1 (some (.ref a4))) (y4 : At base rest a4 (tupO [.int r0 u5, .int r1 u6]))
    (hq : m (Str.ofString "quotient") = some (.ref q)) (Wq : Wn w.params base rest (.ref q) (tQuo tX n d t b)) (he : PyData.eqv (pr r0 r1) (pr 1 2) = true)
    (next : ∀ h' tk' m' rest' rl c4 q1 q2, LS base L bx sc c1 c2 c3 h' m' ob o1 o2 o3 c' xs ps rest' → Keep TD rest rest' → (rl, listOf ([.ref q1, .ref q2] : List Value).toArray c4) ∈ rest' →
      Wn w.params base rest' (.ref q1) (tPow (tQuo tX n d t b) r0 r1) → Wn w.params base rest' (.ref q2) (tSqrt (tQuo tX n d t b)) →
      m' (Str.ofString "roots") = some (.ref rl) → (∀ y, y ≠ Str.ofString "roots" → m' y = m y) →
      Go (wpAny (model prog w) (callerA.deeper (lawEnv L a c1 c2 c3)) (execs (lawRest 14) (lawEnv L a c1 c2 c3)) Q E { s with heap := h', toks := tk' })) :
    Go (wpAny (model prog w) (callerA.deeper (lawEnv L a c1 c2 c3)) (execs (lawRest 12) (lawEnv L a c1 c2 c3)) Q E s) := by
  refine ⟨?_⟩
  obtain ⟨F, N, o498, o12, o23, o3s, osb, rb, rs, r1', r2', r3', rt⟩ := H
  k_extra "my cut"
  k_extra "my go"
  (try dsimp only)
  obtain ⟨rest', H', K9, hin⟩ := LS.of2 (bx := bx) (sc := sc) (c1 := c1) (c2 := c2) (c3 := c3) (xs := xs) (by with_reducible assumption) (by with_reducible assumption) (by k_mem) (by k_mem) (by k_mem) (by k_mem) (by k_mem) (by k_mem) o498 o12 o23 o3s osb Z z1 z2 z3
  refine Go.go ?g9
  refine' next _ _ _ rest' _ _ _ _ H' ?k1 ?mem ?w1 ?w2 ?l1 ?y
  case l1 => k_extra "my look"
  case mem => exact hin _ (by k_mem) (by k_extra "my ne") (by k_extra "my ne") (by k_extra "my ne") (by k_extra "my ne") (by k_extra "my ne") (by k_extra "my ne")
  case k1 => k_extra "my keep"
  case w1 => exact Wn.keep K9 (by k_extra "my wn")
  case w2 => exact Wn.keep K9 (by k_extra "my wn")
  case y => exact fun y n1 => if_neg n1
theorem seg12b {i n d t b : Int} {a4 q : Addr} {r0 r1 : Int} {u5 u6 : Tok} (Bl : Below callerA base [] base) (X : (KQ w.params).In base) (T : Top p loose mean mg mb base) (S : base.StaysIn base)
    (H : LS base L bx sc c1 c2 c3 s.heap m ob o1 o2 o3 c' xs ps rest) (Z : BoxO ob sc i) (z2 : CellO o2 v2) (z3 : CellO o3 v3) (z1 : CellO o1 (some (.ref a4))) (y4 : At base rest a4 (tupO [.int r0 u5, .int r1 u6]))
    (hq : m (Str.ofString "quotient") = some (.ref q)) (Wq : Wn w.params base rest (.ref q) (tQuo tX n d t b)) (he : PyData.eqv (pr r0 r1) (pr 1 2) = false)
    (next : ∀ h' tk' m' rest' rl c4 q1 q2, LS base L bx sc c1 c2 c3 h' m' ob o1 o2 o3 c' xs ps rest' → Keep TD rest rest' → (rl, listOf ([.ref q1] : List Value).toArray c4) ∈ rest' →
      Wn w.params base rest' (.ref q1) (tPow (tQuo tX n d t b) r0 r1) → (q1 = q2) →
      m' (Str.ofString "roots") = some (.ref rl) → (∀ y, y ≠ Str.ofString "roots" → m' y = m y) →
      Go (wpAny (model prog w) (callerA.deeper (lawEnv L a c1 c2 c3)) (execs (lawRest 14) (lawEnv L a c1 c2 c3)) Q E { s with heap := h', toks := tk' })) :
    Go (wpAny (model prog w) (callerA.deeper (lawEnv L a c1 c2 c3)) (execs (lawRest 12) (lawEnv L a c1 c2 c3)) Q E s) := by
  refine ⟨?_⟩
  obtain ⟨F, N, o498, o12, o23, o3s, osb, rb, rs, r1', r2', r3', rt⟩ := H
  k_extra "my cut"
  k_extra "my go"
  (try dsimp only)
  obtain ⟨rest', H', K9, hin⟩ := LS.of2 (bx := bx) (sc := sc) (c1 := c1) (c2 := c2) (c3 := c3) (xs := xs) (by with_reducible assumption) (by with_reducible assumption) (by k_mem) (by k_mem) (by k_mem) (by k_mem) (by k_mem) (by k_mem) o498 o12 o23 o3s osb Z z1 z2 z3
  refine Go.go ?g9
  refine' next _ _ _ rest' _ _ _ _ H' ?k1 ?mem ?w1 ?w2 ?l1 ?y
  case l1 => k_extra "my look"
  case mem => exact hin _ (by k_mem) (by k_extra "my ne") (by k_extra "my ne") (by k_extra "my ne") (by k_extra "my ne") (by k_extra "my ne") (by k_extra "my ne")
  case k1 => k_extra "my keep"
  case w1 => exact Wn.keep K9 (by k_extra "my wn")
  case w2 => rfl
  case y => exact fun y n1 => if_neg n1
end
theorem rows_70 : True := by
  (k_with "my go" => repeat' (first | (k_unfold; (try dsimp only)) | (k_end; wrow_close) | ((fail_if_success (k_extra "my stop")); walk1) | (dsimp only; (fail_if_success (k_extra "my stop")); walk1) | (leave1; walk_say "STEP leave1"; try dsimp only) | fail "no step"))
  trivial
theorem rows_71 : True := by
  (k_with "my go" => repeat' (first | (k_unfold; (try dsimp only)) | (k_end; wrow_close) | ((fail_if_success (with_reducible show wpAny _ _ (execs (Stmt.For _ _ _ _ _ :: _) _) _ _ _)); walk1) | (dsimp only; (fail_if_success (with_reducible show wpAny _ _ (execs (Stmt.For _ _ _ _ _ :: _) _) _ _ _)); walk1) | (leave1; walk_say "STEP leave1"; try dsimp only) | fail "no step"))
  trivial
section
variable {prog : Program} {w : World} {E : Value → Shared → Prop} {s : Shared} {base : Heap} {L a bx sc c1 c2 c3 : Addr} {m : Str → Option Value} {ob o1 o2 o3 : Obj} {c' : Nat} {xs : List Value} {ns : List Int} {ps : Array Value} {rest : Led} {v1 v2 v3 : Option Value}
  {p : Program} {loose : List Str} {mean : ExcName → Option Value} {mg mb : Str → Option Value} {Q : Flow → Shared → Prop}
theorem seg14 {i t b : Int} {a4 rl : Addr} {lo : Obj} {r0 r1 : Int} {u1 u2 u5 u6 : Tok} (Bl : Below callerA base [] base) (X : (KQ w.params).In base) (T : Top p loose mean mg mb base) (S : base.StaysIn base)
    (H : LS base L bx sc c1 c2 c3 s.heap m ob o1 o2 o3 c' xs ps rest) (Z : BoxO ob sc i) (z2 : CellO o2 v2) (z3 : CellO o3 v3) (z1 : CellO o1 (some (.ref a4))) (y4 : At base rest a4 (tupO [.int r0 u5, .int r1 u6]))
    (ht : m (Str.ofString "top") = some (.int t u1)) (hb : m (Str.ofString "bottom") = some (.int b u2)) (bt : -2 ≤ t ∧ t ≤ 2) (bb : -2 ≤ b ∧ b ≤ 2) (br : -4 ≤ r0 ∧ r0 ≤ 4) (hrl : (rl, lo) ∈ rest)
    (next : ∀ h' tk' m' rest' v, LS base L bx sc c1 c2 c3 h' m' ob o1 o2 o3 c' xs ps rest' → Keep TD rest rest' → (rl, lo) ∈ rest' → Wn w.params base rest' v (dueD ((t - b) * r0)) →
      m' (Str.ofString "due") = some v → (∀ y, y ≠ Str.ofString "far" → y ≠ Str.ofString "due" → m' y = m y) →
      Go (wpAny (model prog w) (callerA.deeper (lawEnv L a c1 c2 c3)) (execs (lawRest 16) (lawEnv L a c1 c2 c3)) Q E { s with heap := h', toks := tk' })) :
    Go (wpAny (model prog w) (callerA.deeper (lawEnv L a c1 c2 c3)) (execs (lawRest 14) (lawEnv L a c1 c2 c3)) Q E s) := by
  refine ⟨?_⟩
  obtain ⟨F, N, o498, o12, o23, o3s, osb, rb, rs, r1', r2', r3', rt⟩ := H
  have b1 : -4 ≤ t - b ∧ t - b ≤ 4 := by omega
  have b2 := mulB b1 br
  have hrl9 : List.Mem (rl, lo) rest := hrl
  k_extra "my cut"
  k_extra "my go"
  · obtain ⟨rest', H', K9, hin⟩ := LS.of2 (bx := bx) (sc := sc) (c1 := c1) (c2 := c2) (c3 := c3) (xs := xs) (by with_reducible assumption) (by with_reducible assumption) (by k_mem) (by k_mem) (by k_mem) (by k_mem) (by k_mem) (by k_mem) o498 o12 o23 o3s osb Z z1 z2 z3
    refine Go.go ?g9a
    refine' next _ _ _ rest' _ H' ?k1a ?mema ?wa ?l1a ?ya
    case l1a => k_extra "my look"
    case mema => exact hin _ (by k_mem) (rb _ hrl) (rs _ hrl) (r1' _ hrl) (r2' _ hrl) (r3' _ hrl) (rt _ hrl)
    case k1a => k_extra "my keep"
    case wa =>
      rw [show dueD ((t - b) * r0) = Mine.S "inf" from if_pos (by omega)]
      exact Wn.keep K9 (by k_extra "my wn")
    case ya =>
      intro y n1 n2
      simp only [if_neg n1, if_neg n2]
  · obtain ⟨rest', H', K9, hin⟩ := LS.of2 (bx := bx) (sc := sc) (c1 := c1) (c2 := c2) (c3 := c3) (xs := xs) (by with_reducible assumption) (by with_reducible assumption) (by k_mem) (by k_mem) (by k_mem) (by k_mem) (by k_mem) (by k_mem) o498 o12 o23 o3s osb Z z1 z2 z3
    refine Go.go ?g9b
    refine' next _ _ _ rest' _ H' ?k1b ?memb ?wb ?l1b ?yb
    case l1b => k_extra "my look"
    case memb => exact hin _ (by k_mem) (rb _ hrl) (rs _ hrl) (r1' _ hrl) (r2' _ hrl) (r3' _ hrl) (rt _ hrl)
    case k1b => k_extra "my keep"
    case wb =>
      rw [show dueD ((t - b) * r0) = pr 0 1 from (if_neg (by omega)).trans (if_pos (by omega))]
      exact Wn.keep K9 (by k_extra "my wn")
    case yb =>
      intro y n1 n2
      simp only [if_neg n1, if_neg n2]
  · obtain ⟨rest', H', K9, hin⟩ := LS.of2 (bx := bx) (sc := sc) (c1 := c1) (c2 := c2) (c3 := c3) (xs := xs) (by with_reducible assumption) (by with_reducible assumption) (by k_mem) (by k_mem) (by k_mem) (by k_mem) (by k_mem) (by k_mem) o498 o12 o23 o3s osb Z z1 z2 z3
    refine Go.go ?g9c
    refine' next _ _ _ rest' _ H' ?k1c ?memc ?wc ?l1c ?yc
    case l1c => k_extra "my look"
    case memc => exact hin _ (by k_mem) (rb _ hrl) (rs _ hrl) (r1' _ hrl) (r2' _ hrl) (r3' _ hrl) (rt _ hrl)
    case k1c => k_extra "my keep"
    case wc =>
      
      rw [show dueD ((t - b) * r0) = pr 1 1 from (if_neg (by omega)).trans (if_neg (by omega))]
      exact Wn.keep K9 (by k_extra "my wn")
    case yc =>
      intro y n1 n2
      simp only [if_neg n1, if_neg n2]
end
theorem rows_72 : True := by
  (k_with "my go" => repeat' (first | (k_unfold; (try dsimp only)) | (k_end; wrow_close) | ((fail_if_success (k_extra "my stop")); walk1) | (dsimp only; (fail_if_success (k_extra "my stop")); walk1) | (leave1; walk_say "STEP leave1"; try dsimp only) | fail "no step"))
  trivial
def lawForP : PySem.Expr × List Stmt := match lawRest 16 with
  | .For t _ b _ _ :: _ => (t, b)
  | _ => (.Constant .none 0 ⟨0, 0, 0, 0⟩, [])
def lawForS : { b : PySem.Expr × List Stmt // lawForP = b } := ⟨_, by conv => lhs; whnf⟩
abbrev lawTurns (prog : Program) (w : World) (L a c1 c2 c3 : Addr) (Q : Flow → Shared → Prop) (it : Addr) (k : Nat) (s : Shared) : Prop :=
  Turns prog w (callerA.deeper (lawEnv L a c1 c2 c3)) (lawEnv L a c1 c2 c3) lawForS.1.1 lawForS.1.2 Q (.ref it) k s
/-- a turn's test as the law writes it -/
theorem notTD_li {o : Obj} {l : Addr} {i : Nat} (z : LI o l i) : ¬ TD o := notTD z.c (by decide) (by decide)
theorem LS.it {base h : Heap} {L bx sc c1 c2 c3 it : Addr} {m : Str → Option Value} {ob o1 o2 o3 oit : Obj} {c' : Nat} {xs : List Value} {ps : Array Value} {rest : Led} (H : LS base L bx sc c1 c2 c3 h m ob o1 o2 o3 c' xs ps rest) (hit : (it, oit) ∈ rest) (nt : ¬ TD oit) :
    ∃ rest2, News base L h ((it, oit) :: (bx, ob) :: (sc, listOf xs.toArray c') :: (c1, o1) :: (c2, o2) :: (c3, o3) :: (498, tabObj ps) :: rest2) ∧ (∀ p ∈ rest2, p.1 ≠ it) ∧ (∀ p ∈ rest2, p ∈ rest) ∧ Keep TD rest rest2 ∧ (∀ q ∈ rest, q.1 ≠ it → q ∈ rest2) := by
  have key : ∀ p ∈ rest.filter (fun p => p.1 != it), p ∈ rest ∧ p.1 ≠ it := fun p hp => by
    have := List.mem_filter.mp hp
    simpa only [bne_iff_ne, ne_eq] using this
  have mk : ∀ q ∈ rest, q.1 ≠ it → q ∈ rest.filter (fun p => p.1 != it) := fun q hq n => List.mem_filter.mpr ⟨hq, by simpa only [bne_iff_ne, ne_eq] using n⟩
  have inr : ∀ p ∈ rest, p ∈ (bx, ob) :: (sc, listOf xs.toArray c') :: (c1, o1) :: (c2, o2) :: (c3, o3) :: (498, tabObj ps) :: rest := fun p hp => .tail _ (.tail _ (.tail _ (.tail _ (.tail _ (.tail _ hp)))))
  refine ⟨rest.filter (fun p => p.1 != it), fun p hp => ?_, fun p hp => (key p hp).2, fun p hp => (key p hp).1, fun p hp t => mk p hp fun q => nt ?_, mk⟩
  · have N := H.N
    rcases List.mem_cons.mp hp with rfl | hp
    · exact N _ (inr _ hit)
    · refine N p ?_
      simp only [List.mem_cons] at hp ⊢
      rcases hp with hp | hp | hp | hp | hp | hp | hp
      · exact .inl hp
      · exact .inr (.inl hp)
      · exact .inr (.inr (.inl hp))
      · exact .inr (.inr (.inr (.inl hp)))
      · exact .inr (.inr (.inr (.inr (.inl hp))))
      · exact .inr (.inr (.inr (.inr (.inr (.inl hp)))))
      · exact .inr (.inr (.inr (.inr (.inr (.inr (key p hp).1)))))
  · have e1 := (H.N p (inr p hp)).1
    have e2 := (H.N _ (inr _ hit)).1
    rw [q, e2] at e1
    cases e1
    exact t
theorem rows_73 : True := by
  (k_with "my go" => repeat' (first | (k_unfold; (try dsimp only)) | (k_end; wrow_close) | ((fail_if_success (with_reducible show Turns _ _ _ _ _ _ _ _ _ _)); walk1) | (dsimp only; (fail_if_success (with_reducible show Turns _ _ _ _ _ _ _ _ _ _)); walk1) | (leave1; walk_say "STEP leave1"; try dsimp only) | fail "no step"))
  (k_with "M:compareOp NotEq" => (k_here; k_dflt (refine' led_ne (q := true) ?S ?F ?N ?W (fun _ h9 => h9) ?V (fun _ h9 => h9) ?d ?e ?u ?q ?_; (case S => with_reducible assumption); (case F => with_reducible assumption); (case N => with_reducible assumption); (case W => k_extra "my wn"); (case V => k_extra "my wn"); (case d => with_reducible assumption); (case e => with_reducible assumption); (case u => k_extra "my units"); (case q => with_reducible assumption))))
  trivial
section
variable {prog : Program} {w : World} {s : Shared} {base : Heap} {L a bx sc c1 c2 c3 it rl : Addr} {m : Str → Option Value} {ob o1 o2 o3 oit : Obj} {c' cn i0 k : Nat} {xs lv : List Value} {ps : Array Value} {rest : Led} {v1 v2 v3 : Option Value}
  {p : Program} {loose : List Str} {mean : ExcName → Option Value} {mg mb : Str → Option Value} {Q : Flow → Shared → Prop}
theorem turnE {i t b : Int} {v vd : Value} {rd due : PyData} {u1 u2 : Tok} (Bl : Below callerA base [] base) (X : (KQ w.params).In base) (T : Top p loose mean mg mb base) (S : base.StaysIn base)
    (H : LS base L bx sc c1 c2 c3 s.heap m ob o1 o2 o3 c' xs ps rest) (Z : BoxO ob sc i) (z1 : CellO o1 v1) (z2 : CellO o2 v2) (z3 : CellO o3 v3)
    (hit : (it, oit) ∈ rest) (z : LI oit rl i0) (hrl : (rl, listOf lv.toArray cn) ∈ rest) (hri : rl ≠ it) (hx : lv.toArray[i0]? = some v) (Wv : Wn w.params base rest v rd)
    (hdue : m (Str.ofString "due") = some vd) (Wd : Wn w.params base rest vd due) (hsh : SeqAt.shaped due = true) (heq : PyData.eqv due due = true)
    (ht : m (Str.ofString "top") = some (.int t u1)) (hb : m (Str.ofString "bottom") = some (.int b u2)) (bt : -2 ≤ t ∧ t ≤ 2) (bb : -2 ≤ b ∧ b ≤ 2)
    (he : Int.fmod (t - b) 2 ≠ 1) (C : Calc base w 463 80 2000 [rd, Mine.S "x", Mine.S "-inf", .int 0] due)
    (next : ∀ h' tk' o2' rest' oit', LS base L bx sc c1 c2 c3 h' m ob o1 o2' o3 c' xs ps rest' → CellO o2' (some v) → (it, oit') ∈ rest' → LI oit' rl (i0 + 1) → (rl, listOf lv.toArray cn) ∈ rest' → Keep TD rest rest' →
      Go (lawTurns prog w L a c1 c2 c3 Q it k { s with heap := h', toks := tk' })) :
    lawTurns prog w L a c1 c2 c3 Q it (k + 1) s := by
  obtain ⟨rest2, N, ri, rsub, K2, hin2⟩ := H.it hit (notTD_li z)
  have h1 : @Ne Nat it bx := H.rb _ hit
  have h2 : @Ne Nat it sc := H.rs _ hit
  have h3 : @Ne Nat it c1 := H.r1 _ hit
  have h4 : @Ne Nat it c2 := H.r2 _ hit
  have h5 : @Ne Nat it c3 := H.r3 _ hit
  have h6 : @Ne Nat it 498 := H.rt _ hit
  have F := H.F
  have rb : ∀ p ∈ rest2, p.1 ≠ bx := fun p hp => H.rb p (rsub p hp)
  have rs : ∀ p ∈ rest2, p.1 ≠ sc := fun p hp => H.rs p (rsub p hp)
  have r1 : ∀ p ∈ rest2, p.1 ≠ c1 := fun p hp => H.r1 p (rsub p hp)
  have r2 : ∀ p ∈ rest2, p.1 ≠ c2 := fun p hp => H.r2 p (rsub p hp)
  have r3 : ∀ p ∈ rest2, p.1 ≠ c3 := fun p hp => H.r3 p (rsub p hp)
  have rt : ∀ p ∈ rest2, p.1 ≠ 498 := fun p hp => H.rt p (rsub p hp)
  have hrl2 := hin2 _ hrl hri
  have hrl9 : List.Mem (rl, listOf lv.toArray cn) rest2 := hrl2
  have o498 := H.o498
  have o12 := H.o12
  have o23 := H.o23
  have o3s := H.o3s
  have osb := H.osb
  refine turns_succ ?_
  refine led_nextL F N (by k_mem) z hx (.head (by k_extra "my nes")) fun o' h' z' F' N' K' => ?_
  clear N F
  dsimp only at N' K' ⊢
  show wpAny _ _ (assign (PySem.Expr.Name _ _) _ _) (fun _ s₂ => wpAny _ _ (execs [_] _) _ _ s₂) _ _
  k_extra "my go"
  obtain ⟨rest', H', K9, hin⟩ := LS.of2 (bx := bx) (sc := sc) (c1 := c1) (c2 := c2) (c3 := c3) (xs := xs) (by with_reducible assumption) (by with_reducible assumption) (by k_mem) (by k_mem) (by k_mem) (by k_mem) (by k_mem) (by k_mem) o498 o12 o23 o3s osb Z z1 (by with_reducible assumption) z3
  refine Go.go ?g9
  refine' next _ _ _ rest' _ H' ?z ?hit ?li ?hrl ?k1
  case z => with_reducible assumption
  case hit => exact hin _ (by k_mem) h1 h2 h3 h4 h5 h6
  case li => with_reducible assumption
  case hrl => exact hin _ (by k_mem) (H.rb _ hrl) (H.rs _ hrl) (H.r1 _ hrl) (H.r2 _ hrl) (H.r3 _ hrl) (H.rt _ hrl)
  case k1 => k_extra "my keep"
end
theorem rows_74 : True := by
  (k_with "my go" => repeat' (first | (k_unfold; (try dsimp only)) | (k_end; wrow_close) | ((fail_if_success (k_extra "my stop")); walk1) | (dsimp only; (fail_if_success (k_extra "my stop")); walk1) | (leave1; walk_say "STEP leave1"; try dsimp only) | fail "no step"))
  trivial
structure CodeAt (c : Addr) (oc : Obj) (rest : Led) : Prop where
  mem : (c, oc) ∈ rest
theorem rows_75 : True := by
  (k_with "my go" => repeat' (first | (k_unfold; (try dsimp only)) | (k_end; wrow_close) | ((fail_if_success (with_reducible show Turns _ _ _ _ _ _ _ _ _ _)); walk1) | (dsimp only; (fail_if_success (with_reducible show Turns _ _ _ _ _ _ _ _ _ _)); walk1) | (leave1; walk_say "STEP leave1"; try dsimp only) | fail "no step"))
  (k_with "M:eval Lambda" => (k_here; k_dflt (refine' kla_eval ?r254d0 ?_; (case r254d0 => exact rfl)); k_dflt (refine' kla_nest ?F ?N ?r254T ?r254C ?r254cd ?r254U ?r254t ?r254n ?r254cl ?_; (case F => with_reducible assumption); (case N => with_reducible assumption); (case r254T => k_asm); (case r254cd => exact rfl); (case r254C => k_asm); (case r254U => k_updF); (case r254t => with_reducible assumption); (case r254n => with_reducible assumption); (case r254cl => exact rfl); k_whole); (intro f'_r c'_r oc'_r vs'_r t'_r ct'_r h'_r tk'_r F'_r N'_r d1'_r d2'_r l1_r l2_r); (try dsimp only at N'_r); (try k_lt l1_r); (try k_lt2 l2_r)))
  (k_with "my deed" => (
  unfold DeedE; intro prog8_r p8_r loose8_r mean8_r mg8_r mb8_r dp8_r un8_r gd8_r cn8_r cs8_r a8_r ccd8_r cl8_r outer8_r A8_r base8_r h8_r L8_r m8_r news8_r s8_r Q8_r E8_r Bl8_r F8_r X8_r N8_r T8_r hk8_r S8_r XB8_r hd8_r hu8_r hl8_r hret8_r;
  (have q1_r := hl8_r _ (List.Mem.head _)); (have q2_r := hl8_r _ (.tail _ (.head _))); (have q3_r := hl8_r _ (.tail _ (.tail _ (.tail _ (.tail _ (.tail _ (.tail _ (.head _))))))));
  (have K8 : Keep TD _ news8_r := Keep.of_sub hl8_r);
  k_extra "my enterL"; k_steps;
  exact raised_back hret8_r (by with_reducible assumption) (by with_reducible assumption) (by with_reducible assumption) (by with_reducible assumption) (by k_extra "my sub")))
  trivial
section
variable {prog : Program} {w : World} {s : Shared} {base : Heap} {L a bx sc c1 c2 c3 it rl : Addr} {m : Str → Option Value} {ob o1 o2 o3 oit : Obj} {c' cn i0 k : Nat} {xs lv : List Value} {ps : Array Value} {rest : Led} {v1 v2 v3 : Option Value}
  {p : Program} {loose : List Str} {mean : ExcName → Option Value} {mg mb : Str → Option Value} {Q : Flow → Shared → Prop}
theorem turnN {i t b : Int} {v : Value} {rd rd' : PyData}  {u1 u2 : Tok} (Bl : Below callerA base [] base) (X : (KQ w.params).In base) (T : Top p loose mean mg mb base) (S : base.StaysIn base)
    (H : LS base L bx sc c1 c2 c3 s.heap m ob o1 o2 o3 c' xs ps rest) (Z : BoxO ob sc i) (z1 : CellO o1 v1) (z2 : CellO o2 v2) (z3 : CellO o3 v3)
    (hit : (it, oit) ∈ rest) (z : LI oit rl i0) (hrl : (rl, listOf lv.toArray cn) ∈ rest) (hri : rl ≠ it) (hx : lv.toArray[i0]? = some v) (Wv : Wn w.params base rest v rd)
    (ht : m (Str.ofString "top") = some (.int t u1)) (hb : m (Str.ofString "bottom") = some (.int b u2)) (bt : -2 ≤ t ∧ t ≤ 2) (bb : -2 ≤ b ∧ b ≤ 2)
    (he : Int.fmod (t - b) 2 = 1) (C1 : Calc base w 449 80 2000 [rd, Mine.S "x"] rd') (C2 : CalcE base w 205 80 2000 [rd', Mine.S "x"]) (CH : CodeHd base 502 498)
    (tr : TriplesOk ps.toList) (tn : codeAmong ⟨495, 28, 495, 71⟩ ps.toList = none)

    (next : ∀ h' tk' o2' rest' oit' c4 oc vs tt, LS base L bx sc c1 c2 c3 h' m ob o1 o2' o3 c' xs (ps ++ #[rawInt 495, rawInt 28, .ref c4]) rest' → CellO o2' (some v) → (it, oit') ∈ rest' → LI oit' rl (i0 + 1) → (rl, listOf lv.toArray cn) ∈ rest' → Keep TD rest rest' →
      (c4, oc) ∈ rest' → @Ne Nat c4 it → oc.data = .fields vs → vs[1]? = some (.str ((lawEnv L a c1 c2 c3).qual ++ Str.ofString "<lambda>") tt) →
      Go (lawTurns prog w L a c1 c2 c3 Q it k { s with heap := h', toks := tk' })) :
    lawTurns prog w L a c1 c2 c3 Q it (k + 1) s := by
  obtain ⟨rest2, N, ri, rsub, K2, hin2⟩ := H.it hit (notTD_li z)
  have h1 : @Ne Nat it bx := H.rb _ hit
  have h2 : @Ne Nat it sc := H.rs _ hit
  have h3 : @Ne Nat it c1 := H.r1 _ hit
  have h4 : @Ne Nat it c2 := H.r2 _ hit
  have h5 : @Ne Nat it c3 := H.r3 _ hit
  have h6 : @Ne Nat it 498 := H.rt _ hit
  have F := H.F
  have rb : ∀ p ∈ rest2, p.1 ≠ bx := fun p hp => H.rb p (rsub p hp)
  have rs : ∀ p ∈ rest2, p.1 ≠ sc := fun p hp => H.rs p (rsub p hp)
  have r1 : ∀ p ∈ rest2, p.1 ≠ c1 := fun p hp => H.r1 p (rsub p hp)
  have r2 : ∀ p ∈ rest2, p.1 ≠ c2 := fun p hp => H.r2 p (rsub p hp)
  have r3 : ∀ p ∈ rest2, p.1 ≠ c3 := fun p hp => H.r3 p (rsub p hp)
  have rt : ∀ p ∈ rest2, p.1 ≠ 498 := fun p hp => H.rt p (rsub p hp)
  have hrl2 := hin2 _ hrl hri
  have hrl9 : List.Mem (rl, listOf lv.toArray cn) rest2 := hrl2
  have o498 := H.o498
  have o12 := H.o12
  have o23 := H.o23
  have o3s := H.o3s
  have osb := H.osb
  refine turns_succ ?_
  refine led_nextL F N (by k_mem) z hx (.head (by k_extra "my nes")) fun o' h' z' F' N' K' => ?_
  clear N F
  dsimp only at N' K' ⊢
  show wpAny _ _ (assign (PySem.Expr.Name _ _) _ _) (fun _ s₂ => wpAny _ _ (execs [_] _) _ _ s₂) _ _
  k_extra "my go"
  obtain ⟨rest', H', K9, hin⟩ := LS.of2 (bx := bx) (sc := sc) (c1 := c1) (c2 := c2) (c3 := c3) (xs := xs) (by with_reducible assumption) (by with_reducible assumption) (by k_mem) (by k_mem) (by k_mem) (by k_mem) (by k_mem) (by k_mem) o498 o12 o23 o3s osb Z z1 (by with_reducible assumption) z3
  refine Go.go ?g9
  refine' next _ _ _ rest' _ _ _ _ _ H' ?z ?hit ?li ?hrl ?k1 ?mc ?nc ?dc ?vc
  case z => with_reducible assumption
  case hit => exact hin _ (by k_mem) h1 h2 h3 h4 h5 h6
  case li => with_reducible assumption
  case hrl => exact hin _ (by k_mem) (H.rb _ hrl) (H.rs _ hrl) (H.r1 _ hrl) (H.r2 _ hrl) (H.r3 _ hrl) (H.rt _ hrl)
  case k1 => k_extra "my keep"
  case dc => with_reducible assumption
  case vc => with_reducible assumption
  case nc => k_ne
  case mc => exact hin _ (by k_mem) (by k_ne) (by k_ne) (by k_ne) (by k_ne) (by k_ne) (by k_ne)
end
theorem rows_76 : True := by
  (k_with "M:eval Lambda" => (k_here; k_dflt (refine' kla_eval ?r256d0 ?_; (case r256d0 => exact rfl)); k_dflt (refine' kla_hit ?F ?N ?r256T ?r256C ?r256cd ?r256mem ?r256t ?r256n ?r256cl ?_; (case F => with_reducible assumption); (case N => with_reducible assumption); (case r256T => k_asm); (case r256cd => exact rfl); (case r256C => k_asm); (case r256mem => k_mem); (case r256t => with_reducible assumption); (case r256n => with_reducible assumption); (case r256cl => exact rfl); k_whole); (intro f'_r ct'_r h'_r tk'_r F'_r N'_r l1_r); (try dsimp only at N'_r)))
  (k_with "my deed" => (
  unfold DeedE; intro prog8_r p8_r loose8_r mean8_r mg8_r mb8_r dp8_r un8_r gd8_r cn8_r cs8_r a8_r ccd8_r cl8_r outer8_r A8_r base8_r h8_r L8_r m8_r news8_r s8_r Q8_r E8_r Bl8_r F8_r X8_r N8_r T8_r hk8_r S8_r XB8_r hd8_r hu8_r hl8_r hret8_r;
  (have q1_r := hl8_r _ (List.Mem.head _)); (with_reducible rename CodeAt _ _ _ => w8_r); (have q2_r := hl8_r _ (.tail _ (.tail _ (.tail _ (.tail _ (.tail _ (.tail _ (.tail _ (.tail _ (CodeAt.mem w8_r)))))))))); (have q3_r := hl8_r _ (.tail _ (.tail _ (.tail _ (.tail _ (.tail _ (.head _)))))));
  (have K8 : Keep TD _ news8_r := Keep.of_sub hl8_r);
  k_extra "my enterL"; k_steps;
  exact raised_back hret8_r (by with_reducible assumption) (by with_reducible assumption) (by with_reducible assumption) (by with_reducible assumption) (by k_extra "my sub")))
  trivial
section
variable {prog : Program} {w : World} {s : Shared} {base : Heap} {L a bx sc c1 c2 c3 it rl : Addr} {m : Str → Option Value} {ob o1 o2 o3 oit : Obj} {c' cn i0 k : Nat} {xs lv : List Value} {ps : Array Value} {rest : Led} {v1 v2 v3 : Option Value}
  {p : Program} {loose : List Str} {mean : ExcName → Option Value} {mg mb : Str → Option Value} {Q : Flow → Shared → Prop}
theorem turnH {i t b : Int} {v : Value} {rd rd' : PyData} {c4 : Addr} {oc : Obj} {vs : Array Value} {tt : Tok} {u1 u2 : Tok} (Bl : Below callerA base [] base) (X : (KQ w.params).In base) (T : Top p loose mean mg mb base) (S : base.StaysIn base)
    (H : LS base L bx sc c1 c2 c3 s.heap m ob o1 o2 o3 c' xs ps rest) (Z : BoxO ob sc i) (z1 : CellO o1 v1) (z2 : CellO o2 v2) (z3 : CellO o3 v3)
    (hit : (it, oit) ∈ rest) (z : LI oit rl i0) (hrl : (rl, listOf lv.toArray cn) ∈ rest) (hri : rl ≠ it) (hx : lv.toArray[i0]? = some v) (Wv : Wn w.params base rest v rd)
    (ht : m (Str.ofString "top") = some (.int t u1)) (hb : m (Str.ofString "bottom") = some (.int b u2)) (bt : -2 ≤ t ∧ t ≤ 2) (bb : -2 ≤ b ∧ b ≤ 2)
    (he : Int.fmod (t - b) 2 = 1) (C1 : Calc base w 449 80 2000 [rd, Mine.S "x"] rd') (C2 : CalcE base w 205 80 2000 [rd', Mine.S "x"]) (CH : CodeHd base 502 498)
    (tr : TriplesOk ps.toList) (tn : codeAmong ⟨495, 28, 495, 71⟩ ps.toList = some (.ref c4)) (hc : (c4, oc) ∈ rest) (nc : @Ne Nat c4 it) (dc : oc.data = .fields vs) (vc : vs[1]? = some (.str ((lawEnv L a c1 c2 c3).qual ++ Str.ofString "<lambda>") tt))

    (next : ∀ h' tk' o2' rest' oit', LS base L bx sc c1 c2 c3 h' m ob o1 o2' o3 c' xs ps rest' → CellO o2' (some v) → (it, oit') ∈ rest' → LI oit' rl (i0 + 1) → (rl, listOf lv.toArray cn) ∈ rest' → Keep TD rest rest' →
      Go (lawTurns prog w L a c1 c2 c3 Q it k { s with heap := h', toks := tk' })) :
    lawTurns prog w L a c1 c2 c3 Q it (k + 1) s := by
  obtain ⟨rest2, N, ri, rsub, K2, hin2⟩ := H.it hit (notTD_li z)
  have h1 : @Ne Nat it bx := H.rb _ hit
  have h2 : @Ne Nat it sc := H.rs _ hit
  have h3 : @Ne Nat it c1 := H.r1 _ hit
  have h4 : @Ne Nat it c2 := H.r2 _ hit
  have h5 : @Ne Nat it c3 := H.r3 _ hit
  have h6 : @Ne Nat it 498 := H.rt _ hit
  have F := H.F
  have rb : ∀ p ∈ rest2, p.1 ≠ bx := fun p hp => H.rb p (rsub p hp)
  have rs : ∀ p ∈ rest2, p.1 ≠ sc := fun p hp => H.rs p (rsub p hp)
  have r1 : ∀ p ∈ rest2, p.1 ≠ c1 := fun p hp => H.r1 p (rsub p hp)
  have r2 : ∀ p ∈ rest2, p.1 ≠ c2 := fun p hp => H.r2 p (rsub p hp)
  have r3 : ∀ p ∈ rest2, p.1 ≠ c3 := fun p hp => H.r3 p (rsub p hp)
  have rt : ∀ p ∈ rest2, p.1 ≠ 498 := fun p hp => H.rt p (rsub p hp)
  have hrl2 := hin2 _ hrl hri
  have hrl9 : List.Mem (rl, listOf lv.toArray cn) rest2 := hrl2
  have o498 := H.o498
  have o12 := H.o12
  have o23 := H.o23
  have o3s := H.o3s
  have osb := H.osb
  have w8 : CodeAt c4 oc rest2 := ⟨hin2 _ hc nc⟩
  refine turns_succ ?_
  refine led_nextL F N (by k_mem) z hx (.head (by k_extra "my nes")) fun o' h' z' F' N' K' => ?_
  clear N F
  dsimp only at N' K' ⊢
  show wpAny _ _ (assign (PySem.Expr.Name _ _) _ _) (fun _ s₂ => wpAny _ _ (execs [_] _) _ _ s₂) _ _
  k_extra "my go"
  obtain ⟨rest', H', K9, hin⟩ := LS.of2 (bx := bx) (sc := sc) (c1 := c1) (c2 := c2) (c3 := c3) (xs := xs) (by with_reducible assumption) (by with_reducible assumption) (by k_mem) (by k_mem) (by k_mem) (by k_mem) (by k_mem) (by k_mem) o498 o12 o23 o3s osb Z z1 (by with_reducible assumption) z3
  refine Go.go ?g9
  refine' next _ _ _ rest' _ H' ?z ?hit ?li ?hrl ?k1
  case z => with_reducible assumption
  case hit => exact hin _ (by k_mem) h1 h2 h3 h4 h5 h6
  case li => with_reducible assumption
  case hrl => exact hin _ (by k_mem) (H.rb _ hrl) (H.rs _ hrl) (H.r1 _ hrl) (H.r2 _ hrl) (H.r3 _ hrl) (H.rt _ hrl)
  case k1 => k_extra "my keep"
end
theorem rows_77 : True := by
  (k_with "my go" => repeat' (first | (k_unfold; (try dsimp only)) | (k_end; wrow_close) | ((fail_if_success (k_extra "my stop")); walk1) | (dsimp only; (fail_if_success (k_extra "my stop")); walk1) | (leave1; walk_say "STEP leave1"; try dsimp only) | fail "no step"))
  trivial
section
variable {prog : Program} {w : World} {base : Heap} {L a bx sc c1 c2 c3 rl : Addr} {m : Str → Option Value} {ob o1 o3 : Obj} {c' cn : Nat} {xs lv : List Value} {rest0 : Led} {v1 v3 : Option Value}
  {p : Program} {loose : List Str} {mean : ExcName → Option Value} {mg mb : Str → Option Value}
/-- k turns of the law's loop, from its start -/
def LoopSpec (prog : Program) (w : World) (base : Heap) (L a bx sc c1 c2 c3 rl : Addr) (m : Str → Option Value) (ob o1 o3 : Obj) (c' cn : Nat) (xs lv : List Value) (ps : Array Value) (rest0 : Led) (k : Nat) : Prop :=
  ∀ (Q : Flow → Shared → Prop) (it : Addr) (oit : Obj) (s : Shared) (o2 : Obj) (v2 : Option Value) (rest : Led), LS base L bx sc c1 c2 c3 s.heap m ob o1 o2 o3 c' xs ps rest → CellO o2 v2 → (it, oit) ∈ rest → LI oit rl 0 → (rl, listOf lv.toArray cn) ∈ rest → rl ≠ it → Keep TD rest0 rest →
    (∀ h' tk' o2' v2' ps' rest', LS base L bx sc c1 c2 c3 h' m ob o1 o2' o3 c' xs ps' rest' → CellO o2' v2' → Go (Q .next { s with heap := h', toks := tk' })) →
    lawTurns prog w L a c1 c2 c3 Q it k s
theorem loop_end {i : Int} {Q : Flow → Shared → Prop} {it : Addr} {oit : Obj} {s : Shared} {o2 : Obj} {v2 : Option Value} {ps : Array Value} {rest : Led} {i0 : Nat} (Z : BoxO ob sc i) (z1 : CellO o1 v1) (z3 : CellO o3 v3)
    (H : LS base L bx sc c1 c2 c3 s.heap m ob o1 o2 o3 c' xs ps rest) (z2 : CellO o2 v2) (hit : (it, oit) ∈ rest) (z : LI oit rl i0) (hrl : (rl, listOf lv.toArray cn) ∈ rest) (hri : rl ≠ it) (hx : lv.toArray[i0]? = none)
    (fin : ∀ h' tk' o2' v2' ps' rest', LS base L bx sc c1 c2 c3 h' m ob o1 o2' o3 c' xs ps' rest' → CellO o2' v2' → Go (Q .next { s with heap := h', toks := tk' })) : lawTurns prog w L a c1 c2 c3 Q it 0 s := by
  obtain ⟨rest2, N, ri, rsub, K2, hin2⟩ := H.it hit (notTD_li z)
  have h1 : @Ne Nat it bx := H.rb _ hit
  have h2 : @Ne Nat it sc := H.rs _ hit
  have h3 : @Ne Nat it c1 := H.r1 _ hit
  have h4 : @Ne Nat it c2 := H.r2 _ hit
  have h5 : @Ne Nat it c3 := H.r3 _ hit
  have h6 : @Ne Nat it 498 := H.rt _ hit
  have hrl2 := hin2 _ hrl hri
  have hrl9 : List.Mem (rl, listOf lv.toArray cn) rest2 := hrl2
  refine turns_zero ?_
  refine led_endL rfl H.F N (by k_mem) z hx (.head (by k_extra "my nes")) fun h' F' N' K' => ?_
  obtain ⟨rest', H', K9⟩ := LS.of (bx := bx) (sc := sc) (c1 := c1) (c2 := c2) (c3 := c3) (xs := xs) F' N' (by k_mem) (by k_mem) (by k_mem) (by k_mem) (by k_mem) (by k_mem) H.o498 H.o12 H.o23 H.o3s H.osb Z z1 z2 z3
  exact (fin _ s.toks _ _ _ _ H' z2).go
section
variable {i t b : Int} {vd : Value} {due : PyData} {u1 u2 : Tok} {ps : Array Value} (Bl : Below callerA base [] base) (X : (KQ w.params).In base) (T : Top p loose mean mg mb base) (S : base.StaysIn base) (CH : CodeHd base 502 498)
  (Z : BoxO ob sc i) (z1 : CellO o1 v1) (z3 : CellO o3 v3) (hdue : m (Str.ofString "due") = some vd) (Wd : Wn w.params base rest0 vd due) (hsh : SeqAt.shaped due = true) (heq : PyData.eqv due due = true)
  (ht : m (Str.ofString "top") = some (.int t u1)) (hb : m (Str.ofString "bottom") = some (.int b u2)) (bt : -2 ≤ t ∧ t ≤ 2) (bb : -2 ≤ b ∧ b ≤ 2)
include Bl X T S Z z1 z3 hdue Wd hsh heq ht hb bt bb
theorem loopE1 {q1 : Value} {rd1 : PyData} (he : Int.fmod (t - b) 2 ≠ 1) (W1 : Wn w.params base rest0 q1 rd1) (C1 : Calc base w 463 80 2000 [rd1, Mine.S "x", Mine.S "-inf", .int 0] due) :
    LoopSpec prog w base L a bx sc c1 c2 c3 rl m ob o1 o3 c' cn xs [q1] ps rest0 1 := by
  intro Q it oit s o2 v2 rest H z2 hit z hrl hri K fin
  refine turnE Bl X T S H Z z1 z2 z3 hit z hrl hri rfl (W1.keep K) hdue (Wd.keep K) hsh heq ht hb bt bb he C1 fun h' tk' o2' rest' oit' H' z2' hit' z' hrl' K' => ⟨?_⟩
  exact loop_end Z z1 z3 H' z2' hit' z' hrl' hri rfl fin
theorem loopE2 {q1 q2 : Value} {rd1 rd2 : PyData} (he : Int.fmod (t - b) 2 ≠ 1) (W1 : Wn w.params base rest0 q1 rd1) (C1 : Calc base w 463 80 2000 [rd1, Mine.S "x", Mine.S "-inf", .int 0] due) (W2 : Wn w.params base rest0 q2 rd2) (C2 : Calc base w 463 80 2000 [rd2, Mine.S "x", Mine.S "-inf", .int 0] due) :
    LoopSpec prog w base L a bx sc c1 c2 c3 rl m ob o1 o3 c' cn xs [q1, q2] ps rest0 2 := by
  intro Q it oit s o2 v2 rest H z2 hit z hrl hri K fin
  refine turnE Bl X T S H Z z1 z2 z3 hit z hrl hri rfl (W1.keep K) hdue (Wd.keep K) hsh heq ht hb bt bb he C1 fun h' tk' o2' rest' oit' H' z2' hit' z' hrl' K' => ⟨?_⟩
  refine turnE Bl X T S H' Z z1 z2' z3 hit' z' hrl' hri rfl (W2.keep (K.trans K')) hdue (Wd.keep (K.trans K')) hsh heq ht hb bt bb he C2 fun h'' tk'' o2'' rest'' oit'' H'' z2'' hit'' z'' hrl'' K'' => ⟨?_⟩
  exact loop_end Z z1 z3 H'' z2'' hit'' z'' hrl'' hri rfl fin
omit hdue Wd hsh heq
include CH
theorem loopO1 {q1 : Value} {rd1 rd1' : PyData} (tr : TriplesOk ps.toList) (tn : codeAmong ⟨495, 28, 495, 71⟩ ps.toList = none) (he : Int.fmod (t - b) 2 = 1) (W1 : Wn w.params base rest0 q1 rd1) (C1 : Calc base w 449 80 2000 [rd1, Mine.S "x"] rd1') (D1 : CalcE base w 205 80 2000 [rd1', Mine.S "x"]) :
    LoopSpec prog w base L a bx sc c1 c2 c3 rl m ob o1 o3 c' cn xs [q1] ps rest0 1 := by
  intro Q it oit s o2 v2 rest H z2 hit z hrl hri K fin
  refine turnN Bl X T S H Z z1 z2 z3 hit z hrl hri rfl (W1.keep K) ht hb bt bb he C1 D1 CH tr tn fun h' tk' o2' rest' oit' c4 oc vs tt H' z2' hit' z' hrl' K' hc nc dc vc => ⟨?_⟩
  exact loop_end Z z1 z3 H' z2' hit' z' hrl' hri rfl fin
theorem loopO2 {q1 q2 : Value} {rd1 rd1' rd2 rd2' : PyData} (tr : TriplesOk ps.toList) (tn : codeAmong ⟨495, 28, 495, 71⟩ ps.toList = none) (he : Int.fmod (t - b) 2 = 1) (W1 : Wn w.params base rest0 q1 rd1) (C1 : Calc base w 449 80 2000 [rd1, Mine.S "x"] rd1') (D1 : CalcE base w 205 80 2000 [rd1', Mine.S "x"])
    (W2 : Wn w.params base rest0 q2 rd2) (C2 : Calc base w 449 80 2000 [rd2, Mine.S "x"] rd2') (D2 : CalcE base w 205 80 2000 [rd2', Mine.S "x"]) :
    LoopSpec prog w base L a bx sc c1 c2 c3 rl m ob o1 o3 c' cn xs [q1, q2] ps rest0 2 := by
  intro Q it oit s o2 v2 rest H z2 hit z hrl hri K fin
  refine turnN Bl X T S H Z z1 z2 z3 hit z hrl hri rfl (W1.keep K) ht hb bt bb he C1 D1 CH tr tn fun h' tk' o2' rest' oit' c4 oc vs tt H' z2' hit' z' hrl' K' hc nc dc vc => ⟨?_⟩
  have tr' : TriplesOk (ps ++ #[rawInt 495, rawInt 28, .ref c4]).toList := by
    rw [Array.toList_append]
    exact TriplesOk_snoc _ _ _ _ tr
  have tn' : codeAmong ⟨495, 28, 495, 71⟩ (ps ++ #[rawInt 495, rawInt 28, .ref c4]).toList = some (.ref c4) := by
    rw [Array.toList_append]
    exact codeAmong_snoc (pos := ⟨495, 28, 495, 71⟩) _ tr tn
  refine turnH Bl X T S H' Z z1 z2' z3 hit' z' hrl' hri rfl (W2.keep (K.trans K')) ht hb bt bb he C2 D2 CH tr' tn' hc nc dc vc fun h'' tk'' o2'' rest'' oit'' H'' z2'' hit'' z'' hrl'' K'' => ⟨?_⟩
  exact loop_end Z z1 z3 H'' z2'' hit'' z'' hrl'' hri rfl fin
end
end
theorem rows_78 : True := by
  (k_with "my name16" => k_dflt (refine' nameX_L ?F ?r259v ?_ ?k1 ?k2; (case F => with_reducible assumption); (case k1 => rfl); (case k2 => rfl); (case r259v => k_extra "my look"); k_whole))
  (k_with "my go" => repeat' (first | (k_unfold; (try dsimp only)) | (k_end; wrow_close) | ((fail_if_success (with_reducible show Turns _ _ _ _ _ _ _ _ _ _)); walk1) | (dsimp only; (fail_if_success (with_reducible show Turns _ _ _ _ _ _ _ _ _ _)); walk1) | (leave1; walk_say "STEP leave1"; try dsimp only) | fail "no step"))
  (k_with "M:exec For Name Name cons nil" => (k_here; (refine' For_n 1 ?_ ?r261ht ?r261hs; (case r261ht => exact fun _ _ => rfl); (case r261hs => exact fun _ => rfl)); k_extra "my name16"; k_dflt (refine' led_iterL ?F ?N ?r261l ?_; (case F => with_reducible assumption); (case N => with_reducible assumption); (case r261l => k_mem)); (intro I'_r o'_r h'_r F'_r N'_r l1_r z'_r); (try k_sweep)))
  trivial
section
variable {prog : Program} {w : World} {E : Value → Shared → Prop} {s : Shared} {base : Heap} {L a bx sc c1 c2 c3 rl : Addr} {m : Str → Option Value} {ob o1 o2 o3 : Obj} {c' cn : Nat} {xs lv : List Value} {ps : Array Value} {rest : Led} {v1 v2 v3 : Option Value}
  {p : Program} {loose : List Str} {mean : ExcName → Option Value} {mg mb : Str → Option Value} {Q : Flow → Shared → Prop}
theorem seg16_1 {i : Int} (Bl : Below callerA base [] base) (X : (KQ w.params).In base) (T : Top p loose mean mg mb base) (S : base.StaysIn base)
    (H : LS base L bx sc c1 c2 c3 s.heap m ob o1 o2 o3 c' xs ps rest) (Z : BoxO ob sc i) (z1 : CellO o1 v1) (z2 : CellO o2 v2) (z3 : CellO o3 v3) (hrl : (rl, listOf lv.toArray cn) ∈ rest) (hr : m (Str.ofString "roots") = some (.ref rl))
    (loop : LoopSpec prog w base L a bx sc c1 c2 c3 rl m ob o1 o3 c' cn xs lv ps rest 1)
    (next : ∀ h' tk' o2' ps' rest', LS base L bx sc c1 c2 c3 h' m ob o1 o2' o3 c' xs ps' rest' → Go (Q (.ret (.bool true)) { s with heap := h', toks := tk' })) :
    Go (wpAny (model prog w) (callerA.deeper (lawEnv L a c1 c2 c3)) (execs (lawRest 16) (lawEnv L a c1 c2 c3)) Q E s) := by
  refine ⟨?_⟩
  obtain ⟨F, N, o498, o12, o23, o3s, osb, rb, rs, r1, r2, r3, rt⟩ := H
  have hrl9 : List.Mem (rl, listOf lv.toArray cn) rest := hrl
  k_extra "my cut"
  k_extra "my go"
  obtain ⟨rest', H', K9, hin⟩ := LS.of2 (bx := bx) (sc := sc) (c1 := c1) (c2 := c2) (c3 := c3) (xs := xs) (by with_reducible assumption) (by with_reducible assumption) (by k_mem) (by k_mem) (by k_mem) (by k_mem) (by k_mem) (by k_mem) o498 o12 o23 o3s osb Z z1 z2 z3
  refine' loop _ _ _ _ _ _ rest' H' z2 ?hit ?li ?hl ?hn ?kk ?fin
  case hit => exact hin _ (by k_mem) (by k_extra "my ne") (by k_extra "my ne") (by k_extra "my ne") (by k_extra "my ne") (by k_extra "my ne") (by k_extra "my ne")
  case li => with_reducible assumption
  case hl => exact hin _ (by k_mem) (rb _ hrl) (rs _ hrl) (r1 _ hrl) (r2 _ hrl) (r3 _ hrl) (rt _ hrl)
  case hn => k_extra "my ne"
  case kk => k_extra "my keep"
  case fin =>
    intro h7 tk7 o7 v7 ps7 rest7 H7 z7
    refine ⟨?_⟩
    (try dsimp only)
    obtain ⟨F7, N7, _, _, _, _, _, _, _, _, _, _, _⟩ := id H7
    k_steps
    (try dsimp only)
    exact (next _ _ _ _ _ H7).go
end
theorem rows_79 : True := by
  (k_with "M:exec For Name Name cons nil" => (k_here; (refine' For_n 2 ?_ ?r262ht ?r262hs; (case r262ht => exact fun _ _ => rfl); (case r262hs => exact fun _ => rfl)); k_extra "my name16"; k_dflt (refine' led_iterL ?F ?N ?r262l ?_; (case F => with_reducible assumption); (case N => with_reducible assumption); (case r262l => k_mem)); (intro I'_r o'_r h'_r F'_r N'_r l1_r z'_r); (try k_sweep)))
  trivial
section
variable {prog : Program} {w : World} {E : Value → Shared → Prop} {s : Shared} {base : Heap} {L a bx sc c1 c2 c3 rl : Addr} {m : Str → Option Value} {ob o1 o2 o3 : Obj} {c' cn : Nat} {xs lv : List Value} {ps : Array Value} {rest : Led} {v1 v2 v3 : Option Value}
  {p : Program} {loose : List Str} {mean : ExcName → Option Value} {mg mb : Str → Option Value} {Q : Flow → Shared → Prop}
theorem seg16_2 {i : Int} (Bl : Below callerA base [] base) (X : (KQ w.params).In base) (T : Top p loose mean mg mb base) (S : base.StaysIn base)
    (H : LS base L bx sc c1 c2 c3 s.heap m ob o1 o2 o3 c' xs ps rest) (Z : BoxO ob sc i) (z1 : CellO o1 v1) (z2 : CellO o2 v2) (z3 : CellO o3 v3) (hrl : (rl, listOf lv.toArray cn) ∈ rest) (hr : m (Str.ofString "roots") = some (.ref rl))
    (loop : LoopSpec prog w base L a bx sc c1 c2 c3 rl m ob o1 o3 c' cn xs lv ps rest 2)
    (next : ∀ h' tk' o2' ps' rest', LS base L bx sc c1 c2 c3 h' m ob o1 o2' o3 c' xs ps' rest' → Go (Q (.ret (.bool true)) { s with heap := h', toks := tk' })) :
    Go (wpAny (model prog w) (callerA.deeper (lawEnv L a c1 c2 c3)) (execs (lawRest 16) (lawEnv L a c1 c2 c3)) Q E s) := by
  refine ⟨?_⟩
  obtain ⟨F, N, o498, o12, o23, o3s, osb, rb, rs, r1, r2, r3, rt⟩ := H
  have hrl9 : List.Mem (rl, listOf lv.toArray cn) rest := hrl
  k_extra "my cut"
  k_extra "my go"
  obtain ⟨rest', H', K9, hin⟩ := LS.of2 (bx := bx) (sc := sc) (c1 := c1) (c2 := c2) (c3 := c3) (xs := xs) (by with_reducible assumption) (by with_reducible assumption) (by k_mem) (by k_mem) (by k_mem) (by k_mem) (by k_mem) (by k_mem) o498 o12 o23 o3s osb Z z1 z2 z3
  refine' loop _ _ _ _ _ _ rest' H' z2 ?hit ?li ?hl ?hn ?kk ?fin
  case hit => exact hin _ (by k_mem) (by k_extra "my ne") (by k_extra "my ne") (by k_extra "my ne") (by k_extra "my ne") (by k_extra "my ne") (by k_extra "my ne")
  case li => with_reducible assumption
  case hl => exact hin _ (by k_mem) (rb _ hrl) (rs _ hrl) (r1 _ hrl) (r2 _ hrl) (r3 _ hrl) (rt _ hrl)
  case hn => k_extra "my ne"
  case kk => k_extra "my keep"
  case fin =>
    intro h7 tk7 o7 v7 ps7 rest7 H7 z7
    refine ⟨?_⟩
    (try dsimp only)
    obtain ⟨F7, N7, _, _, _, _, _, _, _, _, _, _, _⟩ := id H7
    k_steps
    (try dsimp only)
    exact (next _ _ _ _ _ H7).go
end
theorem rows_80 : True := by
  (k_with "M:exec For Name Name cons nil" => (
  k_here;
  (refine' For_n 1 ?_ ?r263ht ?r263hs; (case r263ht => exact fun _ _ => rfl); (case r263hs => exact fun _ => rfl));
  k_extra "my name";
  k_dflt (refine' led_iter ?S ?F ?N ?r263y (fun _ h9 => h9) ?r263lo ?_; (case S => with_reducible assumption); (case F => with_reducible assumption); (case N => with_reducible assumption); (case r263y => k_extra "my at"); (case r263lo => with_reducible assumption));
  (intro I'_r h'_r F'_r N'_r l1_r); (try k_sweep)))
  (k_with "my go" => repeat' (first | (k_unfold; (try dsimp only)) | (k_end; wrow_close) | ((fail_if_success (k_extra "my stop")); walk1) | (dsimp only; (fail_if_success (k_extra "my stop")); walk1) | (leave1; walk_say "STEP leave1"; try dsimp only) | fail "no step"))
  trivial
theorem due_shaped (far : Int) : SeqAt.shaped (dueD far) = true := by
  unfold dueD
  split
  · have h : PyData.strOk (Str.ofString "inf") = true := by first | decide +kernel | rfl
    simp [SeqAt.shaped, PyData.canLay0, PyData.depth, h]
  · split <;> simp [SeqAt.shaped, PyData.canLay0, PyData.canLayAll0, PyData.depth, PyData.depthAll]
theorem due_eqv (far : Int) : PyData.eqv (dueD far) (dueD far) = true := by
  unfold dueD
  split
  · simp [PyData.eqv]
  · split <;> simp [PyData.eqv, PyData.eqvAll]
theorem eqv_pr (a b c d : Int) : PyData.eqv (pr a b) (pr c d) = decide (a = c ∧ b = d) := by
  simp only [PyData.eqv, PyData.eqvAll, Bool.and_true]
  by_cases h1 : a = c <;> by_cases h2 : b = d <;> simp [h1, h2]
section
variable {prog : Program} {w : World} {E : Value → Shared → Prop} {s : Shared} {base : Heap} {L a bx sc c1 c2 c3 ax a4 : Addr} {m : Str → Option Value} {ob o1 o2 o3 : Obj} {c' : Nat} {xs : List Value} {ns : List Int} {ps : Array Value} {rest : Led} {v1 v2 v3 : Option Value}
  {p : Program} {loose : List Str} {mean : ExcName → Option Value} {mg mb : Str → Option Value} {Q : Flow → Shared → Prop}
/-- the law's second part -/
theorem tail8 {i kr : Int} {u5 u6 : Tok} (Bl : Below callerA base [] base) (X : (KQ w.params).In base) (T : Top p loose mean mg mb base) (S : base.StaysIn base) (CH : CodeHd base 502 498)
    (H : LS base L bx sc c1 c2 c3 s.heap m ob o1 o2 o3 c' xs ps rest) (Z : BoxO ob sc i) (hi : 0 ≤ i ∧ i ≤ 15) (z1 : CellO o1 (some (.ref a4))) (z2 : CellO o2 v2) (z3 : CellO o3 v3) (I : IntsAre xs ns) (hl : ns.length ≤ 12)
    (hbox : m (Str.ofString "box") = some (.ref bx)) (hx : m (Str.ofString "x") = some (.ref ax)) (Wx : Wn w.params base rest (.ref ax) tX) (y4 : At base rest a4 (tupO [.int (rN5 kr) u5, .int (rD5 kr) u6])) (hk : 0 ≤ kr ∧ kr < 5)
    (tr : TriplesOk ps.toList) (tn : codeAmong ⟨495, 28, 495, 71⟩ ps.toList = none)
    (fin : ∀ h' tk' m' ob' o2' ps' rest', LS base L bx sc c1 c2 c3 h' m' ob' o1 o2' o3 c' xs ps' rest' → Go (Q (.ret (.bool true)) { s with heap := h', toks := tk' })) :
    Go (wpAny (model prog w) (callerA.deeper (lawEnv L a c1 c2 c3)) (execs (lawRest 8) (lawEnv L a c1 c2 c3)) Q E s) := by
  have rb := r5_b kr hk
  refine seg8 Bl X T S H Z z1 z2 z3 I hl (by omega) hbox fun h1 tk1 m1 ob1 rest1 kn t b q1 t1 t2 H1 Z1 K1 hkn bt bb Wnum l1 l2 l3 same1 => ?_
  have ln := low_nums kn hkn
  have y41 : At base rest1 a4 (tupO [.int (rN5 kr) u5, .int (rD5 kr) u6]) := At.keep K1 (TD.tup _) y4
  refine seg9 Bl X T S H1 Z1 z1 z2 z3 ((same1 _ (by decide) (by decide) (by decide)).trans hx) (Wx.keep K1) l1 Wnum l2 l3 fun h2 tk2 m2 rest2 q H2 K2 Wq lq same2 => ?_
  have y42 : At base rest2 a4 (tupO [.int (rN5 kr) u5, .int (rD5 kr) u6]) := At.keep K2 (TD.tup _) y41
  have top2 := (same2 (Str.ofString "top") (by decide) (by decide)).trans l2
  have bot2 := (same2 (Str.ofString "bottom") (by decide) (by decide)).trans l3
  have ok1 := root_ok (B := base) (w := w) kr t b (nN kn) (nD kn) hk ln bt bb
  by_cases he : rN5 kr = 1 ∧ rD5 kr = 2
  · have ok2 := sqrt_ok (B := base) (w := w) t b (nN kn) (nD kn) ln bt bb
    rw [show rN5 0 = rN5 kr from he.1.symm] at ok2
    refine seg12a Bl X T S H2 Z1 z2 z3 z1 y42 lq Wq ((eqv_pr _ _ _ _).trans (decide_eq_true he)) fun h3 tk3 m3 rest3 rl c4 p1 p2 H3 K3 hrl Wp1 Wp2 lr same3 => ?_
    have top3 := (same3 (Str.ofString "top") (by decide)).trans top2
    have bot3 := (same3 (Str.ofString "bottom") (by decide)).trans bot2
    refine seg14 Bl X T S H3 Z1 z2 z3 z1 (At.keep K3 (TD.tup _) y42) top3 bot3 bt bb rb.1 hrl fun h4 tk4 m4 rest4 vd H4 K4 hrl4 Wd ld same4 => ?_
    have top4 := (same4 (Str.ofString "top") (by decide) (by decide)).trans top3
    have bot4 := (same4 (Str.ofString "bottom") (by decide) (by decide)).trans bot3
    refine seg16_2 Bl X T S H4 Z1 z1 z2 z3 hrl4 ((same4 (Str.ofString "roots") (by decide) (by decide)).trans lr) ?_ fun h5 tk5 o25 ps5 rest5 H5 => fin _ _ _ _ _ _ _ H5
    by_cases od : Int.fmod (t - b) 2 = 1
    · obtain ⟨r1, C1, D1⟩ := ok1.2 od
      obtain ⟨r2, C2, D2⟩ := ok2.2 od
      exact loopO2 Bl X T S CH Z1 z1 z3 top4 bot4 bt bb tr tn od (Wp1.keep K4) C1 D1 (Wp2.keep K4) C2 D2
    · exact loopE2 Bl X T S Z1 z1 z3 ld Wd (due_shaped _) (due_eqv _) top4 bot4 bt bb od (Wp1.keep K4) (ok1.1 od) (Wp2.keep K4) (ok2.1 od)
  · refine seg12b Bl X T S H2 Z1 z2 z3 z1 y42 lq Wq ((eqv_pr _ _ _ _).trans (decide_eq_false he)) fun h3 tk3 m3 rest3 rl c4 p1 p2 H3 K3 hrl Wp1 e12 lr same3 => ?_
    have top3 := (same3 (Str.ofString "top") (by decide)).trans top2
    have bot3 := (same3 (Str.ofString "bottom") (by decide)).trans bot2
    refine seg14 Bl X T S H3 Z1 z2 z3 z1 (At.keep K3 (TD.tup _) y42) top3 bot3 bt bb rb.1 hrl fun h4 tk4 m4 rest4 vd H4 K4 hrl4 Wd ld same4 => ?_
    have top4 := (same4 (Str.ofString "top") (by decide) (by decide)).trans top3
    have bot4 := (same4 (Str.ofString "bottom") (by decide) (by decide)).trans bot3
    refine seg16_1 Bl X T S H4 Z1 z1 z2 z3 hrl4 ((same4 (Str.ofString "roots") (by decide) (by decide)).trans lr) ?_ fun h5 tk5 o25 ps5 rest5 H5 => fin _ _ _ _ _ _ _ H5
    by_cases od : Int.fmod (t - b) 2 = 1
    · obtain ⟨r1, C1, D1⟩ := ok1.2 od
      exact loopO1 Bl X T S CH Z1 z1 z3 top4 bot4 bt bb tr tn od (Wp1.keep K4) C1 D1
    · exact loopE1 Bl X T S Z1 z1 z3 ld Wd (due_shaped _) (due_eqv _) top4 bot4 bt bb od (Wp1.keep K4) (ok1.1 od)
/-- the law behind its first two draws -/
theorem tail2 {i k j : Int} {ta tw : Tok} (Bl : Below callerA base [] base) (X : (KQ w.params).In base) (T : Top p loose mean mg mb base) (S : base.StaysIn base) (CH : CodeHd base 502 498)
    (H : LS base L bx sc c1 c2 c3 s.heap m ob o1 o2 o3 c' xs #[] rest) (Z : BoxO ob sc i) (hi : 0 ≤ i ∧ i ≤ 5) (z1 : CellO o1 v1) (z2 : CellO o2 v2) (z3 : CellO o3 v3) (I : IntsAre xs ns) (hl : ns.length ≤ 12)
    (hbox : m (Str.ofString "box") = some (.ref bx)) (hx : m (Str.ofString "x") = some (.ref ax)) (Wx : Wn w.params base rest (.ref ax) tX)
    (hat : m (Str.ofString "at") = some (.int k ta)) (hk : 0 ≤ k ∧ k < 4) (hwh : m (Str.ofString "which") = some (.int j tw))
    (fin : ∀ h' tk' m' ob' o1' o2' o3' ps' rest', LS base L bx sc c1 c2 c3 h' m' ob' o1' o2' o3' c' xs ps' rest' → Go (Q (.ret (.bool true)) { s with heap := h', toks := tk' })) :
    Go (wpAny (model prog w) (callerA.deeper (lawEnv L a c1 c2 c3)) (execs (lawRest 2) (lawEnv L a c1 c2 c3)) Q E s) := by
  refine seg2 Bl X T S H Z z1 z2 z3 I hl (by omega) hat hk hwh fun h1 tk1 m1 rest1 i1 i2 a1 a2 t1 t2 t3 t4 H1 K1 b1 b2 y1 y2 one1 oth1 same1 => ?_
  refine seg3 Bl X T S H1 Z z1 z2 z3 I hl (by omega) ((same1 _ (by decide) (by decide)).trans hbox) fun h2 tk2 m2 ob2 rest2 k1 k2 k3 k4 t5 t6 t7 t8 H2 Z2 K2 c1' c2' c3' c4' inn pow les bel same2 => ?_
  have box2 := (same2 (Str.ofString "box") (by decide) (by decide) (by decide) (by decide)).trans ((same1 _ (by decide) (by decide)).trans hbox)
  have x2 := (same2 (Str.ofString "x") (by decide) (by decide) (by decide) (by decide)).trans ((same1 _ (by decide) (by decide)).trans hx)
  have one2 := (same2 (Str.ofString "one") (by decide) (by decide) (by decide) (by decide)).trans one1
  have oth2 := (same2 (Str.ofString "other") (by decide) (by decide) (by decide) (by decide)).trans oth1
  refine seg5 Bl X T S H2 Z2 z1 z2 z3 I hl (by omega) box2 fun h3 tk3 ob3 o13 rest3 kr a4 t9 t10 H3 Z3 z13 K3 bk y4 => ?_
  have rb := r5_b kr bk
  have K13 : Keep TD rest1 rest3 := K2.trans K3
  refine seg6 Bl X T S H3 Z3 z13 z2 z3 inn pow les bel c1' c2' c3' c4' one2 oth2 (At.keep K13 (TD.tup _) y1) (At.keep K13 (TD.tup _) y2) fun h4 tk4 o34 rest4 a3 H4 z34 K4 W3 => ?_
  have K14 : Keep TD rest1 rest4 := K13.trans K4
  have y44 := At.keep K4 (TD.tup _) y4
  have W4 : Wn w.params base rest4 (.ref ax) tX := Wx.keep (K1.trans K14)
  by_cases he : nN i1 = nN i2 ∧ nD i1 = nD i2
  · rw [← he.1, ← he.2] at W3 y2
    refine seg7b Bl X T S H4 z2 inn pow les bel c1' c2' c3' c4' rb.1 rb.2.2.2 one2 oth2 (At.keep K14 (TD.tup _) y1) (At.keep K14 (TD.tup _) y2) z13 y44 z34 W3 (groot_any _ _ _ _ _ _ _ _ (by omega) (by omega) (by omega) (by omega) rb.1 rb.2.1) ((eqv_pr _ _ _ _).trans (decide_eq_true ⟨rfl, rfl⟩)) Z3 fun h5 tk5 rest5 H5 K5 => ?_
    exact tail8 Bl X T S CH H5 Z3 (by omega) z13 z2 z34 I hl box2 x2 (W4.keep K5) (At.keep K5 (TD.tup _) y44) bk trivial rfl fun h6 tk6 m6 ob6 o26 ps6 rest6 H6 => fin _ _ _ _ _ _ _ _ _ H6
  · have hne : nN i1 ≠ nN i2 ∨ nD i1 ≠ nD i2 := by
      by_cases h : nN i1 = nN i2
      · exact .inr fun q => he ⟨h, q⟩
      · exact .inl h
    refine seg7a Bl X T S CH H4 Z3 z2 one2 oth2 (At.keep K14 (TD.tup _) y1) (At.keep K14 (TD.tup _) y2) z13 y44 z34 W3 (groot_any_e _ _ _ _ _ _ _ _ _ _ hne) ((eqv_pr _ _ _ _).trans (decide_eq_false he)) fun h5 tk5 rest5 c4 H5 K5 => ?_
    exact tail8 Bl X T S CH H5 Z3 (by omega) z13 z2 z34 I hl box2 x2 (W4.keep K5) (At.keep K5 (TD.tup _) y44) bk (by simp [TriplesOk, rawInt]) (by simp [codeAmong, rawInt]) fun h6 tk6 m6 ob6 o26 ps6 rest6 H6 => fin _ _ _ _ _ _ _ _ _ H6
end
theorem law_start {prog : Program} {w : World} {E : Value → Shared → Prop} {s : Shared} {base : Heap} {L a bx sc c1 c2 c3 ax e1 e2 e3 : Addr} {m : Str → Option Value} {ob o1 o2 o3 p1 p2 p3 : Obj} {c' : Nat} {xs : List Value} {ns : List Int} {v1 v2 v3 : Option Value}
  {p : Program} {loose : List Str} {mean : ExcName → Option Value} {mg mb : Str → Option Value} {Q : Flow → Shared → Prop} {i k j : Int} {ta tw t1 t2 : Tok} (Bl : Below callerA base [] base) (X : (KQ w.params).In base) (T : Top p loose mean mg mb base) (S : base.StaysIn base) (CH : CodeHd base 502 498)
    (F : Fr base L s.heap m) (N : News base L s.heap [(e1, p1), (e2, p2), (ax, tupO [.str (Str.ofString "sym") t1, .str (Str.ofString "x") t2]), (bx, ob), (sc, listOf xs.toArray c'), (e3, p3), (c3, o3), (c2, o2), (c1, o1), (498, tabObj #[])])
    (Z : BoxO ob sc i) (hi : 0 ≤ i ∧ i ≤ 5) (z1 : CellO o1 v1) (z2 : CellO o2 v2) (z3 : CellO o3 v3) (o498 : @LT.lt Nat _ 498 c1) (o12 : @LT.lt Nat _ c1 c2) (o23 : @LT.lt Nat _ c2 c3) (o3s : @LT.lt Nat _ c3 sc) (osb : @LT.lt Nat _ sc bx) (I : IntsAre xs ns) (hl : ns.length ≤ 12)
    (hbox : m (Str.ofString "box") = some (.ref bx)) (hx : m (Str.ofString "x") = some (.ref ax)) (hat : m (Str.ofString "at") = some (.int k ta)) (hk : 0 ≤ k ∧ k < 4) (hwh : m (Str.ofString "which") = some (.int j tw))
    (fin : ∀ h' tk' m' ob' o1' o2' o3' ps' rest', LS base L bx sc c1 c2 c3 h' m' ob' o1' o2' o3' c' xs ps' rest' → Go (Q (.ret (.bool true)) { s with heap := h', toks := tk' })) :
    Go (wpAny (model prog w) (callerA.deeper (lawEnv L a c1 c2 c3)) (execs (lawRest 2) (lawEnv L a c1 c2 c3)) Q E s) := by
  obtain ⟨rest, H, K⟩ := LS.of F N (.tail _ (.tail _ (.tail _ (.head _)))) (.tail _ (.tail _ (.tail _ (.tail _ (.head _))))) (.tail _ (.tail _ (.tail _ (.tail _ (.tail _ (.tail _ (.tail _ (.tail _ (.head _)))))))))
    (.tail _ (.tail _ (.tail _ (.tail _ (.tail _ (.tail _ (.tail _ (.head _)))))))) (.tail _ (.tail _ (.tail _ (.tail _ (.tail _ (.tail _ (.head _))))))) (.tail _ (.tail _ (.tail _ (.tail _ (.tail _ (.tail _ (.tail _ (.tail _ (.tail _ (.head _)))))))))) o498 o12 o23 o3s osb Z z1 z2 z3
  exact tail2 Bl X T S CH H Z hi z1 z2 z3 I hl hbox hx (.tuple (.inr (K _ (.tail _ (.tail _ (.head _))) (.tup _))) (.cons (.str _ _) (.cons (.str _ _) .nil))) hat hk hwh fin
theorem stays_self {P : Params} {h : Heap} (_ : (KQ P).In h) : h.StaysIn h := fun _ _ e => e
theorem rows_81 : True := by
  (k_with "M:newList" => (k_here; k_dflt (refine' newList_K ?r265a ?r265b ?_; (case r265a => k_asm); (case r265b => k_asm); k_whole); intro l'_r h'_r F'_r N'_r l1_r; (try k_lt l1_r); (try k_sweep)))
  (k_with "my go" => repeat' (first | (k_unfold; (try dsimp only)) | (k_end; wrow_close) | ((fail_if_success (with_reducible show wpAny _ _ (execs (Stmt.Assign _ _ ⟨474, _, _, _⟩ :: _) _) _ _ _)); walk1) | (dsimp only; (fail_if_success (with_reducible show wpAny _ _ (execs (Stmt.Assign _ _ ⟨474, _, _, _⟩ :: _) _) _ _ _)); walk1) | (leave1; walk_say "STEP leave1"; try dsimp only) | fail "no step"))
  trivial
set_option maxHeartbeats 4000000 in
theorem law_holds : PySem.Challenge.rw_rh0037_03.Holds := by
  w_on
  refine holds_law said9 fun said => ?_
  refine holds_open (q := qv) (loose := lo9) (Xt := xt9) (XP := XL qv lv9) (Yf := Hook.obs hook9) (Ya := Hook.val hook9) (YP := Hook.says hook9) (N := 5300) left9 (Hook.of hook9) (Hook.keeps hook9) (fun s e => xl_of s (Bool.and_eq_true_iff.mp e).1) XL.keeps (by rfl) (by rfl) (by rfl) (fun s e => recFacts_of (Bool.and_eq_true_iff.mp e).2) (by rfl) said ok9 bare9 ?hw ?hc
  case hw => w_witness2
  k_go0
  (all_goals try k_fold)
  have S9 := stays_self (by with_reducible assumption)
  k_extra "my go"
  refine Go.go ?g9
  refine' law_start ?Bl ?X ?T ?S ?CH ?F ?N ?Z ?hi ?z1 ?z2 ?z3 ?o1 ?o2 ?o3 ?o4 ?o5 ?I ?hl ?l1 ?l2 ?l3 ?hk ?l4 ?fin
  case F => with_reducible assumption
  case N => with_reducible assumption
  case Bl => assumption
  case X => assumption
  case T => assumption
  case S => assumption
  case CH => assumption
  case Z => with_reducible assumption
  case hi => decide
  case z1 => with_reducible assumption
  case z2 => with_reducible assumption
  case z3 => with_reducible assumption
  case o1 => omega
  case o2 => omega
  case o3 => omega
  case o4 => omega
  case o5 => omega
  case I => with_reducible assumption
  case hl => omega
  case l1 => k_extra "my look"
  case l2 => k_extra "my look"
  case l3 => k_extra "my look"
  case l4 => k_extra "my look"
  case hk => omega
  case fin =>
    intro h7 tk7 m7 ob7 o17 o27 o37 ps7 rest7 H7
    refine ⟨?_⟩
    obtain ⟨F7, N7, _, _, _, _, _, _, _, _, _, _, _⟩ := id H7
    (try dsimp only)
    k_steps
theorem rows_82 : True := by
  (k_with "my go" => repeat' (first | (k_unfold; (try dsimp only)) | (k_end; wrow_close) | ((fail_if_success (k_extra "my stop")); walk1) | (dsimp only; (fail_if_success (k_extra "my stop")); walk1) | (leave1; walk_say "STEP leave1"; try dsimp only) | fail "no step"))
  (k_with "M:newList" => (k_here; k_dflt (refine' newList_K ?r268a ?r268b ?_; (case r268a => k_asm); (case r268b => k_asm); k_whole); intro l'_r h'_r F'_r N'_r l1_r; (try k_sweep)))
  trivial

end Mine
theorem PySem.Challenge.cw_rh0037_03_holds : PySem.Challenge.rw_rh0037_03.Holds := by
  exact Mine.law_holds
