import PyProof.Rows.All
import Wide.All
import OpenK.AllK
import Wide.FinOn
import KE.IntBitsLaws
import PySem.Challenge.RW_no0502_01
set_option maxRecDepth 100000
set_option Elab.async false
set_option linter.all false
set_option genSizeOf false
set_option genInjectivity false
set_option compiler.extract_closed false
open PySem PySem.W PyProof.Rows
namespace Mine
-- part L0Head
noncomputable abbrev prg : Program := PySem.Challenge.pw_no0502_01
noncomputable def fbody : Stmt → List Stmt
  | .FunctionDef _ _ b .. => b
  | _ => []
-- the statements of the program's text, by place
noncomputable def nthS : List Stmt → Nat → Stmt
  | a :: _, 0 => a
  | _ :: r, n + 1 => nthS r n
  | [], _ => default
noncomputable def pst (i : Nat) : Stmt := nthS prg.main.body i
noncomputable def cbody : Stmt → List Stmt
  | .ClassDef _ _ _ b .. => b
  | _ => []
noncomputable def cin (i : Nat) : Stmt := nthS (cbody (pst i)) 0
noncomputable def fpar : Stmt → Arguments
  | .FunctionDef _ a .. => a
  | _ => default
noncomputable def fscp : Stmt → Scope
  | .FunctionDef _ _ _ _ _ _ sc .. => sc
  | _ => default
noncomputable def fnK (st : Stmt) (nm qn : Str) (d : Value) (md : Str) (tk co : Nat) : Obj := { cls := .type "function", data := .func { name := nm, qualname := qn, params := fpar st, body := .stmts (fbody st), scope := fscp st, globals := 3, closure := [], defaults := d, kwdefaults := .none, pyModule := .str md tk, code := .ref co } }
noncomputable def kvE (P : Params) (k : Str) (t : Nat) (v : Value) : DictEntry := { hash := PyData.keyHash P k, key := .str k t, val := v }
-- what the text has built when law is called (addresses and tokens as the model lays them)
noncomputable def heapK : Params → Frag := fun P => [
  (2, { cls := Value.none, data := Data.dict #[kvE P "type.__subclasses__.Exception.0" 205 (Value.int 24 0), kvE P "type.__subclasses__.Exception.n" 206 (Value.int 1 0)] 2 }),
  (3, { cls := .type "dict", data := Data.dict #[kvE P "__name__" 165 (Value.str "law_no0502_01" 483), kvE P "__doc__" 166 (Value.none), kvE P "__package__" 167 (Value.none), kvE P "__loader__" 168 (Value.builtin "__main__.__loader__#\x6fpaque"), kvE P "__spec__" 169 (Value.none), kvE P "__annotations__" 170 (Value.ref 6), kvE P "__builtins__" 171 (Value.ref 4), kvE P "__file__" 173 (Value.str "/claim/cut.py" 172), kvE P "__cached__" 174 (Value.none), kvE P "CoveError" 208 (Value.ref 24), kvE P "Refusal" 233 (Value.ref 44), kvE P "NAN" 238 (Value.ref 47), kvE P "gcd" 246 (Value.ref 54), kvE P "make" 255 (Value.ref 61), kvE P "is_na" 262 (Value.ref 68), kvE P "is_finite" 269 (Value.ref 75), kvE P "marked" 277 (Value.ref 82), kvE P "neg" 284 (Value.ref 89), kvE P "add" 292 (Value.ref 96), kvE P "sub" 300 (Value.ref 103), kvE P "mul" 308 (Value.ref 110), kvE P "div" 316 (Value.ref 117), kvE P "ZERO" 321 (Value.ref 118), kvE P "Fit" 363 (Value.ref 135), kvE P "weighted" 369 (Value.ref 144), kvE P "dot" 379 (Value.ref 151), kvE P "less_multiple" 385 (Value.ref 156), kvE P "check_finite" 394 (Value.ref 163), kvE P "check_weights" 403 (Value.ref 170), kvE P "orthogonal" 418 (Value.ref 177), kvE P "back_coefficients" 428 (Value.ref 184), kvE P "used_rows" 434 (Value.ref 189), kvE P "combine" 440 (Value.ref 194), kvE P "fit" 446 (Value.ref 200), kvE P "rss" 453 (Value.ref 207), kvE P "step_square" 461 (Value.ref 214), kvE P "anova_rows" 473 (Value.ref 221), kvE P "predicted" 482 (Value.ref 228), kvE P "_law_pick" 494 (Value.ref 235), kvE P "_law_low" 504 (Value.ref 242), kvE P "_law_add" 512 (Value.ref 249), kvE P "_law_mul" 520 (Value.ref 256), kvE P "_law_dot" 530 (Value.ref 263), kvE P "_law_rank" 536 (Value.ref 268), kvE P "_law_value" 544 (Value.ref 275), kvE P "law" 550 (Value.ref 280)] 46 }),
  (23, { cls := .type "dict", data := Data.dict #[kvE P "__module__" 196 (Value.str "vectorcove.errors" 187), kvE P "__firstlineno__" 200 (Value.int 2 199), kvE P "__static_attributes__" 201 (Value.ref 22), kvE P "__weakref__" 203 (Value.ref 25), kvE P "__doc__" 204 (Value.none)] 3 }),
  (24, { cls := .type "type", data := Data.cls { name := "CoveError", bases := [.type "Exception"], mro := [Value.ref 24, .type "Exception", .type "BaseException", .type "object"], ns := 23, qualname := "CoveError", subclasses := [Value.ref 44] }, slots := #[some (Value.ref 15), none, some (Value.str "CoveError" 189), some (Value.str "CoveError" 197), some (Value.builtin "Exception.__new__"), some (Value.bool true)] }),
  (40, { cls := .type "code", data := Data.fields #[Value.str "__init__" 221, Value.str "Refusal.__init__" 222, Value.str "/claim/cut.py" 223, Value.int 6 0, Value.int 2 0, Value.int 0 0, Value.int 0 0, Value.int 3 0, Value.ref 35, Value.bool true, Value.int 181 0, Value.ref 36, Value.none, Value.ref 37, Value.ref 38, Value.ref 39, Value.int 226 0, Value.int 6 0, Value.str "/claim/cut.py" 227] }),
  (41, fnK (cin 2) "__init__" "Refusal.__init__" .none "vectorcove.errors" 187 40),
  (43, { cls := .type "dict", data := Data.dict #[kvE P "__module__" 216 (Value.str "vectorcove.errors" 187), kvE P "__firstlineno__" 220 (Value.int 4 219), kvE P "__init__" 228 (Value.ref 41), kvE P "__static_attributes__" 230 (Value.ref 42), kvE P "__doc__" 231 (Value.none)] 2 }),
  (44, { cls := .type "type", data := Data.cls { name := "Refusal", bases := [Value.ref 24], mro := [Value.ref 44, Value.ref 24, .type "Exception", .type "BaseException", .type "object"], ns := 43, qualname := "Refusal" }, slots := #[some (Value.ref 28), none, some (Value.str "Refusal" 209), some (Value.str "Refusal" 217), some (Value.builtin "Exception.__new__"), some (Value.bool true)] }),
  (47, { cls := .type "tuple", data := Data.seq #[Value.int 0 236, Value.int 0 237] }),
  (53, { cls := .type "code", data := Data.fields #[Value.str "gcd" 239, Value.str "gcd" 240, Value.str "/claim/cut.py" 241, Value.int 10 0, Value.int 2 0, Value.int 0 0, Value.int 0 0, Value.int 3 0, Value.ref 48, Value.bool true, Value.int 181 0, Value.ref 49, Value.none, Value.ref 50, Value.ref 51, Value.ref 52, Value.int 244 0, Value.int 10 0, Value.str "/claim/cut.py" 245] }),
  (54, fnK (pst 5) "gcd" "gcd" .none "vectorcove.rational" 234 53),
  (60, { cls := .type "code", data := Data.fields #[Value.str "make" 247, Value.str "make" 248, Value.str "/claim/cut.py" 249, Value.int 14 0, Value.int 2 0, Value.int 0 0, Value.int 0 0, Value.int 3 0, Value.ref 55, Value.bool true, Value.int 181 0, Value.ref 56, Value.none, Value.ref 57, Value.ref 58, Value.ref 59, Value.int 253 0, Value.int 14 0, Value.str "/claim/cut.py" 254] }),
  (61, fnK (pst 6) "make" "make" .none "vectorcove.rational" 234 60),
  (67, { cls := .type "code", data := Data.fields #[Value.str "is_na" 256, Value.str "is_na" 257, Value.str "/claim/cut.py" 258, Value.int 24 0, Value.int 1 0, Value.int 0 0, Value.int 0 0, Value.int 3 0, Value.ref 62, Value.bool true, Value.int 181 0, Value.ref 63, Value.none, Value.ref 64, Value.ref 65, Value.ref 66, Value.int 260 0, Value.int 24 0, Value.str "/claim/cut.py" 261] }),
  (68, fnK (pst 7) "is_na" "is_na" .none "vectorcove.rational" 234 67),
  (74, { cls := .type "code", data := Data.fields #[Value.str "is_finite" 263, Value.str "is_finite" 264, Value.str "/claim/cut.py" 265, Value.int 26 0, Value.int 1 0, Value.int 0 0, Value.int 0 0, Value.int 3 0, Value.ref 69, Value.bool true, Value.int 181 0, Value.ref 70, Value.none, Value.ref 71, Value.ref 72, Value.ref 73, Value.int 267 0, Value.int 26 0, Value.str "/claim/cut.py" 268] }),
  (75, fnK (pst 8) "is_finite" "is_finite" .none "vectorcove.rational" 234 74),
  (81, { cls := .type "code", data := Data.fields #[Value.str "marked" 270, Value.str "marked" 271, Value.str "/claim/cut.py" 272, Value.int 28 0, Value.int 2 0, Value.int 0 0, Value.int 0 0, Value.int 3 0, Value.ref 76, Value.bool true, Value.int 181 0, Value.ref 77, Value.none, Value.ref 78, Value.ref 79, Value.ref 80, Value.int 275 0, Value.int 28 0, Value.str "/claim/cut.py" 276] }),
  (82, fnK (pst 9) "marked" "marked" .none "vectorcove.rational" 234 81),
  (88, { cls := .type "code", data := Data.fields #[Value.str "neg" 278, Value.str "neg" 279, Value.str "/claim/cut.py" 280, Value.int 32 0, Value.int 1 0, Value.int 0 0, Value.int 0 0, Value.int 3 0, Value.ref 83, Value.bool true, Value.int 181 0, Value.ref 84, Value.none, Value.ref 85, Value.ref 86, Value.ref 87, Value.int 282 0, Value.int 32 0, Value.str "/claim/cut.py" 283] }),
  (89, fnK (pst 10) "neg" "neg" .none "vectorcove.rational" 234 88),
  (95, { cls := .type "code", data := Data.fields #[Value.str "add" 285, Value.str "add" 286, Value.str "/claim/cut.py" 287, Value.int 36 0, Value.int 2 0, Value.int 0 0, Value.int 0 0, Value.int 3 0, Value.ref 90, Value.bool true, Value.int 181 0, Value.ref 91, Value.none, Value.ref 92, Value.ref 93, Value.ref 94, Value.int 290 0, Value.int 36 0, Value.str "/claim/cut.py" 291] }),
  (96, fnK (pst 11) "add" "add" .none "vectorcove.rational" 234 95),
  (102, { cls := .type "code", data := Data.fields #[Value.str "sub" 293, Value.str "sub" 294, Value.str "/claim/cut.py" 295, Value.int 46 0, Value.int 2 0, Value.int 0 0, Value.int 0 0, Value.int 3 0, Value.ref 97, Value.bool true, Value.int 181 0, Value.ref 98, Value.none, Value.ref 99, Value.ref 100, Value.ref 101, Value.int 298 0, Value.int 46 0, Value.str "/claim/cut.py" 299] }),
  (103, fnK (pst 12) "sub" "sub" .none "vectorcove.rational" 234 102),
  (109, { cls := .type "code", data := Data.fields #[Value.str "mul" 301, Value.str "mul" 302, Value.str "/claim/cut.py" 303, Value.int 48 0, Value.int 2 0, Value.int 0 0, Value.int 0 0, Value.int 3 0, Value.ref 104, Value.bool true, Value.int 181 0, Value.ref 105, Value.none, Value.ref 106, Value.ref 107, Value.ref 108, Value.int 306 0, Value.int 48 0, Value.str "/claim/cut.py" 307] }),
  (110, fnK (pst 13) "mul" "mul" .none "vectorcove.rational" 234 109),
  (116, { cls := .type "code", data := Data.fields #[Value.str "div" 309, Value.str "div" 310, Value.str "/claim/cut.py" 311, Value.int 52 0, Value.int 2 0, Value.int 0 0, Value.int 0 0, Value.int 3 0, Value.ref 111, Value.bool true, Value.int 181 0, Value.ref 112, Value.none, Value.ref 113, Value.ref 114, Value.ref 115, Value.int 314 0, Value.int 52 0, Value.str "/claim/cut.py" 315] }),
  (117, fnK (pst 14) "div" "div" .none "vectorcove.rational" 234 116),
  (118, { cls := .type "tuple", data := Data.seq #[Value.int 0 319, Value.int 1 320] }),
  (131, { cls := .type "code", data := Data.fields #[Value.str "__init__" 334, Value.str "Fit.__init__" 335, Value.str "/claim/cut.py" 336, Value.int 64 0, Value.int 5 0, Value.int 0 0, Value.int 0 0, Value.int 3 0, Value.ref 126, Value.bool true, Value.int 181 0, Value.ref 127, Value.none, Value.ref 128, Value.ref 129, Value.ref 130, Value.int 342 0, Value.int 64 0, Value.str "/claim/cut.py" 343] }),
  (132, fnK (cin 17) "__init__" "Fit.__init__" .none "vectorcove.lsfit" 317 131),
  (134, { cls := .type "dict", data := Data.dict #[kvE P "__module__" 329 (Value.str "vectorcove.lsfit" 317), kvE P "__firstlineno__" 333 (Value.int 62 332), kvE P "__init__" 344 (Value.ref 132), kvE P "__static_attributes__" 356 (Value.ref 133), kvE P "__dict__" 358 (Value.ref 136), kvE P "__weakref__" 360 (Value.ref 137), kvE P "__doc__" 361 (Value.none)] 4 }),
  (135, { cls := .type "type", data := Data.cls { name := "Fit", bases := [.type "object"], mro := [Value.ref 135, .type "object"], ns := 134, qualname := "Fit" }, slots := #[none, none, some (Value.str "Fit" 322), some (Value.str "Fit" 330), some (Value.builtin "object.__new__"), some (Value.bool true)] }),
  (143, { cls := .type "code", data := Data.fields #[Value.str "weighted" 364, Value.str "weighted" 365, Value.str "/claim/cut.py" 366, Value.int 76 0, Value.int 2 0, Value.int 0 0, Value.int 0 0, Value.int 3 0, Value.ref 140, Value.bool true, Value.int 181 0, Value.ref 141, Value.none, Value.none, Value.none, Value.ref 142, Value.int 367 0, Value.int 76 0, Value.str "/claim/cut.py" 368] }),
  (144, fnK (pst 18) "weighted" "weighted" .none "vectorcove.lsfit" 317 143),
  (150, { cls := .type "code", data := Data.fields #[Value.str "dot" 370, Value.str "dot" 371, Value.str "/claim/cut.py" 372, Value.int 80 0, Value.int 2 0, Value.int 0 0, Value.int 0 0, Value.int 3 0, Value.ref 145, Value.bool true, Value.int 181 0, Value.ref 146, Value.none, Value.ref 147, Value.ref 148, Value.ref 149, Value.int 377 0, Value.int 80 0, Value.str "/claim/cut.py" 378] }),
  (151, fnK (pst 19) "dot" "dot" .none "vectorcove.lsfit" 317 150),
  (155, { cls := .type "code", data := Data.fields #[Value.str "less_multiple" 380, Value.str "less_multiple" 381, Value.str "/claim/cut.py" 382, Value.int 86 0, Value.int 3 0, Value.int 0 0, Value.int 0 0, Value.int 3 0, Value.ref 152, Value.bool true, Value.int 181 0, Value.ref 153, Value.none, Value.none, Value.none, Value.ref 154, Value.int 383 0, Value.int 86 0, Value.str "/claim/cut.py" 384] }),
  (156, fnK (pst 20) "less_multiple" "less_multiple" .none "vectorcove.lsfit" 317 155),
  (162, { cls := .type "code", data := Data.fields #[Value.str "check_finite" 386, Value.str "check_finite" 387, Value.str "/claim/cut.py" 388, Value.int 90 0, Value.int 2 0, Value.int 0 0, Value.int 0 0, Value.int 3 0, Value.ref 157, Value.bool true, Value.int 181 0, Value.ref 158, Value.none, Value.ref 159, Value.ref 160, Value.ref 161, Value.int 392 0, Value.int 90 0, Value.str "/claim/cut.py" 393] }),
  (163, fnK (pst 21) "check_finite" "check_finite" .none "vectorcove.lsfit" 317 162),
  (169, { cls := .type "code", data := Data.fields #[Value.str "check_weights" 395, Value.str "check_weights" 396, Value.str "/claim/cut.py" 397, Value.int 94 0, Value.int 2 0, Value.int 0 0, Value.int 0 0, Value.int 3 0, Value.ref 164, Value.bool true, Value.int 181 0, Value.ref 165, Value.none, Value.ref 166, Value.ref 167, Value.ref 168, Value.int 401 0, Value.int 94 0, Value.str "/claim/cut.py" 402] }),
  (170, fnK (pst 22) "check_weights" "check_weights" .none "vectorcove.lsfit" 317 169),
  (176, { cls := .type "code", data := Data.fields #[Value.str "orthogonal" 404, Value.str "orthogonal" 405, Value.str "/claim/cut.py" 406, Value.int 100 0, Value.int 2 0, Value.int 0 0, Value.int 0 0, Value.int 3 0, Value.ref 171, Value.bool true, Value.int 181 0, Value.ref 172, Value.none, Value.ref 173, Value.ref 174, Value.ref 175, Value.int 416 0, Value.int 100 0, Value.str "/claim/cut.py" 417] }),
  (177, fnK (pst 23) "orthogonal" "orthogonal" .none "vectorcove.lsfit" 317 176),
  (183, { cls := .type "code", data := Data.fields #[Value.str "back_coefficients" 419, Value.str "back_coefficients" 420, Value.str "/claim/cut.py" 421, Value.int 117 0, Value.int 1 0, Value.int 0 0, Value.int 0 0, Value.int 3 0, Value.ref 178, Value.bool true, Value.int 181 0, Value.ref 179, Value.none, Value.ref 180, Value.ref 181, Value.ref 182, Value.int 426 0, Value.int 117 0, Value.str "/claim/cut.py" 427] }),
  (184, fnK (pst 24) "back_coefficients" "back_coefficients" .none "vectorcove.lsfit" 317 183),
  (188, { cls := .type "code", data := Data.fields #[Value.str "used_rows" 429, Value.str "used_rows" 430, Value.str "/claim/cut.py" 431, Value.int 123 0, Value.int 2 0, Value.int 0 0, Value.int 0 0, Value.int 3 0, Value.ref 185, Value.bool true, Value.int 181 0, Value.ref 186, Value.none, Value.none, Value.none, Value.ref 187, Value.int 432 0, Value.int 123 0, Value.str "/claim/cut.py" 433] }),
  (189, fnK (pst 25) "used_rows" "used_rows" .none "vectorcove.lsfit" 317 188),
  (193, { cls := .type "code", data := Data.fields #[Value.str "combine" 435, Value.str "combine" 436, Value.str "/claim/cut.py" 437, Value.int 127 0, Value.int 3 0, Value.int 0 0, Value.int 0 0, Value.int 3 0, Value.ref 190, Value.bool true, Value.int 181 0, Value.ref 191, Value.none, Value.none, Value.none, Value.ref 192, Value.int 438 0, Value.int 127 0, Value.str "/claim/cut.py" 439] }),
  (194, fnK (pst 26) "combine" "combine" .none "vectorcove.lsfit" 317 193),
  (195, { cls := .type "tuple", data := Data.seq #[Value.none] }),
  (199, { cls := .type "code", data := Data.fields #[Value.str "fit" 441, Value.str "fit" 442, Value.str "/claim/cut.py" 443, Value.int 134 0, Value.int 3 0, Value.int 0 0, Value.int 0 0, Value.int 3 0, Value.ref 196, Value.bool true, Value.int 181 0, Value.ref 197, Value.none, Value.none, Value.none, Value.ref 198, Value.int 444 0, Value.int 134 0, Value.str "/claim/cut.py" 445] }),
  (200, fnK (pst 27) "fit" "fit" (.ref 195) "vectorcove.lsfit" 317 199),
  (206, { cls := .type "code", data := Data.fields #[Value.str "rss" 447, Value.str "rss" 448, Value.str "/claim/cut.py" 449, Value.int 157 0, Value.int 1 0, Value.int 0 0, Value.int 0 0, Value.int 3 0, Value.ref 201, Value.bool true, Value.int 181 0, Value.ref 202, Value.none, Value.ref 203, Value.ref 204, Value.ref 205, Value.int 451 0, Value.int 157 0, Value.str "/claim/cut.py" 452] }),
  (207, fnK (pst 28) "rss" "rss" .none "vectorcove.lsfit" 317 206),
  (213, { cls := .type "code", data := Data.fields #[Value.str "step_square" 454, Value.str "step_square" 455, Value.str "/claim/cut.py" 456, Value.int 159 0, Value.int 2 0, Value.int 0 0, Value.int 0 0, Value.int 3 0, Value.ref 208, Value.bool true, Value.int 181 0, Value.ref 209, Value.none, Value.ref 210, Value.ref 211, Value.ref 212, Value.int 459 0, Value.int 159 0, Value.str "/claim/cut.py" 460] }),
  (214, fnK (pst 29) "step_square" "step_square" .none "vectorcove.lsfit" 317 213),
  (220, { cls := .type "code", data := Data.fields #[Value.str "anova_rows" 462, Value.str "anova_rows" 463, Value.str "/claim/cut.py" 464, Value.int 161 0, Value.int 2 0, Value.int 0 0, Value.int 0 0, Value.int 3 0, Value.ref 215, Value.bool true, Value.int 181 0, Value.ref 216, Value.none, Value.ref 217, Value.ref 218, Value.ref 219, Value.int 471 0, Value.int 161 0, Value.str "/claim/cut.py" 472] }),
  (221, fnK (pst 30) "anova_rows" "anova_rows" .none "vectorcove.lsfit" 317 220),
  (227, { cls := .type "code", data := Data.fields #[Value.str "predicted" 474, Value.str "predicted" 475, Value.str "/claim/cut.py" 476, Value.int 171 0, Value.int 3 0, Value.int 0 0, Value.int 0 0, Value.int 3 0, Value.ref 222, Value.bool true, Value.int 181 0, Value.ref 223, Value.none, Value.ref 224, Value.ref 225, Value.ref 226, Value.int 480 0, Value.int 171 0, Value.str "/claim/cut.py" 481] }),
  (228, fnK (pst 31) "predicted" "predicted" .none "vectorcove.lsfit" 317 227),
  (234, { cls := .type "code", data := Data.fields #[Value.str "_law_pick" 485, Value.str "_law_pick" 486, Value.str "/claim/cut.py" 487, Value.int 174 0, Value.int 2 0, Value.int 0 0, Value.int 0 0, Value.int 3 0, Value.ref 229, Value.bool true, Value.int 181 0, Value.ref 230, Value.none, Value.ref 231, Value.ref 232, Value.ref 233, Value.int 492 0, Value.int 174 0, Value.str "/claim/cut.py" 493] }),
  (235, fnK (pst 33) "_law_pick" "_law_pick" .none "law_no0502_01" 483 234),
  (241, { cls := .type "code", data := Data.fields #[Value.str "_law_low" 495, Value.str "_law_low" 496, Value.str "/claim/cut.py" 497, Value.int 185 0, Value.int 2 0, Value.int 0 0, Value.int 0 0, Value.int 3 0, Value.ref 236, Value.bool true, Value.int 181 0, Value.ref 237, Value.none, Value.ref 238, Value.ref 239, Value.ref 240, Value.int 502 0, Value.int 185 0, Value.str "/claim/cut.py" 503] }),
  (242, fnK (pst 34) "_law_low" "_law_low" .none "law_no0502_01" 483 241),
  (248, { cls := .type "code", data := Data.fields #[Value.str "_law_add" 505, Value.str "_law_add" 506, Value.str "/claim/cut.py" 507, Value.int 191 0, Value.int 2 0, Value.int 0 0, Value.int 0 0, Value.int 3 0, Value.ref 243, Value.bool true, Value.int 181 0, Value.ref 244, Value.none, Value.ref 245, Value.ref 246, Value.ref 247, Value.int 510 0, Value.int 191 0, Value.str "/claim/cut.py" 511] }),
  (249, fnK (pst 35) "_law_add" "_law_add" .none "law_no0502_01" 483 248),
  (255, { cls := .type "code", data := Data.fields #[Value.str "_law_mul" 513, Value.str "_law_mul" 514, Value.str "/claim/cut.py" 515, Value.int 193 0, Value.int 2 0, Value.int 0 0, Value.int 0 0, Value.int 3 0, Value.ref 250, Value.bool true, Value.int 181 0, Value.ref 251, Value.none, Value.ref 252, Value.ref 253, Value.ref 254, Value.int 518 0, Value.int 193 0, Value.str "/claim/cut.py" 519] }),
  (256, fnK (pst 36) "_law_mul" "_law_mul" .none "law_no0502_01" 483 255),
  (262, { cls := .type "code", data := Data.fields #[Value.str "_law_dot" 521, Value.str "_law_dot" 522, Value.str "/claim/cut.py" 523, Value.int 195 0, Value.int 2 0, Value.int 0 0, Value.int 0 0, Value.int 3 0, Value.ref 257, Value.bool true, Value.int 181 0, Value.ref 258, Value.none, Value.ref 259, Value.ref 260, Value.ref 261, Value.int 528 0, Value.int 195 0, Value.str "/claim/cut.py" 529] }),
  (263, fnK (pst 37) "_law_dot" "_law_dot" .none "law_no0502_01" 483 262),
  (267, { cls := .type "code", data := Data.fields #[Value.str "_law_rank" 531, Value.str "_law_rank" 532, Value.str "/claim/cut.py" 533, Value.int 200 0, Value.int 1 0, Value.int 0 0, Value.int 0 0, Value.int 3 0, Value.ref 264, Value.bool true, Value.int 181 0, Value.ref 265, Value.none, Value.none, Value.none, Value.ref 266, Value.int 534 0, Value.int 200 0, Value.str "/claim/cut.py" 535] }),
  (268, fnK (pst 38) "_law_rank" "_law_rank" .none "law_no0502_01" 483 267),
  (274, { cls := .type "code", data := Data.fields #[Value.str "_law_value" 537, Value.str "_law_value" 538, Value.str "/claim/cut.py" 539, Value.int 215 0, Value.int 1 0, Value.int 0 0, Value.int 0 0, Value.int 3 0, Value.ref 269, Value.bool true, Value.int 181 0, Value.ref 270, Value.none, Value.ref 271, Value.ref 272, Value.ref 273, Value.int 542 0, Value.int 215 0, Value.str "/claim/cut.py" 543] }),
  (275, fnK (pst 39) "_law_value" "_law_value" .none "law_no0502_01" 483 274),
  (279, { cls := .type "code", data := Data.fields #[Value.str "law" 545, Value.str "law" 546, Value.str "/claim/cut.py" 547, Value.int 218 0, Value.int 1 0, Value.int 0 0, Value.int 0 0, Value.int 3 0, Value.ref 276, Value.bool true, Value.int 181 0, Value.ref 277, Value.none, Value.none, Value.none, Value.ref 278, Value.int 548 0, Value.int 218 0, Value.str "/claim/cut.py" 549] }),
  (280, fnK (pst 40) "law" "law" .none "law_no0502_01" 483 279)]
noncomputable def adsK : List Addr := [2, 3, 23, 24, 40, 41, 43, 44, 47, 53, 54, 60, 61, 67, 68, 74, 75, 81, 82, 88, 89, 95, 96, 102, 103, 109, 110, 116, 117, 118, 131, 132, 134, 135, 143, 144, 150, 151, 155, 156, 162, 163, 169, 170, 176, 177, 183, 184, 188, 189, 193, 194, 195, 199, 200, 206, 207, 213, 214, 220, 221, 227, 228, 234, 235, 241, 242, 248, 249, 255, 256, 262, 263, 267, 268, 274, 275, 279, 280]
noncomputable def keepS (l : List Stmt) : List Nat → List Stmt
  | [] => []
  | i :: r => nthS l i :: keepS l r
-- the text without the rows that it needs not
noncomputable def view : Program := { prg with main := { prg.main with body := keepS prg.main.body [1, 2, 4, 5, 6, 7, 8, 9, 10, 11, 12, 13, 14, 16, 17, 18, 19, 20, 21, 22, 23, 24, 25, 26, 28, 29, 30, 31, 33, 34, 35, 36, 37, 38, 39, 40] } }
noncomputable abbrev KK (w : World) : Frag := heapK w.params
theorem adsE : ∀ P, adsK = (heapK P).map (·.1) := fun _ => by kernel_rfl
noncomputable abbrev HK : Hook := kHook heapK adsK adsE
theorem said1 : (PySem.Challenge.rw_no0502_01).wellSaid = true := by kernel_rfl
theorem left1 : LeftO PySem.Challenge.pw_no0502_01 view [Str.ofString "fit"] (fun s => xlAt view [] s && recOk (RowW.records PySem.Challenge.rw_no0502_01.row.toRowW) s) (Hook.obs HK) (Hook.val HK) 3506 := fun w => by kernel_rfl
-- part L1Base
section
set_option tactic.hygienic false
-- abstract values: tup, lst, rng are frozen and said by value; loc is an owned object
inductive V where
  | none | bool (b : Bool) | int (i : Int) | str (s : Str)
  | tup (l : List V) | lst (l : List V) | rng (a b c : Int) | loc (a : Addr)
noncomputable abbrev Ghost := Addr → Option Obj
noncomputable abbrev tupObj (vs : List Value) (n : Nat) : Obj := { cls := .type "tuple", data := .seq vs.toArray n }
noncomputable abbrev lstObj (vs : List Value) (n : Nat) : Obj := { cls := .type "list", data := .seq vs.toArray n }
noncomputable abbrev rngObj (a b c : Int) (t u v : Tok) : Obj := { cls := .type "range", dict := none, data := .fields #[.int a t, .int b u, .int c v], slots := #[] }
mutual
inductive RV (G : Ghost) : V → Value → Prop where
  | none : RV G .none .none
  | bool {b : Bool} : RV G (.bool b) (.bool b)
  | int {i : Int} {t : Tok} : RV G (.int i) (.int i t)
  | str {s : Str} {t : Tok} : RV G (.str s) (.str s t)
  | tup {l : List V} {vs : List Value} {a : Addr} {n : Nat} : G a = some (tupObj vs n) → RVs G l vs → RV G (.tup l) (.ref a)
  | lst {l : List V} {vs : List Value} {a : Addr} {n : Nat} : G a = some (lstObj vs n) → RVs G l vs → RV G (.lst l) (.ref a)
  | rng {x y z : Int} {t u v : Tok} {a : Addr} : G a = some (rngObj x y z t u v) → RV G (.rng x y z) (.ref a)
  | loc {a : Addr} : RV G (.loc a) (.ref a)
inductive RVs (G : Ghost) : List V → List Value → Prop where
  | nil : RVs G [] []
  | cons {v : V} {l : List V} {x : Value} {xs : List Value} : RV G v x → RVs G l xs → RVs G (v :: l) (x :: xs)
end
noncomputable abbrev Gsub (G G' : Ghost) : Prop := ∀ a o, G a = some o → G' a = some o
theorem RV.mono {G G' : Ghost} (h : Gsub G G') {v : V} {x : Value} (r : RV G v x) : RV G' v x :=
  RV.rec (motive_1 := fun v x _ => RV G' v x) (motive_2 := fun l xs _ => RVs G' l xs) .none .bool .int .str (fun g _ i => .tup (h _ _ g) i) (fun g _ i => .lst (h _ _ g) i) (fun g => .rng (h _ _ g)) .loc .nil (fun _ _ i j => .cons i j) r
theorem RVs.mono {G G' : Ghost} (h : Gsub G G') {l : List V} {vs : List Value} (r : RVs G l vs) : RVs G' l vs :=
  RVs.rec (motive_1 := fun v x _ => RV G' v x) (motive_2 := fun l xs _ => RVs G' l xs) .none .bool .int .str (fun g _ i => .tup (h _ _ g) i) (fun g _ i => .lst (h _ _ g) i) (fun g => .rng (h _ _ g)) .loc .nil (fun _ _ i j => .cons i j) r
theorem RVs.length {G : Ghost} {l : List V} : ∀ {vs : List Value}, RVs G l vs → l.length = vs.length := by
  induction l with
  | nil => intro vs h; cases h; rfl
  | cons v l ih => intro vs h; cases h with | cons a b => exact congrArg (· + 1) (ih b)
theorem RVs.get {G : Ghost} {l : List V} : ∀ {vs : List Value} {i : Nat} {v : V}, RVs G l vs → l[i]? = some v → ∃ x, vs[i]? = some x ∧ RV G v x := by
  induction l with
  | nil => intro vs i v h e; cases e
  | cons u l ih =>
    intro vs i v h e
    cases h with
    | cons a b =>
      cases i with
      | zero => cases e; exact ⟨_, rfl, a⟩
      | succ i => exact ih (i := i) b e
theorem RVs.append {G : Ghost} {l l' : List V} {vs' : List Value} (h' : RVs G l' vs') : ∀ {vs : List Value}, RVs G l vs → RVs G (l ++ l') (vs ++ vs') := by
  induction l with
  | nil => intro vs h; cases h; exact h'
  | cons v l ih => intro vs h; cases h with | cons a b => exact .cons a (ih b)
theorem RVs.snoc {G : Ghost} {l : List V} {vs : List Value} {v : V} {x : Value} (h : RVs G l vs) (hx : RV G v x) : RVs G (l ++ [v]) (vs ++ [x]) := RVs.append (.cons hx .nil) h
theorem RVs.take {G : Ghost} {l : List V} : ∀ {vs : List Value} (n : Nat), RVs G l vs → RVs G (l.take n) (vs.take n) := by
  induction l with
  | nil => intro vs n h; cases h; cases n <;> exact .nil
  | cons v l ih =>
    intro vs n h
    cases h with
    | cons a b => cases n with | zero => exact .nil | succ n => exact .cons a (ih n b)
theorem RVs.set {G : Ghost} {l : List V} {v : V} {x : Value} (r : RV G v x) : ∀ {vs : List Value} (n : Nat), RVs G l vs → RVs G (l.set n v) (vs.set n x) := by
  induction l with
  | nil => intro vs n h; cases h; exact .nil
  | cons u l ih =>
    intro vs n h
    cases h with
    | cons a b => cases n with | zero => exact .cons r b | succ n => exact .cons a (ih n b)
-- owned objects
inductive AO where
  | lst (l : List V)
  | inst (d : Addr) (fs : List (Str × V))
noncomputable abbrev Own := List (Addr × AO)
noncomputable def AO.addrs (a : Addr) : AO → List Addr
  | .lst _ => [a]
  | .inst d _ => [a, d]
noncomputable def addrs : Own → List Addr
  | [] => []
  | p :: r => p.2.addrs p.1 ++ addrs r
inductive FsRel (G : Ghost) : List (Str × V) → List DictEntry → Prop where
  | nil : FsRel G [] []
  | cons {x : Str} {v : V} {fs : List (Str × V)} {hsh : Int} {t : Tok} {y : Value} {es : List DictEntry} : RV G v y → FsRel G fs es → FsRel G ((x, v) :: fs) (⟨hsh, .str x t, y⟩ :: es)
theorem FsRel.mono {G G' : Ghost} (h : Gsub G G') {fs es} (F : FsRel G fs es) : FsRel G' fs es := by
  induction F with
  | nil => exact .nil
  | cons a _ ih => exact .cons (a.mono h) ih
noncomputable def fitC : Addr := 135
noncomputable def OwnAt (G : Ghost) (h : Heap) (a : Addr) : AO → Prop
  | .lst l => ∃ vs n, h.get? a = some (lstObj vs n) ∧ RVs G l vs
  | .inst d fs => ∃ es n, h.get? a = some (instObj fitC d) ∧ h.get? d = some (dictOf es n) ∧ FsRel G fs es
theorem OwnAt.mono {G G' : Ghost} {h : Heap} {a : Addr} (hs : Gsub G G') : ∀ {o : AO}, OwnAt G h a o → OwnAt G' h a o
  | .lst _, ⟨vs, n, x, y⟩ => ⟨vs, n, x, y.mono hs⟩
  | .inst _ _, ⟨es, n, x, y, z⟩ => ⟨es, n, x, y, z.mono hs⟩
theorem OwnAt.keeps {G : Ghost} {h h' : Heap} {a : Addr} : ∀ {o : AO}, OwnAt G h a o → (∀ b ∈ o.addrs a, ∀ x, h.get? b = some x → h'.get? b = some x) → OwnAt G h' a o
  | .lst _, ⟨vs, n, x, y⟩, k => ⟨vs, n, k _ (by simp [AO.addrs]) _ x, y⟩
  | .inst _ _, ⟨es, n, x, y, z⟩, k => ⟨es, n, k _ (by simp [AO.addrs]) _ x, k _ (by simp [AO.addrs]) _ y, z⟩
theorem OwnAt.lt {G : Ghost} {h : Heap} {a : Addr} : ∀ {o : AO}, OwnAt G h a o → ∀ b ∈ o.addrs a, ∃ x, h.get? b = some x
  | .lst _, ⟨vs, n, x, y⟩, b, hb => by simp [AO.addrs] at hb; subst hb; exact ⟨_, x⟩
  | .inst _ _, ⟨es, n, x, y, z⟩, b, hb => by
    simp [AO.addrs] at hb
    rcases hb with rfl | rfl
    · exact ⟨_, x⟩
    · exact ⟨_, y⟩
theorem mem_addrs {own : Own} {b : Addr} : b ∈ addrs own ↔ ∃ p ∈ own, b ∈ p.2.addrs p.1 := by
  induction own with
  | nil => simp [addrs]
  | cons p r ih => simp [addrs, ih]
structure SR (h₀ : Heap) (G : Ghost) (own : Own) (h : Heap) : Prop where
  base : ∀ a o, h₀.get? a = some o → G a = some o
  frozen : ∀ a o, G a = some o → h.get? a = some o ∧ a ∉ addrs own
  nodup : (addrs own).Nodup
  owned : ∀ p ∈ own, OwnAt G h p.1 p.2
theorem SR.ownGet {h₀ : Heap} {G : Ghost} {own : Own} {h : Heap} (S : SR h₀ G own h) {b : Addr} (hb : b ∈ addrs own) : ∃ o, h.get? b = some o := by
  obtain ⟨p, hp, hb⟩ := mem_addrs.mp hb
  exact (S.owned p hp).lt b hb
theorem get?_size_none (h : Heap) : h.get? h.objs.size = none := by
  cases hq : h.get? h.objs.size with
  | none => rfl
  | some o => exact absurd (Heap.lt_size hq) (Nat.lt_irrefl _)
theorem SR.fresh_own {h₀ : Heap} {G : Ghost} {own : Own} {h : Heap} (S : SR h₀ G own h) {b : Addr} (hb : h.get? b = none) : b ∉ addrs own := fun hm => by
  obtain ⟨o, ho⟩ := S.ownGet hm
  rw [hb] at ho; cases ho
theorem SR.fresh_G {h₀ : Heap} {G : Ghost} {own : Own} {h : Heap} (S : SR h₀ G own h) {b : Addr} (hb : h.get? b = none) : G b = none := by
  cases hq : G b with
  | none => rfl
  | some o => have := (S.frozen b o hq).1; rw [hb] at this; cases this
-- how the state moves
structure Ev (h₀ : Heap) (G : Ghost) (own : Own) (s : Shared) (G' : Ghost) (own' : Own) (s' : Shared) : Prop where
  same : ∃ h' tk, s' = { s with heap := h', toks := tk }
  sub : Gsub G G'
  keep : ∀ b o, s.heap.get? b = some o → b ∉ addrs own → G b = none → s'.heap.get? b = some o ∧ b ∉ addrs own' ∧ G' b = none
  sr : SR h₀ G' own' s'.heap
theorem Ev.refl {h₀ : Heap} {G : Ghost} {own : Own} {s : Shared} (S : SR h₀ G own s.heap) : Ev h₀ G own s G own s := ⟨⟨s.heap, s.toks, rfl⟩, fun _ _ h => h, fun _ _ a b c => ⟨a, b, c⟩, S⟩
theorem Ev.trans {h₀ : Heap} {G G₁ G₂ : Ghost} {own own₁ own₂ : Own} {s s₁ s₂ : Shared} (x : Ev h₀ G own s G₁ own₁ s₁) (y : Ev h₀ G₁ own₁ s₁ G₂ own₂ s₂) : Ev h₀ G own s G₂ own₂ s₂ := by
  obtain ⟨h1, t1, e1⟩ := x.same
  obtain ⟨h2, t2, e2⟩ := y.same
  refine ⟨⟨h2, t2, by rw [e2, e1]⟩, fun a o h => y.sub a o (x.sub a o h), fun b o h1 h2 h3 => ?_, y.sr⟩
  obtain ⟨k1, k2, k3⟩ := x.keep b o h1 h2 h3
  exact y.keep b o k1 k2 k3
-- nothing that stands is turned
theorem Ev.junk {h₀ : Heap} {G : Ghost} {own : Own} {s s' : Shared} (S : SR h₀ G own s.heap) (same : ∃ h' tk, s' = { s with heap := h', toks := tk }) (k : ∀ b o, s.heap.get? b = some o → s'.heap.get? b = some o) : Ev h₀ G own s G own s' :=
  ⟨same, fun _ _ h => h, fun b o a c d => ⟨k b o a, c, d⟩, ⟨S.base, fun a o h => ⟨k a o (S.frozen a o h).1, (S.frozen a o h).2⟩, S.nodup, fun p hp => (S.owned p hp).keeps fun b _ x e => k b x e⟩⟩
theorem Ev.tok {h₀ : Heap} {G : Ghost} {own : Own} {s : Shared} (S : SR h₀ G own s.heap) (t : Nat) : Ev h₀ G own s G own { s with toks := t } := .junk S ⟨s.heap, t, rfl⟩ fun _ _ h => h
noncomputable def gput (G : Ghost) (a : Addr) (o : Obj) : Ghost := fun b => if b = a then some o else G b
set_option tactic.hygienic true in
theorem gput_sub {h₀ : Heap} {G : Ghost} {own : Own} {h : Heap} (S : SR h₀ G own h) {a : Addr} {o : Obj} (ha : h.get? a = none) : Gsub G (gput G a o) := fun b o' e => by
  unfold gput
  split
  · rename_i hb; subst hb; rw [S.fresh_G ha] at e; cases e
  · exact e
theorem gput_self {G : Ghost} {a : Addr} {o : Obj} : gput G a o a = some o := by simp [gput]
-- a new object that is frozen at once
set_option tactic.hygienic true in
theorem Ev.newFrozen {h₀ : Heap} {G : Ghost} {own : Own} {s s' : Shared} {a : Addr} {o : Obj} (S : SR h₀ G own s.heap) (same : ∃ h' tk, s' = { s with heap := h', toks := tk }) (k : ∀ b o, s.heap.get? b = some o → s'.heap.get? b = some o)
    (ha : s.heap.get? a = none) (ha' : s'.heap.get? a = some o) : Ev h₀ G own s (gput G a o) own s' := by
  refine ⟨same, gput_sub S ha, fun b o' h1 h2 h3 => ⟨k b o' h1, h2, ?_⟩, ?_⟩
  · unfold gput
    split
    · rename_i hb; subst hb; rw [ha] at h1; cases h1
    · exact h3
  · refine ⟨fun b o' e => gput_sub S ha b o' (S.base b o' e), fun b o' e => ?_, S.nodup, fun p hp => ((S.owned p hp).keeps fun b _ x e => k b x e).mono (gput_sub S ha)⟩
    unfold gput at e
    split at e
    · rename_i hb; subst hb; cases e; exact ⟨ha', S.fresh_own ha⟩
    · exact ⟨k _ _ (S.frozen _ _ e).1, (S.frozen _ _ e).2⟩
-- a new object that is owned
theorem Ev.newOwn {h₀ : Heap} {G : Ghost} {own : Own} {s s' : Shared} {a : Addr} {o : AO} (S : SR h₀ G own s.heap) (same : ∃ h' tk, s' = { s with heap := h', toks := tk }) (k : ∀ b o, s.heap.get? b = some o → s'.heap.get? b = some o)
    (ha : ∀ b ∈ o.addrs a, s.heap.get? b = none) (hn : (o.addrs a).Nodup) (ha' : OwnAt G s'.heap a o) : Ev h₀ G own s G ((a, o) :: own) s' := by
  refine ⟨same, fun _ _ h => h, fun b o' h1 h2 h3 => ⟨k b o' h1, ?_, h3⟩, ?_⟩
  · simp only [addrs, List.mem_append, not_or]
    exact ⟨fun hm => (by rw [ha b hm] at h1; cases h1), h2⟩
  · refine ⟨S.base, fun b o' e => ⟨k _ _ (S.frozen _ _ e).1, ?_⟩, ?_, fun p hp => ?_⟩
    · simp only [addrs, List.mem_append, not_or]
      exact ⟨fun hm => (by have := (S.frozen _ _ e).1; rw [ha b hm] at this; cases this), (S.frozen _ _ e).2⟩
    · simp only [addrs]
      exact List.nodup_append.mpr ⟨hn, S.nodup, fun b hb c hc e => by subst e; exact S.fresh_own (ha b hb) hc⟩
    · rcases List.mem_cons.mp hp with rfl | hp
      · exact ha'
      · exact (S.owned p hp).keeps fun b _ x e => k b x e
theorem nodup_mid {own₁ own₂ : Own} {a : Addr} {o : AO} (h : (addrs (own₁ ++ (a, o) :: own₂)).Nodup) : ∀ b ∈ o.addrs a, b ∉ addrs own₁ ∧ b ∉ addrs own₂ := by
  induction own₁ with
  | nil =>
    simp only [List.nil_append, addrs] at h ⊢
    intro b hb
    exact ⟨by simp, fun hc => (List.nodup_append.mp h).2.2 b hb b hc rfl⟩
  | cons p r ih =>
    simp only [List.cons_append, addrs] at h ⊢
    intro b hb
    obtain ⟨h1, h2, h3⟩ := List.nodup_append.mp h
    obtain ⟨i1, i2⟩ := ih h2 b hb
    refine ⟨?_, i2⟩
    simp only [List.mem_append, not_or]
    refine ⟨fun hc => h3 b hc b ?_ rfl, i1⟩
    exact mem_addrs.mpr ⟨(a, o), by simp, hb⟩
theorem addrs_append {own₁ own₂ : Own} : addrs (own₁ ++ own₂) = addrs own₁ ++ addrs own₂ := by
  induction own₁ with
  | nil => rfl
  | cons p r ih => simp [addrs, ih]
-- an owned object is turned in its place
theorem Ev.turn {h₀ : Heap} {G : Ghost} {own₁ own₂ : Own} {s s' : Shared} {a : Addr} {o o' : AO} (S : SR h₀ G (own₁ ++ (a, o) :: own₂) s.heap) (same : ∃ h' tk, s' = { s with heap := h', toks := tk })
    (hadd : o'.addrs a = o.addrs a) (k : ∀ b x, b ∉ o.addrs a → s.heap.get? b = some x → s'.heap.get? b = some x) (ha' : OwnAt G s'.heap a o') :
    Ev h₀ G (own₁ ++ (a, o) :: own₂) s G (own₁ ++ (a, o') :: own₂) s' := by
  have hA : addrs (own₁ ++ (a, o') :: own₂) = addrs (own₁ ++ (a, o) :: own₂) := by simp only [addrs_append, addrs, hadd]
  have hin : ∀ b ∈ o.addrs a, b ∈ addrs (own₁ ++ (a, o) :: own₂) := fun b hb => mem_addrs.mpr ⟨(a, o), by simp, hb⟩
  refine ⟨same, fun _ _ h => h, fun b x h1 h2 h3 => ⟨k b x (fun hb => h2 (hin b hb)) h1, by rw [hA]; exact h2, h3⟩, S.base, fun b x e => ?_, by rw [hA]; exact S.nodup, fun p hp => ?_⟩
  · obtain ⟨e1, e2⟩ := S.frozen b x e
    exact ⟨k b x (fun hb => e2 (hin b hb)) e1, by rw [hA]; exact e2⟩
  · have hp' : p ∈ own₁ ∨ p = (a, o') ∨ p ∈ own₂ := by simpa using hp
    have nd := nodup_mid S.nodup
    rcases hp' with hp' | rfl | hp'
    · exact (S.owned p (by simp [hp'])).keeps fun b hb x e => k b x (fun hc => (nd b hc).1 (mem_addrs.mpr ⟨p, hp', hb⟩)) e
    · exact ha'
    · exact (S.owned p (by simp [hp'])).keeps fun b hb x e => k b x (fun hc => (nd b hc).2 (mem_addrs.mpr ⟨p, hp', hb⟩)) e
-- an owned list is frozen
set_option tactic.hygienic true in
theorem Ev.freeze {h₀ : Heap} {G : Ghost} {own₁ own₂ : Own} {s : Shared} {a : Addr} {l : List V} (S : SR h₀ G (own₁ ++ (a, .lst l) :: own₂) s.heap) :
    ∃ G', Ev h₀ G (own₁ ++ (a, .lst l) :: own₂) s G' (own₁ ++ own₂) s ∧ RV G' (.lst l) (.ref a) := by
  obtain ⟨vs, n, h1, h2⟩ := S.owned (a, .lst l) (by simp)
  have ha : a ∈ addrs (own₁ ++ (a, AO.lst l) :: own₂) := mem_addrs.mpr ⟨(a, AO.lst l), by simp, by simp [AO.addrs]⟩
  have hG : G a = none := by
    cases hq : G a with
    | none => rfl
    | some o => exact absurd ha (S.frozen a o hq).2
  have sub : Gsub G (gput G a (lstObj vs n)) := fun b o e => by
    unfold gput; split
    · rename_i hb; subst hb; rw [hG] at e; cases e
    · exact e
  have nd := nodup_mid S.nodup a (by simp [AO.addrs])
  have hne : a ∉ addrs (own₁ ++ own₂) := by rw [addrs_append]; simp [nd.1, nd.2]
  have hsub : ∀ b, b ∈ addrs (own₁ ++ own₂) → b ∈ addrs (own₁ ++ (a, AO.lst l) :: own₂) := fun b hb => by
    simp only [addrs_append, addrs, List.mem_append] at hb ⊢
    rcases hb with hb | hb
    · exact .inl hb
    · exact .inr (.inr hb)
  refine ⟨gput G a (lstObj vs n), ⟨⟨s.heap, s.toks, rfl⟩, sub, fun b o e1 e2 e3 => ⟨e1, fun hb => e2 (hsub b hb), ?_⟩, fun b o e => sub b o (S.base b o e), fun b o e => ?_, ?_, fun p hp => ?_⟩, .lst gput_self (h2.mono sub)⟩
  · unfold gput; split
    · rename_i hb; subst hb; exact absurd ha e2
    · exact e3
  · unfold gput at e
    split at e
    · rename_i hb; subst hb; cases e; exact ⟨h1, hne⟩
    · exact ⟨(S.frozen _ _ e).1, fun hb => (S.frozen _ _ e).2 (hsub b hb)⟩
  · have := S.nodup
    simp only [addrs_append, addrs, AO.addrs] at this ⊢
    refine List.Nodup.sublist ?_ this
    exact List.Sublist.append_left (List.sublist_append_right _ _) _
  · have hp' : p ∈ own₁ ∨ p ∈ own₂ := by simpa using hp
    exact (S.owned p (by rcases hp' with h | h <;> simp [h])).mono sub
-- frames
noncomputable abbrev Rho := List (Str × V)
noncomputable abbrev Ns := List (Str × NameKind)
structure EnvOk (ns : Ns) (env : Env) : Prop where
  names : env.scope.names = ns
  kind : env.scope.kind = .function
  glob : env.globals = mainGlobals
  blt : env.builtins = builtinsNs
noncomputable def inC (env : Env) (b : Addr) : Prop := ∃ x, env.cells.lookup x = some b
structure FR (G : Ghost) (own : Own) (env : Env) (ρ : Rho) (h : Heap) : Prop where
  ns : ∃ m, h.Ns env.locals m ∧ ∀ x v, ρ.lookup x = some v → env.kindOf x = some .local → ∃ v', m x = some v' ∧ RV G v v'
  cells : ∀ x v, ρ.lookup x = some v → env.kindOf x = some .cell → ∃ c v', env.cells.lookup x = some c ∧ h.IsCell c (some v') ∧ RV G v v'
  cok : ∀ x, env.kindOf x = some .cell → ∃ c v0, env.cells.lookup x = some c ∧ h.IsCell c v0
  inj : ∀ x y c, env.cells.lookup x = some c → env.cells.lookup y = some c → x = y
  free : ∀ b, b = env.locals ∨ inC env b → b ∉ addrs own ∧ G b = none ∧ ∃ o, h.get? b = some o
  lc : ¬ inC env env.locals
theorem FR.ev {h₀ : Heap} {G G' : Ghost} {own own' : Own} {env : Env} {ρ : Rho} {s s' : Shared} (F : FR G own env ρ s.heap) (e : Ev h₀ G own s G' own' s') : FR G' own' env ρ s'.heap := by
  have kp : ∀ b, b = env.locals ∨ inC env b → ∀ o, s.heap.get? b = some o → s'.heap.get? b = some o ∧ b ∉ addrs own' ∧ G' b = none := fun b hb o ho => e.keep b o ho (F.free b hb).1 (F.free b hb).2.1
  have cl : ∀ {c v}, inC env c → s.heap.IsCell c v → s'.heap.IsCell c v := fun hc ⟨o, ho, hd⟩ => ⟨o, (kp _ (.inr hc) o ho).1, hd⟩
  have lm : ∀ {x c}, env.cells.lookup x = some c → inC env c := fun h => ⟨_, h⟩
  refine ⟨?_, fun x v hx hk => ?_, fun x hk => ?_, F.inj, fun b hb => ?_, F.lc⟩
  · obtain ⟨m, ⟨o, es, ep, ho, r⟩, hm⟩ := F.ns
    exact ⟨m, ⟨o, es, ep, (kp _ (.inl rfl) o ho).1, r⟩, fun x v hx hk => let ⟨v', a, b⟩ := hm x v hx hk; ⟨v', a, b.mono e.sub⟩⟩
  · obtain ⟨c, v', h1, h2, h3⟩ := F.cells x v hx hk
    exact ⟨c, v', h1, cl (lm h1) h2, h3.mono e.sub⟩
  · obtain ⟨c, v0, h1, h2⟩ := F.cok x hk
    exact ⟨c, v0, h1, cl (lm h1) h2⟩
  · obtain ⟨a, b', o, ho⟩ := F.free b hb
    obtain ⟨k1, k2, k3⟩ := kp b hb o ho
    exact ⟨k2, k3, o, k1⟩
theorem FR.weaken {G : Ghost} {own : Own} {env : Env} {ρ ρ' : Rho} {h : Heap} (F : FR G own env ρ h) (hs : ∀ x v, ρ'.lookup x = some v → ρ.lookup x = some v) : FR G own env ρ' h := by
  refine ⟨?_, fun x v hx hk => F.cells x v (hs x v hx) hk, F.cok, F.inj, F.free, F.lc⟩
  obtain ⟨m, a, b⟩ := F.ns
  exact ⟨m, a, fun x v hx hk => b x v (hs x v hx) hk⟩
-- the world around: the written part and the top
structure Cx (w : World) (h₀ : Heap) : Prop where
  k : (KK w).In h₀
  t : ∃ mg mb, TopRead view (looseW view [Str.ofString "fit"]) mg mb h₀
  seer : h₀.NoSeer
structure Room (n : Nat) (A : Around) : Prop where
  handled : A.handled = none
  depth : A.depth + n + 100 < recursionLimit
  units : A.units + 16 * (n + 1) < cLine
  fr : ∃ env l, A.frames = some (env :: l) ∧ env.scope.isGenerator = false ∧ env.scope.isCoroutine = false ∧ env.builtins = builtinsNs ∧ env.globals = mainGlobals
theorem SR.keeps0 {h₀ : Heap} {G : Ghost} {own : Own} {h : Heap} (S : SR h₀ G own h) : ∀ b o, h₀.get? b = some o → h.get? b = some o := fun b o e => (S.frozen b o (S.base b o e)).1
theorem Room.pylong {n : Nat} {A : Around} {w : World} {h₀ : Heap} {G : Ghost} {own : Own} {s : Shared} (R : Room n A) (C : Cx w h₀) (S : SR h₀ G own s.heap) : PylongRoom (model prg w) A s := by
  obtain ⟨env, l, h1, h2, h3, h4, h5⟩ := R.fr
  obtain ⟨mg, mb, T⟩ := C.t
  exact PylongRoom.of (T.nolimit.keeps S.keeps0) (by have := R.depth; show A.depth + 100 < _; omega) (SeerAt.of (C.seer.keeps S.keeps0) rfl h1 h2 h3 h4 h5)
noncomputable def PostV (h₀ : Heap) (G : Ghost) (own : Own) (s : Shared) (Q : V → Own → Prop) : Value → Shared → Prop := fun v' s' => ∃ v own' G', Q v own' ∧ RV G' v v' ∧ Ev h₀ G own s G' own' s'
noncomputable def PostVs (h₀ : Heap) (G : Ghost) (own : Own) (s : Shared) (Q : List V → Own → Prop) : List Value → Shared → Prop := fun v' s' => ∃ v own' G', Q v own' ∧ RVs G' v v' ∧ Ev h₀ G own s G' own' s'
noncomputable def PostB (h₀ : Heap) (G : Ghost) (own : Own) (s : Shared) (Q : Bool → Own → Prop) : Bool → Shared → Prop := fun b s' => ∃ own' G', Q b own' ∧ Ev h₀ G own s G' own' s'
-- an expression
structure EV (n : Nat) (ns : Ns) (ρ : Rho) (own : Own) (e : PySem.Expr) (Q : V → Own → Prop) : Prop where
  go : ∀ (w : World) (h₀ : Heap) (A : Around) (env : Env) (s : Shared) (G : Ghost) (E : Value → Shared → Prop), Cx w h₀ → Room n A → EnvOk ns env → SR h₀ G own s.heap → FR G own env ρ s.heap →
    wpAny (model prg w) A (eval e env) (PostV h₀ G own s Q) E s
-- a test
structure EB (n : Nat) (ns : Ns) (ρ : Rho) (own : Own) (e : PySem.Expr) (Q : Bool → Own → Prop) : Prop where
  go : ∀ (w : World) (h₀ : Heap) (A : Around) (env : Env) (s : Shared) (G : Ghost) (E : Value → Shared → Prop), Cx w h₀ → Room n A → EnvOk ns env → SR h₀ G own s.heap → FR G own env ρ s.heap →
    wpAny (model prg w) A (isTrue e env (eval e env)) (PostB h₀ G own s Q) E s
-- a call of a def
structure CALL (n : Nat) (f : Addr) (vs : List V) (own : Own) (Q : V → Own → Prop) : Prop where
  go : ∀ (w : World) (h₀ : Heap) (A : Around) (s : Shared) (G : Ghost) (E : Value → Shared → Prop) (vs' : List Value), Cx w h₀ → Room n A → SR h₀ G own s.heap → RVs G vs vs' →
    wpAny (model prg w) A (call (.ref f) vs') (PostV h₀ G own s Q) E s
theorem PostV.after {h₀ : Heap} {G G₁ : Ghost} {own own₁ : Own} {s s₁ : Shared} {Q : V → Own → Prop} {v : Value} {s' : Shared} (e : Ev h₀ G own s G₁ own₁ s₁) (h : PostV h₀ G₁ own₁ s₁ Q v s') : PostV h₀ G own s Q v s' := by
  obtain ⟨a, o, g, h1, h2, h3⟩ := h
  exact ⟨a, o, g, h1, h2, e.trans h3⟩
theorem PostB.after {h₀ : Heap} {G G₁ : Ghost} {own own₁ : Own} {s s₁ : Shared} {Q : Bool → Own → Prop} {v : Bool} {s' : Shared} (e : Ev h₀ G own s G₁ own₁ s₁) (h : PostB h₀ G₁ own₁ s₁ Q v s') : PostB h₀ G own s Q v s' := by
  obtain ⟨o, g, h1, h3⟩ := h
  exact ⟨o, g, h1, e.trans h3⟩
end
-- part L2Expr
section
set_option tactic.hygienic false
section
variable {n : Nat} {ns : Ns} {ρ : Rho} {own : Own}
theorem EV.mono {e : PySem.Expr} {Q Q' : V → Own → Prop} (h : EV n ns ρ own e Q) (hq : ∀ v o, Q v o → Q' v o) : EV n ns ρ own e Q' :=
  .mk fun w h₀ A env s G E C R K S F => wpAny_mono (h.go w h₀ A env s G E C R K S F) (fun _ _ q_u => by obtain ⟨v, o, g, a, b, c⟩ := q_u; exact ⟨v, o, g, hq _ _ a, b, c⟩) fun _ _ x => x
theorem kindOf_of {env : Env} {x : Str} {k : Option NameKind} (K : EnvOk ns env) (h : ns.lookup x = k) : env.kindOf x = k := by
  unfold Env.kindOf; rw [K.names]; exact h
-- constants
theorem ev_int {i : Int} {k : Nat} {p : Pos} {Q : V → Own → Prop} (h : Q (.int i) own) : EV n ns ρ own (.Constant (.int i) k p) Q :=
  .mk fun _ _ _ _ s _ _ _ _ _ S _ => wpAny_Constant_int ⟨_, _, _, h, .int, .tok S _⟩
theorem ev_str {i : Str} {k : Nat} {p : Pos} {Q : V → Own → Prop} (h : Q (.str i) own) : EV n ns ρ own (.Constant (.str i) k p) Q :=
  .mk fun _ _ _ _ s _ _ _ _ _ S _ => wpAny_Constant_str ⟨_, _, _, h, .str, .tok S _⟩
theorem ev_bool {i : Bool} {k : Nat} {p : Pos} {Q : V → Own → Prop} (h : Q (.bool i) own) : EV n ns ρ own (.Constant (.bool i) k p) Q :=
  .mk fun _ _ _ _ s _ _ _ _ _ S _ => wpAny_Constant_bool ⟨_, _, _, h, .bool, .refl S⟩
theorem ev_none {k : Nat} {p : Pos} {Q : V → Own → Prop} (h : Q .none own) : EV n ns ρ own (.Constant .none k p) Q :=
  .mk fun _ _ _ _ s _ _ _ _ _ S _ => wpAny_Constant_none ⟨_, _, _, h, .none, .refl S⟩
-- names
noncomputable def isLC : Option NameKind → Bool
  | some .local => true
  | some .cell => true
  | _ => false
theorem loadLC {x : Str} {v : V} {w : World} {A : Around} {env : Env} {s : Shared} {G : Ghost} {E : Value → Shared → Prop} {Q : Value → Shared → Prop} (hl : ρ.lookup x = some v) (hk : isLC (ns.lookup x) = true)
    (K : EnvOk ns env) (F : FR G own env ρ s.heap) (h : ∀ v', RV G v v' → Q v' s) : wpAny (model prg w) A (loadName env x) Q E s := by
  have hk' := kindOf_of (x := x) K rfl
  cases hq : ns.lookup x with
  | none => rw [hq] at hk; cases hk
  | some k =>
    rw [hq] at hk hk'
    cases k <;> try cases hk
    · obtain ⟨m, hm, hr⟩ := F.ns
      obtain ⟨v', a, b⟩ := hr x v hl hk'
      exact wpAny_loadName_local K.kind hk' hm a (h v' b)
    · obtain ⟨c, v', a, b, d⟩ := F.cells x v hl hk'
      exact wpAny_loadName_cell K.kind hk' a b (h v' d)
theorem ev_name {x : Str} {p : Pos} {v : V} {Q : V → Own → Prop} (hl : ρ.lookup x = some v) (hk : isLC (ns.lookup x) = true) (h : Q v own) (hd : (x == ("__debug__" : Str)) = false := by decide) : EV n ns ρ own (.Name x p) Q :=
  .mk fun _ _ _ _ s _ _ _ _ K S F => wpAny_Name (loadLC hl hk K F fun v' r => ⟨_, _, _, h, r, .refl S⟩) hd
theorem glob_of {w : World} {h₀ : Heap} {G : Ghost} {s : Shared} (C : Cx w h₀) (S : SR h₀ G own s.heap) : ∃ mg mb, s.heap.Ns mainGlobals mg ∧ s.heap.Ns builtinsNs mb ∧ (∀ x v, nsIn (KK w) mainGlobals x = some (some v) → mg x = some v) ∧ (∀ x, nsIn (KK w) mainGlobals x = some none → mg x = none) ∧ ∀ x : Str, x ≠ "__name__" → mb x = bootBuiltins x := by
  obtain ⟨mg, mb, T⟩ := C.t
  exact ⟨mg, mb, T.g.keeps S.keeps0, T.b.keeps S.keeps0, fun x v h => mg_of C.k T.g h, fun x h => mg_none_of C.k T.g h, T.builtins⟩
theorem wp_global {x : Str} {p : Pos} {v : Value} {w : World} {h₀ : Heap} {A : Around} {env : Env} {s : Shared} {G : Ghost} {E : Value → Shared → Prop} {Q : Value → Shared → Prop} (hg : nsIn (KK w) mainGlobals x = some (some v)) (hk : ns.lookup x = some .globalImplicit)
    (C : Cx w h₀) (K : EnvOk ns env) (S : SR h₀ G own s.heap) (h : Q v s) (hd : (x == ("__debug__" : Str)) = false := by decide) : wpAny (model prg w) A (eval (.Name x p) env) Q E s := by
  obtain ⟨mg, mb, h1, h2, h3, h4, h5⟩ := glob_of C S
  exact Calls.Name_function_global K.kind (kindOf_of K hk) (Calls.loadGlobal_global (by rw [K.glob]; exact h1) (h3 x v hg) h) hd
theorem wp_builtin {x : Str} {p : Pos} {v : Value} {w : World} {h₀ : Heap} {A : Around} {env : Env} {s : Shared} {G : Ghost} {E : Value → Shared → Prop} {Q : Value → Shared → Prop} (hg : nsIn (KK w) mainGlobals x = some none) (hb : bootBuiltins x = some v) (hk : ns.lookup x = some .globalImplicit)
    (C : Cx w h₀) (K : EnvOk ns env) (S : SR h₀ G own s.heap) (h : Q v s) (hn : x ≠ "__name__" := by decide) (hd : (x == ("__debug__" : Str)) = false := by decide) : wpAny (model prg w) A (eval (.Name x p) env) Q E s := by
  obtain ⟨mg, mb, h1, h2, h3, h4, h5⟩ := glob_of C S
  exact Calls.Name_function_global K.kind (kindOf_of K hk) (Calls.loadGlobal_builtin (by rw [K.glob]; exact h1) (h4 x hg) (by rw [K.blt]; exact h2) ((h5 x hn).trans hb) h) hd
theorem kGet {w : World} {h₀ : Heap} {G : Ghost} {h : Heap} {a : Addr} {o : Obj} (C : Cx w h₀) (S : SR h₀ G own h) (e : (KK w).lookup a = some o) : G a = some o := S.base a o (C.k a o e)
-- a global tuple of two ints
theorem ev_gtup {x : Str} {p : Pos} {a : Addr} {i j : Int} {t u : Tok} {Q : V → Own → Prop} (hg : ∀ w, nsIn (KK w) mainGlobals x = some (some (.ref a))) (ho : ∀ w, (KK w).lookup a = some (tupObj [.int i t, .int j u] 0)) (hk : ns.lookup x = some .globalImplicit)
    (h : Q (.tup [.int i, .int j]) own) (hd : (x == ("__debug__" : Str)) = false := by decide) : EV n ns ρ own (.Name x p) Q :=
  .mk fun w _ _ _ s _ _ C _ K S F => wp_global (hg w) hk C K S ⟨_, _, _, h, .tup (kGet C S (ho w)) (.cons .int (.cons .int .nil)), .refl S⟩ hd
-- lists of expressions
structure EVL (n : Nat) (ns : Ns) (ρ : Rho) (own : Own) (es : List PySem.Expr) (Q : List V → Own → Prop) : Prop where
  go : ∀ (w : World) (h₀ : Heap) (A : Around) (env : Env) (s : Shared) (G : Ghost) (E : Value → Shared → Prop) (pos : Pos), Cx w h₀ → Room n A → EnvOk ns env → SR h₀ G own s.heap → FR G own env ρ s.heap →
    wpAny (model prg w) A (spliced (backTo pos (starEach es env))) (PostVs h₀ G own s Q) E s
noncomputable def noStar : PySem.Expr → Bool
  | .Starred .. => false
  | _ => true
theorem starEach_cons {e : PySem.Expr} {r : List PySem.Expr} {env : Env} (h : noStar e = true) : starEach (e :: r) env = (false, eval e env) :: starEach r env := by
  cases e <;> first | rfl | cases h
theorem backTo_cons {e : PySem.Expr} {r : List PySem.Expr} {env : Env} {pos : Pos} (h : noStar e = true) : backTo pos (starEach (e :: r) env) = (false, eval e env) :: backTo pos (starEach r env) := by
  rw [starEach_cons h]; rfl
theorem evl_nil {Q : List V → Own → Prop} (h : Q [] own) : EVL n ns ρ own [] Q :=
  .mk fun _ _ _ _ s _ _ _ _ _ _ S _ => Calls.spliced_nil ⟨_, _, _, h, .nil, .refl S⟩
theorem evl_cons {e : PySem.Expr} {r : List PySem.Expr} {Q : List V → Own → Prop} (h : EV n ns ρ own e fun v o => EVL n ns ρ o r fun vs o' => Q (v :: vs) o') (hn : noStar e = true := by rfl) : EVL n ns ρ own (e :: r) Q :=
  .mk fun w h₀ A env s G E pos C R K S F => by
    rw [backTo_cons hn]
    refine Calls.spliced_cons (wpAny_mono (h.go w h₀ A env s G E C R K S F) (fun v' s₁ q_u => ?_) fun _ _ x => x)
    obtain ⟨v, o, G₁, h1, h2, h3⟩ := q_u
    refine wpAny_mono (h1.go w h₀ A env s₁ G₁ E pos C R K h3.sr (F.ev h3)) (fun vs' s₂ q_u => ?_) fun _ _ x => x
    obtain ⟨vs, o', G₂, h4, h5, h6⟩ := q_u
    exact ⟨_, _, _, h4, .cons (h2.mono h6.sub) h5, h3.trans h6⟩
-- displays
theorem ev_tuple {es : List PySem.Expr} {k : Nat} {p : Pos} {Q : V → Own → Prop} (h : EVL n ns ρ own es fun vs o => vs.length ≤ sizeLine ∧ Q (.tup vs) o) : EV n ns ρ own (.Tuple es k p) Q :=
  .mk fun w h₀ A env s G E C R K S F => wpAny_Tuple (wpAny_mono (h.go w h₀ A env s G E p C R K S F) (fun vs' s₁ ⟨vs, o, G₁, h1, h2, h3⟩ => ⟨by rw [← h2.length]; exact h1.1,
    _, _, _, h1.2, .tup gput_self (h2.mono (gput_sub h3.sr (get?_size_none _))), h3.trans (.newFrozen h3.sr ⟨_, _, rfl⟩ (fun b o e => Heap.get?_push_of_some _ e) (get?_size_none _) (Heap.get?_push_size _ rfl))⟩) fun _ _ x => x)
theorem ev_list_frozen {es : List PySem.Expr} {p : Pos} {Q : V → Own → Prop} (h : EVL n ns ρ own es fun vs o => vs.length ≤ sizeLine ∧ Q (.lst vs) o) : EV n ns ρ own (.List es p) Q :=
  .mk fun w h₀ A env s G E C R K S F => List_ (wpAny_mono (h.go w h₀ A env s G E p C R K S F) (fun vs' s₁ ⟨vs, o, G₁, h1, h2, h3⟩ => wpAny_newObj_type (
    ⟨_, _, _, h1.2, .lst gput_self (h2.mono (gput_sub h3.sr (get?_size_none _))), h3.trans (.newFrozen h3.sr ⟨_, _, rfl⟩ (fun b o e => Heap.get?_push_of_some _ e) (get?_size_none _) (Heap.get?_push_size _ rfl))⟩)
    (by show vs'.toArray.size ≤ sizeLine; rw [List.size_toArray, ← h2.length]; exact h1.1)) fun _ _ x => x)
theorem ev_list_own {es : List PySem.Expr} {p : Pos} {Q : V → Own → Prop} (h : EVL n ns ρ own es fun vs o => vs.length ≤ sizeLine ∧ ∀ a, Q (.loc a) ((a, .lst vs) :: o)) : EV n ns ρ own (.List es p) Q :=
  .mk fun w h₀ A env s G E C R K S F => List_ (wpAny_mono (h.go w h₀ A env s G E p C R K S F) (fun vs' s₁ ⟨vs, o, G₁, h1, h2, h3⟩ => wpAny_newObj_type (
    ⟨_, _, _, h1.2 _, .loc, h3.trans (.newOwn h3.sr ⟨_, _, rfl⟩ (fun b o e => Heap.get?_push_of_some _ e) (by simp only [AO.addrs, List.mem_singleton]; rintro b rfl; exact get?_size_none _) (by simp [AO.addrs]) ⟨vs', 0, Heap.get?_push_size _ rfl, h2⟩)⟩)
    (by show vs'.toArray.size ≤ sizeLine; rw [List.size_toArray, ← h2.length]; exact h1.1)) fun _ _ x => x)
-- calls of the text's own defs
theorem cx_in {w : World} {h₀ : Heap} {G : Ghost} {h : Heap} (C : Cx w h₀) (S : SR h₀ G own h) : (KK w).In h := fun a o e => S.keeps0 a o (C.k a o e)
theorem ev_call {x : Str} {np p : Pos} {f : Addr} {e : PySem.Expr} {es : List PySem.Expr} {Q : V → Own → Prop} (hk : ns.lookup x = some .globalImplicit) (hg : ∀ w, nsIn (KK w) mainGlobals x = some (some (.ref f))) (hf : ∀ w, keepIn (KK w) (.ref f) = true)
    (h : EVL n ns ρ own (e :: es) fun vs o => CALL n f vs o Q) (hn : (e :: es).all noStar = true := by rfl) (hd : (x == ("__debug__" : Str)) = false := by decide) : EV n ns ρ own (.Call (.Name x np) (e :: es) [] p) Q :=
  .mk fun w h₀ A env s G E C R K S F => by
    refine wpAny_Call_NameR (wp_global (hg w) hk C K S ?_ hd)
    have hn' : noStar e = true ∧ es.all noStar = true := by simpa using hn
    have hpl : ∀ es : List PySem.Expr, es.all noStar = true → ((backTo p (starEach es env)).any fun x => x.1) = false := fun es => by
      induction es with
      | nil => intro _; rfl
      | cons a r ih => intro ha; have ha' : noStar a = true ∧ r.all noStar = true := by simpa using ha
                       rw [backTo_cons ha'.1]; simp [ih ha'.2]
    refine callWith_K (C.k) (hf w) (wpAny_mono (h.go w h₀ A env s G E p C R K S F) (fun vs' s₁ ⟨vs, o, G₁, h1, h2, h3⟩ => ⟨cx_in C h3.sr, ?_⟩) fun _ _ x => x) (starEach_cons hn'.1) (hpl _ hn'.2)
    exact wpAny_mono (h1.go w h₀ A s₁ G₁ E vs' C R h3.sr h2) (fun _ _ q => q.after h3) fun _ _ x => x
-- two operands
theorem EV.two {l r : PySem.Expr} {P : V → V → Own → Prop} (h : EV n ns ρ own l fun a o => EV n ns ρ o r fun b o' => P a b o') {w : World} {h₀ : Heap} {A : Around} {env : Env} {s : Shared} {G : Ghost} {E : Value → Shared → Prop} (C : Cx w h₀) (R : Room n A) (K : EnvOk ns env) (S : SR h₀ G own s.heap) (F : FR G own env ρ s.heap) :
    wpAny (model prg w) A (eval l env) (fun a' s₁ => wpAny (model prg w) A (eval r env) (fun b' s₂ => ∃ a b o G₂, P a b o ∧ RV G₂ a a' ∧ RV G₂ b b' ∧ Ev h₀ G own s G₂ o s₂) E s₁) E s :=
  wpAny_mono (h.go w h₀ A env s G E C R K S F) (fun a' s₁ ⟨a, o, G₁, h1, h2, h3⟩ =>
    wpAny_mono (h1.go w h₀ A env s₁ G₁ E C R K h3.sr (F.ev h3)) (fun b' s₂ q_u => by obtain ⟨b, o', G₂, h4, h5, h6⟩ := q_u; exact ⟨a, b, o', G₂, h4, h2.mono h6.sub, h5, h3.trans h6⟩) fun _ _ x => x) fun _ _ x => x
structure BIN (n : Nat) (op : Operator) (a b : V) (own : Own) (Q : V → Own → Prop) : Prop where
  go : ∀ (w : World) (h₀ : Heap) (A : Around) (s : Shared) (G : Ghost) (E : Value → Shared → Prop) (a' b' : Value), Cx w h₀ → Room n A → SR h₀ G own s.heap → RV G a a' → RV G b b' → wpAny (model prg w) A (binaryOp op a' b') (PostV h₀ G own s Q) E s
theorem ev_bin {l r : PySem.Expr} {op : Operator} {p : Pos} {Q : V → Own → Prop} (h : EV n ns ρ own l fun a o => EV n ns ρ o r fun b o' => BIN n op a b o' Q) : EV n ns ρ own (.BinOp l op r p) Q :=
  .mk fun w h₀ A env s G E C R K S F => wpAny_BinOp (wpAny_mono (EV.two h C R K S F) (fun a' s₁ q => wpAny_mono q (fun b' s₂ ⟨a, b, o, G₂, h1, h2, h3, h4⟩ =>
    wpAny_mono (h1.go w h₀ A s₂ G₂ E a' b' C R h4.sr h2 h3) (fun _ _ q => q.after h4) fun _ _ x => x) fun _ _ x => x) fun _ _ x => x)
theorem bin_add {i j : Int} {Q : V → Own → Prop} (h : Q (.int (i + j)) own) : BIN n .Add (.int i) (.int j) own Q :=
  .mk fun _ _ _ s _ _ _ _ _ _ S (.int) (.int) => wpAny_add_int ⟨_, _, _, h, .int, .tok S _⟩
theorem bin_sub {i j : Int} {Q : V → Own → Prop} (h : Q (.int (i - j)) own) : BIN n .Sub (.int i) (.int j) own Q :=
  .mk fun _ _ _ s _ _ _ _ _ _ S (.int) (.int) => PyProof.Rows.sub_int ⟨_, _, _, h, .int, .tok S _⟩
theorem bin_mul {i j : Int} {Q : V → Own → Prop} (h : Q (.int (i * j)) own) (hm : IntMulOk i j) : BIN n .Mult (.int i) (.int j) own Q :=
  .mk fun _ _ _ s _ _ _ _ _ _ S (.int) (.int) => PyProof.Rows.mul_int ⟨_, _, _, h, .int, .tok S _⟩ hm
theorem bin_div {i j : Int} {Q : V → Own → Prop} (hj : j ≠ 0) (h : Q (.int (i.fdiv j)) own) : BIN n .FloorDiv (.int i) (.int j) own Q :=
  .mk fun _ _ _ s _ _ _ _ C R S (.int) (.int) => PyProof.Rows.floordiv_int hj ⟨_, _, _, h, .int, .tok S _⟩ (.inr (R.pylong C S))
theorem bin_mod {i j : Int} {Q : V → Own → Prop} (hj : j ≠ 0) (h : Q (.int (i.fmod j)) own) : BIN n .Mod (.int i) (.int j) own Q :=
  .mk fun _ _ _ s _ _ _ _ _ _ S (.int) (.int) => PyProof.Rows.mod_int' hj ⟨_, _, _, h, .int, .tok S _⟩
structure CMP (n : Nat) (op : CmpOp) (a b : V) (own : Own) (Q : Bool → Prop) : Prop where
  go : ∀ (w : World) (h₀ : Heap) (A : Around) (s : Shared) (G : Ghost) (E : Value → Shared → Prop) (a' b' : Value), Cx w h₀ → Room n A → SR h₀ G own s.heap → RV G a a' → RV G b b' →
    wpAny (model prg w) A (compareOp op a' b') (fun c s' => ∃ b, c = .bool b ∧ Q b ∧ Ev h₀ G own s G own s') E s
theorem ev_cmp {l r : PySem.Expr} {op : CmpOp} {p : Pos} {Q : V → Own → Prop} (h : EV n ns ρ own l fun a o => EV n ns ρ o r fun b o' => CMP n op a b o' fun c => Q (.bool c) o') (hm : behindInMarks op r = false := by with_unfolding_all rfl) : EV n ns ρ own (.Compare l [op] [r] p) Q :=
  .mk fun w h₀ A env s G E C R K S F => wpAny_Compare1 (wpAny_mono (EV.two h C R K S F) (fun a' s₁ q => wpAny_mono q (fun b' s₂ ⟨a, b, o, G₂, h1, h2, h3, h4⟩ =>
    wpAny_mono (h1.go w h₀ A s₂ G₂ E a' b' C R h4.sr h2 h3) (fun c s' ⟨b, e, q, v⟩ => by subst e; exact ⟨_, _, _, q, .bool, h4.trans v⟩) fun _ _ x => x) fun _ _ x => x) fun _ _ x => x) hm
theorem eb_cmp {l r : PySem.Expr} {op : CmpOp} {p : Pos} {Q : Bool → Own → Prop} (h : EV n ns ρ own l fun a o => EV n ns ρ o r fun b o' => CMP n op a b o' fun c => Q c o') (hm : behindInMarks op r = false := by with_unfolding_all rfl) : EB n ns ρ own (.Compare l [op] [r] p) Q :=
  .mk fun w h₀ A env s G E C R K S F => wpAny_isTrue_Compare1 (wpAny_mono (EV.two h C R K S F) (fun a' s₁ q => wpAny_mono q (fun b' s₂ ⟨a, b, o, G₂, h1, h2, h3, h4⟩ =>
    wpAny_mono (h1.go w h₀ A s₂ G₂ E a' b' C R h4.sr h2 h3) (fun c s' ⟨b, e, q, v⟩ => by subst e; exact wpAny_truthy_bool ⟨_, _, q, h4.trans v⟩) fun _ _ x => x) fun _ _ x => x) fun _ _ x => x) hm
theorem cmp_eq_int {i j : Int} {Q : Bool → Prop} (h : Q (i == j)) : CMP n .Eq (.int i) (.int j) own Q :=
  .mk fun _ _ _ s _ _ _ _ _ _ S (.int) (.int) => PyProof.Rows.eq_int ⟨_, rfl, h, .refl S⟩
theorem cmp_ne_int {i j : Int} {Q : Bool → Prop} (h : Q (i != j)) : CMP n .NotEq (.int i) (.int j) own Q :=
  .mk fun _ _ _ s _ _ _ _ _ _ S (.int) (.int) => PyProof.Rows.ne_int ⟨_, rfl, h, .refl S⟩
theorem cmp_lt_int {i j : Int} {Q : Bool → Prop} (h : Q (decide (i < j))) : CMP n .Lt (.int i) (.int j) own Q :=
  .mk fun _ _ _ s _ _ _ _ _ _ S (.int) (.int) => PyProof.Rows.lt_int ⟨_, rfl, h, .refl S⟩
theorem cmp_gt_int {i j : Int} {Q : Bool → Prop} (h : Q (decide (i > j))) : CMP n .Gt (.int i) (.int j) own Q :=
  .mk fun _ _ _ s _ _ _ _ _ _ S (.int) (.int) => PyProof.Rows.gt_int ⟨_, rfl, h, .refl S⟩
theorem cmp_ge_int {i j : Int} {Q : Bool → Prop} (h : Q (decide (i ≥ j))) : CMP n .GtE (.int i) (.int j) own Q :=
  .mk fun _ _ _ s _ _ _ _ _ _ S (.int) (.int) => PyProof.Rows.ge_int ⟨_, rfl, h, .refl S⟩
noncomputable def V.isNone : V → Bool
  | .none => true
  | _ => false
theorem rv_none {G : Ghost} {v : V} {v' : Value} (h : RV G v v') : (v' == Value.none) = v.isNone := by cases h <;> rfl
theorem plainIs_none {G : Ghost} {v : V} {v' : Value} (h : RV G v v') : plainIs v' .none = true := by cases h <;> rfl
theorem cmp_is_none {a : V} {Q : Bool → Prop} (h : Q a.isNone) : CMP n .Is a .none own Q :=
  .mk fun _ _ _ s _ _ _ _ _ _ S r (.none) => wpAny_is_plain (plainIs_none r) ⟨_, rfl, by rw [rv_none r]; exact h, .refl S⟩
theorem cmp_isnot_none {a : V} {Q : Bool → Prop} (h : Q (!a.isNone)) : CMP n .IsNot a .none own Q :=
  .mk fun _ _ _ s _ _ _ _ _ _ S r (.none) => wpAny_isNot_plain (plainIs_none r) ⟨_, rfl, by rw [rv_none r]; exact h, .refl S⟩
-- tests
theorem eb_not {x : PySem.Expr} {p : Pos} {Q : Bool → Own → Prop} (h : EB n ns ρ own x fun b o => Q (!b) o) : EB n ns ρ own (.UnaryOp .Not x p) Q :=
  .mk fun w h₀ A env s G E C R K S F => wpAny_isTrue_Not (wpAny_mono (h.go w h₀ A env s G E C R K S F) (fun _ _ q => q) fun _ _ x => x)
theorem EB.mono {e : PySem.Expr} {Q Q' : Bool → Own → Prop} (h : EB n ns ρ own e Q) (hq : ∀ v o, Q v o → Q' v o) : EB n ns ρ own e Q' :=
  .mk fun w h₀ A env s G E C R K S F => wpAny_mono (h.go w h₀ A env s G E C R K S F) (fun _ _ q_u => by obtain ⟨o, g, a, c⟩ := q_u; exact ⟨o, g, hq _ _ a, c⟩) fun _ _ x => x
theorem eb_and {x y : PySem.Expr} {p : Pos} {Q : Bool → Own → Prop} (h : EB n ns ρ own x fun b o => if b = true then EB n ns ρ o y Q else Q false o) : EB n ns ρ own (.BoolOp .And [x, y] p) Q :=
  .mk fun w h₀ A env s G E C R K S F => wpAny_isTrue_BoolOp (wpAny_allTrue_And_cons (wpAny_mono (h.go w h₀ A env s G E C R K S F) (fun b s₁ q_u => by
    obtain ⟨o, G₁, h1, h2⟩ := q_u
    cases b with
    | false => exact ⟨o, G₁, by simpa using h1, h2⟩
    | true =>
      simp only [if_true] at h1 ⊢
      exact wpAny_allTrue_And_cons (wpAny_mono (h1.go w h₀ A env s₁ G₁ E C R K h2.sr (F.ev h2)) (fun c s₂ q => by
        cases c with
        | false => exact q.after h2
        | true => exact wpAny_allTrue_And_nil (q.after h2)) fun _ _ x => x)) fun _ _ x => x))
theorem eb_or {x y : PySem.Expr} {p : Pos} {Q : Bool → Own → Prop} (h : EB n ns ρ own x fun b o => if b = true then Q true o else EB n ns ρ o y Q) : EB n ns ρ own (.BoolOp .Or [x, y] p) Q :=
  .mk fun w h₀ A env s G E C R K S F => wpAny_isTrue_BoolOp (wpAny_allTrue_Or_cons (wpAny_mono (h.go w h₀ A env s G E C R K S F) (fun b s₁ q_u => by
    obtain ⟨o, G₁, h1, h2⟩ := q_u
    cases b with
    | true => exact ⟨o, G₁, by simpa using h1, h2⟩
    | false =>
      simp only [Bool.false_eq_true, if_false] at h1 ⊢
      exact wpAny_allTrue_Or_cons (wpAny_mono (h1.go w h₀ A env s₁ G₁ E C R K h2.sr (F.ev h2)) (fun c s₂ q => by
        cases c with
        | true => exact q.after h2
        | false => exact wpAny_allTrue_Or_nil (q.after h2)) fun _ _ x => x)) fun _ _ x => x))
-- a test that is a value: a bool
noncomputable def plainTest : PySem.Expr → Bool
  | .Name .. => true
  | .Call .. => true
  | _ => false
theorem eb_val {e : PySem.Expr} {Q : Bool → Own → Prop} (h : EV n ns ρ own e fun v o => ∃ b, v = .bool b ∧ Q b o) (hp : plainTest e = true := by rfl) : EB n ns ρ own e Q :=
  .mk fun w h₀ A env s G E C R K S F => wpAny_isTrue_value (wpAny_mono (h.go w h₀ A env s G E C R K S F) (fun v' s₁ q_u => by
    obtain ⟨v, o, G₁, ⟨b, e, q⟩, h2, h3⟩ := q_u
    subst e; cases h2; exact wpAny_truthy_bool ⟨_, _, q, h3⟩) fun _ _ x => x) (by cases e <;> first | rfl | cases hp)
theorem ev_ifexp {t a b : PySem.Expr} {p : Pos} {Q : V → Own → Prop} (h : EB n ns ρ own t fun c o => if c = true then EV n ns ρ o a Q else EV n ns ρ o b Q) : EV n ns ρ own (.IfExp t a b p) Q :=
  .mk fun w h₀ A env s G E C R K S F => wpAny_IfExp (wpAny_mono (h.go w h₀ A env s G E C R K S F) (fun c s₁ q_u => by
    obtain ⟨o, G₁, h1, h2⟩ := q_u
    cases c with
    | true => simp only [if_true] at h1 ⊢; exact wpAny_mono (h1.go w h₀ A env s₁ G₁ E C R K h2.sr (F.ev h2)) (fun _ _ q => q.after h2) fun _ _ x => x
    | false => simp only [Bool.false_eq_true, if_false] at h1 ⊢; exact wpAny_mono (h1.go w h₀ A env s₁ G₁ E C R K h2.sr (F.ev h2)) (fun _ _ q => q.after h2) fun _ _ x => x) fun _ _ x => x)
theorem ev_neg {x : PySem.Expr} {p : Pos} {Q : V → Own → Prop} (h : EV n ns ρ own x fun v o => ∃ i, v = .int i ∧ Q (.int (-i)) o) : EV n ns ρ own (.UnaryOp .USub x p) Q :=
  .mk fun w h₀ A env s G E C R K S F => wpAny_UnaryOp (wpAny_mono (h.go w h₀ A env s G E C R K S F) (fun v' s₁ q_u => by
    obtain ⟨v, o, G₁, ⟨b, e, q⟩, h2, h3⟩ := q_u
    subst e; cases h2; exact PyProof.Rows.neg_int ⟨_, _, _, q, .int, h3.trans (.tok h3.sr _)⟩) fun _ _ x => x)
theorem ev_and {x y : PySem.Expr} {p : Pos} {Q : V → Own → Prop} (h : EV n ns ρ own x fun v o => ∃ b, v = .bool b ∧ if b = true then EV n ns ρ o y Q else Q (.bool false) o) : EV n ns ρ own (.BoolOp .And [x, y] p) Q :=
  .mk fun w h₀ A env s G E C R K S F => wpAny_And2 (wpAny_mono (h.go w h₀ A env s G E C R K S F) (fun v' s₁ q_u => by
    obtain ⟨v, o, G₁, ⟨b, e, q⟩, h2, h3⟩ := q_u
    subst e; cases h2
    refine wpAny_truthy_bool ?_
    cases b with
    | true => simp only [if_true] at q ⊢; exact wpAny_mono (q.go w h₀ A env s₁ G₁ E C R K h3.sr (F.ev h3)) (fun _ _ q => q.after h3) fun _ _ x => x
    | false => simp only [Bool.false_eq_true, if_false] at q ⊢; exact ⟨_, _, _, q, .bool, h3⟩) fun _ _ x => x)
theorem ev_or {x y : PySem.Expr} {p : Pos} {Q : V → Own → Prop} (h : EV n ns ρ own x fun v o => ∃ b, v = .bool b ∧ if b = true then Q (.bool true) o else EV n ns ρ o y Q) : EV n ns ρ own (.BoolOp .Or [x, y] p) Q :=
  .mk fun w h₀ A env s G E C R K S F => wpAny_Or2 (wpAny_mono (h.go w h₀ A env s G E C R K S F) (fun v' s₁ q_u => by
    obtain ⟨v, o, G₁, ⟨b, e, q⟩, h2, h3⟩ := q_u
    subst e; cases h2
    refine wpAny_truthy_bool ?_
    cases b with
    | false => simp only [Bool.false_eq_true, if_false] at q ⊢; exact wpAny_mono (q.go w h₀ A env s₁ G₁ E C R K h3.sr (F.ev h3)) (fun _ _ q => q.after h3) fun _ _ x => x
    | true => simp only [if_true] at q ⊢; exact ⟨_, _, _, q, .bool, h3⟩) fun _ _ x => x)
-- an item
structure SUB (n : Nat) (a b : V) (own : Own) (Q : V → Own → Prop) : Prop where
  go : ∀ (w : World) (h₀ : Heap) (A : Around) (s : Shared) (G : Ghost) (E : Value → Shared → Prop) (a' b' : Value), Cx w h₀ → Room n A → SR h₀ G own s.heap → RV G a a' → RV G b b' →
    ∃ T id, s.TypeIs a' T ∧ typeLookup (.type T) "__getitem__" = pure (some (.builtin id)) ∧ wpAny (model prg w) A (getItem a' b') (PostV h₀ G own s Q) E s
theorem subscripted_ops {slice : PySem.Expr} (o i : Value) : ∃ ops, subscripted slice false o i = operate ops (getItem o i) := by
  cases slice with
  | Slice l u s p => cases s with
    | none => exact ⟨_, rfl⟩
    | some _ => exact ⟨_, rfl⟩
  | _ => exact ⟨_, rfl⟩
theorem ev_sub {l r : PySem.Expr} {p : Pos} {Q : V → Own → Prop} (h : EV n ns ρ own l fun a o => EV n ns ρ o r fun b o' => SUB n a b o' Q) : EV n ns ρ own (.Subscript l r p) Q :=
  .mk fun w h₀ A env s G E C R K S F => Subscript_ (wpAny_mono (EV.two h C R K S F) (fun a' s₁ q => wpAny_mono q (fun b' s₂ q_u => by
    obtain ⟨a, b, o, G₂, h1, h2, h3, h4⟩ := q_u
    obtain ⟨T, id, t1, t2, t3⟩ := h1.go w h₀ A s₂ G₂ E a' b' C R h4.sr h2 h3
    obtain ⟨ops, hops⟩ := subscripted_ops (slice := r) a' b'
    exact tail_any t1 t2 (wpAny_mono t3 (fun _ _ q => q.after h4) fun _ _ x => x) hops) fun _ _ x => x) fun _ _ x => x)
noncomputable def idx (k : Int) (len : Nat) : Option Nat := if 0 ≤ k then (if k < len then some k.toNat else none) else (if -(len : Int) ≤ k then some (k + len).toNat else none)
theorem rvs_toArray {G : Ghost} {l : List V} {vs : List Value} {i : Nat} {v : V} (h : RVs G l vs) (hi : l[i]? = some v) : ∃ x, vs.toArray[i]? = some x ∧ RV G v x := by
  obtain ⟨x, a, b⟩ := h.get hi
  exact ⟨x, by simpa using a, b⟩
set_option tactic.hygienic true in
theorem list_item {w : World} {A : Around} {s : Shared} {E : Value → Shared → Prop} {G : Ghost} {a : Addr} {l : List V} {vs : List Value} {k : Int} {t : Tok} {j : Nat} {v : V} {Q : Value → Shared → Prop} (hl : s.heap.IsList a vs.toArray) (hr : RVs G l vs)
    (hk : idx k l.length = some j) (hj : l[j]? = some v) (hsz : l.length < 2 ^ 63) (h : ∀ v', RV G v v' → Q v' s) : wpAny (model prg w) A (getItem (.ref a) (.int k t)) Q E s := by
  obtain ⟨x, e, r⟩ := rvs_toArray hr hj
  have hlen := hr.length
  unfold idx at hk
  split at hk
  · rename_i h0
    split at hk
    · rename_i h1
      cases hk
      exact wpAny_getItem_list hl h0 (by omega) e (h x r)
    · cases hk
  · rename_i h0
    split at hk
    · rename_i h1
      cases hk
      refine wpAny_getItem_list_neg hl (by omega) (by rw [List.size_toArray, ← hlen]; exact h1) (by omega) ?_ (h x r)
      rw [List.size_toArray, ← hlen]; exact e
    · cases hk
theorem sub_lst {l : List V} {k : Int} {j : Nat} {v : V} {Q : V → Own → Prop} (hk : idx k l.length = some j) (hj : l[j]? = some v) (hsz : l.length < 2 ^ 63) (h : Q v own) : SUB n (.lst l) (.int k) own Q :=
  .mk fun w h₀ A s G E a' b' C R S (.lst g r) (.int) => ⟨"list", "list.__getitem__", ⟨_, (S.frozen _ _ g).1, rfl⟩, slot_list_getitem.lookup, list_item ⟨_, (S.frozen _ _ g).1, rfl, _, rfl⟩ r hk hj hsz fun v' r' => ⟨_, _, _, h, r', .refl S⟩⟩
theorem sub_own {a : Addr} {l : List V} {k : Int} {j : Nat} {v : V} {Q : V → Own → Prop} (ha : (a, AO.lst l) ∈ own) (hk : idx k l.length = some j) (hj : l[j]? = some v) (hsz : l.length < 2 ^ 63) (h : Q v own) : SUB n (.loc a) (.int k) own Q :=
  .mk fun w h₀ A s G E a' b' C R S (.loc) (.int) => by
    obtain ⟨vs, m, g, r⟩ := S.owned _ ha
    exact ⟨"list", "list.__getitem__", ⟨_, g, rfl⟩, slot_list_getitem.lookup, list_item ⟨_, g, rfl, _, rfl⟩ r hk hj hsz fun v' r' => ⟨_, _, _, h, r', .refl S⟩⟩
set_option tactic.hygienic true in
theorem seqIndex_of_idx {k : Int} {n j : Nat} (h : idx k n = some j) : seqIndex? k n = some j := by
  unfold idx at h
  unfold seqIndex?
  split at h
  · rename_i h0
    split at h
    · rename_i h1; cases h
      simp [h1, show ¬ k < 0 by omega]
    · cases h
  · rename_i h0
    split at h
    · rename_i h1; cases h
      have : k < 0 := by omega
      simp [this]
      omega
    · cases h
theorem sub_tup {l : List V} {k : Int} {j : Nat} {v : V} {Q : V → Own → Prop} (hk : idx k l.length = some j) (hj : l[j]? = some v) (hsz : l.length < 2 ^ 63) (h : Q v own) : SUB n (.tup l) (.int k) own Q :=
  .mk fun w h₀ A s G E a' b' C R S (.tup g r) (.int) => by
    obtain ⟨x, e, r'⟩ := rvs_toArray r hj
    have hlen := r.length
    have hb : -2 ^ 63 ≤ k ∧ k < 2 ^ 63 := by
      unfold idx at hk
      split at hk
      · split at hk
        · omega
        · cases hk
      · split at hk
        · omega
        · cases hk
    exact ⟨"tuple", "tuple.__getitem__", ⟨_, (S.frozen _ _ g).1, rfl⟩, slot_tuple_getitem.lookup, getItem_tuple ⟨_, (S.frozen _ _ g).1, rfl, _, rfl⟩ hb.1 hb.2 (by rw [List.size_toArray, ← hlen]; exact seqIndex_of_idx hk) e ⟨_, _, _, h, r', .refl S⟩⟩
end
end
-- part L3Stmt
section
set_option tactic.hygienic false
inductive MF where
  | next | brk | cont
  | ret (v : V)
inductive RF (G : Ghost) : MF → Flow → Prop where
  | next : RF G .next .next
  | brk : RF G .brk .brk
  | cont : RF G .cont .cont
  | ret {v : V} {v' : Value} : RV G v v' → RF G (.ret v) (.ret v')
noncomputable abbrev fp (env : Env) (b : Addr) : Prop := b = env.locals ∨ inC env b
-- how the state moves in a frame
structure EvF (h₀ : Heap) (env : Env) (G : Ghost) (own : Own) (s : Shared) (G' : Ghost) (own' : Own) (s' : Shared) : Prop where
  same : ∃ h' tk, s' = { s with heap := h', toks := tk }
  sub : Gsub G G'
  keep : ∀ b o, s.heap.get? b = some o → b ∉ addrs own → G b = none → ¬ fp env b → s'.heap.get? b = some o ∧ b ∉ addrs own' ∧ G' b = none
  sr : SR h₀ G' own' s'.heap
theorem Ev.toF {h₀ : Heap} {env : Env} {G G' : Ghost} {own own' : Own} {s s' : Shared} (e : Ev h₀ G own s G' own' s') : EvF h₀ env G own s G' own' s' := ⟨e.same, e.sub, fun b o a c d _ => e.keep b o a c d, e.sr⟩
theorem EvF.trans {h₀ : Heap} {env : Env} {G G₁ G₂ : Ghost} {own own₁ own₂ : Own} {s s₁ s₂ : Shared} (x : EvF h₀ env G own s G₁ own₁ s₁) (y : EvF h₀ env G₁ own₁ s₁ G₂ own₂ s₂) : EvF h₀ env G own s G₂ own₂ s₂ := by
  obtain ⟨h1, t1, e1⟩ := x.same
  obtain ⟨h2, t2, e2⟩ := y.same
  refine ⟨⟨h2, t2, by rw [e2, e1]⟩, fun a o h => y.sub a o (x.sub a o h), fun b o h1 h2 h3 h4 => ?_, y.sr⟩
  obtain ⟨k1, k2, k3⟩ := x.keep b o h1 h2 h3 h4
  exact y.keep b o k1 k2 k3 h4
noncomputable def PostF (h₀ : Heap) (env : Env) (G : Ghost) (own : Own) (s : Shared) (Q : MF → Rho → Own → Prop) : Flow → Shared → Prop := fun f s' => ∃ m ρ' own' G', Q m ρ' own' ∧ RF G' m f ∧ EvF h₀ env G own s G' own' s' ∧ FR G' own' env ρ' s'.heap
noncomputable def PostU (h₀ : Heap) (env : Env) (G : Ghost) (own : Own) (s : Shared) (Q : Rho → Own → Prop) : Shared → Prop := fun s' => ∃ ρ' own' G', Q ρ' own' ∧ EvF h₀ env G own s G' own' s' ∧ FR G' own' env ρ' s'.heap
theorem PostF.after {h₀ : Heap} {env : Env} {G G₁ : Ghost} {own own₁ : Own} {s s₁ : Shared} {Q : MF → Rho → Own → Prop} {f : Flow} {s' : Shared} (e : EvF h₀ env G own s G₁ own₁ s₁) (h : PostF h₀ env G₁ own₁ s₁ Q f s') : PostF h₀ env G own s Q f s' := by
  obtain ⟨a, o, g, i, h1, h2, h3, h4⟩ := h
  exact ⟨a, o, g, i, h1, h2, e.trans h3, h4⟩
structure EX (n : Nat) (ns : Ns) (ρ : Rho) (own : Own) (st : Stmt) (Q : MF → Rho → Own → Prop) : Prop where
  go : ∀ (w : World) (h₀ : Heap) (A : Around) (env : Env) (s : Shared) (G : Ghost) (E : Value → Shared → Prop), Cx w h₀ → Room n A → EnvOk ns env → SR h₀ G own s.heap → FR G own env ρ s.heap →
    wpAny (model prg w) A (exec st env) (PostF h₀ env G own s Q) E s
structure EXS (n : Nat) (ns : Ns) (ρ : Rho) (own : Own) (sts : List Stmt) (Q : MF → Rho → Own → Prop) : Prop where
  go : ∀ (w : World) (h₀ : Heap) (A : Around) (env : Env) (s : Shared) (G : Ghost) (E : Value → Shared → Prop), Cx w h₀ → Room n A → EnvOk ns env → SR h₀ G own s.heap → FR G own env ρ s.heap →
    wpAny (model prg w) A (execs sts env) (PostF h₀ env G own s Q) E s
-- behind a statement
noncomputable def thenD (n : Nat) (ns : Ns) (rest : List Stmt) (Q : MF → Rho → Own → Prop) : MF → Rho → Own → Prop
  | .next, ρ, own => EXS n ns ρ own rest Q
  | f, ρ, own => Q f ρ own
section
variable {n : Nat} {ns : Ns} {ρ : Rho} {own : Own} {Q : MF → Rho → Own → Prop}
theorem exs_nil (h : Q .next ρ own) : EXS n ns ρ own [] Q :=
  .mk fun _ _ _ _ _ _ _ _ _ _ S F => wpAny_execs_nil ⟨_, _, _, _, h, .next, (Ev.refl S).toF, F⟩
theorem exs_cons {st : Stmt} {rest : List Stmt} (h : EX n ns ρ own st (thenD n ns rest Q)) : EXS n ns ρ own (st :: rest) Q :=
  .mk fun w h₀ A env s G E C R K S F => wpAny_execs_cons (wpAny_mono (h.go w h₀ A env s G E C R K S F) (fun f s₁ q_u => by
    obtain ⟨m, ρ', o, G₁, h1, h2, h3, h4⟩ := q_u
    cases h2 with
    | next => exact wpAny_mono (h1.go w h₀ A env s₁ G₁ E C R K h3.sr h4) (fun _ _ q => q.after h3) fun _ _ x => x
    | brk => exact ⟨_, _, _, _, h1, .brk, h3, h4⟩
    | cont => exact ⟨_, _, _, _, h1, .cont, h3, h4⟩
    | ret r => exact ⟨_, _, _, _, h1, .ret r, h3, h4⟩) fun _ _ x => x)
theorem EX.mono {st : Stmt} {Q' : MF → Rho → Own → Prop} (h : EX n ns ρ own st Q) (hq : ∀ f r o, Q f r o → Q' f r o) : EX n ns ρ own st Q' :=
  .mk fun w h₀ A env s G E C R K S F => wpAny_mono (h.go w h₀ A env s G E C R K S F) (fun _ _ q_u => by obtain ⟨a, b, c, d, e, f⟩ := q_u; exact ⟨a, b, c, d, hq _ _ _ e, f⟩) fun _ _ x => x
-- fewer names
noncomputable def Sub : Rho → Rho → Prop
  | [], _ => True
  | (x, v) :: r, ρ => ρ.lookup x = some v ∧ Sub r ρ
theorem Sub.get : ∀ {ρ' ρ : Rho}, Sub ρ' ρ → ∀ x v, ρ'.lookup x = some v → ρ.lookup x = some v
  | [], _, _, _, _, h => by simp at h
  | (y, u) :: r, ρ, ⟨h1, h2⟩, x, v, h => by
    rw [List.lookup_cons] at h
    cases hb : x == y with
    | true => rw [hb] at h; cases h; rw [beq_iff_eq.mp hb]; exact h1
    | false => rw [hb] at h; exact h2.get x v h
theorem exs_weak {ρ' : Rho} {sts : List Stmt} (hs : ∀ x v, ρ'.lookup x = some v → ρ.lookup x = some v) (h : EXS n ns ρ' own sts Q) : EXS n ns ρ own sts Q :=
  .mk fun w h₀ A env s G E C R K S F => h.go w h₀ A env s G E C R K S (F.weaken hs)
theorem exs_sub {ρ' : Rho} {sts : List Stmt} (hs : Sub ρ' ρ) (h : EXS n ns ρ' own sts Q) : EXS n ns ρ own sts Q :=
  .mk fun w h₀ A env s G E C R K S F => h.go w h₀ A env s G E C R K S (F.weaken hs.get)
-- a name is stored
theorem storeLC {x : Str} {v : V} {v' : Value} {w : World} {h₀ : Heap} {A : Around} {env : Env} {s : Shared} {G : Ghost} {E : Value → Shared → Prop} {P : Unit → Shared → Prop} (hk : isLC (ns.lookup x) = true)
    (K : EnvOk ns env) (S : SR h₀ G own s.heap) (F : FR G own env ρ s.heap) (r : RV G v v') (h : ∀ s', EvF h₀ env G own s G own s' → FR G own env ((x, v) :: ρ) s'.heap → (∃ b, (b = env.locals ∨ env.cells.lookup x = some b) ∧ Heap.SameBut b s.heap s'.heap) → P () s') : wpAny (model prg w) A (storeName env x v') P E s := by
  have hk' := kindOf_of (x := x) K rfl
  have lm : ∀ {y c}, env.cells.lookup y = some c → inC env c := fun h => ⟨_, h⟩
  -- the part of the state that stands
  have stays : ∀ (b : Addr), fp env b → ∀ (h' : Heap) (tk : Nat), Heap.SameBut b s.heap h' → (∃ o, h'.get? b = some o) → EvF h₀ env G own s G own { s with heap := h', toks := tk } ∧ ∀ c, fp env c → c ≠ b → h'.get? c = s.heap.get? c := by
    intro b hb h' tk hs _
    have kp : ∀ c, c ≠ b → h'.get? c = s.heap.get? c := fun c hc => hs.2 c hc
    have hf := F.free b hb
    refine ⟨⟨⟨_, _, rfl⟩, fun _ _ h => h, fun c o e1 e2 e3 e4 => ⟨?_, e2, e3⟩, ⟨S.base, fun a o e => ⟨?_, (S.frozen a o e).2⟩, S.nodup, fun p hp => (S.owned p hp).keeps fun c hc y e => ?_⟩⟩, fun c _ hc => kp c hc⟩
    · rw [kp c (fun q => e4 (q ▸ hb))]; exact e1
    · rw [kp a (fun q => by rw [q, hf.2.1] at e; cases e)]; exact (S.frozen a o e).1
    · rw [kp c (fun q => hf.1 (q ▸ mem_addrs.mpr ⟨p, hp, hc⟩))]; exact e
  cases hq : ns.lookup x with
  | none => rw [hq] at hk; cases hk
  | some k =>
    rw [hq] at hk hk'
    cases k <;> try cases hk
    · obtain ⟨m, hm, hr⟩ := F.ns
      refine wpAny_storeName_local hk' hm (fun h' hn hs => ?_) (by rw [K.kind]; rfl)
      obtain ⟨o, _, _, ho, _⟩ := id hn
      obtain ⟨e, kp⟩ := stays env.locals (.inl rfl) h' (s.toks + 1) hs ⟨o, ho⟩
      have cl : ∀ {c u}, inC env c → s.heap.IsCell c u → h'.IsCell c u := fun hc ⟨o, ho, hd⟩ => ⟨o, (kp _ (.inr hc) (fun q => F.lc (q ▸ hc))).trans ho, hd⟩
      refine h _ e ⟨⟨_, hn, fun y u hy hky => ?_⟩, fun y u hy hky => ?_, fun y hky => ?_, F.inj, fun b hb => ?_, F.lc⟩ ⟨_, .inl rfl, hs⟩
      · rw [List.lookup_cons] at hy
        by_cases hyx : y = x
        · subst hyx; simp at hy; subst hy; exact ⟨v', by simp, r⟩
        · have hb : (y == x) = false := by simpa using hyx
          rw [hb] at hy
          obtain ⟨u', h1, h2⟩ := hr y u hy hky
          exact ⟨u', by simp [hyx, h1], h2⟩
      · have hyx : y ≠ x := fun q => by subst q; rw [hk'] at hky; cases hky
        rw [List.lookup_cons, show (y == x) = false by simpa using hyx] at hy
        obtain ⟨c, u', h1, h2, h3⟩ := F.cells y u hy hky
        exact ⟨c, u', h1, cl (lm h1) h2, h3⟩
      · obtain ⟨c, u, h1, h2⟩ := F.cok y hky
        exact ⟨c, u, h1, cl (lm h1) h2⟩
      · obtain ⟨a1, a2, o', ho'⟩ := F.free b hb
        refine ⟨a1, a2, ?_⟩
        by_cases hbl : b = env.locals
        · subst hbl; exact ⟨o, ho⟩
        · exact ⟨o', (kp b hb hbl).trans ho'⟩
    · obtain ⟨c, u₀, hc, hcell⟩ := F.cok x hk'
      refine wpAny_storeName_cell K.kind hk' hc hcell fun h' hn hs => ?_
      obtain ⟨o, ho, _⟩ := id hn
      have hcm := lm hc
      obtain ⟨e, kp⟩ := stays c (.inr hcm) h' s.toks hs ⟨o, ho⟩
      have hLc : env.locals ≠ c := fun q => F.lc (q ▸ hcm)
      refine h _ e ⟨?_, fun y u hy hky => ?_, fun y hky => ?_, F.inj, fun b hb => ?_, F.lc⟩ ⟨_, .inr hc, hs⟩
      · obtain ⟨m, ⟨oL, es, ep, hL, r'⟩, hr⟩ := F.ns
        refine ⟨m, ⟨oL, es, ep, (kp _ (.inl rfl) hLc).trans hL, r'⟩, fun y u hy hky => ?_⟩
        have hyx : y ≠ x := fun q => by subst q; rw [hk'] at hky; cases hky
        rw [List.lookup_cons, show (y == x) = false by simpa using hyx] at hy
        exact hr y u hy hky
      · rw [List.lookup_cons] at hy
        by_cases hyx : y = x
        · subst hyx; simp at hy; subst hy; exact ⟨c, v', hc, hn, r⟩
        · rw [show (y == x) = false by simpa using hyx] at hy
          obtain ⟨c', u', h1, ⟨o', h2, h2'⟩, h3⟩ := F.cells y u hy hky
          have hne : c' ≠ c := fun q => hyx (F.inj _ _ _ h1 (q ▸ hc))
          exact ⟨c', u', h1, ⟨o', (kp c' (.inr (lm h1)) hne).trans h2, h2'⟩, h3⟩
      · by_cases hyx : y = x
        · subst hyx; exact ⟨c, _, hc, hn⟩
        · obtain ⟨c', u', h1, ⟨o', h2, h2'⟩⟩ := F.cok y hky
          have hne : c' ≠ c := fun q => hyx (F.inj _ _ _ h1 (q ▸ hc))
          exact ⟨c', u', h1, ⟨o', (kp c' (.inr (lm h1)) hne).trans h2, h2'⟩⟩
      · obtain ⟨a1, a2, o', ho'⟩ := F.free b hb
        refine ⟨a1, a2, ?_⟩
        by_cases hbl : b = c
        · subst hbl; exact ⟨o, ho⟩
        · exact ⟨o', (kp b hb hbl).trans ho'⟩
-- stores into targets
structure ASG (n : Nat) (ns : Ns) (ρ : Rho) (own : Own) (t : PySem.Expr) (v : V) (P : Rho → Own → Prop) : Prop where
  go : ∀ (w : World) (h₀ : Heap) (A : Around) (env : Env) (s : Shared) (G : Ghost) (E : Value → Shared → Prop) (v' : Value), Cx w h₀ → Room n A → EnvOk ns env → SR h₀ G own s.heap → FR G own env ρ s.heap → RV G v v' →
    wpAny (model prg w) A (assign t env v') (fun _ s' => PostU h₀ env G own s P s') E s
theorem asg_name {x : Str} {p : Pos} {v : V} {P : Rho → Own → Prop} (hk : isLC (ns.lookup x) = true) (h : P ((x, v) :: ρ) own) : ASG n ns ρ own (.Name x p) v P :=
  .mk fun w h₀ A env s G E v' C R K S F r => PyProof.Rows.assign_Name (storeLC hk K S F r fun s' e F' _ => ⟨_, _, _, h, e, F'⟩)
-- what a statement asks of its frame beyond its names
noncomputable def cenv (ns : Ns) : Env := { scope := { kind := .function, names := ns, isGenerator := false, isCoroutine := false, more := [] }, locals := 0, globals := 0, cells := [] }
theorem swapsWith_c {value : PySem.Expr} {t : Option PySem.Expr} {l : Nat} {env : Env} (K : EnvOk ns env) : swapsWith value t l env = swapsWith value t l (cenv ns) := by
  obtain ⟨⟨_, _, _, _, _⟩, _⟩ := env
  have e1 := K.kind
  have e2 := K.names
  dsimp only at e1 e2
  subst e1
  subst e2
  rfl
theorem swapsWithSole_c {targets : List PySem.Expr} {value : PySem.Expr} {l : Nat} {env : Env} (K : EnvOk ns env) : swapsWithSole targets value l env = swapsWithSole targets value l (cenv ns) := by
  unfold swapsWithSole
  split
  · exact swapsWith_c K
  · rfl
theorem swappedStores_c {targets : List PySem.Expr} {value : PySem.Expr} {env : Env} (K : EnvOk ns env) : swappedStores targets value env = swappedStores targets value (cenv ns) := by
  obtain ⟨⟨_, _, _, _, _⟩, _⟩ := env
  have e1 := K.kind
  have e2 := K.names
  dsimp only at e1 e2
  subst e1
  subst e2
  rfl
theorem inter_c {env : Env} (K : EnvOk ns env) : interactive env = false := by unfold interactive; rw [K.kind]; rfl
theorem ex_assign {t value : PySem.Expr} {p : Pos} (h : EV n ns ρ own value fun v o => ASG n ns ρ o t v fun ρ' o' => Q .next ρ' o')
    (hs : swapsWithSole [t] value p.line (cenv ns) = pure false := by rfl) (hw : swappedStores [t] value (cenv ns) = pure none := by rfl) (hn : noStar t = true := by rfl) : EX n ns ρ own (.Assign [t] value p) Q :=
  .mk fun w h₀ A env s G E C R K S F => by
    rw [exec_Assign, swapsWithSole_c K, hs]
    refine wpAny_bind (wpAny_standAt (wpAny_bind (wpAny_pure ?_)))
    rw [if_neg (by decide)]
    refine wpAny_bind (wpAny_mono (h.go w h₀ A env s G E C R K S F) (fun v' s₁ q_u => ?_) fun _ _ x => x)
    obtain ⟨v, o, G₁, h1, h2, h3⟩ := q_u
    rw [swappedStores_c K, hw]
    refine wpAny_bind (wpAny_pure ?_)
    have ha : (assignEach [t] env).map (·.2) = [assign t env] := by cases t <;> first | rfl | cases hn
    show wpAny _ A (do assignAll v' ((assignEach [t] env).map (·.2)); pure Flow.next) _ E s₁
    rw [ha]
    show wpAny _ A (do assign t env v'; pure Flow.next) _ E s₁
    refine wpAny_bind (wpAny_mono (h1.go w h₀ A env s₁ G₁ E v' C R K h3.sr (F.ev h3) h2) (fun _ s₂ ⟨ρ', o', G₂, q1, q2, q3⟩ => wpAny_pure ?_) fun _ _ x => x)
    exact ⟨_, _, _, _, q1, .next, h3.toF.trans q2, q3⟩
set_option tactic.hygienic true in
theorem ev_unpack {w : World} {h₀ : Heap} {A : Around} {s : Shared} {G : Ghost} {E : Value → Shared → Prop} {l : List V} {v' : Value} {k : Nat} {P : List Value → Shared → Prop} (R : Room n A) (S : SR h₀ G own s.heap) (r : RV G (.tup l) v') (hk : k = l.length)
    (h : ∀ vs s', RVs G l vs → Ev h₀ G own s G own s' → P vs s') : wpAny (model prg w) A (unpackItems v' k none) P E s := by
  cases r with
  | tup g r =>
    rename_i vs a m
    have ht : IsTup s.heap a vs.toArray := ⟨_, (S.frozen _ _ g).1, rfl, _, rfl⟩
    rw [hk, show l.length = vs.toArray.size by rw [List.size_toArray, r.length]]
    refine unpackItems_tuple R.handled ht fun h' he => h vs _ r ?_
    exact .junk S ⟨_, _, rfl⟩ fun b o e => he b o (fun q => by subst q; rw [get?_size_none] at e; cases e) e
-- two names from a written pair: the machine swaps
theorem ex_swap {x y : Str} {px py : Pos} {es : List PySem.Expr} {k k' : Nat} {tp vp p : Pos} (h : EV n ns ρ own (.Tuple es k' vp) fun v o => ∃ a b, v = .tup [a, b] ∧ Q .next ((x, a) :: (y, b) :: ρ) o)
    (hx : isLC (ns.lookup x) = true) (hy : isLC (ns.lookup y) = true)
    (hw : swappedStores [.Tuple [.Name x px, .Name y py] k tp] (.Tuple es k' vp) (cenv ns) = pure (some [x, y]) := by rfl) : EX n ns ρ own (.Assign [.Tuple [.Name x px, .Name y py] k tp] (.Tuple es k' vp) p) Q :=
  .mk fun w h₀ A env s G E C R K S F => by
    refine Assign_Tuple_swapped (names := [x, y]) (wpAny_mono (h.go w h₀ A env s G E C R K S F) (fun v' s₁ q_u => ?_) fun _ _ x => x) (by rw [swapsWithSole_c K]; rfl) (by rw [swappedStores_c K]; exact hw)
    obtain ⟨v, o, G₁, ⟨a, b, e, q⟩, h2, h3⟩ := q_u
    subst e
    refine ev_unpack R h3.sr h2 rfl fun vs s₂ r e => ?_
    cases r with
    | cons ra r => cases r with
      | cons rb r => cases r with
        | nil =>
          have F₂ := (F.ev h3).ev e
          refine assignInOrder_cons (wpAny_bindName (storeLC hy K e.sr F₂ rb fun s₃ e₃ F₃ _ => ?_))
          refine assignInOrder_cons (wpAny_bindName (storeLC hx K e₃.sr F₃ ra fun s₄ e₄ F₄ _ => assignInOrder_nil ?_))
          exact ⟨_, _, _, _, q, .next, ((h3.trans e).toF.trans e₃).trans e₄, F₄⟩
-- a pair stored into two targets, one behind the other
set_option tactic.hygienic true in
theorem ex_pair {t₁ t₂ value : PySem.Expr} {k : Nat} {tp p : Pos} (h : EV n ns ρ own value fun v o => ∃ a b, v = .tup [a, b] ∧ ASG n ns ρ o t₁ a fun ρ₁ o₁ => ASG n ns ρ₁ o₁ t₂ b fun ρ₂ o₂ => Q .next ρ₂ o₂)
    (hs : swapsWithSole [.Tuple [t₁, t₂] k tp] value p.line (cenv ns) = pure false := by rfl) (hw : swappedStores [.Tuple [t₁, t₂] k tp] value (cenv ns) = pure none := by rfl) (hn : (noStar t₁ && noStar t₂) = true := by rfl) : EX n ns ρ own (.Assign [.Tuple [t₁, t₂] k tp] value p) Q :=
  .mk fun w h₀ A env s G E C R K S F => by
    have hn' : noStar t₁ = true ∧ noStar t₂ = true := by simpa using hn
    refine PyProof.Rows.Assign_Tuple (wpAny_mono (h.go w h₀ A env s G E C R K S F) (fun v' s₁ q_u => ?_) fun _ _ x => x) (by rw [swapsWithSole_c K]; exact hs) (by rw [swappedStores_c K]; exact hw)
    obtain ⟨v, o, G₁, ⟨a, b, e, q⟩, h2, h3⟩ := q_u
    subst e
    cases h2 with
    | @tup _ vs ad m g r =>
      have h1 : assignEach [t₁, t₂] env = [(false, assign t₁ env), (false, assign t₂ env)] := by
        have e1 : ∀ t r, noStar t = true → assignEach (t :: r) env = (false, assign t env) :: assignEach r env := fun t r ht => by cases t <;> first | rfl | cases ht
        rw [e1 _ _ hn'.1, e1 _ _ hn'.2]; rfl
      have ht : s₁.heap.IsTuple ad vs.toArray := ⟨_, (h3.sr.frozen _ _ g).1, rfl, _, rfl⟩
      refine wpAny_assign_Tuple R.handled ht (by rw [h1, List.size_toArray, ← r.length]; rfl) (by rw [h1]; rfl) fun h' he => ?_
      have e : Ev h₀ G₁ o s₁ G₁ o { s₁ with heap := h' } := .junk h3.sr ⟨_, _, rfl⟩ fun b o e => he b o (fun q => by subst q; rw [get?_size_none] at e; cases e) e
      have F₂ := (F.ev h3).ev e
      rw [h1]
      cases r with
      | cons ra r => cases r with
        | cons rb r => cases r with
          | nil =>
            rename_i xa xb
            refine assignInOrder_cons (wpAny_mono (q.go w h₀ A env _ G₁ E xa C R K e.sr F₂ ra) (fun _ s₃ q_u => ?_) fun _ _ x => x)
            obtain ⟨ρ₁, o₁, G₃, q1, q2, q3⟩ := q_u
            refine assignInOrder_cons (wpAny_mono (q1.go w h₀ A env s₃ G₃ E xb C R K q2.sr q3 (rb.mono q2.sub)) (fun _ s₄ ⟨ρ₂, o₂, G₄, p1, p2, p3⟩ => assignInOrder_nil ?_) fun _ _ x => x)
            exact ⟨_, _, _, _, p1, .next, ((h3.trans e).toF.trans q2).trans p2, p3⟩
theorem ex_if {t : PySem.Expr} {a b : List Stmt} {p : Pos} (h : EB n ns ρ own t fun c o => if c = true then EXS n ns ρ o a Q else EXS n ns ρ o b Q) : EX n ns ρ own (.If t a b p) Q :=
  .mk fun w h₀ A env s G E C R K S F => wpAny_If (wpAny_mono (h.go w h₀ A env s G E C R K S F) (fun c s₁ q_u => by
    obtain ⟨o, G₁, h1, h2⟩ := q_u
    cases c with
    | true => simp only [if_true] at h1 ⊢; exact wpAny_mono (h1.go w h₀ A env s₁ G₁ E C R K h2.sr (F.ev h2)) (fun _ _ q => q.after h2.toF) fun _ _ x => x
    | false => simp only [Bool.false_eq_true, if_false] at h1 ⊢; exact wpAny_mono (h1.go w h₀ A env s₁ G₁ E C R K h2.sr (F.ev h2)) (fun _ _ q => q.after h2.toF) fun _ _ x => x) fun _ _ x => x)
theorem ex_return {e : PySem.Expr} {p : Pos} (h : EV n ns ρ own e fun v o => Q (.ret v) ρ o) : EX n ns ρ own (.Return (some e) p) Q :=
  .mk fun w h₀ A env s G E C R K S F => wpAny_Return_some (wpAny_mono (h.go w h₀ A env s G E C R K S F) (fun v' s₁ q_u => by obtain ⟨v, o, G₁, h1, h2, h3⟩ := q_u; exact ⟨_, _, _, _, h1, .ret h2, h3.toF, F.ev h3⟩) fun _ _ x => x)
-- an owned list in its place
inductive Turn (a : Addr) (o o' : AO) : Own → Own → Prop where
  | head {r : Own} : Turn a o o' ((a, o) :: r) ((a, o') :: r)
  | tail {p : Addr × AO} {r r' : Own} : Turn a o o' r r' → Turn a o o' (p :: r) (p :: r')
theorem Turn.split {a : Addr} {o o' : AO} {l l' : Own} (t : Turn a o o' l l') : ∃ l₁ l₂, l = l₁ ++ (a, o) :: l₂ ∧ l' = l₁ ++ (a, o') :: l₂ := by
  induction t with
  | head => exact ⟨[], _, rfl, rfl⟩
  | @tail p r r' _ ih =>
    obtain ⟨l₁, l₂, h1, h2⟩ := ih
    exact ⟨p :: l₁, l₂, congrArg (p :: ·) h1, congrArg (p :: ·) h2⟩
theorem Turn.mem {a : Addr} {o o' : AO} {l l' : Own} (t : Turn a o o' l l') : (a, o) ∈ l := by
  obtain ⟨l₁, l₂, rfl, _⟩ := t.split; simp
theorem Ev.turnL {h₀ : Heap} {G : Ghost} {own' : Own} {s s' : Shared} {a : Addr} {l l' : List V} {vs : List Value} {m : Nat} (S : SR h₀ G own s.heap) (T : Turn a (.lst l) (.lst l') own own') (same : ∃ h' tk, s' = { s with heap := h', toks := tk }) (hs : Heap.SameBut a s.heap s'.heap)
    (ha : s'.heap.get? a = some (lstObj vs m)) (hr : RVs G l' vs) : Ev h₀ G own s G own' s' := by
  obtain ⟨l₁, l₂, rfl, rfl⟩ := T.split
  exact .turn S same rfl (fun b x hb e => (hs.2 b (by simpa [AO.addrs] using hb)).trans e) ⟨vs, m, ha, hr⟩
-- o.append(x)
theorem ex_append {o x : PySem.Expr} {apos cp p : Pos} (h : EV n ns ρ own o fun v o₁ => ∃ a, v = .loc a ∧ (∃ l, (a, AO.lst l) ∈ o₁) ∧ EV n ns ρ o₁ x fun y o₂ => ∃ l o₃, Turn a (.lst l) (.lst (l ++ [y])) o₂ o₃ ∧ l.length ≤ sizeLine ∧ Q .next ρ o₃)
    (ho : ∀ env, attributeBase o ("append" : Str) env (eval o env) = eval o env := by intro _; rfl) (hp : (apos.endLine == cp.line) = true := by rfl) (hx : noStar x = true := by rfl) :
    EX n ns ρ own (.Expr (.Call (.Attribute o "append" apos) [x] [] cp) p) Q :=
  .mk fun w h₀ A env s G E C R K S F => by
    refine wpAny_Expr (wpAny_Call_append (ho env) (by rw [backTo_cons hx]; rfl) hp (by rw [backTo_cons hx]; rfl) (wpAny_mono (h.go w h₀ A env s G E C R K S F) (fun v' s₁ q_u => ?_) fun _ _ x => x)) (inter_c K) (by rw [swapsWith_c K]; rfl)
    obtain ⟨v, o₁, G₁, ⟨a, e, ⟨l, hl⟩, q⟩, h2, h3⟩ := q_u
    subst e
    cases h2
    obtain ⟨vs, m, hg, hr⟩ := h3.sr.owned _ hl
    refine ⟨a, vs.toArray, rfl, ⟨_, _, hg, rfl, rfl, rfl⟩, wpAny_mono (q.go w h₀ A env s₁ G₁ E C R K h3.sr (F.ev h3)) (fun y' s₂ q_u => ?_) fun _ _ x => x⟩
    obtain ⟨y, o₂, G₂, ⟨l', o₃, T, hsz, hq⟩, h5, h6⟩ := q_u
    obtain ⟨vs', m', hg', hr'⟩ := h6.sr.owned _ T.mem
    refine wpAny_list_append_plain ⟨m', hg'⟩ (fun h' hp hs => ?_) (by rw [List.size_toArray, ← hr'.length]; exact hsz)
    obtain ⟨m'', hp⟩ := hp
    have e := Ev.turnL (s' := { s₂ with heap := h' }) h6.sr T ⟨_, _, rfl⟩ hs (by show h'.get? a = some (lstObj (vs' ++ [y']) m''); rw [hp]; simp [lstObj]) (hr'.snoc h5)
    exact ⟨_, _, _, _, hq, .next, ((h3.trans h6).trans e).toF, ((F.ev h3).ev h6).ev e⟩
theorem mapSeq_set {vs : List Value} {m j : Nat} {v : Value} : Obj.mapSeq (·.setIfInBounds j v) (lstObj vs m) = lstObj (vs.set j v) m := by
  simp [Obj.mapSeq, lstObj]
set_option tactic.hygienic true in
theorem setItem_own {w : World} {A : Around} {s : Shared} {E : Value → Shared → Prop} {a : Addr} {vs : List Value} {m : Nat} {k : Int} {t : Tok} {v : Value} {j : Nat} {P : Unit → Shared → Prop} (hg : s.heap.get? a = some (lstObj vs m)) (hk : idx k vs.length = some j) (hsz : vs.length < 2 ^ 63)
    (h : ∀ h', Heap.SameBut a s.heap h' → h'.get? a = some (lstObj (vs.set j v) m) → P () { s with heap := h' }) : wpAny (model prg w) A (setItem (.ref a) (.int k t) v) P E s := by
  have hl : s.heap.IsList a vs.toArray := ⟨_, hg, rfl, _, rfl⟩
  have hfit : Builtin.List.listFitsIndex k = true ∧ seqIndex? k vs.toArray.size = some j ∧ j < vs.length := by
    have hi := seqIndex_of_idx hk
    unfold idx at hk
    split at hk
    · rename_i h0
      split at hk
      · rename_i h1; cases hk
        exact ⟨fitsIndex_of h0 (by omega), by rw [List.size_toArray]; exact hi, by omega⟩
      · cases hk
    · rename_i h0
      split at hk
      · rename_i h1; cases hk
        exact ⟨fitsIndex_neg (by omega) (by omega), by rw [List.size_toArray]; exact hi, by omega⟩
      · cases hk
  obtain ⟨hf, hi, hj⟩ := hfit
  have hx : vs.toArray[j]? = some vs[j] := by simp [hj]
  unfold setItem
  try with_reducible refine wpAny_holding ?_
  first | refine wpAny_bind (wpAny_pure ?_) | skip
  refine wpAny_bind (wpAny_sequenceKey hl.typeIs (by decide) ?_)
  refine wpAny_bind (wpAny_callSpecial?_slot (name := Str.ofString "__setitem__") hl.typeIs slot_list_setitem
    (wpAny_call_entry slot_list_setitem hl.typeIs entry_list_setitem ?_ (args_list_setitem _ _ _)))
  show wpAny _ _ (Builtin.List.listSubscript? (.int k t) >>= _) _ _ s
  refine wpAny_bind (wpAny_listSubscript_int hf ?_)
  have upd : ∀ {P' : Unit → Shared → Prop}, P' () { s with heap := s.heap.update a (Obj.mapSeq (·.setIfInBounds j v)) } → wpAny (model prg w) A.in1 (setSeqItemAt a j v) P' E s := fun hp => wpAny_setSeqItemAt hg rfl hp
  have last : P () { s with heap := s.heap.update a (Obj.mapSeq (·.setIfInBounds j v)) } := h _ (Heap.SameBut.update ..) (by rw [Heap.get?_update_self _ hg (by rw [mapSeq_set]; rfl), mapSeq_set])
  cases k with
  | ofNat i =>
    obtain rfl : i = j := by
      unfold seqIndex? at hi
      simp only [Int.ofNat_eq_natCast] at hi
      split at hi
      · omega
      · split at hi
        · simpa using hi
        · cases hi
    show wpAny _ _ ((seqItemAt a i >>= fun r => pure (r.map (i, ·))) >>= _) _ _ s
    refine wpAny_bind (wpAny_bind (wpAny_seqItemAt hg rfl (wpAny_pure ?_)))
    rw [hx]
    show wpAny _ _ (setSeqItemAt a i v >>= _) _ _ s
    refine wpAny_bind (upd ?_)
    first
      | exact wpAny_bind (wpAny_pure (wpAny_pure ⟨.none, rfl, wpAny_pure last⟩))
      | exact wpAny_pure ⟨.none, rfl, wpAny_pure last⟩
  | negSucc i =>
    show wpAny _ _ ((Builtin.List.listItems (.ref a) >>= fun xs => pure ((seqIndex? (Int.negSucc i) xs.size).bind fun i => xs[i]?.map (i, ·))) >>= _) _ _ s
    refine wpAny_bind (wpAny_bind ?_)
    show wpAny _ _ (seqItems? (.ref a) >>= _) _ _ s
    refine wpAny_bind (wpAny_seqItems hg rfl (wpAny_pure (wpAny_pure ?_)))
    rw [hi]
    simp only [Option.bind_some, hx, Option.map_some]
    show wpAny _ _ (setSeqItemAt a j v >>= _) _ _ s
    refine wpAny_bind (upd ?_)
    first
      | exact wpAny_bind (wpAny_pure (wpAny_pure ⟨.none, rfl, wpAny_pure last⟩))
      | exact wpAny_pure ⟨.none, rfl, wpAny_pure last⟩
theorem asg_sub {o i : PySem.Expr} {p : Pos} {v : V} {P : Rho → Own → Prop} (h : EV n ns ρ own o fun a o₁ => EV n ns ρ o₁ i fun b o₂ => ∃ ad k l j o₃, a = .loc ad ∧ b = .int k ∧ Turn ad (.lst l) (.lst (l.set j v)) o₂ o₃ ∧ idx k l.length = some j ∧ l.length < 2 ^ 63 ∧ P ρ o₃) : ASG n ns ρ own (.Subscript o i p) v P :=
  .mk fun w h₀ A env s G E v' C R K S F r => by
    rw [arm_assign_Subscript]
    refine wpAny_bind (wpAny_holding (wpAny_mono (EV.two h C R K S F) (fun a' s₁ q => wpAny_bind (wpAny_holding (wpAny_mono q (fun b' s₂ q_u => ?_) fun _ _ x => x))) fun _ _ x => x))
    obtain ⟨a, b, o₂, G₂, ⟨ad, k, l, j, o₃, e1, e2, T, hk, hsz, hP⟩, h2, h3, h4⟩ := q_u
    subst e1 e2
    cases h2; cases h3
    obtain ⟨vs, m, hg, hr⟩ := h4.sr.owned _ T.mem
    refine wpAny_bind (wpAny_standAt (wpAny_bind (wpAny_holding (setItem_own hg (by rw [← hr.length]; exact hk) (by rw [← hr.length]; exact hsz) fun h' hs hg' => wpAny_release' ?_))))
    have e := Ev.turnL (s' := { s₂ with heap := h' }) h4.sr T ⟨_, _, rfl⟩ hs hg' (RVs.set (r.mono h4.sub) j hr)
    exact ⟨_, _, _, hP, (h4.trans e).toF, (F.ev h4).ev e⟩
-- a list is frozen
inductive Drop (a : Addr) (o : AO) : Own → Own → Prop where
  | head {r : Own} : Drop a o ((a, o) :: r) r
  | tail {p : Addr × AO} {r r' : Own} : Drop a o r r' → Drop a o (p :: r) (p :: r')
theorem Drop.split {a : Addr} {o : AO} {l l' : Own} (t : Drop a o l l') : ∃ l₁ l₂, l = l₁ ++ (a, o) :: l₂ ∧ l' = l₁ ++ l₂ := by
  induction t with
  | head => exact ⟨[], _, rfl, rfl⟩
  | @tail p r r' _ ih =>
    obtain ⟨l₁, l₂, h1, h2⟩ := ih
    exact ⟨p :: l₁, l₂, congrArg (p :: ·) h1, congrArg (p :: ·) h2⟩
-- a name's list is frozen ahead of a statement
theorem exs_freeze {x : Str} {a : Addr} {l : List V} {own' : Own} {sts : List Stmt} (hx : ρ.lookup x = some (.loc a)) (D : Drop a (.lst l) own own') (h : EXS n ns ((x, .lst l) :: ρ) own' sts Q) : EXS n ns ρ own sts Q :=
  .mk fun w h₀ A env s G E C R K S F => by
    obtain ⟨l₁, l₂, rfl, rfl⟩ := D.split
    obtain ⟨G₂, e, r⟩ := Ev.freeze S
    have F' := F.ev e
    refine wpAny_mono (h.go w h₀ A env s G₂ E C R K e.sr ?_) (fun _ _ q => q.after e.toF) fun _ _ x => x
    have rl : ∀ {v : Value}, RV G₂ (.loc a) v → RV G₂ (.lst l) v := fun h => by cases h; exact r
    refine ⟨?_, fun y u hy hk => ?_, F'.cok, F'.inj, F'.free, F'.lc⟩
    · obtain ⟨m, hm, hr⟩ := F'.ns
      refine ⟨m, hm, fun y u hy hk => ?_⟩
      rw [List.lookup_cons] at hy
      by_cases hyx : y = x
      · subst hyx; simp at hy; subst hy
        obtain ⟨v', a1, a2⟩ := hr y _ hx hk
        exact ⟨v', a1, rl a2⟩
      · rw [show (y == x) = false by simpa using hyx] at hy
        exact hr y u hy hk
    · rw [List.lookup_cons] at hy
      by_cases hyx : y = x
      · subst hyx; simp at hy; subst hy
        obtain ⟨c, v', a0, a1, a2⟩ := F'.cells y _ hx hk
        exact ⟨c, v', a0, a1, rl a2⟩
      · rw [show (y == x) = false by simpa using hyx] at hy
        exact F'.cells y u hy hk
end
end
-- part L4Loop
section
set_option tactic.hygienic false
-- the items of what a loop goes over
noncomputable def rangeVs (x step : Int) : Nat → List V
  | 0 => []
  | k + 1 => .int x :: rangeVs (x + step) step k
theorem rangeVs_length (x step : Int) (k : Nat) : (rangeVs x step k).length = k := by
  induction k generalizing x with
  | zero => rfl
  | succ k ih => simp [rangeVs, ih]
theorem rangeVs_get {x step : Int} {k i : Nat} {v : V} (h : (rangeVs x step k)[i]? = some v) : i < k ∧ v = .int (x + i * step) := by
  induction k generalizing x i with
  | zero => simp [rangeVs] at h
  | succ k ih =>
    cases i with
    | zero => simp [rangeVs] at h; subst h; exact ⟨by omega, by simp⟩
    | succ i =>
      simp [rangeVs] at h
      obtain ⟨a, b⟩ := ih h
      refine ⟨by omega, b.trans ?_⟩
      congr 1
      rw [Int.natCast_succ, Int.add_mul, Int.one_mul]; omega
noncomputable def itemsOf : V → Option (List V)
  | .lst l => some l
  | .rng a b c => if Builtin.Range.small a b c then some (rangeVs a c (Builtin.Range.rangeSize a b c).toNat) else none
  | _ => none
inductive ItRel (G : Ghost) (h : Heap) (it : Addr) : List V → Prop where
  | list {l i : Nat} {vs : List Value} {m : Nat} {all : List V} : h.IsListIter it l i → G l = some (lstObj vs m) → RVs G all vs → ItRel G h it (all.drop i)
  | range {x left step : Int} : IsRangeIter h it x left step → ItRel G h it (rangeVs x step left.toNat)
theorem ItRel.keeps {G G' : Ghost} {h h' : Heap} {it : Addr} {rem : List V} (x : ItRel G h it rem) (hs : Gsub G G') (k : ∀ o, h.get? it = some o → h'.get? it = some o) : ItRel G' h' it rem := by
  cases x with
  | list a b c => obtain ⟨o, ho, r⟩ := a; exact .list ⟨o, k o ho, r⟩ (hs _ _ b) (c.mono hs)
  | range a => exact .range (k _ a)
theorem ItRel.get {G : Ghost} {h : Heap} {it : Addr} {rem : List V} (x : ItRel G h it rem) : ∃ o, h.get? it = some o := by
  cases x with
  | list a _ _ => obtain ⟨o, ho, r⟩ := a; exact ⟨o, ho⟩
  | range a => exact ⟨_, a⟩
section
variable {w : World} {h₀ : Heap} {A : Around} {s : Shared} {E : Value → Shared → Prop} {G : Ghost} {own : Own}
set_option tactic.hygienic true in
theorem wp_iter {v : V} {v' : Value} {items : List V} {P : Value → Shared → Prop} (S : SR h₀ G own s.heap) (r : RV G v v') (hi : itemsOf v = some items)
    (h : ∀ it s', s.heap.get? it = none → ItRel G s'.heap it items → Ev h₀ G own s G own s' → (∀ b o, s.heap.get? b = some o → s'.heap.get? b = some o) → P (.ref it) s') : wpAny (model prg w) A (pyIter v') P E s := by
  cases r with
  | lst g rs =>
    simp only [itemsOf, Option.some.injEq] at hi; subst hi
    refine wpAny_pyIter_list ⟨_, (S.frozen _ _ g).1, rfl, _, rfl⟩ (h _ _ (get?_size_none _) ?_ (.junk S ⟨_, _, rfl⟩ fun b o e => Heap.get?_push_of_some _ e) fun b o e => Heap.get?_push_of_some _ e)
    exact ItRel.list (i := 0) ⟨_, Heap.get?_push_size _ rfl, rfl, rfl⟩ g rs
  | rng g =>
    simp only [itemsOf] at hi
    split at hi
    · rename_i hs
      cases hi
      exact wpAny_pyIter_range (S.frozen _ _ g).1 hs (h _ _ (get?_size_none _) (.range (Heap.get?_push_size _ rfl)) (.junk S ⟨_, _, rfl⟩ fun b o e => Heap.get?_push_of_some _ e) fun b o e => Heap.get?_push_of_some _ e)
    · cases hi
  | _ => simp [itemsOf] at hi
theorem wp_next {it : Addr} {v : V} {rem : List V} {P : Option Value → Shared → Prop} (S : SR h₀ G own s.heap) (x : ItRel G s.heap it (v :: rem))
    (h : ∀ v' h' tk, RV G v v' → ItRel G h' it rem → Heap.SameBut it s.heap h' → P (some v') { s with heap := h', toks := tk }) : wpAny (model prg w) A (pyNext (.ref it)) P E s := by
  generalize hv : v :: rem = vr at x
  cases x with
  | @list l i vs m all a b c =>
    have h1 : all[i]? = some v := by
      have := congrArg (·[0]?) hv
      simpa [List.getElem?_drop] using this.symm
    obtain ⟨y, e, r⟩ := rvs_toArray c h1
    have h2 : rem = all.drop (i + 1) := by
      have := congrArg (List.drop 1) hv
      simpa [List.drop_drop] using this
    refine wpAny_pyNext_list_item a ⟨_, (S.frozen _ _ b).1, rfl, _, rfl⟩ e fun h' hi hs => ?_
    rw [h2] at h
    exact h y h' s.toks r (.list hi b c) hs
  | @range x left step a =>
    have hl : 0 < left := by
      cases hk : left.toNat with
      | zero => rw [hk] at hv; simp [rangeVs] at hv
      | succ k => omega
    obtain ⟨k, hk⟩ : ∃ k, left.toNat = k + 1 := ⟨left.toNat - 1, by omega⟩
    rw [hk] at hv
    simp only [rangeVs, List.cons.injEq] at hv
    obtain ⟨rfl, rfl⟩ := hv
    refine wpAny_pyNext_range_item a hl fun h' hi hs => h _ h' _ .int ?_ hs
    have : k = (left - 1).toNat := by omega
    subst this
    exact .range hi
theorem wp_next_end {it : Addr} {P : Option Value → Shared → Prop} (hh : A.handled = none) (S : SR h₀ G own s.heap) (x : ItRel G s.heap it []) (h : ∀ h', Heap.ExtBut it s.heap h' → P none { s with heap := h' }) : wpAny (model prg w) A (pyNext (.ref it)) P E s := by
  generalize hv : ([] : List V) = vr at x
  cases x with
  | @list l i vs m all a b c =>
    refine wpAny_pyNext_list_end hh a ⟨_, (S.frozen _ _ b).1, rfl, _, rfl⟩ ?_ h
    have := congrArg List.length hv
    rw [Array.getElem?_eq_none]
    rw [List.size_toArray, ← c.length]
    simp at this; omega
  | @range x left step a =>
    refine wpAny_pyNext_range_end hh a ?_ h
    have := congrArg List.length hv
    rw [rangeVs_length] at this
    simp at this; omega
end
-- an object of the machine's own is turned: nothing of ours is
theorem SR.but {h₀ : Heap} {G : Ghost} {own : Own} {h h' : Heap} {it : Addr} (S : SR h₀ G own h) (hs : Heap.ExtBut it h h') (ho : it ∉ addrs own) (hg : G it = none) : SR h₀ G own h' :=
  ⟨S.base, fun a o e => ⟨hs a o (fun q => by rw [q, hg] at e; cases e) (S.frozen a o e).1, (S.frozen a o e).2⟩, S.nodup, fun p hp => (S.owned p hp).keeps fun b hb x e => hs b x (fun q => ho (q ▸ mem_addrs.mpr ⟨p, hp, hb⟩)) e⟩
theorem FR.but {G : Ghost} {own : Own} {env : Env} {ρ : Rho} {h h' : Heap} {it : Addr} (F : FR G own env ρ h) (hs : Heap.ExtBut it h h') (hf : ¬ fp env it) : FR G own env ρ h' := by
  have kp : ∀ b, fp env b → ∀ o, h.get? b = some o → h'.get? b = some o := fun b hb o ho => hs b o (fun q => hf (q ▸ hb)) ho
  have lm : ∀ {y c}, env.cells.lookup y = some c → fp env c := fun h => .inr ⟨_, h⟩
  refine ⟨?_, fun y u hy hk => ?_, fun y hk => ?_, F.inj, fun b hb => ?_, F.lc⟩
  · obtain ⟨m, ⟨o, es, ep, ho, r⟩, hm⟩ := F.ns
    exact ⟨m, ⟨o, es, ep, kp _ (.inl rfl) o ho, r⟩, hm⟩
  · obtain ⟨c, u', h1, ⟨o, h2, h3⟩, h4⟩ := F.cells y u hy hk
    exact ⟨c, u', h1, ⟨o, kp c (lm h1) o h2, h3⟩, h4⟩
  · obtain ⟨c, u', h1, ⟨o, h2, h3⟩⟩ := F.cok y hk
    exact ⟨c, u', h1, ⟨o, kp c (lm h1) o h2, h3⟩⟩
  · obtain ⟨a, b', o, ho⟩ := F.free b hb
    exact ⟨a, b', o, kp b hb o ho⟩
theorem EvF.but {h₀ : Heap} {env : Env} {G G' : Ghost} {own own' : Own} {s s' : Shared} {h' : Heap} {tk : Nat} {it : Addr} (e : EvF h₀ env G own s G' own' s') (hn : s.heap.get? it = none) (hs : Heap.ExtBut it s'.heap h') (ho : it ∉ addrs own') (hg : G' it = none) :
    EvF h₀ env G own s G' own' { s' with heap := h', toks := tk } := by
  obtain ⟨h1, t1, e1⟩ := e.same
  refine ⟨⟨h', tk, by rw [e1]⟩, e.sub, fun b o a1 a2 a3 a4 => ?_, e.sr.but hs ho hg⟩
  obtain ⟨k1, k2, k3⟩ := e.keep b o a1 a2 a3 a4
  exact ⟨hs b o (fun q => by rw [q, hn] at a1; cases a1) k1, k2, k3⟩
theorem Ev.but {h₀ : Heap} {G G' : Ghost} {own own' : Own} {s s' : Shared} {h' : Heap} {tk : Nat} {it : Addr} (e : Ev h₀ G own s G' own' s') (hn : s.heap.get? it = none) (hs : Heap.ExtBut it s'.heap h') (ho : it ∉ addrs own') (hg : G' it = none) :
    Ev h₀ G own s G' own' { s' with heap := h', toks := tk } := by
  obtain ⟨h1, t1, e1⟩ := e.same
  refine ⟨⟨h', tk, by rw [e1]⟩, e.sub, fun b o a1 a2 a3 => ?_, e.sr.but hs ho hg⟩
  obtain ⟨k1, k2, k3⟩ := e.keep b o a1 a2 a3
  exact ⟨hs b o (fun q => by rw [q, hn] at a1; cases a1) k1, k2, k3⟩
section
variable {n : Nat} {ns : Ns} {ρ : Rho} {own : Own} {Q : MF → Rho → Own → Prop}
theorem drop_cons {α : Type} {l : List α} {i : Nat} {v : α} (h : l[i]? = some v) : l.drop i = v :: l.drop (i + 1) := by
  obtain ⟨hi, rfl⟩ := List.getElem?_eq_some_iff.mp h
  exact List.drop_eq_getElem_cons hi
-- a for over a list or a range, a name its target, no break
theorem ex_for {x : Str} {px p : Pos} {iter : PySem.Expr} {body : List Stmt} (I : Nat → Rho → Own → Prop) (hx : isLC (ns.lookup x) = true)
    (h : EV n ns ρ own iter fun v o => ∃ items, itemsOf v = some items ∧ I 0 ρ o ∧
      (∀ i v ρ₁ o₁, items[i]? = some v → I i ρ₁ o₁ → EXS n ns ((x, v) :: ρ₁) o₁ body fun f ρ₂ o₂ => f = .next ∧ I (i + 1) ρ₂ o₂) ∧
      (∀ ρ₁ o₁, I items.length ρ₁ o₁ → Q .next ρ₁ o₁))
    (hs : ∀ env x, foldedSetIterable iter env x = pure x := by intro _ _; rfl) : EX n ns ρ own (.For (.Name x px) iter body [] p) Q :=
  .mk fun w h₀ A env s G E C R K S F => by
    refine wpAny_For (wpAny_mono (h.go w h₀ A env s G E C R K S F) (fun v' s₁ q_u => ?_) fun _ _ x => x) (hs env)
    obtain ⟨v, o, G₁, ⟨items, hi, hI, turn, fin⟩, h2, h3⟩ := q_u
    refine wp_iter h3.sr h2 hi fun it s₂ hnew hit e₂ _ => ?_
    have F₂ := (F.ev h3).ev e₂
    have e0 : EvF h₀ env G₁ o s₁ G₁ o s₂ := e₂.toF
    have it0 : it ∉ addrs o ∧ G₁ it = none ∧ ¬ fp env it := ⟨h3.sr.fresh_own hnew, h3.sr.fresh_G hnew, fun hf => by
      obtain ⟨_, _, o', ho'⟩ := (F.ev h3).free it hf
      rw [hnew] at ho'; cases ho'⟩
    let J : Nat → Shared → Prop := fun k s' => ∃ i ρ₁ o₁ G', k = items.length - i ∧ i ≤ items.length ∧ I i ρ₁ o₁ ∧ EvF h₀ env G₁ o s₁ G' o₁ s' ∧ FR G' o₁ env ρ₁ s'.heap ∧ ItRel G' s'.heap it (items.drop i) ∧ it ∉ addrs o₁ ∧ G' it = none
    refine codeAny_forLoop J (fun k s' q_u => ?_) items.length ⟨0, ρ, o, G₁, rfl, Nat.zero_le _, hI, e0, F₂, by simpa using hit, it0.1, it0.2.1⟩
    obtain ⟨i, ρ₁, o₁, G', hk, hle, hIi, hev, hfr, hir, ho, hg⟩ := q_u
    cases hq : items[i]? with
    | none =>
      have hlen : items.length ≤ i := List.getElem?_eq_none_iff.mp hq
      have hii : i = items.length := by omega
      subst hii
      rw [List.drop_length] at hir
      refine wp_next_end R.handled hev.sr hir fun h' he => ?_
      refine wpAny_execs_nil ?_
      exact ⟨_, _, _, _, fin _ _ hIi, .next, h3.toF.trans (hev.but (tk := s'.toks) hnew he ho hg), hfr.but he it0.2.2⟩
    | some v₁ =>
      rw [drop_cons hq] at hir
      refine wp_next hev.sr hir fun v₁' h' tk r hir' hsb => ?_
      have ev1 := hev.but (tk := tk) hnew hsb.extBut ho hg
      have fr1 := hfr.but hsb.extBut it0.2.2
      refine PyProof.Rows.assign_Name (storeLC hx K ev1.sr fr1 r fun s₃ ev2 fr2 _ => ?_)
      have hg3 : s₃.heap.get? it = h'.get? it ∧ it ∉ addrs o₁ ∧ G' it = none := by
        obtain ⟨ob, hob⟩ := hir'.get
        obtain ⟨k1, k2, k3⟩ := ev2.keep it ob hob ho hg it0.2.2
        exact ⟨k1.trans hob.symm, k2, k3⟩
      refine wpAny_mono ((turn i v₁ ρ₁ o₁ hq hIi).go w h₀ A env s₃ G' _ C R K ev2.sr fr2) (fun f s₄ q_u => ?_) fun _ _ x => x
      obtain ⟨m, ρ₂, o₂, G₂, ⟨e, hI2⟩, rf, ev3, fr3⟩ := q_u
      subst e
      cases rf
      obtain ⟨ob, hob⟩ := hir'.get
      obtain ⟨k1, k2, k3⟩ := ev3.keep it ob (hg3.1.trans hob) ho hg it0.2.2
      refine ⟨items.length - (i + 1), ?_, i + 1, ρ₂, o₂, G₂, rfl, ?_, hI2, (ev1.trans ev2).trans ev3, fr3, hir'.keeps ev3.sub fun ob' hob' => ?_, k2, k3⟩
      · have := (List.getElem?_eq_some_iff.mp hq).1; omega
      · have := (List.getElem?_eq_some_iff.mp hq).1; omega
      · rw [hob] at hob'; cases hob'; exact k1
-- the state behind each turn written out
theorem ex_for_fun {x : Str} {px p : Pos} {iter : PySem.Expr} {body : List Stmt} (items : List V) (Rf : Nat → Rho) (Of : Nat → Own) (hx : isLC (ns.lookup x) = true)
    (h : EV n ns ρ own iter fun v o => itemsOf v = some items ∧ Sub (Rf 0) ρ ∧ o = Of 0)
    (turn : ∀ i v, items[i]? = some v → EXS n ns ((x, v) :: Rf i) (Of i) body fun f ρ₂ o₂ => f = .next ∧ Sub (Rf (i + 1)) ρ₂ ∧ o₂ = Of (i + 1))
    (fin : ∀ ρ₁, Sub (Rf items.length) ρ₁ → Q .next ρ₁ (Of items.length))
    (hs : ∀ env x, foldedSetIterable iter env x = pure x := by intro _ _; rfl) : EX n ns ρ own (.For (.Name x px) iter body [] p) Q := by
  refine ex_for (fun i ρ₁ o₁ => Sub (Rf i) ρ₁ ∧ o₁ = Of i) hx (EV.mono h fun v o ⟨h1, h2, h3⟩ => ⟨items, h1, ⟨h2, h3⟩, fun i v ρ₁ o₁ hv q_u => ?_, fun ρ₁ o₁ ⟨q1, q2⟩ => by subst q2; exact fin _ q1⟩) hs
  obtain ⟨q1, q2⟩ := q_u
  subst q2
  refine exs_weak (ρ' := (x, v) :: Rf i) (fun y u hy => ?_) (turn i v hv)
  rw [List.lookup_cons] at hy ⊢
  split at hy
  · exact hy
  · exact q1.get y u hy
end
end
-- part L5Call
section
set_option tactic.hygienic false
section
variable {n : Nat} {ns : Ns} {ρ : Rho} {own : Own} {Q : MF → Rho → Own → Prop}
theorem ex_while {t : PySem.Expr} {body : List Stmt} {p : Pos} (I : Nat → Rho → Own → Prop) (m₀ : Nat) (h0 : I m₀ ρ own)
    (turn : ∀ m ρ₁ o₁, I m ρ₁ o₁ → EB n ns ρ₁ o₁ t fun b o₂ => if b = true then EXS n ns ρ₁ o₂ body fun f ρ₃ o₃ => f = .next ∧ ∃ m', m' < m ∧ I m' ρ₃ o₃ else Q .next ρ₁ o₂) : EX n ns ρ own (.While t body [] p) Q :=
  .mk fun w h₀ A env s G E C R K S F => by
    let J : Nat → Shared → Prop := fun k s' => ∃ ρ₁ o₁ G', I k ρ₁ o₁ ∧ EvF h₀ env G own s G' o₁ s' ∧ FR G' o₁ env ρ₁ s'.heap
    refine wpAny_While (codeAny_whileLoop J (fun k s' q_u => ?_) m₀ ⟨ρ, own, G, h0, (Ev.refl S).toF, F⟩)
    obtain ⟨ρ₁, o₁, G', hI, hev, hfr⟩ := q_u
    refine wpAny_mono ((turn k ρ₁ o₁ hI).go w h₀ A env s' G' _ C R K hev.sr hfr) (fun b s₂ q_u => ?_) fun _ _ x => x
    obtain ⟨o₂, G₂, h1, h2⟩ := q_u
    cases b with
    | true =>
      simp only [if_true] at h1 ⊢
      refine wpAny_mono (h1.go w h₀ A env s₂ G₂ _ C R K h2.sr (hfr.ev h2)) (fun f s₃ q_u => ?_) fun _ _ x => x
      obtain ⟨mf, ρ₃, o₃, G₃, ⟨e, m', hm, hI'⟩, rf, ev3, fr3⟩ := q_u
      subst e; cases rf
      exact ⟨m', hm, ρ₃, o₃, G₃, hI', (hev.trans h2.toF).trans ev3, fr3⟩
    | false =>
      simp only [Bool.false_eq_true, if_false] at h1 ⊢
      exact wpAny_execs_nil ⟨_, _, _, _, h1, .next, hev.trans h2.toF, hfr.ev h2⟩
end
-- the frame of a call
theorem bindL_spec {kindOf : Str → Option NameKind} : ∀ (binds : List (Str × Value)) (m : Str → Option Value) (x : Str), (binds.map (·.1)).Nodup → kindOf x = some .local → bindL kindOf binds m x = (binds.lookup x).or (m x)
  | [], m, x, _, _ => rfl
  | (y, v) :: r, m, x, nd, hk => by
    have nd' := List.nodup_cons.mp nd
    unfold bindL
    rw [bindL_spec r _ x nd'.2 hk, List.lookup_cons]
    by_cases hxy : x = y
    · subst hxy
      have : r.lookup x = none := by
        cases hq : r.lookup x with
        | none => rfl
        | some c => exact absurd (List.mem_map.mpr ⟨_, mem_of_lookup hq, rfl⟩) nd'.1
      simp [this, hk]
    · rw [show (x == y) = false by simpa using hxy]
      simp only
      congr 1
      split
      · simp [hxy]
      · rfl
theorem bindC_spec {kindOf : Str → Option NameKind} : ∀ (binds : List (Str × Value)) (m : Str → Option Value) (x : Str), (binds.map (·.1)).Nodup → kindOf x ≠ some .local → bindC kindOf binds m x = (binds.lookup x).or (m x)
  | [], m, x, _, _ => rfl
  | (y, v) :: r, m, x, nd, hk => by
    have nd' := List.nodup_cons.mp nd
    unfold bindC
    rw [bindC_spec r _ x nd'.2 hk, List.lookup_cons]
    by_cases hxy : x = y
    · subst hxy
      have : r.lookup x = none := by
        cases hq : r.lookup x with
        | none => rfl
        | some c => exact absurd (List.mem_map.mpr ⟨_, mem_of_lookup hq, rfl⟩) nd'.1
      simp [this, hk]
    · rw [show (x == y) = false by simpa using hxy]
      simp only
      congr 1
      split
      · rfl
      · simp [hxy]
theorem zip_lookup {G : Ghost} : ∀ {xs : List Str} {vs : List V} {vs' : List Value}, RVs G vs vs' → ∀ {x : Str} {v : V}, (xs.zip vs).lookup x = some v → ∃ v', (xs.zip vs').lookup x = some v' ∧ RV G v v'
  | [], _, _, _, x, v, h => by simp at h
  | _ :: _, _, _, .nil, x, v, h => by simp at h
  | y :: ys, _, _, .cons a b, x, v, h => by
    simp only [List.zip_cons_cons, List.lookup_cons] at h ⊢
    split at h
    · cases h; exact ⟨_, rfl, a⟩
    · exact zip_lookup b h
theorem zip_fst_sub {β : Type} : ∀ (xs : List Str) (vs : List β), List.Sublist ((xs.zip vs).map (·.1)) xs
  | [], _ => by simp
  | x :: xs, [] => by simp
  | x :: xs, v :: vs => by simpa using zip_fst_sub xs vs
-- what a call gives back
noncomputable def retD (Q : V → Own → Prop) : MF → Rho → Own → Prop
  | .ret v, _, o => Q v o
  | .next, _, o => Q .none o
  | _, _, _ => False
noncomputable abbrev scopeOf (ns : Ns) (more : List (Str × Const)) : Scope := { kind := .function, names := ns, isGenerator := false, isCoroutine := false, more := more }
theorem frame_of {h₀ : Heap} {G : Ghost} {own : Own} {s s₁ : Shared} {fd : FuncData} {a : Addr} {names : List Str} {vs : List V} {vs' : List Value} (S : SR h₀ G own s.heap) (r : RVs G vs vs') (nd : names.Nodup)
    (x : InCallC s (callEnvC fd s.heap.objs.size a).locals (bindL (callEnvC fd s.heap.objs.size a).kindOf (names.zip vs') fun _ => none) (callEnvC fd s.heap.objs.size a).cells (bindC (callEnvC fd s.heap.objs.size a).kindOf (names.zip vs') fun _ => none) s₁) :
    Ev h₀ G own s G own s₁ ∧ FR G own (callEnvC fd s.heap.objs.size a) (names.zip vs) s₁.heap := by
  obtain ⟨h', tk, e, kp⟩ := x.done
  subst e
  have nd' : ((names.zip vs').map (·.1)).Nodup := List.Nodup.sublist (zip_fst_sub names vs') nd
  have hL : s.heap.get? (callEnvC fd s.heap.objs.size a).locals = none := get?_size_none _
  have hC : ∀ c, inC (callEnvC fd s.heap.objs.size a) c → s.heap.get? c = none ∧ (callEnvC fd s.heap.objs.size a).locals < c := fun c q_u => by
    obtain ⟨y, hy⟩ := q_u
    have := x.above y c (mem_of_lookup hy)
    refine ⟨?_, this⟩
    cases hq : s.heap.get? c with
    | none => rfl
    | some o => exact absurd (Heap.lt_size hq) (Nat.not_lt.mpr (Nat.le_of_lt this))
  refine ⟨.junk S ⟨_, _, rfl⟩ kp, ⟨_, x.toInCall.ns, fun y v hy hk => ?_⟩, fun y v hy hk => ?_, fun y hk => ?_, fun y z c h1 h2 => name_of_addr x.apart (mem_of_lookup h1) (mem_of_lookup h2), fun b hb => ?_, fun hm => Nat.lt_irrefl _ (hC _ hm).2⟩
  · rw [bindL_spec _ _ _ nd' hk]
    obtain ⟨v', e, r'⟩ := zip_lookup r hy
    exact ⟨v', by rw [e]; rfl, r'⟩
  · obtain ⟨v', e, r'⟩ := zip_lookup r hy
    obtain ⟨c, hc⟩ := Option.isSome_iff_exists.mp (cellsFrom_some (x := y) fd.scope.names (s.heap.objs.size + 1) [] (.inl hk))
    have := x.cell y c hc
    rw [bindC_spec _ _ _ nd' (by rw [hk]; decide), e] at this
    exact ⟨c, v', hc, this, r'⟩
  · obtain ⟨c, hc⟩ := Option.isSome_iff_exists.mp (cellsFrom_some (x := y) fd.scope.names (s.heap.objs.size + 1) [] (.inl hk))
    exact ⟨c, _, hc, x.cell y c hc⟩
  · rcases hb with rfl | hb
    · obtain ⟨o, _, _, ho, _⟩ := x.toInCall.ns
      exact ⟨S.fresh_own hL, S.fresh_G hL, o, ho⟩
    · obtain ⟨y, hy⟩ := id hb
      obtain ⟨o, ho, _⟩ := x.cell y b hy
      exact ⟨S.fresh_own (hC _ hb).1, S.fresh_G (hC _ hb).1, o, ho⟩
theorem Room.deeper {n : Nat} {A : Around} {env : Env} (R : Room (n + 1) A) (hg : env.scope.isGenerator = false) (hc : env.scope.isCoroutine = false) (hb : env.builtins = builtinsNs) (hm : env.globals = mainGlobals) : Room n (A.deeper env) := by
  obtain ⟨h1, h2, h3, e, l, h4, _⟩ := R
  refine ⟨h1, ?_, ?_, env, e :: l, ?_, hg, hc, hb, hm⟩
  · show A.depth + 1 + n + 100 < _; omega
  · show A.units + 3 + 16 * (n + 1) < _; omega
  · show A.frames.map (env :: ·) = _; rw [h4]; rfl
-- a call as a code
structure CODE (n : Nat) (f : Addr) (vs : List V) (own : Own) (Q : V → Own → Prop) : Prop where
  go : ∀ (w : World) (h₀ : Heap) (A : Around) (s : Shared) (G : Ghost) (R : Result → Shared → Prop) (vs' : List Value), Cx w h₀ → Room n A → SR h₀ G own s.heap → RVs G vs vs' → (∀ v s', PostV h₀ G own s Q v s' → R (.ok (.ret v)) s') →
    codeAny (model prg w) A (.call (.ref f) ⟨vs', []⟩) R s
theorem CODE.call {n : Nat} {f : Addr} {vs : List V} {own : Own} {Q : V → Own → Prop} (h : CODE n f vs own Q) : CALL n f vs own Q :=
  .mk fun w h₀ A s G E vs' C R S r => wpAny_call (h.go w h₀ A s G _ vs' C R S r fun _ _ q => q)
-- a def by its body
theorem code_def {n : Nat} {own : Own} {f : Addr} {vs : List V} {Q : V → Own → Prop} {oc : Value} {od : Option Addr} {osl : Array (Option Value)} {fd : FuncData} {ns : Ns} {body : List Stmt} {names : List Str}
    (hf : ∀ w, (KK w).lookup f = some ⟨oc, od, .func fd, osl⟩) (hcd : ∀ w, codeIn (KK w) fd.code fd.qualname = true)
    (hb : ∀ (s : Shared) (vs' : List Value), (∃ w, (KK w).In s.heap) → vs'.length = vs.length → BindsTo s fd ⟨vs', []⟩ (names.zip vs'))
    (h : EXS n ns (names.zip vs) own body (retD Q))
    (hbody : fd.body = .stmts body := by rfl) (hsc : ∃ more, fd.scope = scopeOf ns more := by exact ⟨_, rfl⟩) (hnd : names.Nodup := by decide) (hl : vs.length = names.length := by rfl) (hk : names.all (fun x => isLC (ns.lookup x)) = true := by rfl)
    (hclo : fd.closure = [] := by rfl) (hgl : fd.globals = mainGlobals := by rfl) (hbl : fd.builtins = builtinsNs := by rfl) : CODE (n + 1) f vs own Q :=
  .mk fun w h₀ A s G RR vs' C R S r hR => by
    obtain ⟨more, hsc⟩ := hsc
    have hin := cx_in C S
    obtain ⟨mg, mb, T⟩ := C.t
    have hlim : s.heap.NoLimit := T.nolimit.keeps S.keeps0
    refine codeAny_call_function (fd := fd) (body := body) (by have := R.depth; show A.depth < recursionLimit; omega) (hin _ _ (hf w)) rfl (by rw [hsc]) (by rw [hsc]) hbody (codeRec_of hin (hcd w)) ?_
    refine hb s vs' ⟨w, hin⟩ r.length.symm _ _ _ _ ?_
    rw [hclo]
    refine wpAny_newFunctionEnv_cells (by rw [hsc]) (fun x hx => ?_) fun env he s₁ x => ?_
    · have hx1 : x.1 ∈ names := (List.of_mem_zip hx).1
      have := List.all_eq_true.mp hk _ hx1
      rw [hsc]
      show ns.lookup x.1 = _ ∨ _
      cases hq : ns.lookup x.1 with
      | none => rw [hq] at this; cases this
      | some k =>
        rw [hq] at this
        cases k <;> first | cases this | skip
        · exact .inl rfl
        · exact .inr ⟨rfl, cellsFrom_some _ _ _ (.inl hq)⟩
    · have he' : env = callEnvC fd s.heap.objs.size f := he
      subst he'
      obtain ⟨e1, F1⟩ := frame_of S r hnd x
      refine ⟨hlim.keeps x.toInCall.keep, codeAny_func ?_⟩
      have K1 : EnvOk ns (callEnvC fd s.heap.objs.size f) := ⟨by show fd.scope.names = ns; rw [hsc], by show fd.scope.kind = _; rw [hsc], hgl, hbl⟩
      refine wpAny_mono (h.go w h₀ (A.deeper (callEnvC fd s.heap.objs.size f)) _ s₁ G _ C (R.deeper (by show fd.scope.isGenerator = _; rw [hsc]) (by show fd.scope.isCoroutine = _; rw [hsc]) hbl hgl) K1 e1.sr F1) (fun fl s₂ q_u => ?_) fun _ _ x => x
      obtain ⟨m, ρ', o', G', q1, rf, ev, _⟩ := q_u
      have big : ∀ {v v'}, Q v o' → RV G' v v' → RR (.ok (.ret v')) s₂ := fun q rv => hR _ _ (by
        refine ⟨_, _, _, q, rv, ?_⟩
        obtain ⟨h1, t1, q1⟩ := e1.same
        obtain ⟨h2, t2, q2⟩ := ev.same
        refine ⟨⟨h2, t2, by rw [q2, q1]⟩, fun a o e => ev.sub a o (e1.sub a o e), fun b o k1 k2 k3 => ?_, ev.sr⟩
        obtain ⟨j1, j2, j3⟩ := e1.keep b o k1 k2 k3
        refine ev.keep b o j1 j2 j3 fun hfp => ?_
        have hge : s.heap.objs.size ≤ b := by
          rcases hfp with rfl | ⟨y, hy⟩
          · exact Nat.le_refl _
          · exact Nat.le_of_lt (x.above y b (mem_of_lookup hy))
        exact Nat.not_lt.mpr hge (Heap.lt_size k1))
      cases rf with
      | next => exact big q1 .none
      | ret rv => exact big q1 rv
      | brk => exact q1.elim
      | cont => exact q1.elim
theorem call_def {n : Nat} {own : Own} {f : Addr} {vs : List V} {Q : V → Own → Prop} {oc : Value} {od : Option Addr} {osl : Array (Option Value)} {fd : FuncData} {ns : Ns} {body : List Stmt} {names : List Str}
    (hf : ∀ w, (KK w).lookup f = some ⟨oc, od, .func fd, osl⟩) (hcd : ∀ w, codeIn (KK w) fd.code fd.qualname = true)
    (hb : ∀ (s : Shared) (vs' : List Value), (∃ w, (KK w).In s.heap) → vs'.length = vs.length → BindsTo s fd ⟨vs', []⟩ (names.zip vs'))
    (h : EXS n ns (names.zip vs) own body (retD Q))
    (hbody : fd.body = .stmts body := by rfl) (hsc : ∃ more, fd.scope = scopeOf ns more := by exact ⟨_, rfl⟩) (hnd : names.Nodup := by decide) (hl : vs.length = names.length := by rfl) (hk : names.all (fun x => isLC (ns.lookup x)) = true := by rfl)
    (hclo : fd.closure = [] := by rfl) (hgl : fd.globals = mainGlobals := by rfl) (hbl : fd.builtins = builtinsNs := by rfl) : CALL (n + 1) f vs own Q :=
  (code_def hf hcd hb h hbody hsc hnd hl hk hclo hgl hbl).call
theorem binds1 {s : Shared} {fd : FuncData} {x : Str} (h : ∀ a, bindArgs fd ⟨[a], []⟩ = pure [(x, a)]) {vs' : List Value} (hl : vs'.length = 1) : BindsTo s fd ⟨vs', []⟩ (([x] : List Str).zip vs') := by
  obtain ⟨a, rfl⟩ := List.length_eq_one_iff.mp hl
  exact .of_eq (h a)
theorem len_two {vs : List Value} {n : Nat} (hl : vs.length = n + 1) : ∃ a r, vs = a :: r ∧ r.length = n := by
  cases vs with
  | nil => cases hl
  | cons a r => exact ⟨a, r, rfl, Nat.succ.inj hl⟩
theorem binds2 {s : Shared} {fd : FuncData} {x y : Str} (h : ∀ a b, bindArgs fd ⟨[a, b], []⟩ = pure [(x, a), (y, b)]) {vs' : List Value} (hl : vs'.length = 2) : BindsTo s fd ⟨vs', []⟩ (([x, y] : List Str).zip vs') := by
  obtain ⟨a, r, rfl, h1⟩ := len_two hl
  obtain ⟨b, rfl⟩ := List.length_eq_one_iff.mp h1
  exact .of_eq (h a b)
theorem binds3 {s : Shared} {fd : FuncData} {x y z : Str} (h : ∀ a b c, bindArgs fd ⟨[a, b, c], []⟩ = pure [(x, a), (y, b), (z, c)]) {vs' : List Value} (hl : vs'.length = 3) : BindsTo s fd ⟨vs', []⟩ (([x, y, z] : List Str).zip vs') := by
  obtain ⟨a, r, rfl, h1⟩ := len_two hl
  obtain ⟨b, r, rfl, h2⟩ := len_two h1
  obtain ⟨c, rfl⟩ := List.length_eq_one_iff.mp h2
  exact .of_eq (h a b c)
theorem binds5 {s : Shared} {fd : FuncData} {x y z u t : Str} (h : ∀ a b c d e, bindArgs fd ⟨[a, b, c, d, e], []⟩ = pure [(x, a), (y, b), (z, c), (u, d), (t, e)]) {vs' : List Value} (hl : vs'.length = 5) : BindsTo s fd ⟨vs', []⟩ (([x, y, z, u, t] : List Str).zip vs') := by
  obtain ⟨a, r, rfl, h1⟩ := len_two hl
  obtain ⟨b, r, rfl, h2⟩ := len_two h1
  obtain ⟨c, r, rfl, h3⟩ := len_two h2
  obtain ⟨d, r, rfl, h4⟩ := len_two h3
  obtain ⟨e, rfl⟩ := List.length_eq_one_iff.mp h4
  exact .of_eq (h a b c d e)
-- first test: gcd
noncomputable def gcdI (a b : Int) : Int := (Nat.gcd a.natAbs b.natAbs : Nat)
end
-- part L6Comp
section
set_option tactic.hygienic false
-- the cells that a comprehension takes along
noncomputable def closL (cells : List (Str × Addr)) : List (Str × NameKind) → List (Str × Addr) → List (Str × Addr)
  | [], acc => acc
  | (x, k) :: r, acc => closL cells r (if k == .free then (x, (cells.lookup x).getD 0) :: acc else acc)
theorem closure_is {env : Env} (f : Str × NameKind → List (Str × Addr) → Sem (ForInStep (List (Str × Addr))))
    (hf : ∀ x k r, f (x, k) r = if k == .free then (do let c ← cellOf env x; pure (ForInStep.yield ((x, c) :: r))) else pure (ForInStep.yield r)) :
    ∀ (names : List (Str × NameKind)) (acc : List (Str × Addr)), (∀ p ∈ names, p.2 = .free → ∃ c, env.cells.lookup p.1 = some c) → forIn names acc f = pure (closL env.cells names acc)
  | [], acc, _ => by rw [List.forIn_nil]; rfl
  | (x, k) :: r, acc, h => by
    rw [List.forIn_cons, hf]
    unfold closL
    cases hk : (k == NameKind.free) with
    | false => exact closure_is f hf r acc fun p hp => h p (List.mem_cons_of_mem _ hp)
    | true =>
      obtain ⟨c, hc⟩ := h (x, k) List.mem_cons_self (by simpa using hk)
      have hc' : env.cells.lookup x = some c := hc
      have ih := closure_is f hf r ((x, c) :: acc) fun p hp => h p (List.mem_cons_of_mem _ hp)
      have e : cellOf env x = pure c := by unfold cellOf; rw [hc']
      simp only [if_true, hc', Option.getD_some]
      rw [e]
      exact ih
theorem closureFor_is {scope : Scope} {env : Env} (h : ∀ p ∈ scope.names, p.2 = .free → ∃ c, env.cells.lookup p.1 = some c) : closureFor scope env = pure (closL env.cells scope.names []) := by
  unfold closureFor
  dsimp only
  rw [closure_is _ (fun x k r => by cases hk : k == NameKind.free <;> simp [hk]) _ _ h]
  rfl
set_option tactic.hygienic true in
theorem closL_none {cells : List (Str × Addr)} : ∀ (names : List (Str × NameKind)) (acc : List (Str × Addr)) (y : Str), (∀ k, (y, k) ∈ names → k ≠ .free) → (closL cells names acc).lookup y = acc.lookup y
  | [], _, _, _ => rfl
  | (x, k) :: r, acc, y, h => by
    unfold closL
    rw [closL_none r _ y fun k hk => h k (List.mem_cons_of_mem _ hk)]
    split
    · rename_i hk
      have hxy : y ≠ x := fun q => by subst q; exact h k List.mem_cons_self (by simpa using hk)
      rw [List.lookup_cons, show (y == x) = false by simpa using hxy]
    · rfl
theorem closL_get {cells : List (Str × Addr)} : ∀ (names : List (Str × NameKind)) (acc : List (Str × Addr)) (y : Str), (names.map (·.1)).Nodup → (y, NameKind.free) ∈ names → (closL cells names acc).lookup y = some ((cells.lookup y).getD 0)
  | [], _, _, _, h => by cases h
  | (x, k) :: r, acc, y, nd, h => by
    have nd' := List.nodup_cons.mp nd
    unfold closL
    rcases List.mem_cons.mp h with e | h
    · cases e
      rw [closL_none r _ _ fun k hk => absurd (List.mem_map.mpr ⟨_, hk, rfl⟩) nd'.1]
      simp
    · exact closL_get r _ y nd'.2 h
theorem cells1 {x : Str} : ∀ (names : List (Str × NameKind)) (cl : List (Str × Addr)) (n : Nat) (h : Heap), (∀ p ∈ names, p.2 = .cell → p.1 = x) → (names.map (·.1)).Nodup →
    ((∀ p ∈ names, p.2 ≠ .cell) ∧ cellsFrom n names cl = cl ∧ pushCells h names = h) ∨ (names.lookup x = some .cell ∧ cellsFrom n names cl = (x, n) :: cl ∧ pushCells h names = h.push { cls := .type "cell", data := .cell none })
  | [], cl, n, h, _, _ => .inl ⟨fun _ hp => (nomatch hp), rfl, rfl⟩
  | (y, k) :: r, cl, n, h, hc, nd => by
    have nd' := List.nodup_cons.mp nd
    have hr : ∀ p ∈ r, p.2 = .cell → p.1 = x := fun p hp => hc p (List.mem_cons_of_mem _ hp)
    unfold cellsFrom pushCells
    by_cases hk : (k == NameKind.cell) = true
    · have hy : y = x := hc (y, k) List.mem_cons_self (by simpa using hk)
      subst hy
      right
      have hno : ∀ p ∈ r, p.2 ≠ .cell := fun p hp q => nd'.1 (List.mem_map.mpr ⟨p, hp, hr p hp q⟩)
      have none_of : ∀ (r : List (Str × NameKind)), (∀ p ∈ r, p.2 ≠ .cell) → ∀ cl n h, cellsFrom n r cl = cl ∧ pushCells h r = h := fun r => by
        induction r with
        | nil => intro _ _ _ _; exact ⟨rfl, rfl⟩
        | cons p r ih =>
          intro hp cl n h
          obtain ⟨z, k'⟩ := p
          have h1 : ¬ (k' == NameKind.cell) = true := by simpa using hp (z, k') List.mem_cons_self
          unfold cellsFrom pushCells
          rw [if_neg h1, if_neg h1]
          exact ih (fun p hp' => hp p (List.mem_cons_of_mem _ hp')) cl n h
      obtain ⟨a, b⟩ := none_of r hno ((y, n) :: cl) (n + 1) (h.push { cls := .type "cell", data := .cell none })
      rw [if_pos hk, if_pos hk]
      exact ⟨by simp [List.lookup_cons, show k = .cell by simpa using hk], a, b⟩
    · rw [if_neg hk, if_neg hk]
      rcases cells1 r cl n h hr nd'.2 with ⟨a, b, c⟩ | ⟨a, b, c⟩
      · exact .inl ⟨fun p hp => by
          rcases List.mem_cons.mp hp with e | hp
          · subst e; simpa using hk
          · exact a p hp, b, c⟩
      · refine .inr ⟨?_, b, c⟩
        rw [List.lookup_cons]
        have : (x == y) = false := by
          have hm := mem_of_lookup a
          have : x ≠ y := fun q => nd'.1 (List.mem_map.mpr ⟨_, hm, q⟩)
          simpa using this
        rw [this]; exact a
-- the names of a comprehension's block, seen from the frame
noncomputable def compNs (ns : Ns) (sc : Ns) : Ns := sc.map fun p => (p.1, if (p.2 == .free && ns.lookup p.1 == some .cell) then .cell else p.2)
theorem relabel_names {scope : Scope} {env : Env} {ns : Ns} (K : EnvOk ns env) : (relabel scope env).names = compNs ns scope.names := by
  unfold relabel compNs
  refine List.map_congr_left fun p _ => ?_
  obtain ⟨x, k⟩ := p
  simp only [K.kind, Env.kindOf, K.names]
  cases hk : (k == NameKind.free) <;> simp [hk]
  split <;> rfl
theorem compNs_lookup {ns : Ns} : ∀ {sc : Ns} {x : Str}, (compNs ns sc).lookup x = (sc.lookup x).map fun k => if (k == .free && ns.lookup x == some .cell) then .cell else k
  | [], _ => rfl
  | (y, k) :: r, x => by
    have ih := @compNs_lookup ns r x
    unfold compNs at ih ⊢
    rw [List.map_cons, List.lookup_cons, List.lookup_cons]
    cases hxy : x == y with
    | true => rw [beq_iff_eq.mp hxy]; rfl
    | false => exact ih
-- what is asked of a comprehension's text
noncomputable def compOk (ns : Ns) (ρ : Rho) (sc : Ns) (x : Str) : Bool :=
  sc.all (fun p => (p.2 != .free || ns.lookup p.1 == some .cell) && (p.2 != .cell || p.1 == x) && (p.2 != .local || p.1 == x || (ρ.lookup p.1).isNone)) && isLC (sc.lookup x)
-- tests
structure TESTS (n : Nat) (ns : Ns) (ρ : Rho) (own : Own) (ifs : List PySem.Expr) (Q : Bool → Own → Prop) : Prop where
  go : ∀ (w : World) (h₀ : Heap) (A : Around) (env : Env) (s : Shared) (G : Ghost) (E : Value → Shared → Prop), Cx w h₀ → Room n A → EnvOk ns env → SR h₀ G own s.heap → FR G own env ρ s.heap →
    wpAny (model prg w) A (forIn ifs true fun c r => if r = true then do let ok ← isTrue c env (eval c env); pure (ForInStep.yield ok) else pure (ForInStep.yield r)) (PostB h₀ G own s Q) E s
theorem tests_nil {n : Nat} {ns : Ns} {ρ : Rho} {own : Own} {Q : Bool → Own → Prop} (h : Q true own) : TESTS n ns ρ own [] Q :=
  .mk fun _ _ _ _ _ _ _ _ _ _ S _ => wpAny_tests_nil ⟨_, _, h, .refl S⟩
theorem tests_one {n : Nat} {ns : Ns} {ρ : Rho} {own : Own} {c : PySem.Expr} {Q : Bool → Own → Prop} (h : EB n ns ρ own c Q) : TESTS n ns ρ own [c] Q :=
  .mk fun w h₀ A env s G E C R K S F => wpAny_tests_one (wpAny_mono (h.go w h₀ A env s G E C R K S F) (fun _ _ q => q) fun _ _ x => x)
theorem wp_iter_self {w : World} {A : Around} {s : Shared} {E : Value → Shared → Prop} {G : Ghost} {it : Addr} {rem : List V} {P : Value → Shared → Prop} (x : ItRel G s.heap it rem) (h : P (.ref it) s) : wpAny (model prg w) A (pyIter (.ref it)) P E s := by
  cases x with
  | list a _ _ => exact wpAny_pyIter_listiter a h
  | range a => exact wpAny_pyIter_rangeiter a h
set_option tactic.hygienic true in
theorem Ev.freezeNew {h₀ : Heap} {G G' : Ghost} {own o₁ : Own} {s s' : Shared} {D : Addr} {o : Obj} (e : Ev h₀ G own s G' o₁ s') (hn : s.heap.get? D = none) (hd : s'.heap.get? D = some o) (h1 : D ∉ addrs o₁) (h2 : G' D = none) : Ev h₀ G own s (gput G' D o) o₁ s' := by
  have sub : Gsub G' (gput G' D o) := fun b o' e => by
    unfold gput; split
    · rename_i hb; subst hb; rw [h2] at e; cases e
    · exact e
  refine ⟨e.same, fun a o h => sub _ _ (e.sub a o h), fun b o' k1 k2 k3 => ?_, ⟨fun a o h => sub _ _ (e.sr.base a o h), fun a o' h => ?_, e.sr.nodup, fun p hp => (e.sr.owned p hp).mono sub⟩⟩
  · obtain ⟨j1, j2, j3⟩ := e.keep b o' k1 k2 k3
    refine ⟨j1, j2, ?_⟩
    unfold gput; split
    · rename_i hb; subst hb; rw [hn] at k1; cases k1
    · exact j3
  · unfold gput at h
    split at h
    · rename_i hb; subst hb; cases h; exact ⟨hd, h1⟩
    · exact e.sr.frozen a o' h
theorem Ev.ownNew {h₀ : Heap} {G G' : Ghost} {own o₁ : Own} {s s' : Shared} {D : Addr} {vs : List Value} {m : Nat} {l : List V} (e : Ev h₀ G own s G' o₁ s') (hn : s.heap.get? D = none) (hd : s'.heap.get? D = some (lstObj vs m)) (hr : RVs G' l vs) (h1 : D ∉ addrs o₁) (h2 : G' D = none) :
    Ev h₀ G own s G' ((D, .lst l) :: o₁) s' := by
  refine ⟨e.same, e.sub, fun b o' k1 k2 k3 => ?_, ⟨e.sr.base, fun a o' h => ⟨(e.sr.frozen a o' h).1, ?_⟩, ?_, fun p hp => ?_⟩⟩
  · obtain ⟨j1, j2, j3⟩ := e.keep b o' k1 k2 k3
    refine ⟨j1, ?_, j3⟩
    simp only [addrs, AO.addrs, List.mem_append, List.mem_singleton, not_or]
    exact ⟨fun q => (by rw [q, hn] at k1; cases k1), j2⟩
  · simp only [addrs, AO.addrs, List.mem_append, List.mem_singleton, not_or]
    exact ⟨fun q => (by rw [q, h2] at h; cases h), (e.sr.frozen a o' h).2⟩
  · simp only [addrs, AO.addrs]
    exact List.nodup_append.mpr ⟨by simp, e.sr.nodup, fun b hb c hc q => by simp at hb; subst hb; subst q; exact h1 hc⟩
  · rcases List.mem_cons.mp hp with rfl | hp
    · exact ⟨vs, m, hd, hr⟩
    · exact e.sr.owned p hp
theorem lookup_filter_ne {x : Str} : ∀ (ρ : Rho) (y : Str), (ρ.filter fun p => p.1 != x).lookup y = if y = x then none else ρ.lookup y
  | [], y => by simp
  | (z, v) :: r, y => by
    have ih := lookup_filter_ne (x := x) r y
    rw [List.filter_cons]
    by_cases hz : z = x
    · subst hz
      simp only [bne_self_eq_false, Bool.false_eq_true, if_false]
      rw [ih, List.lookup_cons]
      by_cases hy : y = z
      · simp [hy]
      · rw [show (y == z) = false by simpa using hy]
    · have : (z != x) = true := by simpa using hz
      simp only [this, if_true]
      rw [List.lookup_cons, List.lookup_cons, ih]
      by_cases hy : y = z
      · subst hy; simp [hz]
      · rw [show (y == z) = false by simpa using hy]
-- where a comprehension ends
structure CompEnd (h₀ : Heap) (G : Ghost) (own : Own) (s : Shared) (J : List V → Own → Prop) (D C : Addr) (s' : Shared) : Prop where
  ex : ∃ acc o₁ G' vs m mm, J acc o₁ ∧ Ev h₀ G own s G' o₁ s' ∧ s'.heap.get? D = some (lstObj vs m) ∧ RVs G' acc vs ∧ D ∉ addrs o₁ ∧ G' D = none ∧ s'.heap.Ns C mm ∧ C ∉ addrs o₁ ∧ G' C = none
  newD : s.heap.get? D = none
  newC : s.heap.get? C = none
  ne : D ≠ C
-- the block of a comprehension
noncomputable def compEnvAt (scope : Scope) (env : Env) (C : Addr) (cells : List (Str × Addr)) : Env :=
  { scope := relabel scope env, locals := C, globals := env.globals, cells := cells, qual := env.qual, func := none, code := env.code, frame := env.frame, builtins := env.builtins }
theorem wp_compEnv {M : Model} {A : Around} {env : Env} {s : Shared} {E : Value → Shared → Prop} {scope : Scope} {cl : List (Str × Addr)} {x : Str} {P : Env → Shared → Prop} (hc : ∀ p ∈ scope.names, p.2 = .cell → p.1 = x) (hnd : (scope.names.map (·.1)).Nodup)
    (h : ∀ h' cells, h'.Ns s.heap.objs.size (fun _ => none) → (∀ b o, s.heap.get? b = some o → h'.get? b = some o) → (((∀ p ∈ scope.names, p.2 ≠ .cell) ∧ cells = cl) ∨ (scope.names.lookup x = some .cell ∧ cells = (x, s.heap.objs.size + 1) :: cl ∧ h'.IsCell (s.heap.objs.size + 1) none)) →
      P { scope := scope, locals := s.heap.objs.size, globals := env.globals, cells := cells, qual := env.qual, func := none, code := env.code, frame := env.frame, builtins := env.builtins } { s with heap := h' }) :
    wpAny M A (newFunctionEnv scope env.globals cl [] env.qual none .none (some env)) P E s := by
  simp only [newFunctionEnv, Option.isSome_some, if_true]
  refine wpAny_bind (wpAny_alloc ?_)
  refine wpAny_bind (wpAny_layCells _ (fun name kind cells => by cases hkc : kind == NameKind.cell <;> rfl) _ _ _ _ ?_)
  have hns : (s.heap.push { cls := .type "dict", data := .dict #[] }).Ns s.heap.objs.size fun _ => none := Heap.Ns.new s.heap (.type "dict")
  have hsz : (s.heap.push { cls := .type "dict", data := .dict #[] }).objs.size = s.heap.objs.size + 1 := Heap.size_push ..
  have c1 := cells1 (x := x) scope.names cl ((s.heap.push { cls := .type "dict", data := .dict #[] }).objs.size) (s.heap.push { cls := .type "dict", data := .dict #[] }) hc hnd
  rw [List.forIn_nil]
  refine wpAny_bind (wpAny_pure (wpAny_pure ?_))
  rcases c1 with ⟨a, b, c⟩ | ⟨a, b, c⟩
  · show P _ { s with heap := pushCells (s.heap.push { cls := .type "dict", data := .dict #[] }) scope.names }
    rw [c]
    refine h _ _ hns (fun b o e => Heap.get?_push_of_some _ e) (.inl ⟨a, b⟩)
  · show P _ { s with heap := pushCells (s.heap.push { cls := .type "dict", data := .dict #[] }) scope.names }
    rw [c]
    refine h _ _ (hns.push _) (fun b o e => Heap.get?_push_of_some _ (Heap.get?_push_of_some _ e)) (.inr ⟨a, ?_, ?_⟩)
    · rw [← hsz]; exact b
    · rw [← hsz]; exact ⟨_, Heap.get?_push_size _ rfl, rfl⟩
set_option tactic.hygienic true in
theorem comp_core {n : Nat} {ns : Ns} {ρ : Rho} {own : Own} {w : World} {h₀ : Heap} {A : Around} {env : Env} {s₀ s : Shared} {G : Ghost} {E : Value → Shared → Prop} {elt iter : PySem.Expr} {x : Str} {px pos : Pos} {ifs : List PySem.Expr} {scope : Scope} {it : Addr} {items : List V} {RR : Value → Addr → Result → Shared → Prop}
    (J : Nat → List V → Own → Prop) (C : Cx w h₀) (R : Room n A) (K : EnvOk ns env) (S₀ : SR h₀ G own s₀.heap) (F₀ : FR G own env ρ s₀.heap) (hk : scope.kind = .function) (hok : compOk ns ρ scope.names x = true) (hnd : (scope.names.map (·.1)).Nodup)
    (hnew : s₀.heap.get? it = none) (e₀ : Ev h₀ G own s₀ G own s) (kp₀ : ∀ b o, s₀.heap.get? b = some o → s.heap.get? b = some o) (hit : ItRel G s.heap it items) (hsz : items.length ≤ 1000)
    (h0 : J 0 [] own)
    (turn : ∀ i v acc o₁, items[i]? = some v → J i acc o₁ → TESTS n (compNs ns scope.names) ((x, v) :: ρ) o₁ ifs fun b o₂ => if b = true then EV n (compNs ns scope.names) ((x, v) :: ρ) o₂ elt fun y o₃ => J (i + 1) (acc ++ [y]) o₃ else J (i + 1) acc o₂)
    (fin : ∀ D C' s', CompEnd h₀ G own s₀ (J items.length) D C' s' → RR (.ref D) C' (.ok .next) s') :
    wpAny (model prg w) A (newList []) (fun acc s₃ => wpAny (model prg w) A (newFunctionEnv scope env.globals (closL env.cells scope.names []) [] env.qual none .none (some env)) (fun cenv s₄ =>
      codeAny (model prg w) A (.compStart (.ListComp elt [⟨.Name x px, iter, ifs, 0⟩] scope pos) 0 (.ref it) acc { cenv with scope := relabel scope env }) (RR acc cenv.locals) s₄) E s₃) E s := by
  -- what the text's look says
  have ok1 : ∀ y k, (y, k) ∈ scope.names → (k = .free → ns.lookup y = some .cell) ∧ (k = .cell → y = x) ∧ (k = .local → y = x ∨ ρ.lookup y = none) := by
    intro y k hm
    have h1 := (Bool.and_eq_true_iff.mp hok).1
    have h2 := List.all_eq_true.mp h1 (y, k) hm
    simp only [Bool.and_eq_true, Bool.or_eq_true, bne_iff_ne, beq_iff_eq, Option.isNone_iff_eq_none] at h2
    obtain ⟨⟨a, b⟩, c⟩ := h2
    exact ⟨fun q => a.resolve_left (fun z => z q), fun q => b.resolve_left (fun z => z q), fun q => by rcases c with (c | c) | c; exact absurd q c; exact .inl c; exact .inr c⟩
  have ok2 : isLC (scope.names.lookup x) = true := (Bool.and_eq_true_iff.mp hok).2
  have xm : ∀ k, (x, k) ∈ scope.names → scope.names.lookup x = some k := by
    intro k hm
    have nd := hnd
    clear hok ok1 ok2
    revert hm nd
    generalize scope.names = l
    intro hm nd
    induction l with
    | nil => cases hm
    | cons p r ih =>
      obtain ⟨z, k'⟩ := p
      have nd' := List.nodup_cons.mp nd
      rw [List.lookup_cons]
      rcases List.mem_cons.mp hm with e | hm
      · cases e; simp
      · have : x ≠ z := fun q => nd'.1 (List.mem_map.mpr ⟨_, hm, q⟩)
        rw [show (x == z) = false by simpa using this]
        exact ih hm nd'.2
  have F : FR G own env ρ s.heap := F₀.ev e₀
  have hitn : it ∉ addrs own ∧ G it = none ∧ ¬ fp env it := ⟨S₀.fresh_own hnew, S₀.fresh_G hnew, fun hf => by
    obtain ⟨_, _, o', ho'⟩ := F₀.free it hf
    rw [hnew] at ho'; cases ho'⟩
  have hDs : s.heap.get? s.heap.objs.size = none := get?_size_none _
  refine wpAny_newObj_type (hd := by show (([] : List Value).toArray).size ≤ sizeLine; exact Nat.zero_le _) ?_
  have kD : ∀ b o, s.heap.get? b = some o → (s.heap.push (lstObj [] 0)).get? b = some o := fun b o e => Heap.get?_push_of_some _ e
  have eD : (s.heap.push (lstObj [] 0)).get? s.heap.objs.size = some (lstObj [] 0) := Heap.get?_push_size _ rfl
  have szD : (s.heap.push (lstObj [] 0)).objs.size = s.heap.objs.size + 1 := Heap.size_push ..
  refine wp_compEnv (x := x) (fun p hp q => (ok1 p.1 p.2 hp).2.1 q) hnd fun h' cells hns hkp hcells => ?_
  dsimp only at hns hkp hcells ⊢
  change h'.Ns (s.heap.push (lstObj [] 0)).objs.size _ at hns
  change ∀ b o, (s.heap.push (lstObj [] 0)).get? b = some o → _ at hkp
  change _ ∨ (_ ∧ cells = (x, (s.heap.push (lstObj [] 0)).objs.size + 1) :: _ ∧ h'.IsCell ((s.heap.push (lstObj [] 0)).objs.size + 1) none) at hcells
  show codeAny (model prg w) A (.compStart (.ListComp elt [⟨.Name x px, iter, ifs, 0⟩] scope pos) 0 (.ref it) (.ref s.heap.objs.size) (compEnvAt scope env (s.heap.push (lstObj [] 0)).objs.size cells)) (RR (.ref s.heap.objs.size) (s.heap.push (lstObj [] 0)).objs.size) { s with heap := h' }
  rw [szD] at hns hcells ⊢
  have hlt : ∀ b o, s.heap.get? b = some o → @LT.lt Nat _ b s.heap.objs.size := fun b o e => Heap.lt_size e
  generalize s.heap.objs.size = D at *
  have hCn : s.heap.get? (D + 1) = none := by
    cases hq : s.heap.get? (D + 1) with
    | none => rfl
    | some o => have := hlt _ _ hq; omega
  have hC2n : s.heap.get? (D + 1 + 1) = none := by
    cases hq : s.heap.get? (D + 1 + 1) with
    | none => rfl
    | some o => have := hlt _ _ hq; omega
  have n0 : ∀ b, s.heap.get? b = none → s₀.heap.get? b = none := fun b hb => by
    cases hq : s₀.heap.get? b with
    | none => rfl
    | some o => rw [kp₀ b o hq] at hb; cases hb
  have kall : ∀ b o, s.heap.get? b = some o → h'.get? b = some o := fun b o e => hkp b o (kD b o e)
  have S : SR h₀ G own s.heap := e₀.sr
  have e1 : Ev h₀ G own s G own { s with heap := h' } := .junk S ⟨_, _, rfl⟩ kall
  have hd0 : h'.get? D = some (lstObj [] 0) := hkp _ _ eD
  -- the cells
  have clf : ∀ y, (y, NameKind.free) ∈ scope.names → ∃ c v0, env.cells.lookup y = some c ∧ s.heap.IsCell c v0 ∧ (closL env.cells scope.names []).lookup y = some c := fun y hy => by
    have hky : env.kindOf y = some .cell := kindOf_of K ((ok1 y _ hy).1 rfl)
    obtain ⟨c, v0, h1, h2⟩ := F.cok y hky
    exact ⟨c, v0, h1, h2, by rw [closL_get _ _ _ hnd hy, h1]; rfl⟩
  have clm : ∀ y c, (closL env.cells scope.names []).lookup y = some c → (y, NameKind.free) ∈ scope.names ∧ env.cells.lookup y = some c := fun y c h => by
    by_cases hm : (y, NameKind.free) ∈ scope.names
    · obtain ⟨c', v0, h1, h2, h3⟩ := clf y hm
      rw [h3] at h; cases h
      exact ⟨hm, h1⟩
    · rw [closL_none _ _ _ (fun k hk q => hm (by subst q; exact hk))] at h
      cases h
  generalize closL env.cells scope.names [] = cl at *
  have celm : ∀ y c, cells.lookup y = some c → (y = x ∧ c = D + 1 + 1 ∧ scope.names.lookup x = some .cell ∧ h'.IsCell (D + 1 + 1) none) ∨ ((y, NameKind.free) ∈ scope.names ∧ env.cells.lookup y = some c) := fun y c h => by
    rcases hcells with ⟨_, rfl⟩ | ⟨h1, rfl, h2⟩
    · exact .inr (clm y c h)
    · rw [List.lookup_cons] at h
      by_cases hyx : y = x
      · subst hyx; simp at h; subst h; exact .inl ⟨rfl, rfl, h1, h2⟩
      · rw [show (y == x) = false by simpa using hyx] at h
        exact .inr (clm y c h)
  have celf : ∀ y c, (y, NameKind.free) ∈ scope.names → cl.lookup y = some c → cells.lookup y = some c := fun y c hy h => by
    rcases hcells with ⟨_, rfl⟩ | ⟨h1, rfl, h2⟩
    · exact h
    · rw [List.lookup_cons]
      have hyx : y ≠ x := fun q => by subst q; rw [xm _ hy] at h1; cases h1
      rw [show (y == x) = false by simpa using hyx]
      exact h
  have K' : EnvOk (compNs ns scope.names) (compEnvAt scope env (D + 1) cells) := ⟨relabel_names K, hk, K.glob, K.blt⟩
  have kof : ∀ y k, (compEnvAt scope env (D + 1) cells).kindOf y = some k → ∃ k', (y, k') ∈ scope.names ∧ scope.names.lookup y = some k' ∧ k = (if (k' == .free && ns.lookup y == some .cell) then .cell else k') := fun y k h => by
    rw [kindOf_of K' (compNs_lookup (ns := ns) (sc := scope.names) (x := y))] at h
    cases hq : scope.names.lookup y with
    | none => rw [hq] at h; cases h
    | some k' => rw [hq] at h; cases h; exact ⟨k', mem_of_lookup hq, rfl, rfl⟩
  have kloc : ∀ y, (compEnvAt scope env (D + 1) cells).kindOf y = some .local → (y, NameKind.local) ∈ scope.names := fun y h => by
    obtain ⟨k', h1, h2, h3⟩ := kof y _ h
    split at h3
    · cases h3
    · subst h3; exact h1
  have kcell : ∀ y, (compEnvAt scope env (D + 1) cells).kindOf y = some .cell → (y, NameKind.free) ∈ scope.names ∨ (y = x ∧ scope.names.lookup x = some .cell) := fun y h => by
    obtain ⟨k', h1, h2, h3⟩ := kof y _ h
    split at h3
    · rename_i hc
      simp only [Bool.and_eq_true, beq_iff_eq] at hc
      rw [hc.1] at h1; exact .inl h1
    · subst h3
      have := (ok1 y _ h1).2.1 rfl
      subst this; exact .inr ⟨rfl, h2⟩
  have ownc : scope.names.lookup x = some .cell → cells.lookup x = some (D + 1 + 1) ∧ h'.IsCell (D + 1 + 1) none := fun hq => by
    rcases hcells with ⟨h1, rfl⟩ | ⟨h1, rfl, h2⟩
    · exact absurd rfl (h1 _ (mem_of_lookup hq))
    · exact ⟨by simp, h2⟩
  have F' : FR G own (compEnvAt scope env (D + 1) cells) (ρ.filter fun p => p.1 != x) h' := by
    refine ⟨⟨_, hns, fun y u hy hky => ?_⟩, fun y u hy hky => ?_, fun y hky => ?_, fun y z c h1 h2 => ?_, fun b hb => ?_, fun ⟨y, hy⟩ => ?_⟩
    · rw [lookup_filter_ne] at hy
      split at hy
      · cases hy
      · rename_i hyx
        rcases (ok1 y _ (kloc y hky)).2.2 rfl with q | q
        · exact absurd q hyx
        · rw [q] at hy; cases hy
    · rw [lookup_filter_ne] at hy
      split at hy
      · cases hy
      · rename_i hyx
        rcases kcell y hky with q | ⟨q, _⟩
        · obtain ⟨c, v0, h1, h2, h3⟩ := clf y q
          obtain ⟨c', u', g1, ⟨o, g2, g2'⟩, g3⟩ := F.cells y u hy (kindOf_of K ((ok1 y _ q).1 rfl))
          rw [h1] at g1; cases g1
          exact ⟨c, u', celf y c q h3, ⟨o, kall _ _ g2, g2'⟩, g3⟩
        · exact absurd q hyx
    · rcases kcell y hky with q | ⟨q, q'⟩
      · obtain ⟨c, v0, h1, ⟨o, h2, h2'⟩, h3⟩ := clf y q
        exact ⟨c, v0, celf y c q h3, ⟨o, kall _ _ h2, h2'⟩⟩
      · subst q
        obtain ⟨h1, h2⟩ := ownc q'
        exact ⟨_, _, h1, h2⟩
    · rcases celm y c h1 with ⟨a1, a2, _⟩ | ⟨a1, a2⟩ <;> rcases celm z c h2 with ⟨b1, b2, _⟩ | ⟨b1, b2⟩
      · exact a1.trans b1.symm
      · obtain ⟨_, _, o, ho⟩ := F.free c (.inr ⟨z, b2⟩)
        rw [a2, hC2n] at ho; cases ho
      · obtain ⟨_, _, o, ho⟩ := F.free c (.inr ⟨y, a2⟩)
        rw [b2, hC2n] at ho; cases ho
      · exact F.inj _ _ _ a2 b2
    · rcases hb with rfl | ⟨y, hy⟩
      · obtain ⟨o, _, _, ho, _⟩ := id hns
        exact ⟨S.fresh_own hCn, S.fresh_G hCn, o, ho⟩
      · rcases celm y b hy with ⟨a1, a2, _, o, ho, _⟩ | ⟨a1, a2⟩
        · subst a2; exact ⟨S.fresh_own hC2n, S.fresh_G hC2n, o, ho⟩
        · obtain ⟨f1, f2, o, ho⟩ := F.free b (.inr ⟨y, a2⟩)
          exact ⟨f1, f2, o, kall _ _ ho⟩
    · rcases celm y _ hy with ⟨a1, a2, _⟩ | ⟨a1, a2⟩
      · have a2' : @Eq Nat (D + 1) (D + 1 + 1) := a2
        omega
      · obtain ⟨_, _, o, ho⟩ := F.free _ (.inr ⟨y, a2⟩)
        have ho' : s.heap.get? (D + 1) = some o := ho
        rw [hCn] at ho'; cases ho'
  -- what stands apart
  obtain ⟨oit, hoit⟩ := hit.get
  have itD : it ≠ D := fun q => by rw [q, hDs] at hoit; cases hoit
  have itF : ¬ fp (compEnvAt scope env (D + 1) cells) it := fun hf => by
    rcases hf with q | ⟨y, hy⟩
    · have q' : it = D + 1 := q
      rw [q', hCn] at hoit; cases hoit
    · rcases celm y _ hy with ⟨a1, a2, _⟩ | ⟨a1, a2⟩
      · rw [a2, hC2n] at hoit; cases hoit
      · exact hitn.2.2 (.inr ⟨y, a2⟩)
  have DF : ¬ fp (compEnvAt scope env (D + 1) cells) D := fun hf => by
    rcases hf with q | ⟨y, hy⟩
    · have q' : @Eq Nat D (D + 1) := q
      omega
    · rcases celm y _ hy with ⟨a1, a2, _⟩ | ⟨a1, a2⟩
      · have a2' : @Eq Nat D (D + 1 + 1) := a2
        omega
      · obtain ⟨_, _, o, ho⟩ := F.free _ (.inr ⟨y, a2⟩)
        rw [hDs] at ho; cases ho
  generalize hce : compEnvAt scope env (D + 1) cells = ce at *
  have hcl : ce.locals = D + 1 := by rw [← hce]; rfl
  have hcc : ce.cells = cells := by rw [← hce]; rfl
  let Inv : Nat → Shared → Prop := fun k s' => ∃ i acc o₁ G' vs m, k = items.length - i ∧ i ≤ items.length ∧ acc.length ≤ i ∧ J i acc o₁ ∧ Ev h₀ G own s₀ G' o₁ s' ∧ FR G' o₁ ce (ρ.filter fun p => p.1 != x) s'.heap ∧ ItRel G' s'.heap it (items.drop i) ∧
    s'.heap.get? D = some (lstObj vs m) ∧ RVs G' acc vs ∧ (it ∉ addrs o₁ ∧ G' it = none) ∧ (D ∉ addrs o₁ ∧ G' D = none)
  have start : Inv items.length { s with heap := h' } := ⟨0, [], own, G, [], 0, rfl, Nat.zero_le _, Nat.le_refl _, h0, e₀.trans e1, F', by simpa using hit.keeps (fun _ _ e => e) (kall _), hd0, .nil, ⟨hitn.1, hitn.2.1⟩, ⟨S.fresh_own hDs, S.fresh_G hDs⟩⟩
  have lc : isLC ((compNs ns scope.names).lookup x) = true := by
    rw [compNs_lookup]
    cases hq : scope.names.lookup x with
    | none => rw [hq] at ok2; cases ok2
    | some k => rw [hq] at ok2; cases k <;> first | rfl | cases ok2
  have loop : codeAny (model prg w) A (.compLoop (.ListComp elt [⟨.Name x px, iter, ifs, 0⟩] scope pos) 0 (.ref it) (.ref D) ce) (RR (.ref D) (D + 1)) { s with heap := h' } := by
    refine codeAny_compLoop_tests Inv (fun k s' q_u => ?_) items.length start
    obtain ⟨i, acc, o₁, G', vs, m, hk', hle, hal, hJ, hev, hfr, hir, hd, hrv, hpi, hpd⟩ := q_u
    clear start
    cases hq : items[i]? with
    | none =>
      have hlen : items.length ≤ i := List.getElem?_eq_none_iff.mp hq
      have hii : i = items.length := by omega
      subst hii
      rw [List.drop_length] at hir
      refine wp_next_end R.handled hev.sr hir fun h'' he => fin _ _ _ ⟨?_, n0 _ hDs, n0 _ hCn, fun q => ?_⟩
      · obtain ⟨mm, hmm, _⟩ := (hfr.but he itF).ns
        obtain ⟨f1, f2, _⟩ := hfr.free _ (.inl rfl)
        rw [hcl] at hmm f1 f2
        exact ⟨acc, o₁, G', vs, m, mm, hJ, hev.but (tk := s'.toks) hnew he hpi.1 hpi.2, he _ _ (Ne.symm itD) hd, hrv, hpd.1, hpd.2, hmm, f1, f2⟩
      · have q' : @Eq Nat D (D + 1) := q
        omega
    | some v =>
      rw [drop_cons hq] at hir
      have hi : i < items.length := (List.getElem?_eq_some_iff.mp hq).1
      refine wp_next hev.sr hir fun v' h₁ tk r hir' hsb => ?_
      have ev1 := hev.but (tk := tk) hnew hsb.extBut hpi.1 hpi.2
      have fr1 := hfr.but hsb.extBut itF
      have hd1 : h₁.get? D = some (lstObj vs m) := hsb.extBut _ _ (Ne.symm itD) hd
      refine PyProof.Rows.assign_Name (storeLC lc K' ev1.sr fr1 r fun s₃ ev2 fr2 q_u => ?_)
      obtain ⟨b, hb, hsb2⟩ := q_u
      -- the store's place is new
      have hbn : s.heap.get? b = none := by
        rcases hb with rfl | hb
        · rw [hcl]; exact hCn
        · rw [hcc] at hb
          rcases celm x b hb with ⟨_, a2, _⟩ | ⟨a1, _⟩
          · rw [a2]; exact hC2n
          · rw [xm _ a1] at ok2; cases ok2
      have hbD : D ≠ b := fun q => DF (q ▸ hb.imp id fun h => ⟨x, h⟩)
      have hbit : it ≠ b := fun q => itF (q ▸ hb.imp id fun h => ⟨x, h⟩)
      obtain ⟨fb1, fb2, _⟩ := fr1.free b (hb.imp id fun h => ⟨x, h⟩)
      obtain ⟨h₂, t₂, es₃⟩ := ev2.same
      have ev3 : Ev h₀ G own s₀ G' o₁ s₃ := by
        rw [es₃]
        refine ev1.but (n0 _ hbn) ?_ fb1 fb2
        have : s₃.heap = h₂ := by rw [es₃]
        rw [← this]; exact hsb2.extBut
      have hd3 : s₃.heap.get? D = some (lstObj vs m) := hsb2.extBut _ _ hbD hd1
      have hir3 : ItRel G' s₃.heap it (items.drop (i + 1)) := hir'.keeps (fun _ _ e => e) fun o e => hsb2.extBut _ _ hbit e
      have fr3 : FR G' o₁ ce ((x, v) :: ρ) s₃.heap := by
        obtain ⟨mm, hmm, hr⟩ := fr2.ns
        have lk : ∀ y u, ((x, v) :: ρ).lookup y = some u → ((x, v) :: ρ.filter fun p => p.1 != x).lookup y = some u := fun y u hy => by
          rw [List.lookup_cons] at hy ⊢
          cases hyx : y == x with
          | true => rw [hyx] at hy; exact hy
          | false =>
            rw [hyx] at hy
            rw [lookup_filter_ne, if_neg (by simpa using hyx)]
            exact hy
        exact fr2.weaken lk
      refine wpAny_mono ((turn i v acc o₁ hq hJ).go w h₀ A ce s₃ G' _ C R K' ev3.sr fr3) (fun bb s₄ q_u => ?_) fun _ _ x => x
      obtain ⟨o₂, G₂, ht, ev4⟩ := q_u
      have pit := hir3.get
      obtain ⟨oi, hoi⟩ := pit
      obtain ⟨i1, i2, i3⟩ := ev4.keep it oi hoi hpi.1 hpi.2
      obtain ⟨d1, d2, d3⟩ := ev4.keep D _ hd3 hpd.1 hpd.2
      have fr4' : FR G₂ o₂ ce ((x, v) :: ρ) s₄.heap := fr3.ev ev4
      have back : ∀ {G : Ghost} {o : Own} {h : Heap}, FR G o ce ((x, v) :: ρ) h → FR G o ce (ρ.filter fun p => p.1 != x) h := fun F => F.weaken fun y u hy => by
        rw [lookup_filter_ne] at hy
        split at hy
        · cases hy
        · rename_i hyx
          rw [List.lookup_cons, show (y == x) = false by simpa using hyx]
          exact hy
      have hir4 := hir3.keeps ev4.sub fun o e => by rw [hoi] at e; cases e; exact i1
      cases bb with
      | false =>
        simp only [Bool.false_eq_true, if_false] at ht ⊢
        exact ⟨items.length - (i + 1), by omega, i + 1, acc, o₂, G₂, vs, m, rfl, by omega, by omega, ht, ev3.trans ev4, back fr4', hir4, d1, hrv.mono ev4.sub, ⟨i2, i3⟩, ⟨d2, d3⟩⟩
      | true =>
        simp only [if_true] at ht ⊢
        refine wpAny_mono (ht.go w h₀ A ce s₄ G₂ _ C R K' ev4.sr fr4') (fun y' s₅ q_u => ?_) fun _ _ x => x
        obtain ⟨y, o₃, G₃, hJ', ry, ev5⟩ := q_u
        obtain ⟨j1, j2, j3⟩ := ev5.keep it oi i1 i2 i3
        obtain ⟨k1, k2, k3⟩ := ev5.keep D _ d1 d2 d3
        refine wpAny_list_append_plain ⟨m, k1⟩ (fun h₆ hp hs6 => ?_) (by rw [List.size_toArray, ← hrv.length, sizeLine_eq]; omega)
        obtain ⟨m6, hp⟩ := hp
        have ev6 := ((ev3.trans ev4).trans ev5).but (tk := s₅.toks) (n0 _ hDs) hs6.extBut k2 k3
        have fr6 := (back (fr4'.ev ev5)).but hs6.extBut DF
        refine ⟨items.length - (i + 1), by omega, i + 1, acc ++ [y], o₃, G₃, vs ++ [y'], m6, rfl, by omega, by simp; omega, hJ', ev6, fr6, ?_, ?_, ((hrv.mono ev4.sub).mono ev5.sub).snoc ry, ⟨j2, j3⟩, ⟨k2, k3⟩⟩
        · exact hir4.keeps ev5.sub fun o e => by rw [i1] at e; cases e; exact hs6.extBut _ _ itD j1
        · show h₆.get? D = _
          rw [hp]; simp [lstObj]
  exact codeAny_compStart_list loop (wp_iter_self (hit.keeps (fun _ _ e => e) (kall _)) loop)
-- the text of a comprehension's block that a rule asks for
structure CompText (ns : Ns) (ρ : Rho) (scope : Scope) (x : Str) : Prop where
  kind : scope.kind = .function
  ok : compOk ns ρ scope.names x = true
  nd : (scope.names.map (·.1)).Nodup
theorem CompText.free {ns : Ns} {ρ : Rho} {scope : Scope} {x : Str} (T : CompText ns ρ scope x) {y : Str} (h : (y, NameKind.free) ∈ scope.names) : ns.lookup y = some .cell := by
  have h1 := (Bool.and_eq_true_iff.mp T.ok).1
  have h2 := List.all_eq_true.mp h1 (y, _) h
  simp only [Bool.and_eq_true, Bool.or_eq_true, bne_iff_ne, beq_iff_eq, Option.isNone_iff_eq_none] at h2
  exact h2.1.1.resolve_left (fun z => z rfl)
theorem CompText.clos {ns : Ns} {ρ : Rho} {scope : Scope} {x : Str} (T : CompText ns ρ scope x) {G : Ghost} {own : Own} {env : Env} {h : Heap} (K : EnvOk ns env) (F : FR G own env ρ h) : closureFor scope env = pure (closL env.cells scope.names []) :=
  closureFor_is fun p hp hk => by
    obtain ⟨y, k⟩ := p
    have hk' : k = .free := hk
    subst hk'
    obtain ⟨c, _, h1, _⟩ := F.cok y (kindOf_of K (T.free hp))
    exact ⟨c, h1⟩
theorem CompText.names {ns : Ns} {ρ : Rho} {scope : Scope} {x : Str} (T : CompText ns ρ scope x) : ∀ y ∈ scope.names, y.2 = .local → scope.names.lookup y.1 = some .local := by
  have nd := T.nd
  generalize scope.names = l at nd
  induction l with
  | nil => intro y hy; cases hy
  | cons p r ih =>
    obtain ⟨z, k⟩ := p
    have nd' := List.nodup_cons.mp nd
    intro y hy hk
    rw [List.lookup_cons]
    rcases List.mem_cons.mp hy with e | hy
    · subst e; simp at hk; subst hk; simp
    · have : y.1 ≠ z := fun q => nd'.1 (List.mem_map.mpr ⟨_, hy, q⟩)
      rw [show (y.1 == z) = false by simpa using this]
      exact ih nd'.2 y hy hk
set_option tactic.hygienic true in
theorem ev_comp_both {n : Nat} {ns : Ns} {ρ : Rho} {own : Own} {elt iter : PySem.Expr} {x : Str} {px pos : Pos} {ifs : List PySem.Expr} {scope : Scope} {Q : V → Own → Prop} (J : Nat → List V → Own → Prop)
    (h : EV n ns ρ own iter fun v o => CompText ns ρ scope x ∧ ∃ items, itemsOf v = some items ∧ items.length ≤ 1000 ∧ J 0 [] o ∧
      (∀ i v acc o₁, items[i]? = some v → J i acc o₁ → TESTS n (compNs ns scope.names) ((x, v) :: ρ) o₁ ifs fun b o₂ => if b = true then EV n (compNs ns scope.names) ((x, v) :: ρ) o₂ elt fun y o₃ => J (i + 1) (acc ++ [y]) o₃ else J (i + 1) acc o₂) ∧
      (∀ acc o₁, J items.length acc o₁ → Q (.lst acc) o₁ ∨ ∀ a, Q (.loc a) ((a, .lst acc) :: o₁)))
    (T : CompText ns ρ scope x)
    (hs : ∀ env x, foldedSetIterable iter env x = pure x := by intro _ _; rfl) : EV n ns ρ own (.ListComp elt [⟨.Name x px, iter, ifs, 0⟩] scope pos) Q :=
  .mk fun w h₀ A env s G E C R K S F => by
    rw [eval_ListComp]
    refine wpAny_comprehension_free (use := none) rfl (hs env) (T.clos K F) T.kind T.names (wpAny_mono (h.go w h₀ A env s G E C R K S F) (fun v' s₁ q_u => ?_) fun _ _ x => x)
    obtain ⟨v, o, G₁, ⟨_, items, hi, hsz, hJ, turn, fin⟩, h2, h3⟩ := q_u
    refine wp_iter h3.sr h2 hi fun it s₂ hnew hit e₂ kp => ?_
    refine comp_core J C R K h3.sr (F.ev h3) T.kind T.ok T.nd hnew e₂ kp hit hsz hJ turn fun D C' s' ce => ?_
    obtain ⟨acc, o₁, G', vs, m, mm, hJ', hev, hd, hrv, d1, d2, hmm, c1, c2⟩ := ce.ex
    refine ⟨mm, hmm, fun h' hs' => ?_⟩
    have ev1 := hev.but (tk := s'.toks) ce.newC hs'.extBut c1 c2
    have hd' : h'.get? D = some (lstObj vs m) := hs'.extBut _ _ ce.ne hd
    rcases fin acc o₁ hJ' with q | q
    · have ev2 := ev1.freezeNew ce.newD hd' d1 d2
      exact ⟨_, _, _, q, .lst gput_self (hrv.mono fun b o e => by unfold gput; split; (rename_i hb; subst hb; rw [d2] at e; cases e); exact e), h3.trans ev2⟩
    · exact ⟨_, _, _, q D, .loc, h3.trans (ev1.ownNew ce.newD hd' hrv d1 d2)⟩
-- a list comprehension, its list frozen
theorem ev_comp {n : Nat} {ns : Ns} {ρ : Rho} {own : Own} {elt iter : PySem.Expr} {x : Str} {px pos : Pos} {ifs : List PySem.Expr} {scope : Scope} {Q : V → Own → Prop} (J : Nat → List V → Own → Prop) (T : CompText ns ρ scope x)
    (h : EV n ns ρ own iter fun v o => ∃ items, itemsOf v = some items ∧ items.length ≤ 1000 ∧ J 0 [] o ∧
      (∀ i v acc o₁, items[i]? = some v → J i acc o₁ → TESTS n (compNs ns scope.names) ((x, v) :: ρ) o₁ ifs fun b o₂ => if b = true then EV n (compNs ns scope.names) ((x, v) :: ρ) o₂ elt fun y o₃ => J (i + 1) (acc ++ [y]) o₃ else J (i + 1) acc o₂) ∧
      (∀ acc o₁, J items.length acc o₁ → Q (.lst acc) o₁))
    (hs : ∀ env x, foldedSetIterable iter env x = pure x := by intro _ _; rfl) : EV n ns ρ own (.ListComp elt [⟨.Name x px, iter, ifs, 0⟩] scope pos) Q :=
  ev_comp_both J (EV.mono h fun v o q_u => by obtain ⟨items, a, b, c, d, e⟩ := q_u; exact ⟨T, items, a, b, c, d, fun acc o₁ q => .inl (e acc o₁ q)⟩) T hs
-- the machine exchanges the store and the letting go: a comprehension stored into a plain local of its own line
set_option tactic.hygienic true in
theorem ex_assign_comp_both {n : Nat} {ns : Ns} {ρ : Rho} {own : Own} {Q : MF → Rho → Own → Prop} {elt iter : PySem.Expr} {x y : Str} {px py pos p : Pos} {ifs : List PySem.Expr} {scope : Scope} (J : Nat → List V → Own → Prop) (T : CompText ns ρ scope x) (hy : isLC (ns.lookup y) = true)
    (h : EV n ns ρ own iter fun v o => ∃ items, itemsOf v = some items ∧ items.length ≤ 1000 ∧ J 0 [] o ∧
      (∀ i v acc o₁, items[i]? = some v → J i acc o₁ → TESTS n (compNs ns scope.names) ((x, v) :: ρ) o₁ ifs fun b o₂ => if b = true then EV n (compNs ns scope.names) ((x, v) :: ρ) o₂ elt fun y o₃ => J (i + 1) (acc ++ [y]) o₃ else J (i + 1) acc o₂) ∧
      (∀ acc o₁, J items.length acc o₁ → Q .next ((y, .lst acc) :: ρ) o₁ ∨ ∀ a, Q .next ((y, .loc a) :: ρ) ((a, .lst acc) :: o₁)))
    (hs : ∀ env x, foldedSetIterable iter env x = pure x := by intro _ _; rfl) : EX n ns ρ own (.Assign [.Name y py] (.ListComp elt [⟨.Name x px, iter, ifs, 0⟩] scope pos) p) Q := by
  have hsw : swapsWith (.ListComp elt [⟨.Name x px, iter, ifs, 0⟩] scope pos) (some (.Name y py)) p.line (cenv ns) = pure true ∨ swapsWith (.ListComp elt [⟨.Name x px, iter, ifs, 0⟩] scope pos) (some (.Name y py)) p.line (cenv ns) = pure false := by
    unfold swapsWith
    dsimp only
    generalize ((cenv ns).blockKind == ScopeKind.function && (cenv ns).kindOf y == some NameKind.local && _ && _) = b
    cases b
    · exact .inr rfl
    · exact .inl rfl
  rcases hsw with hsw | hsw
  · refine .mk ?_; intro w h₀ A env s G E C R K S F
    rw [exec_Assign_Name_used _ _ _ _ (by rw [swapsWith_c K]; exact hsw)]
    refine wpAny_bind (wpAny_standAt (wpAny_bind ?_))
    show wpAny _ A (do let _ ← comprehension (.ListComp elt [⟨.Name x px, iter, ifs, 0⟩] scope pos) scope env _ (newList []) false (eval iter env) (some (assign (.Name y py) env))) _ _ s
    refine wpAny_bind (wpAny_mono (wpAny_comprehension_free (use := some (assign (.Name y py) env)) (Q := fun _ s' => PostF h₀ env G own s Q .next s') rfl (hs env) (T.clos K F) T.kind T.names
      (wpAny_mono (h.go w h₀ A env s G E C R K S F) (fun v' s₁ q_u => ?_) fun _ _ e => e)) (fun _ s' hq => wpAny_pure (wpAny_pure hq)) fun _ _ e => e)
    obtain ⟨v, o, G₁, ⟨items, hi, hsz, hJ, turn, fin⟩, h2, h3⟩ := q_u
    refine wp_iter h3.sr h2 hi fun it s₂ hnew hit e₂ kp => ?_
    refine comp_core (RR := fun acc C => compPost (model prg w) A E (some (assign (.Name y py) env)) (fun _ s' => PostF h₀ env G own s Q .next s') acc C) J C R K h3.sr (F.ev h3) T.kind T.ok T.nd hnew e₂ kp hit hsz hJ turn fun D C' s' ce => ?_
    obtain ⟨acc, o₁, G', vs, m, mm, hJ', hev, hd, hrv, d1, d2, hmm, c1, c2⟩ := ce.ex
    show wpAny _ A (assign (.Name y py) env (.ref D)) _ _ _
    have F1 := (F.ev h3).ev hev
    have CF : ¬ fp env C' := fun hf => by
      obtain ⟨_, _, o', ho'⟩ := (F.ev h3).free C' hf
      rw [ce.newC] at ho'; cases ho'
    rcases fin acc o₁ hJ' with q | q
    · have ev2 := hev.freezeNew ce.newD hd d1 d2
      have F2 := (F.ev h3).ev ev2
      have rv2 : RV (gput G' D (lstObj vs m)) (.lst acc) (.ref D) := .lst gput_self (hrv.mono fun b o e => by unfold gput; split; (rename_i hb; subst hb; rw [d2] at e; cases e); exact e)
      refine PyProof.Rows.assign_Name (storeLC hy K ev2.sr F2 rv2 fun s₃ ev3 F3 _ => ?_)
      have hC3 : ∃ o es ep, s₃.heap.get? C' = some o ∧ o.data = .dict es ep ∧ StrKeys es ∧ ∀ name, nsFind es name = mm name := by
        obtain ⟨o, es, ep, ho, r⟩ := hmm
        exact ⟨o, es, ep, (ev3.keep C' o ho c1 (by unfold gput; rw [if_neg (Ne.symm ce.ne)]; exact c2) CF).1, r⟩
      refine ⟨mm, hC3, fun h' hs' => ?_⟩
      have evA := (ev2.toF.trans ev3).but (tk := s₃.toks) ce.newC hs'.extBut c1 (by unfold gput; rw [if_neg (Ne.symm ce.ne)]; exact c2)
      exact ⟨_, _, _, _, q, .next, h3.toF.trans evA, F3.but hs'.extBut CF⟩
    · have ev2 := hev.ownNew ce.newD hd hrv d1 d2
      have F2 := (F.ev h3).ev ev2
      refine PyProof.Rows.assign_Name (storeLC hy K ev2.sr F2 (.loc (a := D)) fun s₃ ev3 F3 _ => ?_)
      have c1' : C' ∉ addrs ((D, AO.lst acc) :: o₁) := by
        simp only [addrs, AO.addrs, List.mem_append, List.mem_singleton, not_or]
        exact ⟨Ne.symm ce.ne, c1⟩
      have hC3 : ∃ o es ep, s₃.heap.get? C' = some o ∧ o.data = .dict es ep ∧ StrKeys es ∧ ∀ name, nsFind es name = mm name := by
        obtain ⟨o, es, ep, ho, r⟩ := hmm
        exact ⟨o, es, ep, (ev3.keep C' o ho c1' c2 CF).1, r⟩
      refine ⟨mm, hC3, fun h' hs' => ?_⟩
      have evA := (ev2.toF.trans ev3).but (tk := s₃.toks) ce.newC hs'.extBut c1' c2
      exact ⟨_, _, _, _, q D, .next, h3.toF.trans evA, F3.but hs'.extBut CF⟩
  · refine ex_assign (ev_comp_both J (EV.mono h fun v o ⟨items, a, b, c, d, e⟩ => ⟨T, items, a, b, c, d, fun acc o₁ q => ?_⟩) T hs) (by exact hsw) rfl rfl
    rcases e acc o₁ q with q | q
    · exact .inl (asg_name hy q)
    · exact .inr fun a => asg_name hy (q a)
theorem ex_assign_comp {n : Nat} {ns : Ns} {ρ : Rho} {own : Own} {Q : MF → Rho → Own → Prop} {elt iter : PySem.Expr} {x y : Str} {px py pos p : Pos} {ifs : List PySem.Expr} {scope : Scope} (J : Nat → List V → Own → Prop) (T : CompText ns ρ scope x) (hy : isLC (ns.lookup y) = true)
    (h : EV n ns ρ own iter fun v o => ∃ items, itemsOf v = some items ∧ items.length ≤ 1000 ∧ J 0 [] o ∧
      (∀ i v acc o₁, items[i]? = some v → J i acc o₁ → TESTS n (compNs ns scope.names) ((x, v) :: ρ) o₁ ifs fun b o₂ => if b = true then EV n (compNs ns scope.names) ((x, v) :: ρ) o₂ elt fun y o₃ => J (i + 1) (acc ++ [y]) o₃ else J (i + 1) acc o₂) ∧
      (∀ acc o₁, J items.length acc o₁ → Q .next ((y, .lst acc) :: ρ) o₁))
    (hs : ∀ env x, foldedSetIterable iter env x = pure x := by intro _ _; rfl) : EX n ns ρ own (.Assign [.Name y py] (.ListComp elt [⟨.Name x px, iter, ifs, 0⟩] scope pos) p) Q :=
  ex_assign_comp_both J T hy (EV.mono h fun v o q_u => by obtain ⟨items, a, b, c, d, e⟩ := q_u; exact ⟨items, a, b, c, d, fun acc o₁ q => .inl (e acc o₁ q)⟩) hs
theorem ex_assign_comp_own {n : Nat} {ns : Ns} {ρ : Rho} {own : Own} {Q : MF → Rho → Own → Prop} {elt iter : PySem.Expr} {x y : Str} {px py pos p : Pos} {ifs : List PySem.Expr} {scope : Scope} (J : Nat → List V → Own → Prop) (T : CompText ns ρ scope x) (hy : isLC (ns.lookup y) = true)
    (h : EV n ns ρ own iter fun v o => ∃ items, itemsOf v = some items ∧ items.length ≤ 1000 ∧ J 0 [] o ∧
      (∀ i v acc o₁, items[i]? = some v → J i acc o₁ → TESTS n (compNs ns scope.names) ((x, v) :: ρ) o₁ ifs fun b o₂ => if b = true then EV n (compNs ns scope.names) ((x, v) :: ρ) o₂ elt fun y o₃ => J (i + 1) (acc ++ [y]) o₃ else J (i + 1) acc o₂) ∧
      (∀ acc o₁, J items.length acc o₁ → ∀ a, Q .next ((y, .loc a) :: ρ) ((a, .lst acc) :: o₁)))
    (hs : ∀ env x, foldedSetIterable iter env x = pure x := by intro _ _; rfl) : EX n ns ρ own (.Assign [.Name y py] (.ListComp elt [⟨.Name x px, iter, ifs, 0⟩] scope pos) p) Q :=
  ex_assign_comp_both J T hy (EV.mono h fun v o q_u => by obtain ⟨items, a, b, c, d, e⟩ := q_u; exact ⟨items, a, b, c, d, fun acc o₁ q => .inr (e acc o₁ q)⟩) hs
end
-- part L7Built
section
set_option tactic.hygienic false
section
variable {n : Nat} {ns : Ns} {ρ : Rho} {own : Own}
-- calls of built-in functions and types
structure CALLB (n : Nat) (f : Value) (vs : List V) (own : Own) (Q : V → Own → Prop) : Prop where
  go : ∀ (w : World) (h₀ : Heap) (A : Around) (s : Shared) (G : Ghost) (E : Value → Shared → Prop) (vs' : List Value), Cx w h₀ → Room n A → SR h₀ G own s.heap → RVs G vs vs' →
    wpAny (model prg w) A (call f vs') (PostV h₀ G own s Q) E s
theorem plain_args {es : List PySem.Expr} {env : Env} {pos : Pos} : es.all noStar = true → ((backTo pos (starEach es env)).any fun x => x.1) = false := by
  induction es with
  | nil => intro _; rfl
  | cons a r ih =>
    intro ha
    have ha' : noStar a = true ∧ r.all noStar = true := by simpa using ha
    rw [backTo_cons ha'.1]; simp [ih ha'.2]
theorem ev_callB {x : Str} {np p : Pos} {id : String} {e : PySem.Expr} {es : List PySem.Expr} {Q : V → Own → Prop} (hk : ns.lookup x = some .globalImplicit) (hb : bootBuiltins x = some (.builtin id))
    (h : EVL n ns ρ own (e :: es) fun vs o => CALLB n (.builtin id) vs o Q) (hg : ∀ w, nsIn (KK w) mainGlobals x = some none := by intro w; rfl) (hn : (e :: es).all noStar = true := by rfl) (hm : x ≠ "__name__" := by decide) (hd : (x == ("__debug__" : Str)) = false := by decide) : EV n ns ρ own (.Call (.Name x np) (e :: es) [] p) Q :=
  .mk fun w h₀ A env s G E C R K S F => by
    refine wpAny_Call_NameR (wp_builtin (hg w) hb hk C K S ?_ hm hd)
    have hn' : noStar e = true ∧ es.all noStar = true := by simpa using hn
    refine Calls.callWith_builtin (plain_args hn) ?_
    rw [backTo_cons hn'.1]
    refine Calls.evalArgs_plain ?_
    rw [← backTo_cons hn'.1]
    refine wpAny_mono (h.go w h₀ A env s G E p C R K S F) (fun vs' s₁ q_u => ?_) fun _ _ x => x
    obtain ⟨vs, o, G₁, h1, h2, h3⟩ := q_u
    exact wpAny_mono (h1.go w h₀ A s₁ G₁ E vs' C R h3.sr h2) (fun _ _ q => q.after h3) fun _ _ x => x
theorem ev_callT {x : Str} {np p : Pos} {T : String} {e : PySem.Expr} {es : List PySem.Expr} {Q : V → Own → Prop} (hk : ns.lookup x = some .globalImplicit) (hb : bootBuiltins x = some (.type T))
    (h : EVL n ns ρ own (e :: es) fun vs o => CALLB n (.type T) vs o Q) (hg : ∀ w, nsIn (KK w) mainGlobals x = some none := by intro w; rfl) (hn : (e :: es).all noStar = true := by rfl) (hm : x ≠ "__name__" := by decide) (hd : (x == ("__debug__" : Str)) = false := by decide) : EV n ns ρ own (.Call (.Name x np) (e :: es) [] p) Q :=
  .mk fun w h₀ A env s G E C R K S F => by
    refine wpAny_Call_NameR (wp_builtin (hg w) hb hk C K S ?_ hm hd)
    have hn' : noStar e = true ∧ es.all noStar = true := by simpa using hn
    refine PySem.callWith_type (plain_args hn) ?_
    rw [backTo_cons hn'.1]
    refine Calls.evalArgs_plain ?_
    rw [← backTo_cons hn'.1]
    refine wpAny_mono (h.go w h₀ A env s G E p C R K S F) (fun vs' s₁ q_u => ?_) fun _ _ x => x
    obtain ⟨vs, o, G₁, h1, h2, h3⟩ := q_u
    exact wpAny_mono (h1.go w h₀ A s₁ G₁ E vs' C R h3.sr h2) (fun _ _ q => q.after h3) fun _ _ x => x
theorem rvs1 {G : Ghost} {a : V} {vs' : List Value} (h : RVs G [a] vs') : ∃ x, vs' = [x] ∧ RV G a x := by
  cases h with | cons a b => cases b; exact ⟨_, rfl, a⟩
theorem rvs2 {G : Ghost} {a b : V} {vs' : List Value} (h : RVs G [a, b] vs') : ∃ x y, vs' = [x, y] ∧ RV G a x ∧ RV G b y := by
  cases h with | cons a h2 => obtain ⟨y, rfl, b⟩ := rvs1 h2; exact ⟨_, _, rfl, a, b⟩
theorem rvs3 {G : Ghost} {a b c : V} {vs' : List Value} (h : RVs G [a, b, c] vs') : ∃ x y z, vs' = [x, y, z] ∧ RV G a x ∧ RV G b y ∧ RV G c z := by
  cases h with | cons a h2 => obtain ⟨y, z, rfl, b⟩ := rvs2 h2; exact ⟨_, _, _, rfl, a, b⟩
-- len
theorem cb_len {l : List V} {Q : V → Own → Prop} (hsz : l.length < 2 ^ 63) (h : Q (.int l.length) own) : CALLB n (.builtin "len") [.lst l] own Q :=
  .mk fun w h₀ A s G E vs' C R S r => by
    obtain ⟨x, rfl, rx⟩ := rvs1 r
    cases rx with
    | lst g rr => exact len_list ⟨_, (S.frozen _ _ g).1, rfl, _, rfl⟩ (by rw [List.size_toArray, ← rr.length]; omega) ⟨_, _, _, h, by rw [List.size_toArray, ← rr.length]; exact .int, .tok S _⟩
theorem cb_len_own {a : Addr} {l : List V} {Q : V → Own → Prop} (ha : (a, AO.lst l) ∈ own) (hsz : l.length < 2 ^ 63) (h : Q (.int l.length) own) : CALLB n (.builtin "len") [.loc a] own Q :=
  .mk fun w h₀ A s G E vs' C R S r => by
    obtain ⟨x, rfl, rx⟩ := rvs1 r
    cases rx
    obtain ⟨vs, m, g, r⟩ := S.owned _ ha
    exact len_list ⟨_, g, rfl, _, rfl⟩ (by rw [List.size_toArray, ← r.length]; omega) ⟨_, _, _, h, by rw [List.size_toArray, ← r.length]; exact .int, .tok S _⟩
-- range
theorem new_rng {h₀ : Heap} {G : Ghost} {s : Shared} {o : Obj} {tk : Nat} (S : SR h₀ G own s.heap) (ho : o.isFreed = false) : Ev h₀ G own s (gput G s.heap.objs.size o) own { s with heap := s.heap.push o, toks := tk } :=
  .newFrozen S ⟨_, _, rfl⟩ (fun b o e => Heap.get?_push_of_some _ e) (get?_size_none _) (Heap.get?_push_size _ ho)
theorem cb_range1 {k : Int} {Q : V → Own → Prop} (h : Q (.rng 0 k 1) own) : CALLB n (.type "range") [.int k] own Q :=
  .mk fun w h₀ A s G E vs' C R S r => by
    obtain ⟨x, rfl, rx⟩ := rvs1 r
    cases rx
    exact call_range_1 ⟨_, _, _, h, .rng gput_self, new_rng S rfl⟩
theorem cb_range2 {a b : Int} {Q : V → Own → Prop} (h : Q (.rng a b 1) own) : CALLB n (.type "range") [.int a, .int b] own Q :=
  .mk fun w h₀ A s G E vs' C R S r => by
    obtain ⟨x, y, rfl, r1, r2⟩ := rvs2 r
    cases r1; cases r2
    exact call_range_2 ⟨_, _, _, h, .rng gput_self, new_rng S rfl⟩
theorem cb_range3 {a b c : Int} {Q : V → Own → Prop} (hc : c ≠ 0) (h : Q (.rng a b c) own) : CALLB n (.type "range") [.int a, .int b, .int c] own Q :=
  .mk fun w h₀ A s G E vs' C R S r => by
    obtain ⟨x, y, z, rfl, r1, r2, r3⟩ := rvs3 r
    cases r1; cases r2; cases r3
    exact call_range_3 hc ⟨_, _, _, h, .rng gput_self, new_rng S rfl⟩ (.inr (R.pylong C S))
-- abs
theorem cb_abs {k : Int} {Q : V → Own → Prop} (h : Q (.int (if k < 0 then -k else k)) own) : CALLB n (.builtin "abs") [.int k] own Q :=
  .mk fun w h₀ A s G E vs' C R S r => by
    obtain ⟨x, rfl, rx⟩ := rvs1 r
    cases rx
    exact call_abs_int fun u tk => ⟨_, _, _, h, .int, .tok S _⟩
-- list(x)
theorem copy_core {w : World} {h₀ : Heap} {A : Around} {s : Shared} {G : Ghost} {E : Value → Shared → Prop} {a : Addr} {l : List V} {vs : List Value} {m : Nat} {P : Value → Shared → Prop} (S : SR h₀ G own s.heap) (hg : s.heap.get? a = some (lstObj vs m)) (r : RVs G l vs) (hsz : l.length ≤ sizeLine)
    (h : ∀ h' c', (∀ b o, s.heap.get? b = some o → h'.get? b = some o) → h'.get? s.heap.objs.size = some (lstObj vs c') → P (.ref s.heap.objs.size) { s with heap := h' }) : wpAny (model prg w) A (call (.type "list") [.ref a]) P E s :=
  call_list_seq (T := "list") (hsz := by rw [List.size_toArray, ← r.length]; exact hsz) a (.inl rfl) hg rfl rfl h
theorem cb_list_frozen {l : List V} {Q : V → Own → Prop} (hsz : l.length ≤ sizeLine) (h : Q (.lst l) own) : CALLB n (.type "list") [.lst l] own Q :=
  .mk fun w h₀ A s G E vs' C R S r => by
    obtain ⟨x, rfl, rx⟩ := rvs1 r
    cases rx with
    | lst g rr => exact copy_core S (S.frozen _ _ g).1 rr hsz fun h' c' k hd => ⟨_, _, _, h, .lst gput_self (rr.mono (gput_sub S (get?_size_none _))), .newFrozen S ⟨_, s.toks, rfl⟩ k (get?_size_none _) hd⟩
theorem cb_list_own_own {a : Addr} {l : List V} {Q : V → Own → Prop} (ha : (a, AO.lst l) ∈ own) (hsz : l.length ≤ sizeLine) (h : ∀ b, Q (.loc b) ((b, .lst l) :: own)) : CALLB n (.type "list") [.loc a] own Q :=
  .mk fun w h₀ A s G E vs' C R S r => by
    obtain ⟨x, rfl, rx⟩ := rvs1 r
    cases rx
    obtain ⟨vs, m, g, r⟩ := S.owned _ ha
    exact copy_core S g r hsz fun h' c' k hd => ⟨_, _, _, h _, .loc, .newOwn S ⟨_, s.toks, rfl⟩ k (by simp only [AO.addrs, List.mem_singleton]; rintro b rfl; exact get?_size_none _) (by simp [AO.addrs]) ⟨vs, c', hd, r⟩⟩
-- ints
theorem ints_are {G : Ghost} {is : List Int} : ∀ {vs : List Value}, RVs G (is.map .int) vs → IntsAre vs is := by
  induction is with
  | nil => intro vs h; cases h; exact .nil
  | cons i r ih =>
    intro vs h
    cases h with
    | cons a b => cases a; exact .cons _ _ (ih b)
theorem are_ints {G : Ghost} {is : List Int} {vs : List Value} (h : IntsAre vs is) : RVs G (is.map .int) vs := by
  induction h with
  | nil => exact .nil
  | cons _ _ _ ih => exact .cons .int ih
theorem cb_sum {is : List Int} {Q : V → Own → Prop} (h : Q (.int is.sum) own) : CALLB n (.builtin "sum") [.lst (is.map .int)] own Q :=
  .mk fun w h₀ A s G E vs' C R S r => by
    obtain ⟨x, rfl, rx⟩ := rvs1 r
    cases rx with
    | lst g rr =>
      have hi := ints_are rr
      obtain ⟨xs, hxs⟩ := hi.allInts.items
      have hl : s.heap.IsList _ (intItems xs) := ⟨_, (S.frozen _ _ g).1, rfl, _, congrArg (Data.seq · _) hxs⟩
      have hsum : is.sum = preSum (numAt xs) xs.size := by
        have h1 := hi.numsOf
        have h2 := nums_intItems xs
        rw [← hxs] at h2
        rw [preSum_eq, List.take_of_length_le (by simp)]
        rw [show (_ : List Value).toArray.toList = _ from rfl] at h2
        rw [h1] at h2
        rw [h2]
      refine sum_intListG R.handled hl fun h' tk t' hk => ⟨_, _, _, h, ?_, .junk S ⟨_, _, rfl⟩ hk⟩
      rw [hsum]; exact .int
theorem cb_sorted {is : List Int} {Q : V → Own → Prop} (h64 : is.length < 64) (h : ∀ is' : List Int, is'.Perm is → is'.Pairwise (· ≤ ·) → Q (.lst (is'.map .int)) own) : CALLB n (.builtin "sorted") [.lst (is.map .int)] own Q :=
  .mk fun w h₀ A s G E vs' C R S r => by
    obtain ⟨x, rfl, rx⟩ := rvs1 r
    cases rx with
    | @lst _ vs a m g rr =>
      have hi := ints_are rr
      refine sorted_ints ⟨_, (S.frozen _ _ g).1, rfl, _, rfl⟩ hi (by rw [hi.length]; exact h64) fun out is' a1 a2 a3 => ?_
      obtain ⟨e, he⟩ := sortedAll_at s.heap vs out
      refine ⟨_, _, _, h is' a2 a3, .lst (vs := out.toList) (n := e) (gput_self (o := seqObj "list" out e)) (are_ints a1), .newFrozen S ⟨_, _, rfl⟩ (fun b o e => sortedAll_old e) ?_ he⟩
      cases hq : s.heap.get? (s.heap.objs.size + 1) with
      | none => rfl
      | some o => have := Heap.lt_size hq; exact absurd this (Nat.not_lt.mpr (Nat.le_succ _))
-- [v] * k
theorem rvs_replicate {G : Ghost} {v : V} {x : Value} (h : RV G v x) : ∀ k, RVs G (List.replicate k v) (List.replicate k x)
  | 0 => .nil
  | k + 1 => .cons h (rvs_replicate h k)
theorem fold_single (x : Value) : ∀ (k : Nat) (acc : Array Value), List.foldl (fun x1 x2 : Array Value => x1 ++ x2) acc (List.replicate k #[x]) = acc ++ (List.replicate k x).toArray
  | 0, acc => by simp
  | k + 1, acc => by
    rw [List.replicate_succ, List.foldl_cons, fold_single x k]
    apply Array.toList_inj.mp
    simp [List.replicate_succ]
theorem mul_core {w : World} {h₀ : Heap} {A : Around} {s : Shared} {G : Ghost} {E : Value → Shared → Prop} {a : Addr} {x : Value} {m : Nat} {k : Int} {u : Tok} {P : Value → Shared → Prop} (hg : s.heap.get? a = some (lstObj [x] m)) (h0 : 0 ≤ k) (hk : k ≤ 1000)
    (h : P (.ref s.heap.objs.size) { s with heap := s.heap.push (lstObj (List.replicate k.toNat x) 0) }) : wpAny (model prg w) A (binaryOp .Mult (.ref a) (.int k u)) P E s := by
  have hs1 : [x].toArray.size * k.toNat ≤ 1000 := by have h1 : [x].toArray.size = 1 := rfl; rw [h1]; omega
  refine wpAny_binaryOp_repeat_ref (T := "list") (U := "int") (by decide) ⟨_, hg, rfl⟩ (fun s' => typeIs_int s' k u) noFill_list_mul PySem.F.fills_int_mul PySem.F.slot_int_rmul repeat_list PySem.F.slot_int_index.lookup
    (call_meets PySem.F.slot_int_rmul (typeIs_int s k u) PySem.F.entry_int_rmul (PySem.F.args_int_rmul_2 _ _) (int___rmul___int_list k u a [x].toArray m)
      ⟨hg, rfl, ⟨_, hg, rfl⟩, call_meets PySem.F.slot_list_mul ⟨_, hg, rfl⟩ PySem.F.entry_list_mul (PySem.F.args_list_mul_2 _ _)
        (AutoListH.list___mul___list_int_3 a [x].toArray m k u (by simp [Builtin.List.listFitsIndex]; omega) (by omega) (by have h1 : [x].toArray.size = 1 := rfl; simp only [Builtin.List.listTooLong, sizeLine, h1]; simp; omega)) ⟨hg, ?_⟩⟩)
  have e : List.foldl (fun x1 x2 : Array Value => x1 ++ x2) #[] (List.replicate (if [x].toArray.isEmpty = true then 0 else k.toNat) [x].toArray) = (List.replicate k.toNat x).toArray := by
    have := fold_single x k.toNat #[]
    simpa using this
  rw [e]
  exact h
theorem bin_mul_lst {v : V} {k : Int} {Q : V → Own → Prop} (h0 : 0 ≤ k) (hk : k ≤ 1000) (h : Q (.lst (List.replicate k.toNat v)) own) : BIN n .Mult (.lst [v]) (.int k) own Q :=
  .mk fun w h₀ A s G E a' b' C R S ra rb => by
    cases rb
    cases ra with
    | lst g r =>
      cases r with
      | cons r nl =>
        cases nl
        refine mul_core (h₀ := h₀) (G := G) (S.frozen _ _ g).1 h0 hk ⟨_, _, _, h, .lst gput_self (rvs_replicate (r.mono (gput_sub S (get?_size_none _))) _), new_rng S rfl⟩
theorem bin_mul_own {v : V} {k : Int} {Q : V → Own → Prop} (h0 : 0 ≤ k) (hk : k ≤ 1000) (h : ∀ a, Q (.loc a) ((a, .lst (List.replicate k.toNat v)) :: own)) : BIN n .Mult (.lst [v]) (.int k) own Q :=
  .mk fun w h₀ A s G E a' b' C R S ra rb => by
    cases rb
    cases ra with
    | lst g r =>
      cases r with
      | cons r nl =>
        cases nl
        refine mul_core (h₀ := h₀) (G := G) (S.frozen _ _ g).1 h0 hk ⟨_, _, _, h _, .loc, .newOwn S ⟨_, _, rfl⟩ (fun b o e => Heap.get?_push_of_some _ e) (by simp only [AO.addrs, List.mem_singleton]; rintro b rfl; exact get?_size_none _) (by simp [AO.addrs]) ⟨_, 0, Heap.get?_push_size _ rfl, rvs_replicate r _⟩⟩
-- two lists added
set_option tactic.hygienic true in
theorem bin_add_lst {l l' : List V} {Q : V → Own → Prop} (hsz : l.length + l'.length ≤ sizeLine) (h : Q (.lst (l ++ l')) own) : BIN n .Add (.lst l) (.lst l') own Q :=
  .mk fun w h₀ A s G E a' b' C R S ra rb => by
    cases ra with
    | lst g r => cases rb with
      | lst g' r' =>
        rename_i vs a m vs' a' m'
        have e : vs.toArray ++ vs'.toArray = (vs ++ vs').toArray := by simp
        refine concat_meets ⟨_, (S.frozen _ _ g).1, rfl⟩ ⟨_, (S.frozen _ _ g').1, rfl⟩ noFill_list_add seq_list_add PySem.F.slot_list_add PySem.F.entry_list_add (PySem.F.args_list_add_2 _ _) (list_addW _ _ vs.toArray vs'.toArray m m' none none #[] #[] (by simpa [← r.length, ← r'.length] using hsz)) ⟨(S.frozen _ _ g).1, (S.frozen _ _ g').1, ?_⟩
        rw [e]
        exact ⟨_, _, _, h, .lst (gput_self (o := lstObj (vs ++ vs') 0)) ((RVs.append r' r).mono (gput_sub S (get?_size_none _))), new_rng S rfl⟩
-- x[:k]
noncomputable def upto (l : List V) (k : Int) : List V := l.take (if k < 0 then (k + l.length).toNat else k.toNat)
theorem upto_at (l : Nat) (k : Int) : ∃ b : Nat, sliceBounds none (some k) none l = sliceBounds none (some (b : Int)) none l ∧ b ≤ l ∧ b = min (if k < 0 then (k + l).toNat else k.toNat) l := by
  refine ⟨min (if k < 0 then (k + l).toNat else k.toNat) l, ?_, Nat.min_le_right _ _, rfl⟩
  simp only [sliceBounds, Option.getD_none, show (1 : Int) > 0 by decide, if_true]
  congr 2
  generalize hb : (if k < 0 then (k + l).toNat else k.toNat) = b
  have e : (k < 0 ∧ (b : Int) = max (k + l) 0) ∨ (¬ k < 0 ∧ (b : Int) = k) := by
    subst hb
    by_cases hk : k < 0
    · rw [if_pos hk]; exact .inl ⟨hk, Int.toNat_eq_max _⟩
    · rw [if_neg hk]; exact .inr ⟨hk, Int.toNat_of_nonneg (Int.not_lt.mp hk)⟩
  clear hb
  have h0 : ¬ ((min b l : Nat) : Int) < 0 := Int.not_lt.mpr (Int.natCast_nonneg _)
  rw [if_neg h0]
  have h1 : min ((min b l : Nat) : Int) (l : Int) = ((min b l : Nat) : Int) := Int.min_eq_left (Int.ofNat_le.mpr (Nat.min_le_right _ _))
  rw [h1, Int.max_eq_right (Int.natCast_nonneg _), show ((min b l : Nat) : Int) = min (b : Int) (l : Int) by omega]
  rcases e with ⟨hk, e⟩ | ⟨hk, e⟩
  · rw [if_pos hk, e]
    have h2 : k + (l : Int) ≤ l := by omega
    rw [Int.min_eq_left h2, Int.max_comm]
    exact (Int.min_eq_left (Int.max_le.mpr ⟨h2, Int.natCast_nonneg _⟩)).symm
  · rw [if_neg hk, e]
    exact Int.max_eq_right (Int.le_min.mpr ⟨Int.not_lt.mp hk, Int.natCast_nonneg _⟩)
theorem slice_upto (vs : List Value) (k : Int) : slicePick vs.toArray none (some k) none = (vs.take (if k < 0 then (k + vs.length).toNat else k.toNat)).toArray := by
  obtain ⟨b, h1, h2, h3⟩ := upto_at vs.length k
  have := slicePick_upto vs.toArray b (by simpa using h2)
  unfold slicePick at this ⊢
  rw [List.size_toArray] at this ⊢
  rw [h1, this, h3, ← List.take_take, List.take_length]
theorem ev_slice {x : Str} {px sp p : Pos} {u : PySem.Expr} {Q : V → Own → Prop} (h : EV n ns ρ own (.Name x px) fun v o => EV n ns ρ o u fun b o' => ∃ l k, v = .lst l ∧ b = .int k ∧ l.length ≤ sizeLine ∧ Q (.lst (upto l k)) o') :
    EV n ns ρ own (.Subscript (.Name x px) (.Slice none (some u) none sp) p) Q :=
  .mk fun w h₀ A env s G E C R K S F => by
    refine wpAny_Subscript_list_slice (wpAny_mono (h.go w h₀ A env s G E C R K S F) (fun v' s₁ q_u => ?_) fun _ _ x => x)
    obtain ⟨v, o, G₁, h1, h2, h3⟩ := q_u
    rw [evalPart_none]
    refine wpAny_pure ?_
    rw [evalPart_some]
    refine wpAny_mono (h1.go w h₀ A env s₁ G₁ E C R K h3.sr (F.ev h3)) (fun b' s₂ q_u => ?_) fun _ _ x => x
    obtain ⟨b, o', G₂, ⟨l, k, e1, e2, hsz, hq⟩, h5, h6⟩ := q_u
    subst e1 e2
    obtain ⟨tk, hb'⟩ : ∃ tk, b' = .int k tk := by cases h5; exact ⟨_, rfl⟩
    subst hb'
    cases h2 with
    | @lst _ vs a m g r =>
      refine ⟨a, vs.toArray, none, some k, rfl, ⟨_, (h6.sr.frozen _ _ (h6.sub _ _ g)).1, rfl, _, rfl⟩, by rw [List.size_toArray, ← r.length]; exact hsz, .none, .int _ _, ?_⟩
      rw [slice_upto]
      have hn : s₂.heap.get? (s₂.heap.objs.size + 1) = none := by
        cases hq : s₂.heap.get? (s₂.heap.objs.size + 1) with
        | none => rfl
        | some o => exact absurd (Heap.lt_size hq) (Nat.not_lt.mpr (Nat.le_succ _))
      have hd : ((s₂.heap.push { cls := .type "slice", data := .fields #[.none, .int k tk, .none] }).push (lstObj (vs.take (if k < 0 then (k + vs.length).toNat else k.toNat)) 0)).get? (s₂.heap.objs.size + 1) = some (lstObj (vs.take (if k < 0 then (k + vs.length).toNat else k.toNat)) 0) := by
        have := Heap.get?_push_size (s₂.heap.push { cls := .type "slice", data := .fields #[.none, .int k tk, .none] }) (o := lstObj (vs.take (if k < 0 then (k + vs.length).toNat else k.toNat)) 0) rfl
        rw [Heap.size_push] at this
        exact this
      refine ⟨_, _, _, hq, .lst (vs := vs.take (if k < 0 then (k + vs.length).toNat else k.toNat)) (n := 0) gput_self ?_, (h3.trans h6).trans (.newFrozen h6.sr ⟨_, s₂.toks, rfl⟩ (fun b o e => Heap.get?_push_of_some _ (Heap.get?_push_of_some _ e)) hn hd)⟩
      unfold upto
      rw [r.length]
      exact ((r.take _).mono h6.sub).mono (gput_sub h6.sr hn)
end
mutual
noncomputable def toPy : V → PyData
  | .none => .none
  | .bool b => .bool b
  | .int i => .int i
  | .str s => .str s
  | .tup l => .tuple (toPys l)
  | .lst l => .list (toPys l)
  | .rng .. => .none
  | .loc _ => .none
noncomputable def toPys : List V → List PyData
  | [] => []
  | v :: r => toPy v :: toPys r
end
mutual
noncomputable def isData : Nat → V → Bool
  | _, .none => true
  | _, .bool _ => true
  | _, .int _ => true
  | k + 1, .tup l => areData k l
  | k + 1, .lst l => areData k l
  | _, _ => false
noncomputable def areData : Nat → List V → Bool
  | _, [] => true
  | k, v :: r => isData k v && areData k r
end
theorem areData_of {k : Nat} : ∀ {l : List V}, (∀ v ∈ l, isData k v = true) → areData k l = true
  | [], _ => by rw [areData]
  | v :: r, h => by rw [areData, h v List.mem_cons_self, areData_of fun v hv => h v (List.mem_cons_of_mem _ hv)]; rfl
theorem reads_of {h₀ : Heap} {G : Ghost} {own : Own} {h : Heap} (S : SR h₀ G own h) {k : Nat} {v : V} {v' : Value} (r : RV G v v') (hd : isData k v = true) : ∃ as, Reads h v' (toPy v) as :=
  RV.rec (motive_1 := fun v x _ => ∀ k, isData k v = true → ∃ as, Reads h x (toPy v) as) (motive_2 := fun l vs _ => ∀ k, areData k l = true → ∃ as, ReadsAll h vs (toPys l) as)
    (fun _ _ => ⟨_, by rw [toPy]; exact .none⟩) (fun _ _ => ⟨_, by rw [toPy]; exact .bool _⟩) (fun _ _ => ⟨_, by rw [toPy]; exact .int _ _⟩) (fun k hd => by cases k <;> cases hd)
    (fun g _ ih k hd => by
      cases k with
      | zero => cases hd
      | succ k =>
        obtain ⟨as, ha⟩ := ih k hd
        rw [toPy]
        exact ⟨_, .tuple (S.frozen _ _ g).1 rfl rfl (by simpa using ha)⟩)
    (fun g _ ih k hd => by
      cases k with
      | zero => cases hd
      | succ k =>
        obtain ⟨as, ha⟩ := ih k hd
        rw [toPy]
        exact ⟨_, .list (S.frozen _ _ g).1 rfl rfl (by simpa using ha)⟩)
    (fun _ k hd => by cases k <;> cases hd) (fun k hd => by cases k <;> cases hd)
    (fun _ _ => ⟨_, by rw [toPys]; exact .nil⟩)
    (fun _ _ ia ib k hd => by
      have hd : (isData k _ && areData k _) = true := hd
      rw [Bool.and_eq_true] at hd
      obtain ⟨as, ha⟩ := ia k hd.1
      obtain ⟨bs, hb⟩ := ib k hd.2
      rw [toPys]
      exact ⟨_, .cons ha hb⟩) r k hd
theorem reads_all {h₀ : Heap} {G : Ghost} {own : Own} {h : Heap} (S : SR h₀ G own h) {k : Nat} {l : List V} {vs : List Value} (r : RVs G l vs) (hd : areData k l = true) : ∃ as, ReadsAll h vs (toPys l) as :=
  RVs.rec (motive_1 := fun v x _ => ∀ k, isData k v = true → ∃ as, Reads h x (toPy v) as) (motive_2 := fun l vs _ => ∀ k, areData k l = true → ∃ as, ReadsAll h vs (toPys l) as)
    (fun _ _ => ⟨_, by rw [toPy]; exact .none⟩) (fun _ _ => ⟨_, by rw [toPy]; exact .bool _⟩) (fun _ _ => ⟨_, by rw [toPy]; exact .int _ _⟩) (fun k hd => by cases k <;> cases hd)
    (fun g _ ih k hd => by
      cases k with
      | zero => cases hd
      | succ k =>
        obtain ⟨as, ha⟩ := ih k hd
        rw [toPy]
        exact ⟨_, .tuple (S.frozen _ _ g).1 rfl rfl (by simpa using ha)⟩)
    (fun g _ ih k hd => by
      cases k with
      | zero => cases hd
      | succ k =>
        obtain ⟨as, ha⟩ := ih k hd
        rw [toPy]
        exact ⟨_, .list (S.frozen _ _ g).1 rfl rfl (by simpa using ha)⟩)
    (fun _ k hd => by cases k <;> cases hd) (fun k hd => by cases k <;> cases hd)
    (fun _ _ => ⟨_, by rw [toPys]; exact .nil⟩)
    (fun _ _ ia ib k hd => by
      have hd : (isData k _ && areData k _) = true := hd
      rw [Bool.and_eq_true] at hd
      obtain ⟨as, ha⟩ := ia k hd.1
      obtain ⟨bs, hb⟩ := ib k hd.2
      rw [toPys]
      exact ⟨_, .cons ha hb⟩) r k hd
mutual
theorem canLay_of : ∀ (k : Nat) (v : V), isData k v = true → (toPy v).canLay0 = true ∧ (toPy v).depth ≤ k
  | _, .none, _ => by rw [toPy]; exact ⟨rfl, by simp [PyData.depth]⟩
  | _, .bool _, _ => by rw [toPy]; exact ⟨rfl, by simp [PyData.depth]⟩
  | _, .int _, _ => by rw [toPy]; exact ⟨rfl, by simp [PyData.depth]⟩
  | _, .str _, h => by simp [isData] at h
  | 0, .tup l, h => by simp [isData] at h
  | k + 1, .tup l, h => by
    rw [isData] at h; rw [toPy, PyData.canLay0, PyData.depth]
    have := canLays_of k l h
    exact ⟨this.1, by omega⟩
  | 0, .lst l, h => by simp [isData] at h
  | k + 1, .lst l, h => by
    rw [isData] at h; rw [toPy, PyData.canLay0, PyData.depth]
    have := canLays_of k l h
    exact ⟨this.1, by omega⟩
  | _, .rng _ _ _, h => by simp [isData] at h
  | _, .loc _, h => by simp [isData] at h
theorem canLays_of : ∀ (k : Nat) (l : List V), areData k l = true → PyData.canLayAll0 (toPys l) = true ∧ PyData.depthAll (toPys l) ≤ k
  | _, [], _ => by rw [toPys]; exact ⟨rfl, by simp [PyData.depthAll]⟩
  | k, v :: r, h => by
    rw [areData, Bool.and_eq_true] at h
    have h1 := canLay_of k v h.1
    have h2 := canLays_of k r h.2
    rw [toPys, PyData.canLayAll0, PyData.depthAll, h1.1, h2.1]
    exact ⟨rfl, Nat.max_le.mpr ⟨h1.2, h2.2⟩⟩
end
section
variable {n : Nat} {ns : Ns} {ρ : Rho} {own : Own}
theorem cmp_eq_data {a b : V} {Q : Bool → Prop} (ha : isData 8 a = true) (hb : isData 8 b = true) (h : Q (PyData.eqv (toPy a) (toPy b))) : CMP n .Eq a b own Q :=
  .mk fun w h₀ A s G E a' b' C R S ra rb => by
    obtain ⟨as, r1⟩ := reads_of S ra ha
    obtain ⟨bs, r2⟩ := reads_of S rb hb
    have hu := R.units
    have hm := Nat.min_le_left (toPy a).depth (toPy b).depth
    have hd := (canLay_of 8 a ha).2
    exact SeqAt.compareEq_reads r1 r2 (canLay_of 8 a ha).1 (canLay_of 8 b hb).1 (by omega) ⟨_, rfl, h, .refl S⟩
theorem cmp_ne_data {a b : V} {Q : Bool → Prop} (ha : isData 8 a = true) (hb : isData 8 b = true) (h : Q (!PyData.eqv (toPy a) (toPy b))) : CMP n .NotEq a b own Q :=
  .mk fun w h₀ A s G E a' b' C R S ra rb => by
    obtain ⟨as, r1⟩ := reads_of S ra ha
    obtain ⟨bs, r2⟩ := reads_of S rb hb
    have hu := R.units
    have hm := Nat.min_le_left (toPy a).depth (toPy b).depth
    have hd := (canLay_of 8 a ha).2
    exact SeqAt.compareNe_reads r1 r2 (canLay_of 8 a ha).1 (canLay_of 8 b hb).1 (by omega) ⟨_, rfl, h, .refl S⟩
-- membership
theorem cmp_in_data {a : V} {l : List V} {Q : Bool → Prop} (ha : isData 8 a = true) (hl : isData 8 (.lst l) = true) (h : Q ((toPys l).any fun y => PyData.eqv y (toPy a))) : CMP n .In a (.lst l) own Q :=
  .mk fun w h₀ A s G E a' b' C R S ra rb => by
    obtain ⟨as, r1⟩ := reads_of S ra ha
    obtain ⟨bs, r2⟩ := reads_of S rb hl
    have hu := R.units
    have hd := canLay_of 8 a ha
    have hd2 := canLay_of 8 _ hl
    rw [toPy] at r2 hd2
    rw [PyData.canLay0] at hd2
    have hm := Nat.min_le_right (PyData.depthAll (toPys l)) (toPy a).depth
    exact SeqAt.in_list_reads r2 r1 hd2.1 hd.1 (by omega) ⟨_, rfl, h, .refl S⟩
theorem cmp_notin_data {a : V} {l : List V} {Q : Bool → Prop} (ha : isData 8 a = true) (hl : isData 8 (.lst l) = true) (h : Q (!(toPys l).any fun y => PyData.eqv y (toPy a))) : CMP n .NotIn a (.lst l) own Q :=
  .mk fun w h₀ A s G E a' b' C R S ra rb => by
    obtain ⟨as, r1⟩ := reads_of S ra ha
    obtain ⟨bs, r2⟩ := reads_of S rb hl
    have hu := R.units
    have hd := canLay_of 8 a ha
    have hd2 := canLay_of 8 _ hl
    rw [toPy] at r2 hd2
    rw [PyData.canLay0] at hd2
    have hm := Nat.min_le_right (PyData.depthAll (toPys l)) (toPy a).depth
    exact SeqAt.notIn_list_reads r2 r1 hd2.1 hd.1 (by omega) ⟨_, rfl, h, .refl S⟩
end
end
-- part L8Attr
section
set_option tactic.hygienic false
-- fields
noncomputable def fput (x : Str) (v : V) : List (Str × V) → List (Str × V)
  | [] => [(x, v)]
  | p :: r => if p.1 == x then (p.1, v) :: r else p :: fput x v r
theorem isStr_key {x y : Str} {t : Tok} : (Value.str y t).isStr x = (y == x) := rfl
theorem fs_get {G : Ghost} {fs : List (Str × V)} {es : List DictEntry} (F : FsRel G fs es) {x : Str} {u : V} (h : fs.lookup x = some u) : ∃ v, getL x es = some (some v) ∧ RV G u v := by
  induction F with
  | nil => cases h
  | @cons y v fs hsh t z es a b ih =>
    rw [List.lookup_cons] at h
    unfold getL
    rw [List.find?_cons]
    cases hxy : x == y with
    | true =>
      rw [hxy] at h; cases h
      have : (Value.str y t).isStr x = true := by rw [isStr_key, beq_iff_eq.mp hxy]; simp
      simp only [this]
      exact ⟨z, rfl, a⟩
    | false =>
      rw [hxy] at h
      have : (Value.str y t).isStr x = false := by rw [isStr_key]; simp only [beq_eq_false_iff_ne, ne_eq] at hxy ⊢; exact fun q => hxy q.symm
      simp only [this]
      obtain ⟨w, h1, h2⟩ := ih h
      refine ⟨w, ?_, h2⟩
      unfold getL at h1
      rw [List.any_cons]
      have hr : (⟨hsh, .str y t, z⟩ : DictEntry).refKey = false := rfl
      rw [hr, Bool.false_or]
      exact h1
set_option tactic.hygienic true in
theorem fs_some {G : Ghost} {fs : List (Str × V)} {es : List DictEntry} (F : FsRel G fs es) (x : Str) : (getL x es).isSome = true := by
  induction F with
  | nil => rfl
  | @cons y v fs hsh t z es a b ih =>
    unfold getL at ih ⊢
    rw [List.find?_cons]
    split
    · rfl
    · rename_i h1
      split at h1
      · cases h1
      · rw [h1] at ih
        rw [List.any_cons]
        have hr : (⟨hsh, .str y t, z⟩ : DictEntry).refKey = false := rfl
        rw [hr, Bool.false_or]
        exact ih
theorem fs_put {G : Ghost} {hs : Int} {tk : Tok} {fs : List (Str × V)} {es : List DictEntry} (F : FsRel G fs es) {x : Str} {u : V} {v : Value} (r : RV G u v) : FsRel G (fput x u fs) (putL x hs (.str x tk) v es) := by
  induction F with
  | nil => exact .cons r .nil
  | @cons y w fs hsh t z es a b ih =>
    unfold fput putL
    have : (Value.str y t).isStr x = (y == x) := isStr_key
    simp only [this]
    split
    · exact .cons r b
    · exact .cons a ih
theorem fs_len {G : Ghost} {fs : List (Str × V)} {es : List DictEntry} (F : FsRel G fs es) : es.length = fs.length := by
  induction F with
  | nil => rfl
  | cons _ _ ih => exact congrArg (· + 1) ih
theorem putL_len (name : Str) (h : Int) (k v : Value) : ∀ es : List DictEntry, (putL name h k v es).length ≤ es.length + 1
  | [] => by simp [putL]
  | e :: r => by
    unfold putL
    split
    · simp
    · have := putL_len name h k v r; simp; omega
section
variable {n : Nat} {ns : Ns} {ρ : Rho} {own : Own}
theorem inst_at {h₀ : Heap} {G : Ghost} {h : Heap} {a d : Addr} {fs : List (Str × V)} (S : SR h₀ G own h) (ha : (a, AO.inst d fs) ∈ own) : ∃ es n, InstAt h a (instObj fitC d) fitC (some (dictOf es n)) ∧ h.get? d = some (dictOf es n) ∧ FsRel G fs es := by
  obtain ⟨es, m, h1, h2, h3⟩ := S.owned _ ha
  exact ⟨es, m, ⟨h1, rfl, rfl, h2⟩, h2, h3⟩
theorem fit_get : ∀ w, findIn (KK w) (.ref fitC) "__getattribute__" = some (some (.builtin "object.__getattribute__")) := fun w => by kernel_rfl
theorem fit_dict : ∀ w, hasDictIn (KK w) fitC = true := fun w => by kernel_rfl
theorem fit_setattr : ∀ w, findIn (KK w) (.ref fitC) "__setattr__" = some (some (.builtin "object.__setattr__")) := fun w => by kernel_rfl
theorem fit_over : ∀ w, plainOver (KK w) fitC = true := fun w => by kernel_rfl
theorem ev_attr {o : PySem.Expr} {name : Str} {p : Pos} {Q : V → Own → Prop} (h : EV n ns ρ own o fun v o₁ => ∃ a d fs u, v = .loc a ∧ (a, AO.inst d fs) ∈ o₁ ∧ fs.lookup name = some u ∧ Q u o₁)
    (hn : ∀ w, findIn (KK w) (.ref fitC) name = some none := by intro w; kernel_rfl) (ho : ∀ env, attributeBase o name env (eval o env) = eval o env := by intro _; rfl) : EV n ns ρ own (.Attribute o name p) Q :=
  .mk fun w h₀ A env s G E C R K S F => by
    rw [arm_eval_Attribute, ho env]
    refine wpAny_bind (wpAny_mono (h.go w h₀ A env s G E C R K S F) (fun v' s₁ q_u => ?_) fun _ _ x => x)
    obtain ⟨v, o₁, G₁, ⟨a, d, fs, u, e, ha, hl, q⟩, h2, h3⟩ := q_u
    subst e; cases h2
    obtain ⟨es, m, I, hd, hfs⟩ := inst_at h3.sr ha
    obtain ⟨y, hy, ry⟩ := fs_get hfs hl
    refine wpAny_bind (wpAny_standAt (wpAny_bind (wpAny_holding ?_)))
    have hh : handedIn y = true := by cases ry <;> rfl
    refine get_value (cx_in C h3.sr) I (fit_get w) (findObj_own (fit_dict w) (hn w) rfl hy) hh ?_
    exact wpAny_bind (wpAny_letTemporaryGo (wpAny_pure ⟨_, _, _, q, ry, h3.trans (.tok h3.sr _)⟩))
set_option tactic.hygienic true in
theorem osa_raw {w : World} {A : Around} {s : Shared} {K : Frag} {C x : Addr} {R : Result → Shared → Prop} {ox od od' : Obj} {dx : Addr} {name : Str} {tk : Tok} {v : Value} {es : List DictEntry} {m : Nat} (D : s.heap.get? dx = some od) (X : K.In s.heap)
    (I : InstAt s.heap x ox C (some od)) (hd : ox.dict = some dx) (hp : plainOver K C = true) (ht : takerIn K C name = some none) (hh : (clsIn K C).any (·.hasDict) = true) (hl : (lookIn name od).isSome = true)
    (e : Obj.putName name (PyData.keyHash w.params name) (.str name s.toks) v od = od') (e' : od'.data = .dict es.toArray m) (hz : es.length ≤ 1000)
    (h : ∀ h', Heap.SameBut dx s.heap h' → h'.get? dx = some od' → R (.ok (.ret .none)) { s with heap := h', toks := s.toks + 1 }) :
    codeAny (model prg w) A (.call (.builtin "object.__setattr__") ⟨[.ref x, .str name tk, v], []⟩) R s := by
  refine osa_open X I hp ht fun b => ?_
  obtain ⟨cd, hc, hd'⟩ := any_some hh
  have hf : od'.isFreed = false := by obtain ⟨_, _, dd, _⟩ := od'; cases e'; rfl
  have D' : (s.heap.update dx (Obj.putName name (PyData.keyHash w.params name) (.str name s.toks) v)).get? dx = some od' := by
    rw [← e]; exact Heap.get?_update_self _ D (by rw [e]; exact hf)
  obtain ⟨hx, hcl, hn, -⟩ := I
  obtain ⟨oc, odi, oda, osl⟩ := ox
  dsimp only at hcl hd
  subst hcl hd
  refine wpAny_bind (wpAny_pure (wpAny_bind (wpAny_bind (wpAny_loadPart hx (wpAny_bind ((looks_clsIn X hc).here ?_))))))
  rw [hd']
  refine wpAny_pure (a := some dx) (wpAny_bind (wpAny_pure (wpAny_bind ?_)))
  unfold nsSet
  refine wpAny_bind (wpAny_bind (wpAny_askSetting (wpAny_pure (wpAny_bind (wpAny_mkText (wpAny_bind (wpAny_loadPart D ?_)))))))
  unfold lookIn at hl
  split at hl
  · rename_i es₀ n₀ q
    rw [q]
    dsimp only
    have c : (!es₀.any (·.key.isStr name) && es₀.any (·.refKey)) = false := by
      rw [← Array.any_toList, ← Array.any_toList]
      split at hl
      · rename_i en he
        rw [List.any_eq_true.mpr ⟨en, List.mem_of_find?_eq_some he, List.find?_some he⟩]; rfl
      · split at hl
        · cases hl
        · rename_i z; rw [Bool.not_eq_true] at z; rw [z, Bool.and_false]
    rw [aRefKeyMayBeTheName_at, c]
    refine wpAny_updatePart D ?_
    refine wpAny_bind (wpAny_lookBehind D' (by rw [e']; exact pastItsLine_dict (by rw [List.size_toArray, sizeLine_eq]; omega)) ?_)
    exact wpAny_pure (h _ (Heap.SameBut.update ..) D')
  · cases hl
theorem asg_attr {o : PySem.Expr} {name : Str} {p : Pos} {v : V} {P : Rho → Own → Prop} (h : EV n ns ρ own o fun u o₁ => ∃ a d fs o₂, u = .loc a ∧ Turn a (.inst d fs) (.inst d (fput name v fs)) o₁ o₂ ∧ fs.length ≤ 900 ∧ P ρ o₂)
    (ht : ∀ w, takerIn (KK w) fitC name = some none := by intro w; kernel_rfl) : ASG n ns ρ own (.Attribute o name p) v P :=
  .mk fun w h₀ A env s G E v' C R K S F r => by
    rw [arm_assign_Attribute]
    refine wpAny_bind (wpAny_holding (wpAny_mono (h.go w h₀ A env s G E C R K S F) (fun u' s₁ q_u => ?_) fun _ _ x => x))
    obtain ⟨u, o₁, G₁, ⟨a, d, fs, o₂, e, T, hsz, q⟩, h2, h3⟩ := q_u
    subst e; cases h2
    obtain ⟨es, m, I, hd, hfs⟩ := inst_at h3.sr T.mem
    refine wpAny_bind (wpAny_standAt (wpAny_bind (wpAny_holding ?_)))
    have hln := fs_len hfs
    have hpl := putL_len name (PyData.keyHash w.params name) (.str name (s₁.toks + 1)) v' es
    refine set_plain (cx_in C h3.sr) I (fit_setattr w) (osa_raw (s := { s₁ with toks := s₁.toks + 1 }) hd (cx_in C h3.sr) I rfl (fit_over w) (ht w) (fit_dict w) ?_ (putName_dict ..) rfl (by dsimp only; omega) fun h' hs hd' => ?_)
    · exact fs_some hfs name
    · refine wpAny_release' ?_
      obtain ⟨l₁, l₂, rfl, rfl⟩ := T.split
      have nd := nodup_mid h3.sr.nodup
      have had : a ≠ d := by
        have := h3.sr.nodup
        rw [addrs_append] at this
        have h1 := (List.nodup_append.mp this).2.1
        simp only [addrs, AO.addrs] at h1
        have h2 := (List.nodup_append.mp h1).1
        simpa using h2
      have e : Ev h₀ G₁ (l₁ ++ (a, .inst d fs) :: l₂) s₁ G₁ (l₁ ++ (a, .inst d (fput name v fs)) :: l₂) { s₁ with heap := h', toks := s₁.toks + 1 + 1 } := by
        refine .turn h3.sr ⟨_, _, rfl⟩ rfl (fun b x hb e => (hs.2 b ?_).trans e) ⟨_, _, ?_, hd', fs_put hfs (r.mono h3.sub)⟩
        · intro q; subst q; exact hb (by simp [AO.addrs])
        · exact (hs.2 a had).trans I.at_
      exact ⟨_, _, _, q, (h3.trans e).toF, (F.ev h3).ev e⟩
-- Fit(..)
theorem fit_init : ∀ w, findIn (KK w) (.ref fitC) "__init__" = some (some (.ref 132)) := fun w => by kernel_rfl
theorem fit_makes : ∀ w, makesIn (KK w) fitC = true := fun w => by kernel_rfl
theorem fit_initfn : ∀ w, typeIn (KK w) (.ref 132) = some (.type "function") := fun w => by kernel_rfl
theorem Room.mk_ {n : Nat} {A : Around} {C : Addr} {pos : List Value} (R : Room (n + 1) A) : Room n (A.under (.builtin "type.__call__" ⟨.ref C :: pos, []⟩)) := by
  obtain ⟨h1, h2, h3, h4⟩ := R
  refine ⟨h1, ?_, ?_, h4⟩
  · show A.depth + 1 + n + 100 < _; omega
  · show A.units + 1 + 16 * (n + 1) < _; omega
theorem call_fit {vs : List V} {Q : V → Own → Prop} (h : ∀ x d, CODE n 132 (.loc x :: vs) ((x, .inst d []) :: own) fun v o => v = .none ∧ Q (.loc x) o) : CALL (n + 1) 135 vs own Q :=
  .mk fun w h₀ A s G E vs' C R S r => by
    refine wpAny_call ?_
    obtain ⟨hh, g, d, t, os⟩ := s
    have X := cx_in C S
    refine make_core (makes_of X (fit_makes w)) (looks_findIn X (fit_init w)) (fun self => bind_fn X self (fit_initfn w)) (.inl rfl) ?_
    have hn1 : hh.get? hh.objs.size = none := get?_size_none _
    have hn2 : hh.get? (hh.objs.size + 1) = none := by
      cases hq : hh.get? (hh.objs.size + 1) with
      | none => rfl
      | some o => exact absurd (Heap.lt_size hq) (Nat.not_lt.mpr (Nat.le_succ _))
    have k : ∀ b o, hh.get? b = some o → ((hh.push emptyDict).push (instObj fitC hh.objs.size)).get? b = some o := fun b o e => Heap.get?_push_of_some _ (Heap.get?_push_of_some _ e)
    have hx : ((hh.push emptyDict).push (instObj fitC hh.objs.size)).get? (hh.objs.size + 1) = some (instObj fitC hh.objs.size) := by
      have := Heap.get?_push_size (hh.push emptyDict) (o := instObj fitC hh.objs.size) rfl
      rw [Heap.size_push] at this
      exact this
    have hd : ((hh.push emptyDict).push (instObj fitC hh.objs.size)).get? hh.objs.size = some (dictOf [] 0) := Heap.get?_push_of_some _ (Heap.get?_push_size _ rfl)
    have e : Ev h₀ G own ⟨hh, g, d, t, os⟩ G ((hh.objs.size + 1, .inst hh.objs.size []) :: own) ⟨(hh.push emptyDict).push (instObj fitC hh.objs.size), g, d, t, os⟩ := by
      refine .newOwn S ⟨_, _, rfl⟩ k (fun b hb => ?_) ?_ ⟨[], 0, hx, hd, .nil⟩
      · simp only [AO.addrs, List.mem_cons, List.not_mem_nil, or_false] at hb
        rcases hb with rfl | rfl
        · exact hn2
        · exact hn1
      · simp only [AO.addrs, List.nodup_cons, List.mem_singleton, List.not_mem_nil, not_false_eq_true, List.nodup_nil, and_true]
        exact Nat.succ_ne_self _
    refine (h (hh.objs.size + 1) hh.objs.size).go w h₀ _ _ G _ (.ref (hh.objs.size + 1) :: vs') C R.mk_ e.sr (.cons .loc r) fun v s' q_u => ?_
    obtain ⟨u, o, G', ⟨hu, q⟩, rv, ev⟩ := q_u
    subst hu; cases rv
    exact ⟨rfl, _, _, _, q, .loc, e.trans ev⟩
-- x += e, ints
theorem ex_augadd {Q : MF → Rho → Own → Prop} {x : Str} {px p : Pos} {e : PySem.Expr} {i : Int} (hl : ρ.lookup x = some (.int i)) (hk : isLC (ns.lookup x) = true) (h : EV n ns ρ own e fun v o => ∃ j, v = .int j ∧ Q .next ((x, .int (i + j)) :: ρ) o) : EX n ns ρ own (.AugAssign (.Name x px) .Add e p) Q :=
  .mk fun w h₀ A env s G E C R K S F => by
    refine wpAny_AugAssign_Name (loadLC hl hk K F fun v' r => ?_)
    cases r
    refine wpAny_mono (h.go w h₀ A env s G E C R K S F) (fun u' s₁ q_u => ?_) fun _ _ x => x
    obtain ⟨u, o, G₁, ⟨j, e, q⟩, h2, h3⟩ := q_u
    subst e; cases h2
    refine PyProof.Rows.iadd_int ?_
    have e1 : Ev h₀ G₁ o s₁ G₁ o { s₁ with toks := s₁.toks + 1 } := .tok h3.sr _
    exact storeLC hk K e1.sr ((F.ev h3).ev e1) .int fun s₃ ev F₃ _ => ⟨_, _, _, _, q, .next, (h3.trans e1).toF.trans ev, F₃⟩
end
end
-- part L9Step
section
set_option tactic.hygienic false
-- two branches
structure Br (c : Bool) (P Q : Prop) : Prop where
  yes : c = true → P
  no : c = false → Q
theorem Br.ite {c : Bool} {P Q : Prop} (h : Br c P Q) : if c = true then P else Q := by
  cases c with
  | true => exact h.yes rfl
  | false => exact h.no rfl
theorem br_t {c : Bool} {P Q : Prop} (hc : c = true) (h : P) : Br c P Q := ⟨fun _ => h, fun e => by rw [hc] at e; cases e⟩
theorem br_f {c : Bool} {P Q : Prop} (hc : c = false) (h : Q) : Br c P Q := ⟨fun e => (by rw [hc] at e; cases e), fun _ => h⟩
theorem br_T {P Q : Prop} (h : P) : Br true P Q := br_t rfl h
theorem br_F {P Q : Prop} (h : Q) : Br false P Q := br_f rfl h
section
variable {n : Nat} {ns : Ns} {ρ : Rho} {own : Own}
theorem ex_if' {Q : MF → Rho → Own → Prop} {t : PySem.Expr} {a b : List Stmt} {p : Pos} (h : EB n ns ρ own t fun c o => Br c (EXS n ns ρ o a Q) (EXS n ns ρ o b Q)) : EX n ns ρ own (.If t a b p) Q := ex_if (h.mono fun _ _ h => h.ite)
theorem eb_and' {x y : PySem.Expr} {p : Pos} {Q : Bool → Own → Prop} (h : EB n ns ρ own x fun b o => Br b (EB n ns ρ o y Q) (Q false o)) : EB n ns ρ own (.BoolOp .And [x, y] p) Q := eb_and (h.mono fun _ _ h => h.ite)
theorem eb_or' {x y : PySem.Expr} {p : Pos} {Q : Bool → Own → Prop} (h : EB n ns ρ own x fun b o => Br b (Q true o) (EB n ns ρ o y Q)) : EB n ns ρ own (.BoolOp .Or [x, y] p) Q := eb_or (h.mono fun _ _ h => h.ite)
theorem ev_ifexp' {Q : V → Own → Prop} {t a b : PySem.Expr} {p : Pos} (h : EB n ns ρ own t fun c o => Br c (EV n ns ρ o a Q) (EV n ns ρ o b Q)) : EV n ns ρ own (.IfExp t a b p) Q := ev_ifexp (h.mono fun _ _ h => h.ite)
structure IsB (v : V) (P : Bool → Prop) : Prop where
  ex : ∃ b, v = .bool b ∧ P b
theorem isB {b : Bool} {P : Bool → Prop} (h : P b) : IsB (.bool b) P := ⟨b, rfl, h⟩
theorem ev_and' {x y : PySem.Expr} {p : Pos} {Q : V → Own → Prop} (h : EV n ns ρ own x fun v o => IsB v fun b => Br b (EV n ns ρ o y Q) (Q (.bool false) o)) : EV n ns ρ own (.BoolOp .And [x, y] p) Q := ev_and (h.mono fun _ _ h => let ⟨b, e, h⟩ := h.ex; ⟨b, e, h.ite⟩)
theorem ev_or' {x y : PySem.Expr} {p : Pos} {Q : V → Own → Prop} (h : EV n ns ρ own x fun v o => IsB v fun b => Br b (Q (.bool true) o) (EV n ns ρ o y Q)) : EV n ns ρ own (.BoolOp .Or [x, y] p) Q := ev_or (h.mono fun _ _ h => let ⟨b, e, h⟩ := h.ex; ⟨b, e, h.ite⟩)
theorem eb_val' {e : PySem.Expr} {Q : Bool → Own → Prop} (h : EV n ns ρ own e fun v o => IsB v fun b => Q b o) (hp : plainTest e = true := by rfl) : EB n ns ρ own e Q := eb_val (h.mono fun _ _ h => h.ex) hp
-- a length within bounds, and on
structure Sz (l : List V) (P : Prop) : Prop where
  sz : l.length ≤ sizeLine
  h : P
theorem mkSz {l : List V} {P : Prop} (h : P) (hl : Nat.ble l.length 1000 = true := by rfl) : Sz l P := ⟨by have := Nat.le_of_ble_eq_true hl; rw [sizeLine_eq]; omega, h⟩
theorem ev_tuple' {es : List PySem.Expr} {k : Nat} {p : Pos} {Q : V → Own → Prop} (h : EVL n ns ρ own es fun vs o => Sz vs (Q (.tup vs) o)) : EV n ns ρ own (.Tuple es k p) Q :=
  ev_tuple <| .mk fun w h₀ A env s G E pos C R K S F => wpAny_mono (h.go w h₀ A env s G E pos C R K S F) (fun _ _ ⟨a, b, c, h1, h2⟩ => ⟨a, b, c, ⟨h1.sz, h1.h⟩, h2⟩) fun _ _ x => x
theorem ev_listF {es : List PySem.Expr} {p : Pos} {Q : V → Own → Prop} (h : EVL n ns ρ own es fun vs o => Sz vs (Q (.lst vs) o)) : EV n ns ρ own (.List es p) Q :=
  ev_list_frozen <| .mk fun w h₀ A env s G E pos C R K S F => wpAny_mono (h.go w h₀ A env s G E pos C R K S F) (fun _ _ ⟨a, b, c, h1, h2⟩ => ⟨a, b, c, ⟨h1.sz, h1.h⟩, h2⟩) fun _ _ x => x
theorem ev_listO {es : List PySem.Expr} {p : Pos} {Q : V → Own → Prop} (h : EVL n ns ρ own es fun vs o => Sz vs (∀ a, Q (.loc a) ((a, .lst vs) :: o))) : EV n ns ρ own (.List es p) Q :=
  ev_list_own <| .mk fun w h₀ A env s G E pos C R K S F => wpAny_mono (h.go w h₀ A env s G E pos C R K S F) (fun _ _ ⟨a, b, c, h1, h2⟩ => ⟨a, b, c, ⟨h1.sz, h1.h⟩, h2⟩) fun _ _ x => x
-- a comprehension that makes a known list
structure GenC (n : Nat) (ns : Ns) (ρ : Rho) (own : Own) (x : Str) (elt : PySem.Expr) (r : List V) (v : V) (o : Own) (P : Prop) : Prop where
  own_ : o = own
  ex : ∃ items : List V, itemsOf v = some items ∧ items.length = r.length ∧ r.length ≤ 1000 ∧ ∀ (i : Nat) (v y : V), items[i]? = some v → r[i]? = some y → EV n ns ((x, v) :: ρ) own elt fun y' o' => y' = y ∧ o' = own
  fin : P
theorem GenC.steps {scope : Scope} {elt : PySem.Expr} {x : Str} {r : List V} {v : V} {o : Own} {P : Prop} (g : GenC n (compNs ns scope.names) ρ own x elt r v o P) : ∃ items : List V, itemsOf v = some items ∧ items.length ≤ 1000 ∧ (([] : List V) = r.take 0 ∧ o = own) ∧
      (∀ (i : Nat) (v : V) (acc : List V) (o₁ : Own), items[i]? = some v → (acc = r.take i ∧ o₁ = own) → TESTS n (compNs ns scope.names) ((x, v) :: ρ) o₁ [] fun b o₂ => if b = true then EV n (compNs ns scope.names) ((x, v) :: ρ) o₂ elt fun y o₃ => acc ++ [y] = r.take (i + 1) ∧ o₃ = own else acc = r.take (i + 1) ∧ o₂ = own) ∧
      (∀ acc o₁, (acc = r.take items.length ∧ o₁ = own) → (acc = r ∧ o₁ = own) ∧ P) := by
  obtain ⟨items, h1, h2, h3, h4⟩ := g.ex
  refine ⟨items, h1, by omega, ⟨rfl, g.own_⟩, ?_, ?_⟩
  · rintro i v acc _ hi ⟨rfl, rfl⟩
    refine tests_nil ?_
    rw [if_pos rfl]
    have hl : i < r.length := by rw [← h2]; exact (List.getElem?_eq_some_iff.mp hi).1
    refine (h4 i v r[i] hi (List.getElem?_eq_getElem hl)).mono fun y o h => ?_
    obtain ⟨rfl, rfl⟩ := h
    exact ⟨by rw [List.take_succ_eq_append_getElem hl], rfl⟩
  · rintro acc _ ⟨rfl, rfl⟩
    exact ⟨⟨by rw [h2, List.take_length], rfl⟩, g.fin⟩
theorem ev_comp_map {elt iter : PySem.Expr} {x : Str} {px pos : Pos} {scope : Scope} {Q : V → Own → Prop} (r : List V) (T : CompText ns ρ scope x)
    (h : EV n ns ρ own iter fun v o => GenC n (compNs ns scope.names) ρ own x elt r v o (Q (.lst r) own))
    (hs : ∀ env x, foldedSetIterable iter env x = pure x := by intro _ _; rfl) : EV n ns ρ own (.ListComp elt [⟨.Name x px, iter, [], 0⟩] scope pos) Q :=
  ev_comp (fun i acc o => acc = r.take i ∧ o = own) T (h.mono fun v o g => by
    obtain ⟨items, h1, h2, h3, h4, h5⟩ := g.steps
    exact ⟨items, h1, h2, h3, h4, fun acc o₁ hj => by obtain ⟨⟨rfl, rfl⟩, p⟩ := h5 acc o₁ hj; exact p⟩) hs
theorem ex_comp_map {Q : MF → Rho → Own → Prop} {elt iter : PySem.Expr} {x y : Str} {px py pos p : Pos} {scope : Scope} (r : List V) (T : CompText ns ρ scope x)
    (h : EV n ns ρ own iter fun v o => GenC n (compNs ns scope.names) ρ own x elt r v o (Q .next ((y, .lst r) :: ρ) own)) (hy : isLC (ns.lookup y) = true := by rfl)
    (hs : ∀ env x, foldedSetIterable iter env x = pure x := by intro _ _; rfl) : EX n ns ρ own (.Assign [.Name y py] (.ListComp elt [⟨.Name x px, iter, [], 0⟩] scope pos) p) Q :=
  ex_assign_comp (fun i acc o => acc = r.take i ∧ o = own) T hy (h.mono fun v o g => by
    obtain ⟨items, h1, h2, h3, h4, h5⟩ := g.steps
    exact ⟨items, h1, h2, h3, h4, fun acc o₁ hj => by obtain ⟨⟨rfl, rfl⟩, p⟩ := h5 acc o₁ hj; exact p⟩) hs
theorem ex_comp_map_own {Q : MF → Rho → Own → Prop} {elt iter : PySem.Expr} {x y : Str} {px py pos p : Pos} {scope : Scope} (r : List V) (T : CompText ns ρ scope x)
    (h : EV n ns ρ own iter fun v o => GenC n (compNs ns scope.names) ρ own x elt r v o (∀ a, Q .next ((y, .loc a) :: ρ) ((a, .lst r) :: own))) (hy : isLC (ns.lookup y) = true := by rfl)
    (hs : ∀ env x, foldedSetIterable iter env x = pure x := by intro _ _; rfl) : EX n ns ρ own (.Assign [.Name y py] (.ListComp elt [⟨.Name x px, iter, [], 0⟩] scope pos) p) Q :=
  ex_assign_comp_own (fun i acc o => acc = r.take i ∧ o = own) T hy (h.mono fun v o g => by
    obtain ⟨items, h1, h2, h3, h4, h5⟩ := g.steps
    exact ⟨items, h1, h2, h3, h4, fun acc o₁ hj => by obtain ⟨⟨rfl, rfl⟩, p⟩ := h5 acc o₁ hj; exact p⟩) hs
-- what range(k) gives, and on
theorem fits_long (k : Int) (h : -1000 ≤ k ∧ k ≤ 1000) : Builtin.Range.rangeFitsLong k = true := by
  unfold Builtin.Range.rangeFitsLong
  rw [Bool.and_eq_true]
  exact ⟨decide_eq_true (by omega), decide_eq_true (by omega)⟩
theorem range_size (a b : Int) : Builtin.Range.rangeSize a b 1 = ((b - a).toNat : Int) := by
  unfold Builtin.Range.rangeSize
  simp only [show ((1 : Int) > 0) = True by simp, if_true, Int.ediv_one]
  split <;> omega
theorem items_range2 {a b : Int} (ha : -400 ≤ a ∧ a ≤ 400) (hb : -400 ≤ b ∧ b ≤ 400) : itemsOf (.rng a b 1) = some (rangeVs a 1 (b - a).toNat) := by
  have h : Builtin.Range.small a b 1 = true := by
    unfold Builtin.Range.small
    rw [range_size, fits_long a (by omega), fits_long b (by omega), fits_long 1 (by omega), fits_long _ (show -1000 ≤ ((b - a).toNat : Int) ∧ ((b - a).toNat : Int) ≤ 1000 by omega), if_pos (by decide), fits_long _ (show -1000 ≤ b + (1 - 1) ∧ b + (1 - 1) ≤ 1000 by omega)]
    simp
  show (if Builtin.Range.small a b 1 = true then some (rangeVs a 1 (Builtin.Range.rangeSize a b 1).toNat) else none) = _
  rw [if_pos h, range_size]; rfl
theorem items_range {k : Nat} (hk : k ≤ 400) : itemsOf (.rng 0 (k : Int) 1) = some (rangeVs 0 1 k) := by
  rw [items_range2 (by omega) (by omega)]; congr 2
theorem rangeVs0_get {k i : Nat} {v : V} (h : (rangeVs 0 1 k)[i]? = some v) : i < k ∧ v = .int (i : Int) := by
  obtain ⟨h1, h2⟩ := rangeVs_get h
  exact ⟨h1, by rw [h2]; congr 1; omega⟩
-- a fraction
noncomputable def fr (q : Rat) : V := .tup [.int q.num, .int (q.den : Int)]
theorem sub_fr0 {q : Rat} {Q : V → Own → Prop} (h : Q (.int q.num) own) : SUB n (fr q) (.int 0) own Q := sub_tup (l := [.int q.num, .int (q.den : Int)]) (j := 0) rfl rfl (by show 2 < 2 ^ 63; decide) h
theorem sub_fr1 {q : Rat} {Q : V → Own → Prop} (h : Q (.int q.den) own) : SUB n (fr q) (.int 1) own Q := sub_tup (l := [.int q.num, .int (q.den : Int)]) (j := 1) rfl rfl (by show 2 < 2 ^ 63; decide) h
theorem idx_nat {k len : Nat} (h : k < len) : idx (k : Int) len = some k := by
  unfold idx
  rw [if_pos (by omega), if_pos (by omega)]; rfl
end
end
local macro_rules
  | `(tactic| walk_at "aw") => do
    let l : List Lean.Name := [`Mine.exs_cons, `Mine.exs_nil, `Mine.evl_cons, `Mine.evl_nil, `Mine.ex_return, `Mine.ex_if', `Mine.ex_assign, `Mine.ev_int, `Mine.ev_none, `Mine.ev_bool, `Mine.ev_str, `Mine.ev_tuple', `Mine.mkSz, `Mine.ev_bin, `Mine.ev_cmp, `Mine.ev_sub, `Mine.ev_ifexp', `Mine.ev_and', `Mine.ev_or', `Mine.isB, `Mine.eb_cmp, `Mine.eb_or', `Mine.eb_and', `Mine.eb_not, `Mine.eb_val', `Mine.bin_add, `Mine.bin_sub, `Mine.cmp_eq_int, `Mine.cmp_ne_int, `Mine.cmp_gt_int, `Mine.cmp_lt_int, `Mine.cmp_ge_int, `Mine.cmp_is_none, `Mine.cmp_isnot_none, `Mine.sub_fr0, `Mine.sub_fr1, `Mine.cb_abs, `Mine.cb_range1, `Mine.cb_range2]
    let alts ← l.toArray.mapM fun n => `(Lean.Parser.Tactic.tacticSeq| refine $(Lean.mkIdent n) ?_)
    `(tactic| first | refine ev_name rfl rfl ?_ | refine asg_name rfl ?_ $[| $alts:tacticSeq]* | refine ev_callB rfl rfl ?_ | refine ev_callT rfl rfl ?_ | refine ev_call rfl (fun w => rfl) (fun w => rfl) ?_)
-- part R1Rat
section
open Builtin.Int (intBits)
-- the bits of a fraction
structure bd (b : Nat) (q : Rat) : Prop where
  num : intBits q.num ≤ b
  den : intBits (q.den : Int) ≤ b
theorem bd.mono {a b : Nat} {q : Rat} (h : bd a q) (hab : a ≤ b) : bd b q := ⟨Nat.le_trans h.1 hab, Nat.le_trans h.2 hab⟩
theorem mulOk {a b : Nat} {x y : Int} (hx : intBits x ≤ a) (hy : intBits y ≤ b) (h : a + b ≤ 100000000) : IntMulOk x y := by
  unfold IntMulOk Builtin.Int.intTooBig
  have : ¬ ((intBits x : Int) + (intBits y : Int) > (bitsLine : Int)) := by rw [bitsLine_eq]; omega
  simp [this]
theorem ratMul (x y : Rat) : Rat.divInt (x.num * y.num) ((x.den : Int) * (y.den : Int)) = x * y := by
  rw [← Rat.divInt_mul_divInt, Rat.num_divInt_den, Rat.num_divInt_den]
theorem den0 (x : Rat) : (x.den : Int) ≠ 0 := by have := x.den_nz; omega
theorem ratAdd (x y : Rat) : Rat.divInt (x.num * y.den + y.num * x.den) ((x.den : Int) * (y.den : Int)) = x + y := by
  rw [← Rat.divInt_add_divInt _ _ (den0 x) (den0 y), Rat.num_divInt_den, Rat.num_divInt_den]
theorem ratDiv (x y : Rat) : Rat.divInt (x.num * y.den) ((x.den : Int) * y.num) = x / y := by
  rw [← Rat.divInt_mul_divInt, Rat.num_divInt_den, Rat.div_def, Rat.inv_def]
theorem bd_divInt {m : Nat} {a d : Int} (hd : d ≠ 0) (ha : intBits a ≤ m) (hb : intBits d ≤ m) : bd m (Rat.divInt a d) := by
  have hg : 0 < d.gcd a := Int.gcd_pos_of_ne_zero_left _ hd
  refine ⟨intBits_le_of_natAbs ?_ ha, intBits_le_of_natAbs ?_ hb⟩
  · rw [Rat.num_divInt, Int.natAbs_ediv_of_dvd, Int.natAbs_mul]
    · rcases Int.lt_trichotomy d 0 with h | h | h
      · rw [Int.sign_eq_neg_one_of_neg h]; simpa using Nat.div_le_self _ _
      · exact absurd h hd
      · rw [Int.sign_eq_one_of_pos h]; simpa using Nat.div_le_self _ _
    · exact Int.dvd_mul_of_dvd_right (Int.gcd_dvd_right ..)
  · rw [Rat.den_divInt, if_neg hd]
    have : ((d.natAbs / d.gcd a : Nat) : Int).natAbs = d.natAbs / d.gcd a := by rfl
    rw [this]
    exact Nat.div_le_self _ _
theorem bd_mul {a b : Nat} {x y : Rat} (hx : bd a x) (hy : bd b y) : bd (a + b) (x * y) := by
  rw [← ratMul]
  exact bd_divInt (Int.mul_ne_zero (den0 x) (den0 y)) (intBits_mul_le hx.1 hy.1) (intBits_mul_le hx.2 hy.2)
theorem bd_add {a b : Nat} {x y : Rat} (hx : bd a x) (hy : bd b y) : bd (a + b + 1) (x + y) := by
  rw [← ratAdd]
  refine bd_divInt (Int.mul_ne_zero (den0 x) (den0 y)) ?_ (Nat.le_succ_of_le (intBits_mul_le hx.2 hy.2))
  have := intBits_add_le (intBits_mul_le hx.1 hy.2) (intBits_mul_le hy.1 hx.2)
  omega
theorem bd_neg {a : Nat} {x : Rat} (hx : bd a x) : bd a (-x) := ⟨by rw [Rat.neg_num]; exact intBits_neg_le hx.1, by rw [Rat.neg_den]; exact hx.2⟩
theorem bd_sub {a b : Nat} {x y : Rat} (hx : bd a x) (hy : bd b y) : bd (a + b + 1) (x - y) := by rw [Rat.sub_eq_add_neg]; exact bd_add hx (bd_neg hy)
theorem num0 {x : Rat} (h : x ≠ 0) : x.num ≠ 0 := fun e => h (Rat.num_eq_zero.mp e)
theorem bd_div {a b : Nat} {x y : Rat} (hx : bd a x) (hy : bd b y) (h : y ≠ 0) : bd (a + b) (x / y) := by
  rw [← ratDiv]
  exact bd_divInt (Int.mul_ne_zero (den0 x) (num0 h)) (intBits_mul_le hx.1 hy.2) (intBits_mul_le hx.2 hy.1)
section
variable {n : Nat} {own : Own} {Q : V → Own → Prop}
theorem gcdI_zero (a : Int) (h : 0 ≤ a) : gcdI a 0 = a := by unfold gcdI; simp; omega
theorem gcdI_step (x y : Int) (hx : 0 ≤ x) (hy : 0 < y) : gcdI y (x.fmod y) = gcdI x y := by
  unfold gcdI
  rw [Int.fmod_eq_emod_of_nonneg _ (by omega)]
  congr 1
  have e : (x % y).natAbs = x.natAbs % y.natAbs := by
    rw [Int.natAbs_emod_of_nonneg hx]
  rw [e, Nat.gcd_comm x.natAbs y.natAbs, Nat.gcd_rec y.natAbs x.natAbs, Nat.gcd_comm]
theorem c_gcd (hn : 1 ≤ n) (a b : Int) (ha : 0 ≤ a) (hb : 0 ≤ b) (h : Q (.int (gcdI a b)) own) : CALL n 54 [.int a, .int b] own Q := by
  obtain ⟨n, rfl⟩ : ∃ m, n = m + 1 := ⟨n - 1, by omega⟩
  refine call_def (names := ["a", "b"]) (fun w => rfl) (fun w => by kernel_rfl) (fun s vs' _ hl => binds2 (fun a b => rfl) hl) ?_
  refine exs_cons (ex_while (fun m ρ o => ∃ x y, 0 ≤ x ∧ 0 ≤ y ∧ gcdI x y = gcdI a b ∧ m = y.toNat ∧ Sub [("a", .int x), ("b", .int y)] ρ ∧ o = own) b.toNat ⟨a, b, ha, hb, rfl, rfl, ⟨rfl, rfl, trivial⟩, rfl⟩ ?_)
  rintro m ρ₁ o₁ ⟨x, y, hx, hy, hg, rfl, hs, rfl⟩
  refine eb_cmp (ev_name (hs.get _ _ rfl) rfl (ev_int (cmp_gt_int ?_)))
  by_cases hy0 : y > 0
  · rw [if_pos (by simpa using hy0)]
    refine exs_sub hs (exs_cons (ex_swap ?_ rfl rfl))
    repeat walk_at "aw"
    refine bin_mod (by omega) ?_
    repeat walk_at "aw"
    refine ⟨_, _, rfl, ?_⟩
    have h1 : 0 ≤ x.fmod y := Int.fmod_nonneg_of_pos _ hy0
    have h2 : x.fmod y < y := Int.fmod_lt_of_pos _ hy0
    exact exs_nil ⟨rfl, (x.fmod y).toNat, by omega, y, x.fmod y, hy, h1, by rw [gcdI_step x y hx hy0, hg], rfl, ⟨rfl, rfl, trivial⟩, rfl⟩
  · rw [if_neg (by simpa using hy0)]
    refine exs_sub hs (exs_cons (ex_return (ev_name rfl rfl ?_)))
    obtain rfl : y = 0 := by omega
    rw [gcdI_zero x hx] at hg
    show Q _ _
    rw [hg]; exact h
theorem gcdI_pos {n d : Int} (h : 0 < d) : 0 < gcdI n d := by
  unfold gcdI
  have : 0 < Nat.gcd n.natAbs d.natAbs := Nat.gcd_pos_of_pos_right _ (by omega)
  omega
theorem make_num {n d : Int} (h : 0 < d) : n.fdiv (gcdI (if n < 0 then -n else n) d) = (Rat.divInt n d).num := by
  have e : gcdI (if n < 0 then -n else n) d = (d.gcd n : Int) := by
    unfold gcdI Int.gcd
    rw [Nat.gcd_comm]
    congr 2
    split <;> omega
  rw [e, Rat.num_divInt, Int.sign_eq_one_of_pos h, Int.one_mul, Int.fdiv_eq_ediv_of_nonneg _ (Int.natCast_nonneg _)]
theorem make_den {n d : Int} (h : 0 < d) : d.fdiv (gcdI (if n < 0 then -n else n) d) = ((Rat.divInt n d).den : Int) := by
  have e : gcdI (if n < 0 then -n else n) d = (d.gcd n : Int) := by
    unfold gcdI Int.gcd
    rw [Nat.gcd_comm]
    congr 2
    split <;> omega
  rw [e, Rat.den_divInt, if_neg (by omega), Int.fdiv_eq_ediv_of_nonneg _ (Int.natCast_nonneg _)]
  have : d = (d.natAbs : Int) := by omega
  rw [this, Int.natAbs_natCast]
  exact (Int.natCast_ediv ..).symm
theorem c_make (hn : 2 ≤ n) (a d : Int) (hd : d ≠ 0) (h : Q (fr (Rat.divInt a d)) own) : CALL n 61 [.int a, .int d] own Q := by
  obtain ⟨n, rfl⟩ : ∃ m, n = m + 1 := ⟨n - 1, by omega⟩
  refine call_def (names := ["n", "d"]) (fun w => rfl) (fun w => by kernel_rfl) (fun s vs' _ hl => binds2 (fun a b => rfl) hl) ?_
  repeat walk_at "aw"
  refine br_f (by simpa using hd) ?_
  repeat walk_at "aw"
  by_cases h0 : d < 0
  · refine br_t (by simpa using h0) ?_
    have hp : 0 < 0 - d := by omega
    repeat walk_at "aw"
    refine c_gcd (by omega) _ _ (by split <;> omega) (by omega) ?_
    repeat walk_at "aw"
    have := gcdI_pos (n := if 0 - a < 0 then -(0 - a) else 0 - a) hp
    refine bin_div (by omega) ?_
    repeat walk_at "aw"
    refine bin_div (by omega) ?_
    repeat walk_at "aw"
    show Q _ _
    rw [make_num hp, make_den hp]
    have e : Rat.divInt (0 - a) (0 - d) = Rat.divInt a d := by rw [Int.zero_sub, Int.zero_sub, Rat.neg_divInt_neg]
    rw [e]; exact h
  · refine br_f (by simpa using h0) ?_
    have hp : 0 < d := by omega
    repeat walk_at "aw"
    refine c_gcd (by omega) _ _ (by split <;> omega) (by omega) ?_
    repeat walk_at "aw"
    have := gcdI_pos (n := if a < 0 then -a else a) hp
    refine bin_div (by omega) ?_
    repeat walk_at "aw"
    refine bin_div (by omega) ?_
    repeat walk_at "aw"
    show Q _ _
    rw [make_num hp, make_den hp]
    exact h
theorem c_isna (hn : 1 ≤ n) (x : Rat) (h : Q (.bool false) own) : CALL n 68 [fr x] own Q := by
  obtain ⟨n, rfl⟩ : ∃ m, n = m + 1 := ⟨n - 1, by omega⟩
  refine call_def (names := ["x"]) (fun w => rfl) (fun w => by kernel_rfl) (fun s vs' _ hl => binds1 (fun a => rfl) hl) ?_
  repeat walk_at "aw"
  refine br_f rfl ?_
  repeat walk_at "aw"
  by_cases h0 : x.num = 0
  · refine br_t (beq_iff_eq.mpr h0) ?_
    repeat walk_at "aw"
    have e : ((x.den : Int) == 0) = false := by simpa using den0 x
    rw [e]; exact h
  · refine br_f (beq_eq_false_iff_ne.mpr h0) ?_
    exact h
theorem c_isfin (hn : 1 ≤ n) (x : Rat) (h : Q (.bool true) own) : CALL n 75 [fr x] own Q := by
  obtain ⟨n, rfl⟩ : ∃ m, n = m + 1 := ⟨n - 1, by omega⟩
  refine call_def (names := ["x"]) (fun w => rfl) (fun w => by kernel_rfl) (fun s vs' _ hl => binds1 (fun a => rfl) hl) ?_
  repeat walk_at "aw"
  refine br_t rfl ?_
  repeat walk_at "aw"
  have e : decide ((x.den : Int) > 0) = true := by have := den0 x; simp; omega
  rw [e]; exact h
theorem c_neg (hn : 1 ≤ n) (x : Rat) (h : Q (fr (-x)) own) : CALL n 89 [fr x] own Q := by
  obtain ⟨n, rfl⟩ : ∃ m, n = m + 1 := ⟨n - 1, by omega⟩
  refine call_def (names := ["x"]) (fun w => rfl) (fun w => by kernel_rfl) (fun s vs' _ hl => binds1 (fun a => rfl) hl) ?_
  repeat walk_at "aw"
  refine br_f rfl ?_
  repeat walk_at "aw"
  show Q _ _
  have e : fr (-x) = .tup [.int (0 - x.num), .int x.den] := by unfold fr; rw [Rat.neg_num, Rat.neg_den, Int.zero_sub]
  rw [e] at h; exact h
theorem c_mul (hn : 3 ≤ n) {a b : Nat} {x y : Rat} (hx : bd a x) (hy : bd b y) (hab : a + b ≤ 100000000) (h : Q (fr (x * y)) own) : CALL n 110 [fr x, fr y] own Q := by
  obtain ⟨n, rfl⟩ : ∃ m, n = m + 1 := ⟨n - 1, by omega⟩
  refine call_def (names := ["x", "y"]) (fun w => rfl) (fun w => by kernel_rfl) (fun s vs' _ hl => binds2 (fun a b => rfl) hl) ?_
  repeat walk_at "aw"
  refine c_isna (by omega) _ ?_
  repeat walk_at "aw"
  refine br_F ?_
  repeat walk_at "aw"
  refine c_isna (by omega) _ ?_
  repeat walk_at "aw"
  refine br_F ?_
  repeat walk_at "aw"
  refine bin_mul ?_ (mulOk hx.1 hy.1 hab)
  repeat walk_at "aw"
  refine bin_mul ?_ (mulOk hx.2 hy.2 hab)
  repeat walk_at "aw"
  refine c_make (by omega) _ _ (Int.mul_ne_zero (den0 x) (den0 y)) ?_
  show Q _ _
  rw [ratMul]; exact h
theorem c_add (hn : 3 ≤ n) {a b : Nat} {x y : Rat} (hx : bd a x) (hy : bd b y) (hab : a + b ≤ 100000000) (h : Q (fr (x + y)) own) : CALL n 96 [fr x, fr y] own Q := by
  obtain ⟨n, rfl⟩ : ∃ m, n = m + 1 := ⟨n - 1, by omega⟩
  refine call_def (names := ["x", "y"]) (fun w => rfl) (fun w => by kernel_rfl) (fun s vs' _ hl => binds2 (fun a b => rfl) hl) ?_
  have ex : ((x.den : Int) == 0) = false := by simpa using den0 x
  have ey : ((y.den : Int) == 0) = false := by simpa using den0 y
  repeat walk_at "aw"
  refine c_isna (by omega) _ ?_
  repeat walk_at "aw"
  refine br_F ?_
  repeat walk_at "aw"
  refine c_isna (by omega) _ ?_
  repeat walk_at "aw"
  refine br_F ?_
  repeat walk_at "aw"
  refine br_f ex ?_
  repeat walk_at "aw"
  refine br_F ?_
  repeat walk_at "aw"
  refine br_f ex ?_
  repeat walk_at "aw"
  refine br_f ey ?_
  repeat walk_at "aw"
  refine bin_mul ?_ (mulOk hx.1 hy.2 hab)
  repeat walk_at "aw"
  refine bin_mul ?_ (mulOk hy.1 hx.2 (by omega))
  repeat walk_at "aw"
  refine bin_mul ?_ (mulOk hx.2 hy.2 hab)
  repeat walk_at "aw"
  refine c_make (by omega) _ _ (Int.mul_ne_zero (den0 x) (den0 y)) ?_
  show Q _ _
  rw [ratAdd]; exact h
theorem c_sub (hn : 4 ≤ n) {a b : Nat} {x y : Rat} (hx : bd a x) (hy : bd b y) (hab : a + b ≤ 100000000) (h : Q (fr (x - y)) own) : CALL n 103 [fr x, fr y] own Q := by
  obtain ⟨n, rfl⟩ : ∃ m, n = m + 1 := ⟨n - 1, by omega⟩
  refine call_def (names := ["x", "y"]) (fun w => rfl) (fun w => by kernel_rfl) (fun s vs' _ hl => binds2 (fun a b => rfl) hl) ?_
  repeat walk_at "aw"
  refine c_neg (by omega) _ ?_
  repeat walk_at "aw"
  refine c_add (by omega) hx (bd_neg hy) hab ?_
  show Q _ _
  rw [← Rat.sub_eq_add_neg]; exact h
theorem c_div (hn : 3 ≤ n) {a b : Nat} {x y : Rat} (hx : bd a x) (hy : bd b y) (hab : a + b ≤ 100000000) (h0 : y ≠ 0) (h : Q (fr (x / y)) own) : CALL n 117 [fr x, fr y] own Q := by
  obtain ⟨n, rfl⟩ : ∃ m, n = m + 1 := ⟨n - 1, by omega⟩
  refine call_def (names := ["x", "y"]) (fun w => rfl) (fun w => by kernel_rfl) (fun s vs' _ hl => binds2 (fun a b => rfl) hl) ?_
  have ex : ((x.den : Int) == 0) = false := by simpa using den0 x
  repeat walk_at "aw"
  refine c_isna (by omega) _ ?_
  repeat walk_at "aw"
  refine br_F ?_
  repeat walk_at "aw"
  refine c_isna (by omega) _ ?_
  repeat walk_at "aw"
  refine br_F ?_
  repeat walk_at "aw"
  refine br_f ex ?_
  repeat walk_at "aw"
  refine br_F ?_
  repeat walk_at "aw"
  refine br_f ex ?_
  repeat walk_at "aw"
  refine bin_mul ?_ (mulOk hx.1 hy.2 hab)
  repeat walk_at "aw"
  refine bin_mul ?_ (mulOk hx.2 hy.1 hab)
  repeat walk_at "aw"
  refine c_make (by omega) _ _ (Int.mul_ne_zero (den0 x) (num0 h0)) ?_
  show Q _ _
  rw [ratDiv]; exact h
end
end
-- part R2Lin
section
open Builtin.Int (intBits)
-- columns
noncomputable def cv (u : List Rat) : V := .lst (u.map fr)
noncomputable def wv : Option (List Rat) → V
  | none => .none
  | some w => cv w
noncomputable def bl (b : Nat) (u : List Rat) : Prop := ∀ q ∈ u, bd b q
theorem bl.mono {a b : Nat} {u : List Rat} (h : bl a u) (hab : a ≤ b) : bl b u := fun q hq => (h q hq).mono hab
noncomputable def wt (u : List Rat) : Option (List Rat) → List Rat
  | none => u
  | some w => List.zipWith (· * ·) u w
noncomputable def wlen (k : Nat) : Option (List Rat) → Prop
  | none => True
  | some w => w.length = k
noncomputable def wbl (b : Nat) : Option (List Rat) → Prop
  | none => True
  | some w => bl b w
noncomputable def dotR : List Rat → List Rat → Rat
  | a :: u, b :: v => a * b + dotR u v
  | _, _ => 0
theorem dotR_snoc : ∀ {u v : List Rat} {a b : Rat}, u.length = v.length → dotR (u ++ [a]) (v ++ [b]) = dotR u v + a * b
  | [], [], a, b, _ => by simp [dotR, Rat.add_zero, Rat.zero_add]
  | x :: u, y :: v, a, b, h => by
    have := @dotR_snoc u v a b (by simpa using h)
    simp only [List.cons_append, dotR]
    rw [this, Rat.add_assoc]
theorem bd0 : bd 1 0 := ⟨by decide, by decide⟩
theorem dotR_bd {a b : Nat} : ∀ {u v : List Rat} {k : Nat}, u.length ≤ k → bl a u → bl b v → bd (1 + k * (a + b + 1)) (dotR u v)
  | [], v, k, _, _, _ => by simp only [dotR]; exact bd0.mono (by omega)
  | x :: u, [], k, _, _, _ => by simp only [dotR]; exact bd0.mono (by omega)
  | x :: u, y :: v, 0, h, _, _ => by simp at h
  | x :: u, y :: v, k + 1, h, hu, hv => by
    simp only [dotR]
    have h1 := @dotR_bd a b u v k (by simpa using h) (fun q hq => hu q (List.mem_cons_of_mem _ hq)) (fun q hq => hv q (List.mem_cons_of_mem _ hq))
    refine (bd_add (bd_mul (hu x List.mem_cons_self) (hv y List.mem_cons_self)) h1).mono ?_
    rw [Nat.succ_mul]; omega
theorem dotR_take {u v : List Rat} {i : Nat} {a b : Rat} (ha : u[i]? = some a) (hb : v[i]? = some b) : dotR (u.take (i + 1)) (v.take (i + 1)) = dotR (u.take i) (v.take i) + a * b := by
  obtain ⟨h1, rfl⟩ := List.getElem?_eq_some_iff.mp ha
  obtain ⟨h2, rfl⟩ := List.getElem?_eq_some_iff.mp hb
  rw [List.take_succ_eq_append_getElem h1, List.take_succ_eq_append_getElem h2]
  exact dotR_snoc (by simp; omega)
theorem dotR_bd5 {a b : Nat} {u v : List Rat} (h : u.length ≤ 5) (hu : bl a u) (hv : bl b v) : bd (5 * a + 5 * b + 6) (dotR u v) := (dotR_bd h hu hv).mono (by omega)
theorem bl_take {a : Nat} {u : List Rat} (h : bl a u) (i : Nat) : bl a (u.take i) := fun q hq => h q (List.mem_of_mem_take hq)
noncomputable def lessR (u : List Rat) (f : Rat) (v : List Rat) : List Rat := if f = 0 then u else List.zipWith (fun a b => a - f * b) u v
section
variable {n : Nat} {own : Own} {ns : Ns} {ρ : Rho} {Q : V → Own → Prop}
theorem sub_cv {u : List Rat} {k : Nat} {q : Rat} (h : Q (fr q) own) (hk : u[k]? = some q) (hu : u.length ≤ 400) : SUB n (cv u) (.int (k : Int)) own Q := by
  have hl : k < u.length := (List.getElem?_eq_some_iff.mp hk).1
  refine sub_lst (j := k) (idx_nat (by simpa using hl)) (v := fr q) (by simp [hk]) (by simp; omega) h
theorem gen_range {x : Str} {elt : PySem.Expr} {r : List V} {k : Nat} {P : Prop} (hk : k ≤ 400) (hr : r.length = k) (hp : P)
    (turn : ∀ (i : Nat) (y : V), i < k → r[i]? = some y → EV n ns ((x, .int i) :: ρ) own elt fun y' o' => y' = y ∧ o' = own) : GenC n ns ρ own x elt r (.rng 0 (k : Int) 1) own P :=
  .mk rfl ⟨_, items_range hk, by rw [rangeVs_length, hr], by omega, fun i v y hi hy => by
    obtain ⟨h1, rfl⟩ := rangeVs0_get hi
    exact turn i y h1 hy⟩ hp
theorem gen_lst {x : Str} {elt : PySem.Expr} {r l : List V} {P : Prop} (hk : l.length ≤ 400) (hr : r.length = l.length) (hp : P)
    (turn : ∀ (i : Nat) (v y : V), l[i]? = some v → r[i]? = some y → EV n ns ((x, v) :: ρ) own elt fun y' o' => y' = y ∧ o' = own) : GenC n ns ρ own x elt r (.lst l) own P :=
  .mk rfl ⟨_, rfl, hr.symm, by omega, turn⟩ hp
theorem cb_len_cv {u : List Rat} (h : Q (.int u.length) own) (hu : u.length ≤ 400) : CALLB n (.builtin "len") [cv u] own Q := by
  refine cb_len (by simp; omega) ?_
  rw [List.length_map]; exact h
theorem zip_get {f : Rat → Rat → Rat} {u w : List Rat} {i : Nat} {y : V} (hl : w.length = u.length) (hi : i < u.length) (hy : ((List.zipWith f u w).map fr)[i]? = some y) : ∃ a b, u[i]? = some a ∧ w[i]? = some b ∧ y = fr (f a b) ∧ a ∈ u ∧ b ∈ w := by
  have hi' : i < w.length := by omega
  refine ⟨u[i], w[i], List.getElem?_eq_getElem hi, List.getElem?_eq_getElem hi', ?_, List.getElem_mem .., List.getElem_mem ..⟩
  rw [List.getElem?_map, List.getElem?_zipWith, List.getElem?_eq_getElem hi, List.getElem?_eq_getElem hi'] at hy
  simpa using hy.symm
theorem c_weighted (hn : 4 ≤ n) {u : List Rat} {w : Option (List Rat)} {a b : Nat} (hu : u.length ≤ 400) (hw : wlen u.length w) (ha : bl a u) (hb : wbl b w) (hab : a + b ≤ 100000000) (h : Q (cv (wt u w)) own) : CALL n 144 [cv u, wv w] own Q := by
  obtain ⟨n, rfl⟩ : ∃ m, n = m + 1 := ⟨n - 1, by omega⟩
  refine call_def (names := ["values", "weights"]) (fun w => rfl) (fun w => by kernel_rfl) (fun s vs' _ hl => binds2 (fun a b => rfl) hl) ?_
  repeat walk_at "aw"
  cases w with
  | none =>
    refine br_T ?_
    repeat walk_at "aw"
    exact h
  | some w =>
    refine br_F ?_
    repeat walk_at "aw"
    refine ev_comp_map ((List.zipWith (· * ·) u w).map fr) ⟨rfl, rfl, by decide⟩ ?_
    repeat walk_at "aw"
    refine cb_len_cv ?_ hu
    repeat walk_at "aw"
    have hl : w.length = u.length := hw
    refine gen_range hu (by simp [hl]) h fun i y hi hy => ?_
    obtain ⟨p, q, h1, h2, rfl, h3, h4⟩ := zip_get hl hi hy
    repeat walk_at "aw"
    refine sub_cv ?_ h1 hu
    repeat walk_at "aw"
    refine sub_cv (u := w) ?_ h2 (by omega)
    repeat walk_at "aw"
    refine c_mul (by omega) (ha _ h3) (hb _ h4) hab ⟨rfl, rfl⟩
theorem bool_ne {x : Rat} : (x.num != 0) = !decide (x = 0) := by
  by_cases h : x = 0
  · subst h; rfl
  · simp [num0 h, h]
theorem c_dot (hn : 4 ≤ n) {u v : List Rat} {a b : Nat} (hu : u.length ≤ 5) (hl : v.length = u.length) (ha : bl a u) (hb : bl b v) (hab : 6 * a + 6 * b + 10 ≤ 100000000) (h : Q (fr (dotR u v)) own) : CALL n 151 [cv u, cv v] own Q := by
  obtain ⟨n, rfl⟩ : ∃ m, n = m + 1 := ⟨n - 1, by omega⟩
  refine call_def (names := ["u", "v"]) (fun w => rfl) (fun w => by kernel_rfl) (fun s vs' _ hl => binds2 (fun a b => rfl) hl) ?_
  refine exs_cons (ex_assign (ev_gtup (fun w => rfl) (fun w => rfl) rfl ?_))
  repeat walk_at "aw"
  refine ex_for_fun (rangeVs 0 1 u.length) (fun i => [("total", fr (dotR (u.take i) (v.take i))), ("u", cv u), ("v", cv v)]) (fun _ => own) rfl ?_ ?_ ?_
  · repeat walk_at "aw"
    refine cb_len_cv ?_ (by omega)
    repeat walk_at "aw"
    exact ⟨items_range (by omega), ⟨rfl, rfl, rfl, trivial⟩, rfl⟩
  · intro i y hi
    obtain ⟨h1, rfl⟩ := rangeVs0_get hi
    have h2 : i < v.length := by omega
    have eu := List.getElem?_eq_getElem h1
    have ev := List.getElem?_eq_getElem h2
    have hs := dotR_take eu ev
    have b0 := dotR_bd5 (u := u.take i) (v := v.take i) (by simp; omega) (bl_take ha i) (bl_take hb i)
    have bu := ha _ (List.getElem_mem h1)
    have bv := hb _ (List.getElem_mem h2)
    generalize u[i] = p at eu hs bu
    generalize v[i] = q at ev hs bv
    repeat walk_at "aw"
    refine sub_cv ?_ eu (by omega)
    repeat walk_at "aw"
    rw [bool_ne]
    by_cases hp : p = 0
    · refine br_f (by simp [hp]) (br_F (exs_nil (exs_nil ⟨rfl, ⟨?_, rfl, rfl, trivial⟩, rfl⟩)))
      rw [hs, hp, Rat.zero_mul, Rat.add_zero]; rfl
    · refine br_t (by simp [hp]) ?_
      repeat walk_at "aw"
      refine sub_cv ?_ ev (by omega)
      repeat walk_at "aw"
      rw [bool_ne]
      by_cases hq : q = 0
      · refine br_f (by simp [hq]) (exs_nil (exs_nil ⟨rfl, ⟨?_, rfl, rfl, trivial⟩, rfl⟩))
        rw [hs, hq, Rat.mul_zero, Rat.add_zero]; rfl
      · refine br_t (by simp [hq]) ?_
        repeat walk_at "aw"
        refine sub_cv ?_ eu (by omega)
        repeat walk_at "aw"
        refine sub_cv ?_ ev (by omega)
        repeat walk_at "aw"
        refine c_mul (by omega) bu bv (by omega) ?_
        repeat walk_at "aw"
        refine c_add (by omega) b0 (bd_mul bu bv) (by omega) ?_
        repeat walk_at "aw"
        refine ⟨rfl, ⟨?_, rfl, rfl, trivial⟩, rfl⟩
        rw [hs]; rfl
  · intro ρ₁ hs
    refine exs_sub hs ?_
    repeat walk_at "aw"
    show Q _ _
    rw [rangeVs_length, List.take_length, ← hl, List.take_length]; exact h
theorem c_less (hn : 5 ≤ n) {u v : List Rat} {f : Rat} {a b c : Nat} (hu : u.length ≤ 5) (hl : v.length = u.length) (ha : bl a u) (hb : bl b v) (hc : bd c f) (hab : a + b + c ≤ 100000000) (h : Q (cv (lessR u f v)) own) : CALL n 156 [cv u, fr f, cv v] own Q := by
  obtain ⟨n, rfl⟩ : ∃ m, n = m + 1 := ⟨n - 1, by omega⟩
  refine call_def (names := ["u", "factor", "v"]) (fun w => rfl) (fun w => by kernel_rfl) (fun s vs' _ hl => binds3 (fun a b c => rfl) hl) ?_
  repeat walk_at "aw"
  unfold lessR at h
  by_cases hf : f = 0
  · rw [if_pos hf] at h
    refine br_t (by rw [hf]; rfl) ?_
    repeat walk_at "aw"
    exact h
  · rw [if_neg hf] at h
    refine br_f (by simpa using num0 hf) ?_
    repeat walk_at "aw"
    refine ev_comp_map ((List.zipWith (fun a b => a - f * b) u v).map fr) ⟨rfl, rfl, by decide⟩ ?_
    repeat walk_at "aw"
    refine cb_len_cv ?_ (by omega)
    repeat walk_at "aw"
    refine gen_range (by omega) (by simp [hl]) h fun i y hi hy => ?_
    obtain ⟨p, q, h1, h2, rfl, h3, h4⟩ := zip_get hl hi hy
    repeat walk_at "aw"
    refine sub_cv ?_ h1 (by omega)
    repeat walk_at "aw"
    refine sub_cv ?_ h2 (by omega)
    repeat walk_at "aw"
    refine c_mul (by omega) hc (hb _ h4) (by omega) ?_
    repeat walk_at "aw"
    refine c_sub (by omega) (ha _ h3) (bd_mul hc (hb _ h4)) (by omega) ⟨rfl, rfl⟩
end
end
-- part L10More
section
set_option tactic.hygienic false
section
variable {n : Nat} {ns : Ns} {ρ : Rho} {own : Own} {Q : MF → Rho → Own → Prop}
theorem ex_expr {e : PySem.Expr} {p : Pos} (h : EV n ns ρ own e fun v o => v = .none ∧ Q .next ρ o) (hs : swapsWith e none p.line (cenv ns) = pure false := by rfl) : EX n ns ρ own (.Expr e p) Q :=
  .mk fun w h₀ A env s G E C R K S F => by
    refine wpAny_Expr (wpAny_mono (h.go w h₀ A env s G E C R K S F) (fun v' s₁ q_u => ?_) fun _ _ x => x) (inter_c K) (by rw [swapsWith_c K]; exact hs)
    obtain ⟨v, o₁, G₁, ⟨hv, q⟩, h2, h3⟩ := q_u
    subst hv
    cases h2
    exact ⟨_, _, _, _, q, .next, h3.toF, F.ev h3⟩
noncomputable def forD (n : Nat) (ns : Ns) (x : Str) (body : List Stmt) (P : Rho → Own → Prop) : List V → Rho → Own → Prop
  | [], ρ, own => P ρ own
  | v :: r, ρ, own => EXS n ns ((x, v) :: ρ) own body fun f ρ' o' => f = .next ∧ forD n ns x body P r ρ' o'
theorem ex_for_list {x : Str} {px p : Pos} {iter : PySem.Expr} {body : List Stmt} (items : List V) (hx : isLC (ns.lookup x) = true)
    (h : EV n ns ρ own iter fun v o => itemsOf v = some items ∧ forD n ns x body (fun ρ' o' => Q .next ρ' o') items ρ o)
    (hs : ∀ env x, foldedSetIterable iter env x = pure x := by intro _ _; rfl) : EX n ns ρ own (.For (.Name x px) iter body [] p) Q :=
  ex_for (fun i ρ o => forD n ns x body (fun ρ' o' => Q .next ρ' o') (items.drop i) ρ o) hx (h.mono fun v o ⟨h1, h2⟩ => ⟨items, h1, h2, fun i v ρ₁ o₁ hi hI => by
      rw [drop_cons hi] at hI
      exact hI, fun ρ₁ o₁ hI => by rw [List.drop_length] at hI; exact hI⟩) hs
theorem fs_relabel {G G' : Ghost} {l : List V} {a : Addr} {x : Str} {fs : List (Str × V)} {es : List DictEntry} (F : FsRel G fs es) (h : fs.lookup x = some (.loc a)) (hs : Gsub G G') (r : RV G' (.lst l) (.ref a)) : FsRel G' (fput x (.lst l) fs) es := by
  induction F with
  | nil => cases h
  | @cons y v fs hsh t z es p q ih =>
    unfold fput
    by_cases e : y == x
    · have e' : y = x := by simpa using e
      subst e'
      simp at h
      subst h
      rw [if_pos (by simp)]
      cases p
      exact .cons r (q.mono hs)
    · rw [if_neg (by simpa using e)]
      rw [List.lookup_cons] at h
      have e' : (x == y) = false := by
        have : ¬ y = x := by simpa using e
        simpa using fun hh => this hh.symm
      rw [e'] at h
      exact .cons (p.mono hs) (ih h)
-- a field's list is frozen
theorem exs_freezeF {own₁ own₂ : Own} {sts : List Stmt} {x d a : Addr} {fs : List (Str × V)} (name : Str) {l : List V} (hf : fs.lookup name = some (.loc a)) (D : Drop a (.lst l) own own₁) (T : Turn x (.inst d fs) (.inst d (fput name (.lst l) fs)) own₁ own₂)
    (h : EXS n ns ρ own₂ sts Q) : EXS n ns ρ own sts Q :=
  .mk fun w h₀ A env s G E C R K S F => by
    obtain ⟨l₁, l₂, rfl, rfl⟩ := D.split
    obtain ⟨G₂, e, r⟩ := Ev.freeze S
    have F' := F.ev e
    obtain ⟨k₁, k₂, e1, e2⟩ := T.split
    have e3 : Ev h₀ G₂ (l₁ ++ l₂) s G₂ own₂ s := by
      have S' := e.sr
      rw [e1] at S'
      obtain ⟨es, m, g1, g2, g3⟩ := S'.owned (x, .inst d fs) (by simp)
      have g0 : FsRel G fs es ∨ True := .inr trivial
      rw [e1, e2]
      exact Ev.turn S' ⟨_, _, rfl⟩ rfl (fun _ _ _ h => h) ⟨es, m, g1, g2, fs_relabel g3 hf (fun _ _ h => h) r⟩
    exact wpAny_mono (h.go w h₀ A env s G₂ E C R K e3.sr (F'.ev e3)) (fun _ _ q => q.after (e.trans e3).toF) fun _ _ x => x
end
end
-- part R3Fit
section
open Builtin.Int (intBits)
-- the fields of a Fit
noncomputable def fitFs (p b nn sh st co fi re we : V) (r df : Int) : List (Str × V) :=
  [("pivots", p), ("bases", b), ("norms", nn), ("shares", sh), ("steps", st), ("coefficients", co), ("fitted", fi), ("residuals", re), ("weights", we), ("rank", .int r), ("df", .int df)]
section
variable {n : Nat} {own : Own} {ns : Ns} {ρ : Rho} {Q : V → Own → Prop}
theorem c_init (hn : 1 ≤ n) {x d a1 : Addr} {b nn sh : V} (h1 : (a1, AO.lst []) ∈ own) (h : ∀ st, Q .none ((st, .lst []) :: (x, .inst d (fitFs (.loc a1) b nn sh (.loc st) (.lst []) (.lst []) (.lst []) .none 0 0)) :: own)) :
    CODE n 132 [.loc x, .loc a1, b, nn, sh] ((x, .inst d []) :: own) Q := by
  obtain ⟨n, rfl⟩ : ∃ m, n = m + 1 := ⟨n - 1, by omega⟩
  refine code_def (names := ["self", "pivots", "bases", "norms", "shares"]) (fun w => rfl) (fun w => by kernel_rfl) (fun s vs' _ hl => binds5 (fun a b c d e => rfl) hl) ?_
  repeat walk_at "aw"
  refine asg_attr (ev_name rfl rfl ⟨x, d, _, _, rfl, .head, Nat.le_of_ble_eq_true rfl, ?_⟩)
  repeat walk_at "aw"
  refine asg_attr (ev_name rfl rfl ⟨x, d, _, _, rfl, .head, Nat.le_of_ble_eq_true rfl, ?_⟩)
  repeat walk_at "aw"
  refine asg_attr (ev_name rfl rfl ⟨x, d, _, _, rfl, .head, Nat.le_of_ble_eq_true rfl, ?_⟩)
  repeat walk_at "aw"
  refine asg_attr (ev_name rfl rfl ⟨x, d, _, _, rfl, .head, Nat.le_of_ble_eq_true rfl, ?_⟩)
  repeat walk_at "aw"
  refine ev_listO ?_
  repeat walk_at "aw"
  intro st
  refine asg_attr (ev_name rfl rfl ⟨x, d, _, _, rfl, .tail .head, Nat.le_of_ble_eq_true rfl, ?_⟩)
  repeat walk_at "aw"
  refine ev_listF ?_
  repeat walk_at "aw"
  refine asg_attr (ev_name rfl rfl ⟨x, d, _, _, rfl, .tail .head, Nat.le_of_ble_eq_true rfl, ?_⟩)
  repeat walk_at "aw"
  refine ev_listF ?_
  repeat walk_at "aw"
  refine asg_attr (ev_name rfl rfl ⟨x, d, _, _, rfl, .tail .head, Nat.le_of_ble_eq_true rfl, ?_⟩)
  repeat walk_at "aw"
  refine ev_listF ?_
  repeat walk_at "aw"
  refine asg_attr (ev_name rfl rfl ⟨x, d, _, _, rfl, .tail .head, Nat.le_of_ble_eq_true rfl, ?_⟩)
  repeat walk_at "aw"
  refine asg_attr (ev_name rfl rfl ⟨x, d, _, _, rfl, .tail .head, Nat.le_of_ble_eq_true rfl, ?_⟩)
  repeat walk_at "aw"
  refine cb_len_own (l := []) (.tail _ (.tail _ h1)) (by decide) ?_
  repeat walk_at "aw"
  refine asg_attr (ev_name rfl rfl ⟨x, d, _, _, rfl, .tail .head, Nat.le_of_ble_eq_true rfl, ?_⟩)
  repeat walk_at "aw"
  refine asg_attr (ev_name rfl rfl ⟨x, d, _, _, rfl, .tail .head, Nat.le_of_ble_eq_true rfl, ?_⟩)
  repeat walk_at "aw"
  exact h st
end
end
-- part P0
-- a column in use
structure Bs where
  pv : Nat
  ba : List Rat
  no : Rat
  sh : List Rat
noncomputable def rstep (w : Option (List Rat)) (s : List Rat × List Rat) (b : Bs) : List Rat × List Rat :=
  (lessR s.1 (dotR (wt s.1 w) b.ba / b.no) b.ba, s.2 ++ [dotR (wt s.1 w) b.ba / b.no])
noncomputable def redu (w : Option (List Rat)) (L : List Bs) (base : List Rat) : List Rat × List Rat := L.foldl (rstep w) (base, [])
noncomputable def normR (w : Option (List Rat)) (u : List Rat) : Rat := dotR (wt u w) u
noncomputable def ostep (w : Option (List Rat)) (L : List Bs) (p : Nat) (c : List Rat) : List Bs :=
  if normR w (redu w L c).1 = 0 then L else L ++ [⟨p, (redu w L c).1, normR w (redu w L c).1, (redu w L c).2⟩]
noncomputable def orthN (w : Option (List Rat)) (cs : List (List Rat)) : Nat → List Bs
  | 0 => []
  | i + 1 => match cs[i]? with
    | some c => ostep w (orthN w cs i) i c
    | none => orthN w cs i
theorem redu_take {w : Option (List Rat)} {L : List Bs} {base : List Rat} {i : Nat} {b : Bs} (h : L[i]? = some b) : redu w (L.take (i + 1)) base = rstep w (redu w (L.take i) base) b := by
  obtain ⟨h1, rfl⟩ := List.getElem?_eq_some_iff.mp h
  unfold redu
  rw [List.take_succ_eq_append_getElem h1, List.foldl_append]
  rfl
-- the bits of the t-th base
noncomputable def Bb : Nat → Nat
  | 0 => 16
  | t + 1 => 22 * Bb t + 33
theorem Bb_mono {i j : Nat} (h : i ≤ j) : Bb i ≤ Bb j := by
  induction j with
  | zero => obtain rfl : i = 0 := by omega
            exact Nat.le_refl _
  | succ j ih =>
    by_cases e : i = j + 1
    · subst e; exact Nat.le_refl _
    · have := ih (by omega)
      show Bb i ≤ 22 * Bb j + 33
      omega
theorem Bb3 {i : Nat} (h : i ≤ 3) : Bb i ≤ 187099 := by
  have := Bb_mono h
  have e : Bb 3 = 187099 := rfl
  omega
-- what holds of a column in use
structure BOk (m : Nat) (t : Nat) (b : Bs) : Prop where
  ba : bl (Bb t) b.ba
  len : b.ba.length = m
  no : bd (10 * Bb t + 16) b.no
  nz : b.no ≠ 0
  shl : b.sh.length = t
  sh : ∀ j q, b.sh[j]? = some q → bd (20 * Bb j + 32) q
structure LOk (m : Nat) (L : List Bs) : Prop where
  le : L.length ≤ 3
  ok : ∀ t b, L[t]? = some b → BOk m t b
theorem bl_zip {f : Rat → Rat → Rat} {c : Nat} {u v : List Rat} (h : ∀ x ∈ u, ∀ y ∈ v, bd c (f x y)) : bl c (List.zipWith f u v) := by
  intro q hq
  obtain ⟨i, hi, rfl⟩ := List.getElem_of_mem hq
  rw [List.getElem_zipWith]
  exact h _ (List.getElem_mem _) _ (List.getElem_mem _)
theorem wt_bl {a b : Nat} {u : List Rat} {w : Option (List Rat)} (h : bl a u) (hw : wbl b w) : bl (a + b) (wt u w) := by
  cases w with
  | none => exact h.mono (by omega)
  | some w => exact bl_zip fun x hx y hy => bd_mul (h x hx) (hw y hy)
theorem wt_len {u : List Rat} {w : Option (List Rat)} (hw : wlen u.length w) : (wt u w).length = u.length := by
  cases w with
  | none => rfl
  | some w => have hl : w.length = u.length := hw
              simp [wt, hl]
theorem less_len {u v : List Rat} {f : Rat} (h : v.length = u.length) : (lessR u f v).length = u.length := by
  unfold lessR; split
  · rfl
  · simp [h]
theorem less_bl {a b c : Nat} {u v : List Rat} {f : Rat} (hu : bl a u) (hv : bl b v) (hf : bd c f) : bl (a + (c + b) + 1) (lessR u f v) := by
  unfold lessR; split
  · exact hu.mono (by omega)
  · exact bl_zip fun x hx y hy => bd_sub (hu x hx) (bd_mul hf (hv y hy))
theorem step_bd {m t : Nat} {u : List Rat} {w : Option (List Rat)} {b : Bs} (hm : m ≤ 5) (ul : u.length = m) (hu : bl (Bb t) u) (hw : wbl 2 w) (hwl : wlen m w) (hb : BOk m t b) : bd (20 * Bb t + 32) (dotR (wt u w) b.ba / b.no) := by
  have h1 := dotR_bd5 (by rw [wt_len (by rw [ul]; exact hwl), ul]; exact hm) (wt_bl hu hw) hb.ba
  exact (bd_div h1 hb.no hb.nz).mono (by omega)
structure SOk (m t : Nat) (s : List Rat × List Rat) : Prop where
  len : s.1.length = m
  bits : bl (Bb t) s.1
  shl : s.2.length = t
  sh : ∀ j q, s.2[j]? = some q → bd (20 * Bb j + 32) q
theorem SOk.step {m t : Nat} {s : List Rat × List Rat} {w : Option (List Rat)} {b : Bs} (hm : m ≤ 5) (h : SOk m t s) (hw : wbl 2 w) (hwl : wlen m w) (hb : BOk m t b) : SOk m (t + 1) (rstep w s b) := by
  have h1 := step_bd hm h.len h.bits hw hwl hb
  refine ⟨?_, ?_, by simp [rstep, h.shl], fun j q hj => ?_⟩
  · show (lessR _ _ _).length = m
    rw [less_len (by rw [hb.len, h.len]), h.len]
  · exact (less_bl h.bits hb.ba h1).mono (by show _ ≤ 22 * Bb t + 33; omega)
  · simp only [rstep] at hj
    rw [List.getElem?_append] at hj
    split at hj
    · exact h.sh j q hj
    · have hlt := (List.getElem?_eq_some_iff.mp hj).1
      simp at hlt
      have : j = t := by have := h.shl; omega
      subst this
      rw [h.shl] at hj
      simp at hj
      subst hj; exact h1
theorem SOk.take {m : Nat} {L : List Bs} {base : List Rat} {w : Option (List Rat)} (hm : m ≤ 5) (hL : LOk m L) (hb : base.length = m) (hbl : bl 16 base) (hw : wbl 2 w) (hwl : wlen m w) : ∀ i, i ≤ L.length → SOk m i (redu w (L.take i) base)
  | 0, _ => ⟨hb, hbl, rfl, fun j q h => by simp [redu] at h⟩
  | i + 1, h => by
    rw [redu_take (List.getElem?_eq_getElem (by omega))]
    exact (SOk.take hm hL hb hbl hw hwl i (by omega)).step hm hw hwl (hL.ok _ _ (List.getElem?_eq_getElem (by omega)))
theorem SOk.all {m : Nat} {L : List Bs} {base : List Rat} {w : Option (List Rat)} (hm : m ≤ 5) (hL : LOk m L) (hb : base.length = m) (hbl : bl 16 base) (hw : wbl 2 w) (hwl : wlen m w) : SOk m L.length (redu w L base) := by
  have := SOk.take hm hL hb hbl hw hwl L.length (Nat.le_refl _)
  rwa [List.take_length] at this
theorem norm_bd {m t : Nat} {u : List Rat} {w : Option (List Rat)} (hm : m ≤ 5) (ul : u.length = m) (hu : bl (Bb t) u) (hw : wbl 2 w) (hwl : wlen m w) : bd (10 * Bb t + 16) (normR w u) :=
  (dotR_bd5 (by rw [wt_len (by rw [ul]; exact hwl), ul]; exact hm) (wt_bl hu hw) hu).mono (by omega)
theorem LOk.step {m p : Nat} {L : List Bs} {c : List Rat} {w : Option (List Rat)} (hm : m ≤ 5) (hL : LOk m L) (hlt : L.length < 3) (hb : c.length = m) (hbl : bl 16 c) (hw : wbl 2 w) (hwl : wlen m w) : LOk m (ostep w L p c) := by
  unfold ostep
  split
  · exact hL
  · rename_i h
    have S := SOk.all hm hL hb hbl hw hwl
    refine ⟨by simp; omega, fun t b hb => ?_⟩
    rw [List.getElem?_append] at hb
    split at hb
    · exact hL.ok t b hb
    · have hlt := (List.getElem?_eq_some_iff.mp hb).1
      simp at hlt
      have : t = L.length := by omega
      subst this
      simp at hb
      subst hb
      exact ⟨S.bits, S.len, norm_bd hm S.len S.bits hw hwl, h, S.shl, S.sh⟩
theorem ostep_len {p : Nat} {L : List Bs} {c : List Rat} {w : Option (List Rat)} : (ostep w L p c).length ≤ L.length + 1 := by
  unfold ostep; split
  · omega
  · simp
theorem orth_ok {m : Nat} {w : Option (List Rat)} {cs : List (List Rat)} (hm : m ≤ 5) (hw : wbl 2 w) (hwl : wlen m w) (hc : ∀ c ∈ cs, c.length = m ∧ bl 16 c) (h3 : cs.length ≤ 3) : ∀ i, i ≤ cs.length → LOk m (orthN w cs i) ∧ (orthN w cs i).length ≤ i
  | 0, _ => ⟨⟨by simp [orthN], fun t b h => by simp [orthN] at h⟩, by simp [orthN]⟩
  | i + 1, h => by
    obtain ⟨h1, h2⟩ := orth_ok hm hw hwl hc h3 i (by omega)
    have e : orthN w cs (i + 1) = ostep w (orthN w cs i) i cs[i] := by
      show (match cs[i]? with | some c => _ | none => _) = _
      rw [List.getElem?_eq_getElem (by omega)]
    have hci := hc cs[i] (List.getElem_mem _)
    rw [e]
    exact ⟨h1.step hm (by omega) hci.1 hci.2 hw hwl, Nat.le_trans ostep_len (by omega)⟩
-- part R4
section
open Builtin.Int (intBits)
section
variable {n : Nat} {own : Own} {ns : Ns} {ρ : Rho} {Q : V → Own → Prop}
noncomputable abbrev pivV (L : List Bs) : List V := L.map fun b => .int b.pv
noncomputable abbrev basV (L : List Bs) : List V := L.map fun b => cv b.ba
noncomputable abbrev norV (L : List Bs) : List V := L.map fun b => fr b.no
noncomputable abbrev shaV (L : List Bs) : List V := L.map fun b => cv b.sh
noncomputable abbrev orthO (L : List Bs) (st x d a4 a3 a2 a1 : Addr) (r : Int) (own : Own) : Own :=
  (st, .lst []) :: (x, .inst d (fitFs (.loc a1) (.loc a2) (.loc a3) (.loc a4) (.loc st) (.lst []) (.lst []) (.lst []) .none r 0)) :: (a4, .lst (shaV L)) :: (a3, .lst (norV L)) :: (a2, .lst (basV L)) :: (a1, .lst (pivV L)) :: own
theorem sub_lstN {l : List V} {k : Nat} {v : V} (h : Q v own) (hk : l[k]? = some v) (hl : l.length ≤ 400) : SUB n (.lst l) (.int (k : Int)) own Q :=
  sub_lst (idx_nat (List.getElem?_eq_some_iff.mp hk).1) hk (by omega) h
theorem sub_ownN {a : Addr} {l : List V} {k : Nat} {v : V} (h : Q v own) (ha : (a, AO.lst l) ∈ own) (hk : l[k]? = some v) (hl : l.length ≤ 400) : SUB n (.loc a) (.int (k : Int)) own Q :=
  sub_own ha (idx_nat (List.getElem?_eq_some_iff.mp hk).1) hk (by omega) h
theorem szL {l : List V} (h : l.length ≤ 400) : l.length ≤ sizeLine := by rw [sizeLine_eq]; omega
theorem map_get {α β : Type} {f : α → β} {l : List α} {i : Nat} {a : α} (h : l[i]? = some a) : (l.map f)[i]? = some (f a) := by rw [List.getElem?_map, h]; rfl
set_option maxHeartbeats 2000000 in
theorem c_orth (hn : 8 ≤ n) {cs : List (List Rat)} {w : Option (List Rat)} {m : Nat} (hm : m ≤ 5) (hc : ∀ c ∈ cs, c.length = m ∧ bl 16 c) (h3 : cs.length ≤ 3) (hw : wbl 2 w) (hwl : wlen m w)
    (h : ∀ x d st, Q (.loc x) ((st, .lst []) :: (x, .inst d (fitFs (.lst (pivV (orthN w cs cs.length))) (.lst (basV (orthN w cs cs.length))) (.lst (norV (orthN w cs cs.length))) (.lst (shaV (orthN w cs cs.length))) (.loc st) (.lst []) (.lst []) (.lst []) .none (orthN w cs cs.length).length 0)) :: own)) :
    CALL n 177 [.lst (cs.map cv), wv w] own Q := by
  obtain ⟨n, rfl⟩ : ∃ m, n = m + 2 := ⟨n - 2, by omega⟩
  refine call_def (names := ["columns", "weights"]) (fun w => rfl) (fun w => by kernel_rfl) (fun s vs' _ hl => binds2 (fun a b => rfl) hl) ?_
  repeat walk_at "aw"
  refine ev_listO ?_
  repeat walk_at "aw"
  intro a1
  repeat walk_at "aw"
  refine ev_listO ?_
  repeat walk_at "aw"
  intro a2
  repeat walk_at "aw"
  refine ev_listO ?_
  repeat walk_at "aw"
  intro a3
  repeat walk_at "aw"
  refine ev_listO ?_
  repeat walk_at "aw"
  intro a4
  repeat walk_at "aw"
  refine call_fit fun x d => c_init (by omega) (.tail _ (.tail _ (.tail _ (.head _)))) fun st => ⟨rfl, ?_⟩
  repeat walk_at "aw"
  refine ex_for_fun (rangeVs 0 1 cs.length) (fun i => [("found", .loc x), ("columns", .lst (cs.map cv)), ("weights", wv w)]) (fun i => orthO (orthN w cs i) st x d a4 a3 a2 a1 0 own) rfl ?_ ?_ ?_
  · repeat walk_at "aw"
    refine cb_len (by simp; omega) ?_
    rw [List.length_map]
    repeat walk_at "aw"
    exact ⟨items_range (by omega), ⟨rfl, rfl, rfl, trivial⟩, rfl⟩
  · intro i y hi
    obtain ⟨h1, rfl⟩ := rangeVs0_get hi
    have ec : cs[i]? = some cs[i] := List.getElem?_eq_getElem h1
    obtain ⟨hcl, hcb⟩ := hc cs[i] (List.getElem_mem _)
    have eL : orthN w cs (i + 1) = ostep w (orthN w cs i) i cs[i] := by
      show (match cs[i]? with | some c => _ | none => _) = _
      rw [ec]
    obtain ⟨hL, hLi⟩ := orth_ok hm hw hwl hc h3 i (by omega)
    have S := SOk.take hm hL hcl hcb hw hwl
    generalize cs[i] = c at ec hcl hcb eL S
    generalize orthN w cs i = L at hL hLi eL S
    rw [eL]
    have hle := hL.le
    repeat walk_at "aw"
    refine sub_lstN ?_ (map_get ec) (by simp; omega)
    repeat walk_at "aw"
    refine cb_list_frozen (szL (by simp; omega)) ?_
    repeat walk_at "aw"
    refine ev_listO ?_
    repeat walk_at "aw"
    intro sh
    repeat walk_at "aw"
    refine ex_for_fun (rangeVs 0 1 L.length) (fun j => [("base", cv (redu w (L.take j) c).1), ("share", .loc sh), ("found", .loc x), ("columns", .lst (cs.map cv)), ("weights", wv w), ("place", .int i)]) (fun j => (sh, .lst ((redu w (L.take j) c).2.map fr)) :: orthO L st x d a4 a3 a2 a1 0 own) rfl ?_ ?_ ?_
    · repeat walk_at "aw"
      refine ev_attr (ev_name rfl rfl ⟨x, d, _, _, rfl, .tail _ (.tail _ (.head _)), rfl, ?_⟩)
      repeat walk_at "aw"
      refine cb_len_own (l := basV L) (.tail _ (.tail _ (.tail _ (.tail _ (.tail _ (.head _)))))) (by simp; omega) ?_
      rw [List.length_map]
      repeat walk_at "aw"
      exact ⟨items_range (by omega), ⟨rfl, rfl, rfl, rfl, rfl, rfl, trivial⟩, rfl⟩
    · intro j y hj
      obtain ⟨h2, rfl⟩ := rangeVs0_get hj
      have eb : L[j]? = some L[j] := List.getElem?_eq_getElem h2
      have hb := hL.ok j _ eb
      have er := redu_take (w := w) (base := c) eb
      have Sj := S j (by omega)
      have B3 := Bb3 (show j ≤ 3 by omega)
      generalize L[j] = b at eb hb er
      generalize redu w (L.take j) c = r at er Sj
      have sb := step_bd hm Sj.len Sj.bits hw hwl hb
      have hlen : (wt r.1 w).length = m := by rw [wt_len (by rw [Sj.len]; exact hwl), Sj.len]
      repeat walk_at "aw"
      refine c_weighted (by omega) (by rw [Sj.len]; omega) (by rw [Sj.len]; exact hwl) Sj.bits hw (by omega) ?_
      repeat walk_at "aw"
      refine ev_attr (ev_name rfl rfl ⟨x, d, _, _, rfl, .tail _ (.tail _ (.head _)), rfl, ?_⟩)
      repeat walk_at "aw"
      refine sub_ownN (l := basV L) ?_ (.tail _ (.tail _ (.tail _ (.tail _ (.tail _ (.head _)))))) (map_get eb) (by simp; omega)
      repeat walk_at "aw"
      refine c_dot (by omega) (by rw [hlen]; exact hm) (by rw [hlen, hb.len]) (wt_bl Sj.bits hw) hb.ba (by omega) ?_
      repeat walk_at "aw"
      refine ev_attr (ev_name rfl rfl ⟨x, d, _, _, rfl, .tail _ (.tail _ (.head _)), rfl, ?_⟩)
      repeat walk_at "aw"
      refine sub_ownN (l := norV L) ?_ (.tail _ (.tail _ (.tail _ (.tail _ (.head _))))) (map_get eb) (by simp; omega)
      repeat walk_at "aw"
      refine c_div (by omega) (dotR_bd5 (by rw [hlen]; exact hm) (wt_bl Sj.bits hw) hb.ba) hb.no (by omega) hb.nz ?_
      repeat walk_at "aw"
      refine ex_append (ev_name rfl rfl ⟨sh, rfl, ⟨_, .head _⟩, ev_name rfl rfl ⟨_, _, .head, szL (by have := Sj.shl; simp; omega), ?_⟩⟩)
      repeat walk_at "aw"
      refine ev_attr (ev_name rfl rfl ⟨x, d, _, _, rfl, .tail _ (.tail _ (.head _)), rfl, ?_⟩)
      repeat walk_at "aw"
      refine sub_ownN (l := basV L) ?_ (.tail _ (.tail _ (.tail _ (.tail _ (.tail _ (.head _)))))) (map_get eb) (by simp; omega)
      repeat walk_at "aw"
      refine c_less (by omega) (by rw [Sj.len]; exact hm) (by rw [hb.len, Sj.len]) Sj.bits hb.ba sb (by omega) ?_
      repeat walk_at "aw"
      refine ⟨rfl, ⟨?_, rfl, rfl, rfl, rfl, rfl, trivial⟩, ?_⟩
      · rw [er]; rfl
      · rw [er]; simp [rstep]
    · intro ρ₁ hs
      rw [rangeVs_length, List.take_length] at hs ⊢
      refine exs_sub hs ?_
      have Sl := SOk.all hm hL hcl hcb hw hwl
      have B3 := Bb3 (show L.length ≤ 3 by omega)
      have hos : ostep w L i c = if normR w (redu w L c).1 = 0 then L else L ++ [⟨i, (redu w L c).1, normR w (redu w L c).1, (redu w L c).2⟩] := rfl
      generalize redu w L c = r at Sl hos
      have hlen : (wt r.1 w).length = m := by rw [wt_len (by rw [Sl.len]; exact hwl), Sl.len]
      refine exs_freeze (x := "share") rfl .head ?_
      repeat walk_at "aw"
      refine c_weighted (by omega) (by rw [Sl.len]; omega) (by rw [Sl.len]; exact hwl) Sl.bits hw (by omega) ?_
      repeat walk_at "aw"
      refine c_dot (by omega) (by rw [hlen]; exact hm) (by rw [hlen, Sl.len]) (wt_bl Sl.bits hw) Sl.bits (by omega) ?_
      repeat walk_at "aw"
      change Br ((normR w r.1).num != 0) _ _
      rw [bool_ne]
      by_cases hz : normR w r.1 = 0
      · rw [if_pos hz] at hos
        rw [hos]
        refine br_f (by simp [hz]) (exs_nil (exs_nil ⟨rfl, ⟨rfl, rfl, rfl, trivial⟩, rfl⟩))
      · rw [if_neg hz] at hos
        rw [hos]
        refine br_t (by simp [hz]) ?_
        refine exs_cons (ex_append (ev_attr (ev_name rfl rfl ⟨x, d, _, _, rfl, .tail _ (.head _), rfl, a1, rfl, ⟨_, .tail _ (.tail _ (.tail _ (.tail _ (.tail _ (.head _)))))⟩, ev_name rfl rfl ⟨_, _, .tail (.tail (.tail (.tail (.tail .head)))), szL (by simp; omega), ?_⟩⟩)))
        refine exs_cons (ex_append (ev_attr (ev_name rfl rfl ⟨x, d, _, _, rfl, .tail _ (.head _), rfl, a2, rfl, ⟨_, .tail _ (.tail _ (.tail _ (.tail _ (.head _))))⟩, ev_name rfl rfl ⟨_, _, .tail (.tail (.tail (.tail .head))), szL (by simp; omega), ?_⟩⟩)))
        refine exs_cons (ex_append (ev_attr (ev_name rfl rfl ⟨x, d, _, _, rfl, .tail _ (.head _), rfl, a3, rfl, ⟨_, .tail _ (.tail _ (.tail _ (.head _)))⟩, ev_name rfl rfl ⟨_, _, .tail (.tail (.tail .head)), szL (by simp; omega), ?_⟩⟩)))
        refine exs_cons (ex_append (ev_attr (ev_name rfl rfl ⟨x, d, _, _, rfl, .tail _ (.head _), rfl, a4, rfl, ⟨_, .tail _ (.tail _ (.head _))⟩, ev_name rfl rfl ⟨_, _, .tail (.tail .head), szL (by simp; omega), ?_⟩⟩)))
        refine exs_nil (exs_nil ⟨rfl, ⟨rfl, rfl, rfl, trivial⟩, ?_⟩)
        simp only [orthO, List.map_append]; rfl
  · intro ρ₁ hs
    rw [rangeVs_length]
    obtain ⟨hL, _⟩ := orth_ok hm hw hwl hc h3 cs.length (Nat.le_refl _)
    generalize orthN w cs cs.length = L at h hL
    have hle := hL.le
    refine exs_sub hs ?_
    repeat walk_at "aw"
    refine ev_attr (ev_name rfl rfl ⟨x, d, _, _, rfl, .tail _ (.head _), rfl, ?_⟩)
    repeat walk_at "aw"
    refine cb_len_own (l := pivV L) (.tail _ (.tail _ (.tail _ (.tail _ (.tail _ (.head _)))))) (by simp; omega) ?_
    rw [List.length_map]
    refine asg_attr (ev_name rfl rfl ⟨x, d, _, _, rfl, .tail .head, Nat.le_of_ble_eq_true rfl, ?_⟩)
    refine exs_freezeF "pivots" (x := x) (d := d) (a := a1) rfl (.tail (.tail (.tail (.tail (.tail .head))))) (.tail .head) ?_
    refine exs_freezeF "bases" (x := x) (d := d) (a := a2) rfl (.tail (.tail (.tail (.tail .head)))) (.tail .head) ?_
    refine exs_freezeF "norms" (x := x) (d := d) (a := a3) rfl (.tail (.tail (.tail .head))) (.tail .head) ?_
    refine exs_freezeF "shares" (x := x) (d := d) (a := a4) rfl (.tail (.tail .head)) (.tail .head) ?_
    repeat walk_at "aw"
    exact h x d st
end
end
-- part R5
section
open Builtin.Int (intBits)
noncomputable def shq (b : Bs) (k : Nat) : Rat := b.sh[k]?.getD 0
-- the coefficients of the columns from those of the bases
noncomputable def backR : List Bs → List Rat → List Rat
  | [_, b1], [s0, s1] => [s0 - shq b1 0 * s1, s1]
  | [_, b1, b2], [s0, s1, s2] => [s0 - shq b1 0 * (s1 - shq b2 1 * s2) - shq b2 0 * s2, s1 - shq b2 1 * s2, s2]
  | _, s => s
noncomputable def usedN (k : Nat) : Option (List Rat) → Nat
  | none => k
  | some w => (w.filter fun q => q ≠ 0).length
noncomputable def optV : Option Rat → V
  | none => .none
  | some q => fr q
noncomputable def combN (cs : List (List Rat)) (co : List (Option Rat)) (m : Nat) : Nat → List Rat
  | 0 => List.replicate m 0
  | i + 1 => match cs[i]?, co[i]? with
    | some c, some (some f) => List.zipWith (fun t q => t + f * q) (combN cs co m i) c
    | _, _ => combN cs co m i
section
variable {n : Nat} {own : Own} {ns : Ns} {ρ : Rho} {Q : V → Own → Prop}
theorem c_used (hn : 1 ≤ n) {k : Nat} {w : Option (List Rat)} (hk : k ≤ 400) (hw : wlen k w) (h : Q (.int (usedN k w)) own) : CALL n 189 [.int k, wv w] own Q := by
  obtain ⟨n, rfl⟩ : ∃ m, n = m + 1 := ⟨n - 1, by omega⟩
  refine call_def (names := ["count", "weights"]) (fun w => rfl) (fun w => by kernel_rfl) (fun s vs' _ hl => binds2 (fun a b => rfl) hl) ?_
  repeat walk_at "aw"
  cases w with
  | none =>
    refine br_T ?_
    repeat walk_at "aw"
    exact h
  | some w =>
    refine br_F ?_
    repeat walk_at "aw"
    have hl : w.length = k := hw
    refine ev_comp (fun i acc o => acc = ((w.take i).filter fun q => q ≠ 0).map fr ∧ o = own) ⟨rfl, rfl, by decide⟩ ?_
    repeat walk_at "aw"
    refine ⟨w.map fr, rfl, by simp; omega, ⟨rfl, rfl⟩, ?_, ?_⟩
    · rintro i v acc o₁ hi ⟨rfl, rfl⟩
      rw [List.getElem?_map] at hi
      obtain ⟨q, hq, rfl⟩ : ∃ q, w[i]? = some q ∧ v = fr q := by
        cases hq : w[i]? with
        | none => rw [hq] at hi; cases hi
        | some q => rw [hq] at hi; cases hi; exact ⟨q, rfl, rfl⟩
      have et : w.take (i + 1) = w.take i ++ [q] := by
        obtain ⟨h1, rfl⟩ := List.getElem?_eq_some_iff.mp hq
        rw [List.take_succ_eq_append_getElem h1]
      refine tests_one ?_
      repeat walk_at "aw"
      rw [bool_ne, et, List.filter_append, List.map_append]
      by_cases hz : q = 0
      · simp [hz]
      · rw [if_pos (by simp [hz])]
        repeat walk_at "aw"
        simp [hz]
    · rintro acc o₁ ⟨rfl, rfl⟩
      rw [List.length_map, List.take_length]
      refine evl_nil (cb_len (by have := List.length_filter_le (fun q : Rat => decide (q ≠ 0)) w; simp at this ⊢; omega) ?_)
      repeat walk_at "aw"
      rw [List.length_map]
      exact h
theorem combN_len {cs : List (List Rat)} {co : List (Option Rat)} {m : Nat} (hc : ∀ c ∈ cs, c.length = m) : ∀ i, (combN cs co m i).length = m
  | 0 => by simp [combN]
  | i + 1 => by
    have ih := combN_len (co := co) hc i
    unfold combN
    split
    · rename_i c f e1 e2
      have := hc c (List.mem_of_getElem? e1)
      simp [ih, this]
    · exact ih
theorem combN_bl {cs : List (List Rat)} {co : List (Option Rat)} {m cf : Nat} (hc : ∀ c ∈ cs, bl 16 c) (hf : ∀ f, some f ∈ co → bd cf f) : ∀ i, bl (1 + i * (cf + 17)) (combN cs co m i)
  | 0 => by
    intro q hq
    simp [combN] at hq
    rw [hq.2]; exact bd0.mono (by omega)
  | i + 1 => by
    have ih := combN_bl (m := m) hc hf i
    rw [Nat.succ_mul]
    unfold combN
    split
    · rename_i c f e1 e2
      have h1 := hc c (List.mem_of_getElem? e1)
      have h2 := hf f (List.mem_of_getElem? e2)
      exact bl_zip fun x hx y hy => (bd_add (ih x hx) (bd_mul h2 (h1 y hy))).mono (by omega)
    · exact ih.mono (by omega)
theorem optV_none {o : Option Rat} : (!(optV o).isNone) = o.isSome := by cases o <;> rfl
theorem c_combine (hn : 5 ≤ n) {cs : List (List Rat)} {co : List (Option Rat)} {m : Nat} (hm : m ≤ 5) (h3 : cs.length ≤ 3) (hco : co.length = cs.length) (hc : ∀ c ∈ cs, c.length = m ∧ bl 16 c) (hf : ∀ f, some f ∈ co → bd 2000000 f)
    (h : Q (cv (combN cs co m cs.length)) own) : CALL n 194 [.lst (cs.map cv), .lst (co.map optV), .int m] own Q := by
  obtain ⟨n, rfl⟩ : ∃ m, n = m + 1 := ⟨n - 1, by omega⟩
  refine call_def (names := ["columns", "coefficients", "count"]) (fun w => rfl) (fun w => by kernel_rfl) (fun s vs' _ hl => binds3 (fun a b c => rfl) hl) ?_
  repeat walk_at "aw"
  refine ev_listF (evl_cons (ev_gtup (fun w => rfl) (fun w => rfl) rfl ?_))
  repeat walk_at "aw"
  refine bin_mul_lst (by omega) (by omega) ?_
  repeat walk_at "aw"
  have e0 : V.lst (List.replicate (m : Int).toNat (V.tup [.int 0, .int 1])) = cv (combN cs co m 0) := by
    simp only [combN, cv, List.map_replicate]; rfl
  rw [e0]
  refine ex_for_fun (rangeVs 0 1 cs.length) (fun i => [("total", cv (combN cs co m i)), ("columns", .lst (cs.map cv)), ("coefficients", .lst (co.map optV)), ("count", .int m)]) (fun _ => own) rfl ?_ ?_ ?_
  · repeat walk_at "aw"
    refine cb_len (by simp; omega) ?_
    rw [List.length_map]
    repeat walk_at "aw"
    exact ⟨items_range (by omega), ⟨rfl, rfl, rfl, rfl, trivial⟩, rfl⟩
  · intro i y hi
    obtain ⟨h1, rfl⟩ := rangeVs0_get hi
    have ec : cs[i]? = some cs[i] := List.getElem?_eq_getElem h1
    have eo : co[i]? = some co[i] := List.getElem?_eq_getElem (by omega)
    obtain ⟨hcl, hcb⟩ := hc cs[i] (List.getElem_mem _)
    have hfo : ∀ f, co[i] = some f → bd 2000000 f := fun f e => hf f (e ▸ List.getElem_mem _)
    have en : combN cs co m (i + 1) = match co[i] with | some f => List.zipWith (fun t q => t + f * q) (combN cs co m i) cs[i] | none => combN cs co m i := by
      show (match cs[i]?, co[i]? with | some c, some (some f) => _ | _, _ => _) = _
      rw [ec, eo]; cases co[i] <;> rfl
    have tl := combN_len (co := co) (fun c h => (hc c h).1) i
    have tb := (combN_bl (m := m) (fun c h => (hc c h).2) hf i).mono (show _ ≤ 6000100 by
      have : i * (2000000 + 17) ≤ 2 * (2000000 + 17) := Nat.mul_le_mul_right _ (by omega)
      omega)
    rw [en]
    generalize cs[i] = c at ec hcl hcb
    generalize co[i] = f at eo hfo
    generalize combN cs co m i = t at tl tb
    repeat walk_at "aw"
    refine sub_lstN ?_ (map_get eo) (by simp; omega)
    repeat walk_at "aw"
    rw [optV_none]
    cases f with
    | none => exact br_F (exs_nil (exs_nil ⟨rfl, ⟨rfl, rfl, rfl, rfl, trivial⟩, rfl⟩))
    | some f =>
      have bf := hfo f rfl
      refine br_T (exs_cons (ex_comp_map ((List.zipWith (fun t q => t + f * q) t c).map fr) ⟨rfl, rfl, by decide⟩ ?_))
      repeat walk_at "aw"
      refine gen_range (by omega) (by simp [tl, hcl]) ?_ fun k y hk hy => ?_
      · repeat walk_at "aw"
        exact ⟨rfl, ⟨rfl, rfl, rfl, rfl, trivial⟩, rfl⟩
      · obtain ⟨p, q, h1, h2, rfl, h3, h4⟩ := zip_get (by rw [hcl, tl]) (by rw [tl]; exact hk) hy
        repeat walk_at "aw"
        refine sub_cv ?_ h1 (by omega)
        repeat walk_at "aw"
        refine sub_lstN ?_ (map_get ec) (by simp; omega)
        repeat walk_at "aw"
        refine sub_cv ?_ h2 (by omega)
        repeat walk_at "aw"
        refine c_mul (by omega) bf (hcb _ h4) (by omega) ?_
        repeat walk_at "aw"
        refine c_add (by omega) (tb _ h3) (bd_mul bf (hcb _ h4)) (by omega) ⟨rfl, rfl⟩
  · intro ρ₁ hs
    rw [rangeVs_length] at hs
    refine exs_sub hs ?_
    repeat walk_at "aw"
    exact h
theorem c_predicted (hn : 6 ≤ n) {x d : Addr} {fs : List (Str × V)} {cs : List (List Rat)} {co : List (Option Rat)} {m : Nat} (hx : (x, AO.inst d fs) ∈ own) (hfs : fs.lookup ("coefficients" : Str) = some (V.lst (co.map optV))) (hm : m ≤ 5) (h3 : cs.length ≤ 3) (hco : co.length = cs.length) (hc : ∀ c ∈ cs, c.length = m ∧ bl 16 c) (hf : ∀ f, some f ∈ co → bd 2000000 f)
    (h : Q (cv (combN cs co m cs.length)) own) : CALL n 228 [.loc x, .lst (cs.map cv), .int m] own Q := by
  obtain ⟨n, rfl⟩ : ∃ m, n = m + 1 := ⟨n - 1, by omega⟩
  refine call_def (names := ["found", "columns", "count"]) (fun w => rfl) (fun w => by kernel_rfl) (fun s vs' _ hl => binds3 (fun a b c => rfl) hl) ?_
  repeat walk_at "aw"
  refine ev_attr (ev_name rfl rfl ⟨x, d, _, _, rfl, hx, hfs, ?_⟩)
  repeat walk_at "aw"
  exact c_combine (by omega) hm h3 hco hc hf h
theorem c_rss (hn : 5 ≤ n) {x d : Addr} {fs : List (Str × V)} {u : List Rat} {w : Option (List Rat)} (hx : (x, AO.inst d fs) ∈ own) (h1 : fs.lookup ("residuals" : Str) = some (cv u)) (h2 : fs.lookup ("weights" : Str) = some (wv w)) (hu : u.length ≤ 5) (hb : bl 200000 u) (hw : wbl 2 w) (hwl : wlen u.length w)
    (h : Q (fr (normR w u)) own) : CALL n 207 [.loc x] own Q := by
  obtain ⟨n, rfl⟩ : ∃ m, n = m + 1 := ⟨n - 1, by omega⟩
  refine call_def (names := ["found"]) (fun w => rfl) (fun w => by kernel_rfl) (fun s vs' _ hl => binds1 (fun a => rfl) hl) ?_
  repeat walk_at "aw"
  refine ev_attr (ev_name rfl rfl ⟨x, d, _, _, rfl, hx, h1, ?_⟩)
  repeat walk_at "aw"
  refine ev_attr (ev_name rfl rfl ⟨x, d, _, _, rfl, hx, h2, ?_⟩)
  repeat walk_at "aw"
  refine c_weighted (by omega) (by omega) hwl hb hw (by omega) ?_
  repeat walk_at "aw"
  refine ev_attr (ev_name rfl rfl ⟨x, d, _, _, rfl, hx, h1, ?_⟩)
  repeat walk_at "aw"
  exact c_dot (by omega) (by rw [wt_len hwl]; exact hu) (by rw [wt_len hwl]) (wt_bl hb hw) hb (by omega) h
end
end
-- part R6
section
open Builtin.Int (intBits)
structure Row where
  te : Int
  co : Int
  sq : Rat
noncomputable def rowV (r : Row) : V := .tup [.int r.te, .int r.co, fr r.sq]
noncomputable def astep (rows : List Row) (t : Int) (q : Rat) : List Row :=
  match rows.getLast? with
  | some r => if r.te = t then rows.dropLast ++ [⟨t, r.co + 1, r.sq + q⟩] else rows ++ [⟨t, 1, q⟩]
  | none => rows ++ [⟨t, 1, q⟩]
noncomputable def anovaN (L : List Bs) (ss : List Rat) (ow : List Int) : Nat → List Row
  | 0 => []
  | k + 1 => match L[k]?, ss[k]? with
    | some b, some s => astep (anovaN L ss ow k) (ow[b.pv]?.getD 0) (s * s * b.no)
    | _, _ => anovaN L ss ow k
section
variable {n : Nat} {own : Own} {ns : Ns} {ρ : Rho} {Q : V → Own → Prop}
theorem c_square (hn : 4 ≤ n) {x d : Addr} {fs : List (Str × V)} {L : List Bs} {ss : List Rat} {k : Nat} {b : Bs} {s : Rat} (hx : (x, AO.inst d fs) ∈ own) (h1 : fs.lookup ("steps" : Str) = some (V.lst (ss.map fr))) (h2 : fs.lookup ("norms" : Str) = some (V.lst (norV L)))
    (hb : L[k]? = some b) (hs : ss[k]? = some s) (hl : L.length ≤ 3) (hsl : ss.length = L.length) (bs : bd 200000 s) (bb : bd 200000 b.no)
    (h : Q (fr (s * s * b.no)) own) : CALL n 214 [.loc x, .int k] own Q := by
  obtain ⟨n, rfl⟩ : ∃ m, n = m + 1 := ⟨n - 1, by omega⟩
  refine call_def (names := ["found", "k"]) (fun w => rfl) (fun w => by kernel_rfl) (fun s vs' _ hl => binds2 (fun a b => rfl) hl) ?_
  repeat walk_at "aw"
  refine ev_attr (ev_name rfl rfl ⟨x, d, _, _, rfl, hx, h1, ?_⟩)
  repeat walk_at "aw"
  refine sub_lstN ?_ (map_get hs) (by simp; omega)
  repeat walk_at "aw"
  refine ev_attr (ev_name rfl rfl ⟨x, d, _, _, rfl, hx, h1, ?_⟩)
  repeat walk_at "aw"
  refine sub_lstN ?_ (map_get hs) (by simp; omega)
  repeat walk_at "aw"
  refine c_mul (by omega) bs bs (by omega) ?_
  repeat walk_at "aw"
  refine ev_attr (ev_name rfl rfl ⟨x, d, _, _, rfl, hx, h2, ?_⟩)
  repeat walk_at "aw"
  refine sub_lstN ?_ (map_get hb) (by simp; omega)
  repeat walk_at "aw"
  exact c_mul (by omega) (bd_mul bs bs) bb (by omega) h
theorem astep_bd {c e : Nat} {rows : List Row} {t : Int} {q : Rat} (hr : ∀ r ∈ rows, bd c r.sq) (hq : bd e q) : ∀ r ∈ astep rows t q, bd (c + e + 1) r.sq := by
  intro r hr'
  unfold astep at hr'
  split at hr'
  · rename_i r0 e0
    split at hr'
    · rcases List.mem_append.mp hr' with h | h
      · exact (hr r (List.dropLast_subset _ h)).mono (by omega)
      · simp at h; subst h; exact bd_add (hr r0 (List.mem_of_getLast? e0)) hq
    · rcases List.mem_append.mp hr' with h | h
      · exact (hr r h).mono (by omega)
      · simp at h; subst h; exact hq.mono (by omega)
  · rcases List.mem_append.mp hr' with h | h
    · exact (hr r h).mono (by omega)
    · simp at h; subst h; exact hq.mono (by omega)
theorem astep_len {rows : List Row} {t : Int} {q : Rat} : (astep rows t q).length ≤ rows.length + 1 := by
  unfold astep
  split
  · split
    · simp <;> omega
    · simp
  · simp
theorem anova_ok {L : List Bs} {ss : List Rat} {ow : List Int} (hs : ∀ s ∈ ss, bd 200000 s) (hb : ∀ b ∈ L, bd 200000 b.no) : ∀ k, (∀ r ∈ anovaN L ss ow k, bd (k * 600001) r.sq) ∧ (anovaN L ss ow k).length ≤ k
  | 0 => ⟨by simp [anovaN], by simp [anovaN]⟩
  | k + 1 => by
    obtain ⟨h1, h2⟩ := anova_ok (ow := ow) hs hb k
    rw [Nat.succ_mul]
    unfold anovaN
    split
    · rename_i b s e1 e2
      have b1 := hb b (List.mem_of_getElem? e1)
      have b2 := hs s (List.mem_of_getElem? e2)
      exact ⟨fun r hr => (astep_bd h1 (bd_mul (bd_mul b2 b2) b1) r hr).mono (by omega), Nat.le_trans astep_len (by omega)⟩
    · exact ⟨fun r hr => (h1 r hr).mono (by omega), by omega⟩
theorem sub_row0 {r : Row} (h : Q (.int r.te) own) : SUB n (rowV r) (.int 0) own Q := sub_tup (l := [.int r.te, .int r.co, fr r.sq]) (j := 0) rfl rfl (by show 3 < 2 ^ 63; decide) h
theorem sub_row1 {r : Row} (h : Q (.int r.co) own) : SUB n (rowV r) (.int 1) own Q := sub_tup (l := [.int r.te, .int r.co, fr r.sq]) (j := 1) rfl rfl (by show 3 < 2 ^ 63; decide) h
theorem sub_row2 {r : Row} (h : Q (fr r.sq) own) : SUB n (rowV r) (.int 2) own Q := sub_tup (l := [.int r.te, .int r.co, fr r.sq]) (j := 2) rfl rfl (by show 3 < 2 ^ 63; decide) h
theorem idx_last {k : Nat} (h : 0 < k) : idx (-1) k = some (k - 1) := by
  unfold idx
  rw [if_neg (by omega), if_pos (by omega)]
  congr 1; omega
theorem set_last {α : Type} {l : List α} {v : α} (h : l ≠ []) : l.set (l.length - 1) v = l.dropLast ++ [v] := by
  obtain ⟨l', a, rfl⟩ : ∃ l' a, l = l' ++ [a] := ⟨l.dropLast, l.getLast h, (List.dropLast_concat_getLast h).symm⟩
  simp
set_option maxHeartbeats 2000000 in
theorem c_anova (hn : 6 ≤ n) {x d : Addr} {fs : List (Str × V)} {L : List Bs} {ss : List Rat} {ow : List Int} (hx : (x, AO.inst d fs) ∈ own) (h1 : fs.lookup ("steps" : Str) = some (V.lst (ss.map fr))) (h2 : fs.lookup ("norms" : Str) = some (V.lst (norV L)))
    (h3 : fs.lookup ("rank" : Str) = some (V.int L.length)) (h4 : fs.lookup ("pivots" : Str) = some (V.lst (pivV L)))
    (hl : L.length ≤ 3) (hsl : ss.length = L.length) (bs : ∀ s ∈ ss, bd 200000 s) (bb : ∀ b ∈ L, bd 200000 b.no) (hp : ∀ b ∈ L, b.pv < ow.length) (how : ow.length ≤ 3)
    (h : Q (.lst ((anovaN L ss ow L.length).map rowV)) own) : CALL n 221 [.loc x, .lst (ow.map .int)] own Q := by
  obtain ⟨n, rfl⟩ : ∃ m, n = m + 1 := ⟨n - 1, by omega⟩
  refine call_def (names := ["found", "assign"]) (fun w => rfl) (fun w => by kernel_rfl) (fun s vs' _ hl => binds2 (fun a b => rfl) hl) ?_
  repeat walk_at "aw"
  refine ev_listO ?_
  repeat walk_at "aw"
  intro ra
  repeat walk_at "aw"
  refine ex_for_fun (rangeVs 0 1 L.length) (fun i => [("rows", .loc ra), ("found", .loc x), ("assign", .lst (ow.map .int))]) (fun i => (ra, .lst ((anovaN L ss ow i).map rowV)) :: own) rfl ?_ ?_ ?_
  · repeat walk_at "aw"
    refine ev_attr (ev_name rfl rfl ⟨x, d, _, _, rfl, .tail _ hx, h3, ?_⟩)
    repeat walk_at "aw"
    exact ⟨items_range (by omega), ⟨rfl, rfl, rfl, trivial⟩, rfl⟩
  · intro k y hk
    obtain ⟨hlt, rfl⟩ := rangeVs0_get hk
    have eb : L[k]? = some L[k] := List.getElem?_eq_getElem hlt
    have es : ss[k]? = some ss[k] := List.getElem?_eq_getElem (by omega)
    have bb' := bb _ (List.getElem_mem hlt)
    have pv' := hp _ (List.getElem_mem hlt)
    have bs' := bs _ (List.getElem_mem (show k < ss.length by omega))
    have en : anovaN L ss ow (k + 1) = astep (anovaN L ss ow k) (ow[L[k].pv]?.getD 0) (ss[k] * ss[k] * L[k].no) := by
      show (match L[k]?, ss[k]? with | some b, some s => _ | _, _ => _) = _
      rw [eb, es]
    obtain ⟨a1, a2⟩ := anova_ok (ow := ow) bs bb k
    rw [en]
    generalize L[k] = b at eb bb' pv'
    generalize ss[k] = s at es bs'
    generalize anovaN L ss ow k = rows at a1 a2
    have eo : ow[b.pv]? = some ow[b.pv] := List.getElem?_eq_getElem pv'
    rw [eo]
    show EXS _ _ _ _ _ fun f ρ₂ o₂ => f = MF.next ∧ _ ∧ o₂ = (ra, AO.lst ((astep rows ow[b.pv] _).map rowV)) :: own
    generalize ow[b.pv] = t at eo
    repeat walk_at "aw"
    refine ev_attr (ev_name rfl rfl ⟨x, d, _, _, rfl, .tail _ hx, h4, ?_⟩)
    repeat walk_at "aw"
    refine sub_lstN ?_ (map_get eb) (by simp; omega)
    refine sub_lstN ?_ (map_get eo) (by simp; omega)
    repeat walk_at "aw"
    refine c_square (by omega) (.tail _ hx) h1 h2 eb es hl hsl bs' bb' ?_
    repeat walk_at "aw"
    refine cb_len_own (l := rows.map rowV) (.head _) (by simp; omega) ?_
    rw [List.length_map]
    repeat walk_at "aw"
    have bq : bd 600000 (s * s * b.no) := bd_mul (bd_mul bs' bs') bb'
    generalize s * s * b.no = q at bq
    have fin : ∀ rs, rs = astep rows t q → ∀ own', own' = (ra, AO.lst (rs.map rowV)) :: own → own' = (ra, AO.lst ((astep rows t q).map rowV)) :: own := fun rs e o e' => by rw [e', e]
    by_cases he : rows = []
    · subst he
      refine br_F (br_F ?_)
      refine exs_cons (ex_append (ev_name rfl rfl ⟨ra, rfl, ⟨_, .head _⟩, ?_⟩))
      repeat walk_at "aw"
      exact ⟨_, _, .head, szL (by simp), exs_nil (exs_nil ⟨rfl, ⟨rfl, rfl, rfl, trivial⟩, rfl⟩)⟩
    · have hpos : 0 < rows.length := List.length_pos_iff.mpr he
      refine br_t (by simp; omega) ?_
      have el : rows.getLast? = some (rows.getLast he) := List.getLast?_eq_some_getLast he
      have ei : (rows.map rowV)[rows.length - 1]? = some (rowV (rows.getLast he)) := by
        rw [List.getElem?_map, ← List.getLast?_eq_getElem?, el]; rfl
      have bl' := a1 _ (List.getLast_mem he)
      have as' : astep rows t q = if (rows.getLast he).te = t then rows.dropLast ++ [⟨t, (rows.getLast he).co + 1, (rows.getLast he).sq + q⟩] else rows ++ [⟨t, 1, q⟩] := by
        unfold astep; rw [el]
      generalize rows.getLast he = r at ei bl' as'
      have lst : ∀ {P : V → Own → Prop}, P (rowV r) ((ra, AO.lst (rows.map rowV)) :: own) → SUB n (.loc ra) (.int (-1)) ((ra, AO.lst (rows.map rowV)) :: own) P := fun hP =>
        sub_own (.head _) (j := rows.length - 1) (by rw [List.length_map]; exact idx_last hpos) ei (by simp; omega) hP
      repeat walk_at "aw"
      refine ev_neg ?_
      repeat walk_at "aw"
      refine ⟨_, rfl, lst ?_⟩
      repeat walk_at "aw"
      refine sub_row0 ?_
      repeat walk_at "aw"
      by_cases ht : r.te = t
      · rw [if_pos ht] at as'
        refine br_t (by simp [ht]) ?_
        repeat walk_at "aw"
        refine ev_neg ?_
        repeat walk_at "aw"
        refine ⟨_, rfl, lst ?_⟩
        repeat walk_at "aw"
        refine sub_row1 ?_
        repeat walk_at "aw"
        refine ev_neg ?_
        repeat walk_at "aw"
        refine ⟨_, rfl, lst ?_⟩
        repeat walk_at "aw"
        refine sub_row2 ?_
        repeat walk_at "aw"
        have hb3 : k * 600001 ≤ 1200002 := Nat.mul_le_mul_right 600001 (show k ≤ 2 by omega)
        refine c_add (by omega) (bl'.mono hb3) bq (by decide) ?_
        repeat walk_at "aw"
        refine asg_sub (ev_name rfl rfl ?_)
        refine ev_neg ?_
        repeat walk_at "aw"
        refine ⟨_, rfl, ra, _, rows.map rowV, rows.length - 1, _, rfl, rfl, .head, by rw [List.length_map]; exact idx_last hpos, by simp; omega, ?_⟩
        refine exs_nil (exs_nil ⟨rfl, ⟨rfl, rfl, rfl, trivial⟩, ?_⟩)
        rw [as']
        have := set_last (l := rows.map rowV) (v := rowV ⟨t, r.co + 1, r.sq + q⟩) (by simpa using he)
        rw [List.length_map] at this
        show (ra, AO.lst ((rows.map rowV).set (rows.length - 1) (rowV ⟨t, r.co + 1, r.sq + q⟩))) :: own = _
        rw [this, List.map_append, List.map_dropLast]; rfl
      · rw [if_neg ht] at as'
        refine br_f (by simp [ht]) ?_
        refine exs_cons (ex_append (ev_name rfl rfl ⟨ra, rfl, ⟨_, .head _⟩, ?_⟩))
        repeat walk_at "aw"
        refine ⟨_, _, .head, szL (by simp; omega), exs_nil (exs_nil ⟨rfl, ⟨rfl, rfl, rfl, trivial⟩, ?_⟩)⟩
        rw [as', List.map_append]; rfl
  · intro ρ₁ hs
    rw [rangeVs_length]
    refine exs_sub hs (exs_freeze (x := "rows") rfl .head ?_)
    repeat walk_at "aw"
    exact h
end
end
-- part R7
section
open Builtin.Int (intBits)
section
variable {n : Nat} {own : Own} {ns : Ns} {ρ : Rho} {Q : V → Own → Prop}
theorem shq_get {b : Bs} {k t : Nat} (h : b.sh.length = t) (hk : k < t) : b.sh[k]? = some (shq b k) := by
  unfold shq; rw [List.getElem?_eq_getElem (by omega)]; rfl
theorem shq_bd {m t : Nat} {b : Bs} {k : Nat} (h : BOk m t b) (ht : t < 3) (hk : k < t) : bd 200000 (shq b k) := by
  have := h.sh k _ (shq_get h.shl hk)
  have b3 := Bb_mono (show k ≤ 2 by omega)
  have e : Bb 2 = 8503 := rfl
  exact this.mono (by omega)
set_option maxHeartbeats 2000000 in
theorem c_back0 (hn : 5 ≤ n) {x d st : Addr} {fs : List (Str × V)} {m : Nat} (hx : (x, AO.inst d fs) ∈ own) (h1 : fs.lookup ("steps" : Str) = some (V.loc st)) (hst : (st, AO.lst (([] : List Rat).map fr)) ∈ own) (h2 : fs.lookup ("shares" : Str) = some (V.lst (shaV [])))
    (h3 : fs.lookup ("rank" : Str) = some (V.int 0))   (h : Q (cv (backR [] [])) own) : CALL n 184 [.loc x] own Q := by
  obtain ⟨n, rfl⟩ : ∃ m, n = m + 1 := ⟨n - 1, by omega⟩
  refine call_def (names := ["fitted"]) (fun w => rfl) (fun w => by kernel_rfl) (fun s vs' _ hl => binds1 (fun a => rfl) hl) ?_
  repeat walk_at "aw"
  refine ev_attr (ev_name rfl rfl ⟨x, d, _, _, rfl, hx, h1, ?_⟩)
  repeat walk_at "aw"
  refine cb_list_own_own hst (szL (by simp)) fun va => ?_
  repeat walk_at "aw"
  refine ex_for_list [] rfl ?_
  repeat walk_at "aw"
  refine ev_attr (ev_name rfl rfl ⟨x, d, _, _, rfl, .tail _ hx, h3, ?_⟩)
  repeat walk_at "aw"
  refine ev_neg ?_
  repeat walk_at "aw"
  refine ⟨_, rfl, ?_⟩
  refine evl_cons (ev_neg ?_)
  repeat walk_at "aw"
  refine ⟨_, rfl, ?_⟩
  repeat walk_at "aw"
  refine cb_range3 (by decide) ?_
  refine ⟨rfl, ?_⟩
  refine exs_freeze (x := "values") rfl .head ?_
  repeat walk_at "aw"
  exact h
set_option maxHeartbeats 2000000 in
theorem c_back1 (hn : 5 ≤ n) {x d st : Addr} {fs : List (Str × V)} {m : Nat} {b0 : Bs} {s0 : Rat} (hx : (x, AO.inst d fs) ∈ own) (h1 : fs.lookup ("steps" : Str) = some (V.loc st)) (hst : (st, AO.lst (([s0] : List Rat).map fr)) ∈ own) (h2 : fs.lookup ("shares" : Str) = some (V.lst (shaV [b0])))
    (h3 : fs.lookup ("rank" : Str) = some (V.int 1))  (bs0 : bd 200000 s0) (h : Q (cv (backR [b0] [s0])) own) : CALL n 184 [.loc x] own Q := by
  obtain ⟨n, rfl⟩ : ∃ m, n = m + 1 := ⟨n - 1, by omega⟩
  refine call_def (names := ["fitted"]) (fun w => rfl) (fun w => by kernel_rfl) (fun s vs' _ hl => binds1 (fun a => rfl) hl) ?_
  repeat walk_at "aw"
  refine ev_attr (ev_name rfl rfl ⟨x, d, _, _, rfl, hx, h1, ?_⟩)
  repeat walk_at "aw"
  refine cb_list_own_own hst (szL (by simp)) fun va => ?_
  repeat walk_at "aw"
  refine ex_for_list [.int 0] rfl ?_
  repeat walk_at "aw"
  refine ev_attr (ev_name rfl rfl ⟨x, d, _, _, rfl, .tail _ hx, h3, ?_⟩)
  repeat walk_at "aw"
  refine ev_neg ?_
  repeat walk_at "aw"
  refine ⟨_, rfl, ?_⟩
  refine evl_cons (ev_neg ?_)
  repeat walk_at "aw"
  refine ⟨_, rfl, ?_⟩
  repeat walk_at "aw"
  refine cb_range3 (by decide) ?_
  refine ⟨rfl, ?_⟩
  repeat walk_at "aw"
  refine ex_for_list [] rfl ?_
  repeat walk_at "aw"
  refine ev_attr (ev_name rfl rfl ⟨x, d, _, _, rfl, .tail _ hx, h3, ?_⟩)
  repeat walk_at "aw"
  refine ⟨rfl, ?_⟩
  refine exs_nil ⟨rfl, ?_⟩
  refine exs_freeze (x := "values") rfl .head ?_
  repeat walk_at "aw"
  exact h
set_option maxHeartbeats 2000000 in
theorem c_back2 (hn : 5 ≤ n) {x d st : Addr} {fs : List (Str × V)} {m : Nat} {b0 b1 : Bs} {s0 s1 : Rat} (hx : (x, AO.inst d fs) ∈ own) (h1 : fs.lookup ("steps" : Str) = some (V.loc st)) (hst : (st, AO.lst (([s0,s1] : List Rat).map fr)) ∈ own) (h2 : fs.lookup ("shares" : Str) = some (V.lst (shaV [b0,b1])))
    (h3 : fs.lookup ("rank" : Str) = some (V.int 2)) (hb1 : BOk m 1 b1) (bs0 : bd 200000 s0) (bs1 : bd 200000 s1) (h : Q (cv (backR [b0,b1] [s0,s1])) own) : CALL n 184 [.loc x] own Q := by
  obtain ⟨n, rfl⟩ : ∃ m, n = m + 1 := ⟨n - 1, by omega⟩
  refine call_def (names := ["fitted"]) (fun w => rfl) (fun w => by kernel_rfl) (fun s vs' _ hl => binds1 (fun a => rfl) hl) ?_
  repeat walk_at "aw"
  refine ev_attr (ev_name rfl rfl ⟨x, d, _, _, rfl, hx, h1, ?_⟩)
  repeat walk_at "aw"
  refine cb_list_own_own hst (szL (by simp)) fun va => ?_
  repeat walk_at "aw"
  refine ex_for_list [.int 1, .int 0] rfl ?_
  repeat walk_at "aw"
  refine ev_attr (ev_name rfl rfl ⟨x, d, _, _, rfl, .tail _ hx, h3, ?_⟩)
  repeat walk_at "aw"
  refine ev_neg ?_
  repeat walk_at "aw"
  refine ⟨_, rfl, ?_⟩
  refine evl_cons (ev_neg ?_)
  repeat walk_at "aw"
  refine ⟨_, rfl, ?_⟩
  repeat walk_at "aw"
  refine cb_range3 (by decide) ?_
  refine ⟨rfl, ?_⟩
  repeat walk_at "aw"
  refine ex_for_list [] rfl ?_
  repeat walk_at "aw"
  refine ev_attr (ev_name rfl rfl ⟨x, d, _, _, rfl, .tail _ hx, h3, ?_⟩)
  repeat walk_at "aw"
  refine ⟨rfl, ?_⟩
  refine exs_nil ⟨rfl, ?_⟩
  repeat walk_at "aw"
  refine ex_for_list [.int 1] rfl ?_
  repeat walk_at "aw"
  refine ev_attr (ev_name rfl rfl ⟨x, d, _, _, rfl, .tail _ hx, h3, ?_⟩)
  repeat walk_at "aw"
  refine ⟨rfl, ?_⟩
  repeat walk_at "aw"
  refine sub_ownN (k := 0) ?_ (.head _) rfl (by simp)
  repeat walk_at "aw"
  refine ev_attr (ev_name rfl rfl ⟨x, d, _, _, rfl, .tail _ hx, h2, ?_⟩)
  repeat walk_at "aw"
  refine sub_lstN (k := 1) ?_ rfl (by simp)
  repeat walk_at "aw"
  refine sub_cv (k := 0) ?_ (shq_get hb1.shl (by decide)) (by rw [hb1.shl]; decide)
  repeat walk_at "aw"
  refine sub_ownN (k := 1) ?_ (.head _) rfl (by simp)
  repeat walk_at "aw"
  refine c_mul (by omega) (shq_bd hb1 (by decide) (by decide)) bs1 (by decide) ?_
  repeat walk_at "aw"
  refine c_sub (by omega) bs0 (bd_mul (shq_bd hb1 (by decide) (by decide)) bs1) (by decide) ?_
  refine asg_sub (ev_name rfl rfl (ev_name rfl rfl ⟨va, _, _, 0, _, rfl, rfl, .head, rfl, by simp, ?_⟩))
  refine exs_nil ⟨rfl, ?_⟩
  refine exs_nil ⟨rfl, ?_⟩
  refine exs_freeze (x := "values") rfl .head ?_
  repeat walk_at "aw"
  exact h
set_option maxHeartbeats 2000000 in
theorem c_back3 (hn : 5 ≤ n) {x d st : Addr} {fs : List (Str × V)} {m : Nat} {b0 b1 b2 : Bs} {s0 s1 s2 : Rat} (hx : (x, AO.inst d fs) ∈ own) (h1 : fs.lookup ("steps" : Str) = some (V.loc st)) (hst : (st, AO.lst (([s0,s1,s2] : List Rat).map fr)) ∈ own) (h2 : fs.lookup ("shares" : Str) = some (V.lst (shaV [b0,b1,b2])))
    (h3 : fs.lookup ("rank" : Str) = some (V.int 3)) (hb1 : BOk m 1 b1) (hb2 : BOk m 2 b2) (bs0 : bd 200000 s0) (bs1 : bd 200000 s1) (bs2 : bd 200000 s2) (h : Q (cv (backR [b0,b1,b2] [s0,s1,s2])) own) : CALL n 184 [.loc x] own Q := by
  obtain ⟨n, rfl⟩ : ∃ m, n = m + 1 := ⟨n - 1, by omega⟩
  refine call_def (names := ["fitted"]) (fun w => rfl) (fun w => by kernel_rfl) (fun s vs' _ hl => binds1 (fun a => rfl) hl) ?_
  repeat walk_at "aw"
  refine ev_attr (ev_name rfl rfl ⟨x, d, _, _, rfl, hx, h1, ?_⟩)
  repeat walk_at "aw"
  refine cb_list_own_own hst (szL (by simp)) fun va => ?_
  repeat walk_at "aw"
  refine ex_for_list [.int 2, .int 1, .int 0] rfl ?_
  repeat walk_at "aw"
  refine ev_attr (ev_name rfl rfl ⟨x, d, _, _, rfl, .tail _ hx, h3, ?_⟩)
  repeat walk_at "aw"
  refine ev_neg ?_
  repeat walk_at "aw"
  refine ⟨_, rfl, ?_⟩
  refine evl_cons (ev_neg ?_)
  repeat walk_at "aw"
  refine ⟨_, rfl, ?_⟩
  repeat walk_at "aw"
  refine cb_range3 (by decide) ?_
  refine ⟨rfl, ?_⟩
  repeat walk_at "aw"
  refine ex_for_list [] rfl ?_
  repeat walk_at "aw"
  refine ev_attr (ev_name rfl rfl ⟨x, d, _, _, rfl, .tail _ hx, h3, ?_⟩)
  repeat walk_at "aw"
  refine ⟨rfl, ?_⟩
  refine exs_nil ⟨rfl, ?_⟩
  repeat walk_at "aw"
  refine ex_for_list [.int 2] rfl ?_
  repeat walk_at "aw"
  refine ev_attr (ev_name rfl rfl ⟨x, d, _, _, rfl, .tail _ hx, h3, ?_⟩)
  repeat walk_at "aw"
  refine ⟨rfl, ?_⟩
  repeat walk_at "aw"
  refine sub_ownN (k := 1) ?_ (.head _) rfl (by simp)
  repeat walk_at "aw"
  refine ev_attr (ev_name rfl rfl ⟨x, d, _, _, rfl, .tail _ hx, h2, ?_⟩)
  repeat walk_at "aw"
  refine sub_lstN (k := 2) ?_ rfl (by simp)
  repeat walk_at "aw"
  refine sub_cv (k := 1) ?_ (shq_get hb2.shl (by decide)) (by rw [hb2.shl]; decide)
  repeat walk_at "aw"
  refine sub_ownN (k := 2) ?_ (.head _) rfl (by simp)
  repeat walk_at "aw"
  refine c_mul (by omega) (shq_bd hb2 (by decide) (by decide)) bs2 (by decide) ?_
  repeat walk_at "aw"
  refine c_sub (by omega) bs1 (bd_mul (shq_bd hb2 (by decide) (by decide)) bs2) (by decide) ?_
  refine asg_sub (ev_name rfl rfl (ev_name rfl rfl ⟨va, _, _, 1, _, rfl, rfl, .head, rfl, by simp, ?_⟩))
  refine exs_nil ⟨rfl, ?_⟩
  refine exs_nil ⟨rfl, ?_⟩
  repeat walk_at "aw"
  refine ex_for_list [.int 1, .int 2] rfl ?_
  repeat walk_at "aw"
  refine ev_attr (ev_name rfl rfl ⟨x, d, _, _, rfl, .tail _ hx, h3, ?_⟩)
  repeat walk_at "aw"
  refine ⟨rfl, ?_⟩
  repeat walk_at "aw"
  refine sub_ownN (k := 0) ?_ (.head _) rfl (by simp)
  repeat walk_at "aw"
  refine ev_attr (ev_name rfl rfl ⟨x, d, _, _, rfl, .tail _ hx, h2, ?_⟩)
  repeat walk_at "aw"
  refine sub_lstN (k := 1) ?_ rfl (by simp)
  repeat walk_at "aw"
  refine sub_cv (k := 0) ?_ (shq_get hb1.shl (by decide)) (by rw [hb1.shl]; decide)
  repeat walk_at "aw"
  refine sub_ownN (k := 1) ?_ (.head _) rfl (by simp)
  repeat walk_at "aw"
  refine c_mul (by omega) (shq_bd hb1 (by decide) (by decide)) (bd_sub bs1 (bd_mul (shq_bd hb2 (by decide) (by decide)) bs2)) (by decide) ?_
  repeat walk_at "aw"
  refine c_sub (by omega) bs0 (bd_mul (shq_bd hb1 (by decide) (by decide)) (bd_sub bs1 (bd_mul (shq_bd hb2 (by decide) (by decide)) bs2))) (by decide) ?_
  refine asg_sub (ev_name rfl rfl (ev_name rfl rfl ⟨va, _, _, 0, _, rfl, rfl, .head, rfl, by simp, ?_⟩))
  refine exs_nil ⟨rfl, ?_⟩
  repeat walk_at "aw"
  refine sub_ownN (k := 0) ?_ (.head _) rfl (by simp)
  repeat walk_at "aw"
  refine ev_attr (ev_name rfl rfl ⟨x, d, _, _, rfl, .tail _ hx, h2, ?_⟩)
  repeat walk_at "aw"
  refine sub_lstN (k := 2) ?_ rfl (by simp)
  repeat walk_at "aw"
  refine sub_cv (k := 0) ?_ (shq_get hb2.shl (by decide)) (by rw [hb2.shl]; decide)
  repeat walk_at "aw"
  refine sub_ownN (k := 2) ?_ (.head _) rfl (by simp)
  repeat walk_at "aw"
  refine c_mul (by omega) (shq_bd hb2 (by decide) (by decide)) bs2 (by decide) ?_
  repeat walk_at "aw"
  refine c_sub (by omega) (bd_sub bs0 (bd_mul (shq_bd hb1 (by decide) (by decide)) (bd_sub bs1 (bd_mul (shq_bd hb2 (by decide) (by decide)) bs2)))) (bd_mul (shq_bd hb2 (by decide) (by decide)) bs2) (by decide) ?_
  refine asg_sub (ev_name rfl rfl (ev_name rfl rfl ⟨va, _, _, 0, _, rfl, rfl, .head, rfl, by simp, ?_⟩))
  refine exs_nil ⟨rfl, ?_⟩
  refine exs_nil ⟨rfl, ?_⟩
  refine exs_freeze (x := "values") rfl .head ?_
  repeat walk_at "aw"
  exact h
end
end
-- part R8
section
open Builtin.Int (intBits)
noncomputable def coefN (p : Nat) (L : List Bs) (vals : List Rat) : Nat → List (Option Rat)
  | 0 => List.replicate p none
  | k + 1 => match L[k]?, vals[k]? with
    | some b, some v => (coefN p L vals k).set b.pv (some v)
    | _, _ => coefN p L vals k
theorem coefN_len {p : Nat} {L : List Bs} {vals : List Rat} : ∀ k, (coefN p L vals k).length = p
  | 0 => by simp [coefN]
  | k + 1 => by
    have := coefN_len (p := p) (L := L) (vals := vals) k
    unfold coefN
    split
    · simp [this]
    · exact this
theorem coefN_mem {p : Nat} {L : List Bs} {vals : List Rat} {c : Nat} (h : ∀ v ∈ vals, bd c v) : ∀ k f, some f ∈ coefN p L vals k → bd c f
  | 0, f, hf => by simp [coefN] at hf
  | k + 1, f, hf => by
    unfold coefN at hf
    split at hf
    · rename_i b v e1 e2
      rcases List.mem_or_eq_of_mem_set hf with h1 | h1
      · exact coefN_mem h k f h1
      · obtain rfl : f = v := by simpa using h1
        exact h _ (List.mem_of_getElem? e2)
    · exact coefN_mem h k f hf
theorem orth_pv {w : Option (List Rat)} {cs : List (List Rat)} : ∀ i, ∀ b ∈ orthN w cs i, b.pv < i
  | 0, b, h => by simp [orthN] at h
  | i + 1, b, h => by
    have ih := orth_pv (w := w) (cs := cs) i
    unfold orthN at h
    split at h
    · unfold ostep at h
      split at h
      · exact Nat.lt_succ_of_lt (ih b h)
      · rcases List.mem_append.mp h with h | h
        · exact Nat.lt_succ_of_lt (ih b h)
        · simp at h; subst h; exact Nat.lt_succ_self _
    · exact Nat.lt_succ_of_lt (ih b h)
theorem len_cons {α : Type} {s : List α} {n : Nat} (hs : s.length = n + 1) : ∃ a r, s = a :: r ∧ r.length = n := by
  cases s with
  | nil => cases hs
  | cons a r => exact ⟨a, r, rfl, Nat.succ.inj hs⟩
theorem small_cases {α β : Type} {L : List α} {s : List β} (hs : s.length = L.length) (hl : L.length ≤ 3) :
    (L = [] ∧ s = []) ∨ (∃ a0 s0, L = [a0] ∧ s = [s0]) ∨ (∃ a0 a1 s0 s1, L = [a0, a1] ∧ s = [s0, s1]) ∨ ∃ a0 a1 a2 s0 s1 s2, L = [a0, a1, a2] ∧ s = [s0, s1, s2] := by
  cases L with
  | nil => exact .inl ⟨rfl, List.eq_nil_of_length_eq_zero hs⟩
  | cons a0 L =>
    obtain ⟨s0, s, rfl, h1⟩ := len_cons hs
    cases L with
    | nil => exact .inr (.inl ⟨a0, s0, rfl, congrArg (s0 :: ·) (List.eq_nil_of_length_eq_zero h1)⟩)
    | cons a1 L =>
      obtain ⟨s1, s, rfl, h2⟩ := len_cons h1
      cases L with
      | nil => exact .inr (.inr (.inl ⟨a0, a1, s0, s1, rfl, congrArg (s0 :: s1 :: ·) (List.eq_nil_of_length_eq_zero h2)⟩))
      | cons a2 L =>
        obtain ⟨s2, s, rfl, h3⟩ := len_cons h2
        obtain rfl : L = [] := List.eq_nil_of_length_eq_zero (Nat.le_zero.mp (Nat.le_of_succ_le_succ (Nat.le_of_succ_le_succ (Nat.le_of_succ_le_succ hl))))
        exact .inr (.inr (.inr ⟨a0, a1, a2, s0, s1, s2, rfl, congrArg (s0 :: s1 :: s2 :: ·) (List.eq_nil_of_length_eq_zero h3)⟩))
theorem back_len {L : List Bs} {s : List Rat} (hs : s.length = L.length) (hl : L.length ≤ 3) : (backR L s).length = s.length := by
  rcases small_cases hs hl with ⟨rfl, rfl⟩ | ⟨b0, s0, rfl, rfl⟩ | ⟨b0, b1, s0, s1, rfl, rfl⟩ | ⟨b0, b1, b2, s0, s1, s2, rfl, rfl⟩ <;> rfl
-- what fit gives
noncomputable def fitL (cs : List (List Rat)) (w : Option (List Rat)) : List Bs := orthN w cs cs.length
noncomputable def fitRest (cs : List (List Rat)) (y : List Rat) (w : Option (List Rat)) : List Rat := (redu w (fitL cs w) y).1
noncomputable def fitSteps (cs : List (List Rat)) (y : List Rat) (w : Option (List Rat)) : List Rat := (redu w (fitL cs w) y).2
noncomputable def fitCo (cs : List (List Rat)) (y : List Rat) (w : Option (List Rat)) : List (Option Rat) := coefN cs.length (fitL cs w) (backR (fitL cs w) (fitSteps cs y w)) (fitL cs w).length
noncomputable def fitFit (cs : List (List Rat)) (y : List Rat) (w : Option (List Rat)) : List Rat := List.zipWith (fun a b => a - b) y (fitRest cs y w)
noncomputable def fitAll (cs : List (List Rat)) (y : List Rat) (w : Option (List Rat)) : List (Str × V) :=
  fitFs (.lst (pivV (fitL cs w))) (.lst (basV (fitL cs w))) (.lst (norV (fitL cs w))) (.lst (shaV (fitL cs w))) (.lst ((fitSteps cs y w).map fr)) (.lst ((fitCo cs y w).map optV)) (cv (fitFit cs y w)) (cv (fitRest cs y w)) (wv w) (fitL cs w).length (usedN y.length w - (fitL cs w).length)
-- what law gives to fit
structure In3 (m : Nat) (cs : List (List Rat)) (y : List Rat) (w : Option (List Rat)) : Prop where
  m5 : m ≤ 5
  c3 : cs.length ≤ 3
  c : ∀ c ∈ cs, c.length = m ∧ bl 16 c
  yl : y.length = m
  yb : bl 16 y
  wb : wbl 2 w
  wl : wlen m w
  wp : ∀ v : List Rat, w = some v → ∀ q ∈ v, 0 ≤ q.num
theorem In3.L {m : Nat} {cs : List (List Rat)} {y : List Rat} {w : Option (List Rat)} (I : In3 m cs y w) : LOk m (fitL cs w) := (orth_ok I.m5 I.wb I.wl I.c I.c3 cs.length (Nat.le_refl _)).1
theorem In3.S {m : Nat} {cs : List (List Rat)} {y : List Rat} {w : Option (List Rat)} (I : In3 m cs y w) : SOk m (fitL cs w).length (redu w (fitL cs w) y) := SOk.all I.m5 I.L I.yl I.yb I.wb I.wl
theorem SOk.small {m t : Nat} {s : List Rat × List Rat} (h : SOk m t s) (ht : t ≤ 3) : ∀ q ∈ s.2, bd 200000 q := by
  intro q hq
  obtain ⟨i, hi, rfl⟩ := List.getElem_of_mem hq
  have := h.sh i _ (List.getElem?_eq_getElem hi)
  have e := h.shl
  have b3 := Bb_mono (show i ≤ 2 by omega)
  have e : Bb 2 = 8503 := rfl
  exact this.mono (by omega)
theorem back_bd {m : Nat} {L : List Bs} {s : List Rat} (hL : LOk m L) (hs : s.length = L.length) (hb : ∀ q ∈ s, bd 200000 q) : ∀ q ∈ backR L s, bd 2000000 q := by
  have hle := hL.le
  rcases small_cases hs hle with ⟨rfl, rfl⟩ | ⟨b0, s0, rfl, rfl⟩ | ⟨b0, b1, s0, s1, rfl, rfl⟩ | ⟨b0, b1, b2, s0, s1, s2, rfl, rfl⟩
  · intro q hq; exact absurd hq List.not_mem_nil
  · intro q hq; exact (hb q hq).mono (by decide)
  ·
    have h1 := hL.ok 1 b1 rfl
    have q10 := shq_bd h1 (k := 0) (by decide) (by decide)
    have v0 := hb s0 (by simp)
    have v1 := hb s1 (by simp)
    intro q hq
    replace hq : q ∈ [s0 - shq b1 0 * s1, s1] := hq
    simp only [List.mem_cons, List.not_mem_nil, or_false] at hq
    rcases hq with rfl | rfl
    · exact (bd_sub v0 (bd_mul q10 v1)).mono (by decide)
    · exact v1.mono (by decide)
  ·
    have h1 := hL.ok 1 b1 rfl
    have h2 := hL.ok 2 b2 rfl
    have q10 := shq_bd h1 (k := 0) (by decide) (by decide)
    have q20 := shq_bd h2 (k := 0) (by decide) (by decide)
    have q21 := shq_bd h2 (k := 1) (by decide) (by decide)
    have v0 := hb s0 (by simp)
    have v1 := hb s1 (by simp)
    have v2 := hb s2 (by simp)
    have u1 := bd_sub v1 (bd_mul q21 v2)
    intro q hq
    replace hq : q ∈ [s0 - shq b1 0 * (s1 - shq b2 1 * s2) - shq b2 0 * s2, s1 - shq b2 1 * s2, s2] := hq
    simp only [List.mem_cons, List.not_mem_nil, or_false] at hq
    rcases hq with rfl | rfl | rfl
    · exact (bd_sub (bd_sub v0 (bd_mul q10 u1)) (bd_mul q20 v2)).mono (by decide)
    · exact u1.mono (by decide)
    · exact v2.mono (by decide)
section
variable {n : Nat} {own : Own} {ns : Ns} {ρ : Rho} {Q : V → Own → Prop}
theorem c_checkfin (hn : 2 ≤ n) {u : List Rat} {name : V} (h : Q .none own) : CALL n 163 [cv u, name] own Q := by
  obtain ⟨n, rfl⟩ : ∃ m, n = m + 1 := ⟨n - 1, by omega⟩
  refine call_def (names := ["column", "name"]) (fun w => rfl) (fun w => by kernel_rfl) (fun s vs' _ hl => binds2 (fun a b => rfl) hl) ?_
  repeat walk_at "aw"
  refine ex_for_fun (u.map fr) (fun i => []) (fun _ => own) rfl ?_ ?_ ?_
  · repeat walk_at "aw"
    exact ⟨rfl, trivial, rfl⟩
  · intro i v hi
    rw [List.getElem?_map] at hi
    obtain ⟨q, hq, rfl⟩ : ∃ q, u[i]? = some q ∧ v = fr q := by
      cases hq : u[i]? with
      | none => rw [hq] at hi; cases hi
      | some q => rw [hq] at hi; cases hi; exact ⟨q, rfl, rfl⟩
    repeat walk_at "aw"
    refine c_isfin (by omega) _ ?_
    repeat walk_at "aw"
    refine br_F (exs_nil (exs_nil ⟨rfl, trivial, rfl⟩))
  · intro ρ₁ hs
    exact exs_nil h
theorem c_checkw (hn : 2 ≤ n) {u : List Rat} {k : Nat} (hk : u.length = k) (hk4 : k ≤ 400) (hp : ∀ q ∈ u, 0 ≤ q.num) (h : Q .none own) : CALL n 170 [cv u, .int k] own Q := by
  obtain ⟨n, rfl⟩ : ∃ m, n = m + 1 := ⟨n - 1, by omega⟩
  refine call_def (names := ["weights", "count"]) (fun w => rfl) (fun w => by kernel_rfl) (fun s vs' _ hl => binds2 (fun a b => rfl) hl) ?_
  repeat walk_at "aw"
  refine cb_len_cv ?_ (by omega)
  repeat walk_at "aw"
  refine br_f (by simp [hk]) (exs_nil ?_)
  refine exs_cons (ex_for_fun (u.map fr) (fun i => []) (fun _ => own) rfl ?_ ?_ ?_)
  · repeat walk_at "aw"
    exact ⟨rfl, trivial, rfl⟩
  · intro i v hi
    rw [List.getElem?_map] at hi
    obtain ⟨q, hq, rfl⟩ : ∃ q, u[i]? = some q ∧ v = fr q := by
      cases hq : u[i]? with
      | none => rw [hq] at hi; cases hi
      | some q => rw [hq] at hi; cases hi; exact ⟨q, rfl, rfl⟩
    have h0 := hp q (List.mem_of_getElem? hq)
    repeat walk_at "aw"
    refine c_isfin (by omega) _ ?_
    repeat walk_at "aw"
    refine br_F ?_
    repeat walk_at "aw"
    refine br_f (decide_eq_false (by omega)) (exs_nil (exs_nil ⟨rfl, trivial, rfl⟩))
  · intro ρ₁ hs
    exact exs_nil h
theorem c_back (hn : 5 ≤ n) {x d st : Addr} {fs : List (Str × V)} {m : Nat} {L : List Bs} {s : List Rat} (hL : LOk m L) (hs : s.length = L.length) (hb : ∀ q ∈ s, bd 200000 q) (hx : (x, AO.inst d fs) ∈ own) (h1 : fs.lookup ("steps" : Str) = some (V.loc st)) (hst : (st, AO.lst (s.map fr)) ∈ own) (h2 : fs.lookup ("shares" : Str) = some (V.lst (shaV L)))
    (h3 : fs.lookup ("rank" : Str) = some (V.int L.length)) (h : Q (cv (backR L s)) own) : CALL n 184 [.loc x] own Q := by
  have hle := hL.le
  rcases small_cases hs hle with ⟨rfl, rfl⟩ | ⟨b0, s0, rfl, rfl⟩ | ⟨b0, b1, s0, s1, rfl, rfl⟩ | ⟨b0, b1, b2, s0, s1, s2, rfl, rfl⟩
  · exact c_back0 hn (m := m) hx h1 hst h2 h3 h
  · exact c_back1 hn (m := m) hx h1 hst h2 h3 (hb _ (by simp)) h
  · exact c_back2 hn hx h1 hst h2 h3 (hL.ok 1 b1 rfl) (hb _ (by simp)) (hb _ (by simp)) h
  · exact c_back3 hn hx h1 hst h2 h3 (hL.ok 1 b1 rfl) (hL.ok 2 b2 rfl) (hb _ (by simp)) (hb _ (by simp)) (hb _ (by simp)) h
end
end
-- part R9
section
open Builtin.Int (intBits)
theorem exs_cut {n : Nat} {ns : Ns} {ρ : Rho} {own : Own} {st : Stmt} {rest : List Stmt} {Q : MF → Rho → Own → Prop} (ρs : Rho) (os : Own) (h1 : EX n ns ρ own st fun f ρ' o' => f = .next ∧ Sub ρs ρ' ∧ o' = os) (h2 : EXS n ns ρs os rest Q) : EXS n ns ρ own (st :: rest) Q :=
  exs_cons (h1.mono fun f r o h => by
    obtain ⟨rfl, h, rfl⟩ := h
    exact exs_sub h h2)
theorem ex_cut {n : Nat} {ns : Ns} {ρ : Rho} {own : Own} {st : Stmt} {rest : List Stmt} {Q : MF → Rho → Own → Prop} (ρs : Rho) (os : Own) (h1 : EX n ns ρ own st fun f ρ' o' => f = .next ∧ Sub ρs ρ' ∧ o' = os) (h2 : EXS n ns ρs os rest Q) : EX n ns ρ own st (thenD n ns rest Q) :=
  h1.mono fun f r o h => by
    obtain ⟨rfl, h, rfl⟩ := h
    exact exs_sub h h2
theorem lst_get {α : Type} {l : List α} {f : α → V} {i : Nat} {v : V} (h : (l.map f)[i]? = some v) : ∃ a, l[i]? = some a ∧ v = f a := by
  rw [List.getElem?_map] at h
  cases hq : l[i]? with
  | none => rw [hq] at h; cases h
  | some q => rw [hq] at h; cases h; exact ⟨q, rfl, rfl⟩
theorem binds3K {s : Shared} {fd : FuncData} {x y z : Str} {w : World} {T : Addr} {o : Obj} {items : Array Value} {m : Nat} {k : Value → Value → Value → Option (Array Value) → Sem (List (Str × Value))} (X : (KK w).In s.heap) (hd : fd.defaults = .ref T) (ho : (KK w).lookup T = some o) (hs : o.data = .seq items m)
    (h₁ : ∀ a b c, bindArgs fd ⟨[a, b, c], []⟩ = seqItems? fd.defaults >>= k a b c) (h₂ : ∀ a b c, k a b c (some items) = pure [(x, a), (y, b), (z, c)]) {vs' : List Value} (hl : vs'.length = 3) : BindsTo s fd ⟨vs', []⟩ (([x, y, z] : List Str).zip vs') := by
  obtain ⟨a, r, rfl, h1⟩ := len_two hl
  obtain ⟨b, r, rfl, h2⟩ := len_two h1
  obtain ⟨c, rfl⟩ := List.length_eq_one_iff.mp h2
  exact binds_K X hd ho hs (h₁ a b c) (h₂ a b c)
section
variable {n : Nat} {own : Own} {ns : Ns} {ρ : Rho} {Q : V → Own → Prop}
set_option maxHeartbeats 4000000 in
theorem c_fit (hn : 10 ≤ n) {m : Nat} {cs : List (List Rat)} {y : List Rat} {w : Option (List Rat)} (I : In3 m cs y w)
    (h : ∀ x d, Q (.loc x) ((x, .inst d (fitAll cs y w)) :: own)) : CALL n 200 [.lst (cs.map cv), cv y, wv w] own Q := by
  obtain ⟨n, rfl⟩ : ∃ m, n = m + 1 := ⟨n - 1, by omega⟩
  have m5 := I.m5
  have c3 := I.c3
  have yl := I.yl
  refine call_def (names := ["columns", "y", "weights"]) (fun w => rfl) (fun w => by kernel_rfl) (fun s vs' ⟨w, X⟩ hl => binds3K X rfl rfl rfl (fun a b c => rfl) (fun a b c => rfl) hl) ?_
  refine exs_cut [("columns", .lst (cs.map cv)), ("y", cv y), ("weights", wv w)] own (ex_for_fun (cs.map cv) (fun i => [("columns", .lst (cs.map cv)), ("y", cv y), ("weights", wv w)]) (fun _ => own) rfl ?_ ?_ fun ρ₁ hs => ⟨rfl, hs, rfl⟩) ?_
  · repeat walk_at "aw"
    exact ⟨rfl, ⟨rfl, rfl, rfl, trivial⟩, rfl⟩
  · intro i v hi
    obtain ⟨c, hc, rfl⟩ := lst_get hi
    obtain ⟨cl, cb⟩ := I.c c (List.mem_of_getElem? hc)
    repeat walk_at "aw"
    refine cb_len_cv ?_ (by omega)
    repeat walk_at "aw"
    refine cb_len_cv ?_ (by omega)
    repeat walk_at "aw"
    refine br_f (by rw [cl, yl]; simp) (exs_nil (exs_cons (ex_expr ?_)))
    repeat walk_at "aw"
    refine c_checkfin (by omega) ⟨rfl, ?_⟩
    exact exs_nil ⟨rfl, ⟨rfl, rfl, rfl, trivial⟩, rfl⟩
  refine exs_cons (ex_expr ?_)
  repeat walk_at "aw"
  refine c_checkfin (by omega) ⟨rfl, ?_⟩
  refine exs_cut [("columns", .lst (cs.map cv)), ("y", cv y), ("weights", wv w)] own ?_ ?_
  · repeat walk_at "aw"
    cases w with
    | none => exact br_F (exs_nil ⟨rfl, ⟨rfl, rfl, rfl, trivial⟩, rfl⟩)
    | some w =>
      have wl : w.length = m := I.wl
      refine br_T (exs_cons (ex_expr ?_))
      repeat walk_at "aw"
      refine cb_len_cv ?_ (by omega)
      repeat walk_at "aw"
      refine c_checkw (by omega) (by rw [wl, yl]) (by omega) (I.wp w rfl) ⟨rfl, ?_⟩
      exact exs_nil ⟨rfl, ⟨rfl, rfl, rfl, trivial⟩, rfl⟩
  have hL := I.L
  have S := SOk.take I.m5 hL I.yl I.yb I.wb I.wl
  have Sa := I.S
  have pv : ∀ b ∈ fitL cs w, b.pv < cs.length := orth_pv cs.length
  have eC : fitCo cs y w = coefN cs.length (fitL cs w) (backR (fitL cs w) (redu w (fitL cs w) y).2) (fitL cs w).length := rfl
  have eR : fitRest cs y w = (redu w (fitL cs w) y).1 := rfl
  have eS : fitSteps cs y w = (redu w (fitL cs w) y).2 := rfl
  have eF : fitFit cs y w = List.zipWith (fun a b => a - b) y (redu w (fitL cs w) y).1 := rfl
  have eA : fitAll cs y w = fitFs (.lst (pivV (fitL cs w))) (.lst (basV (fitL cs w))) (.lst (norV (fitL cs w))) (.lst (shaV (fitL cs w))) (.lst ((fitSteps cs y w).map fr)) (.lst ((fitCo cs y w).map optV)) (cv (fitFit cs y w)) (cv (fitRest cs y w)) (wv w) (fitL cs w).length (usedN y.length w - (fitL cs w).length) := rfl
  rw [eA, eC, eR, eS, eF] at h
  repeat walk_at "aw"
  refine c_orth (by omega) I.m5 I.c I.c3 I.wb I.wl fun x d st => ?_
  rw [show orthN w cs cs.length = fitL cs w from rfl]
  generalize fitL cs w = L at *
  have hle := hL.le
  have b3 := Bb3 hle
  repeat walk_at "aw"
  refine cb_list_frozen (szL (by simp; omega)) ?_
  refine asg_name rfl ?_
  refine exs_cut [("rest", cv (redu w L y).1), ("found", .loc x), ("columns", .lst (cs.map cv)), ("y", cv y), ("weights", wv w)] ((st, AO.lst ((redu w L y).2.map fr)) :: (x, AO.inst d (fitFs (.lst (pivV L)) (.lst (basV L)) (.lst (norV L)) (.lst (shaV L)) (.loc st) (.lst []) (.lst []) (.lst []) .none L.length 0)) :: own) ?_ ?_
  · refine ex_for_fun (rangeVs 0 1 L.length) (fun j => [("rest", cv (redu w (L.take j) y).1), ("found", .loc x), ("columns", .lst (cs.map cv)), ("y", cv y), ("weights", wv w)]) (fun j => (st, AO.lst ((redu w (L.take j) y).2.map fr)) :: (x, AO.inst d (fitFs (.lst (pivV L)) (.lst (basV L)) (.lst (norV L)) (.lst (shaV L)) (.loc st) (.lst []) (.lst []) (.lst []) .none L.length 0)) :: own) rfl ?_ ?_ ?_
    · repeat walk_at "aw"
      refine ev_attr (ev_name rfl rfl ⟨x, d, _, _, rfl, .tail _ (.head _), rfl, ?_⟩)
      repeat walk_at "aw"
      exact ⟨items_range (by omega), ⟨rfl, rfl, rfl, rfl, rfl, trivial⟩, rfl⟩
    · intro j v hj
      obtain ⟨h2, rfl⟩ := rangeVs0_get hj
      have eb : L[j]? = some L[j] := List.getElem?_eq_getElem h2
      have hb := hL.ok j _ eb
      have er := redu_take (w := w) (base := y) eb
      have Sj := S j (by omega)
      have B3 := Bb3 (show j ≤ 3 by omega)
      generalize L[j] = b at eb hb er
      generalize redu w (L.take j) y = r at er Sj
      have sb := step_bd I.m5 Sj.len Sj.bits I.wb I.wl hb
      have hlen : (wt r.1 w).length = m := by rw [wt_len (by rw [Sj.len]; exact I.wl), Sj.len]
      repeat walk_at "aw"
      refine c_weighted (by omega) (by rw [Sj.len]; omega) (by rw [Sj.len]; exact I.wl) Sj.bits I.wb (by omega) ?_
      repeat walk_at "aw"
      refine ev_attr (ev_name rfl rfl ⟨x, d, _, _, rfl, .tail _ (.head _), rfl, ?_⟩)
      repeat walk_at "aw"
      refine sub_lstN (l := basV L) ?_ (map_get eb) (by simp; omega)
      repeat walk_at "aw"
      refine c_dot (by omega) (by rw [hlen]; exact I.m5) (by rw [hlen, hb.len]) (wt_bl Sj.bits I.wb) hb.ba (by omega) ?_
      repeat walk_at "aw"
      refine ev_attr (ev_name rfl rfl ⟨x, d, _, _, rfl, .tail _ (.head _), rfl, ?_⟩)
      repeat walk_at "aw"
      refine sub_lstN (l := norV L) ?_ (map_get eb) (by simp; omega)
      repeat walk_at "aw"
      refine c_div (by omega) (dotR_bd5 (by rw [hlen]; exact I.m5) (wt_bl Sj.bits I.wb) hb.ba) hb.no (by omega) hb.nz ?_
      repeat walk_at "aw"
      refine ex_append (ev_attr (ev_name rfl rfl ⟨x, d, _, _, rfl, .tail _ (.head _), rfl, st, rfl, ⟨_, .head _⟩, ev_name rfl rfl ⟨_, _, .head, szL (by have := Sj.shl; simp; omega), ?_⟩⟩))
      repeat walk_at "aw"
      refine ev_attr (ev_name rfl rfl ⟨x, d, _, _, rfl, .tail _ (.head _), rfl, ?_⟩)
      repeat walk_at "aw"
      refine sub_lstN (l := basV L) ?_ (map_get eb) (by simp; omega)
      repeat walk_at "aw"
      refine c_less (by omega) (by rw [Sj.len]; exact I.m5) (by rw [hb.len, Sj.len]) Sj.bits hb.ba sb (by omega) ?_
      repeat walk_at "aw"
      refine ⟨rfl, ⟨?_, rfl, rfl, rfl, rfl, trivial⟩, ?_⟩
      · rw [er]; rfl
      · rw [er]; simp [rstep]
    · intro ρ₁ hs
      rw [rangeVs_length, List.take_length] at hs ⊢
      exact ⟨rfl, hs, rfl⟩
  generalize redu w L y = r at *
  have rs := Sa.small hle
  have bb := back_bd hL Sa.shl rs
  have bbl := back_len Sa.shl hL.le
  have shl := Sa.shl
  repeat walk_at "aw"
  refine ev_listF ?_
  repeat walk_at "aw"
  refine cb_len (by simp; omega) ?_
  rw [List.length_map]
  refine bin_mul_own (by omega) (by omega) fun co => ?_
  have e0 : List.replicate (cs.length : Int).toNat V.none = (coefN cs.length L (backR L r.2) 0).map optV := by
    simp only [coefN, List.map_replicate]; rfl
  rw [e0]
  refine asg_attr (ev_name rfl rfl ⟨x, d, _, _, rfl, .tail (.tail .head), Nat.le_of_ble_eq_true rfl, ?_⟩)
  repeat walk_at "aw"
  refine c_back (by omega) hL shl rs (.tail _ (.tail _ (.head _))) rfl (.tail _ (.head _)) rfl rfl ?_
  repeat walk_at "aw"
  generalize backR L r.2 = vals at *
  refine ex_cut [("rest", cv r.1), ("found", .loc x), ("columns", .lst (cs.map cv)), ("y", cv y), ("weights", wv w)] ((co, AO.lst ((coefN cs.length L vals L.length).map optV)) :: (st, AO.lst (r.2.map fr)) :: (x, AO.inst d (fitFs (.lst (pivV L)) (.lst (basV L)) (.lst (norV L)) (.lst (shaV L)) (.loc st) (.loc co) (.lst []) (.lst []) .none L.length 0)) :: own) ?_ ?_
  · refine ex_for_fun (rangeVs 0 1 L.length) (fun j => [("values", cv vals), ("rest", cv r.1), ("found", .loc x), ("columns", .lst (cs.map cv)), ("y", cv y), ("weights", wv w)]) (fun j => (co, AO.lst ((coefN cs.length L vals j).map optV)) :: (st, AO.lst (r.2.map fr)) :: (x, AO.inst d (fitFs (.lst (pivV L)) (.lst (basV L)) (.lst (norV L)) (.lst (shaV L)) (.loc st) (.loc co) (.lst []) (.lst []) .none L.length 0)) :: own) rfl ?_ ?_ ?_
    · repeat walk_at "aw"
      refine ev_attr (ev_name rfl rfl ⟨x, d, _, _, rfl, .tail _ (.tail _ (.head _)), rfl, ?_⟩)
      repeat walk_at "aw"
      exact ⟨items_range (by omega), ⟨rfl, rfl, rfl, rfl, rfl, rfl, trivial⟩, rfl⟩
    · intro j v hj
      obtain ⟨h2, rfl⟩ := rangeVs0_get hj
      have eb : L[j]? = some L[j] := List.getElem?_eq_getElem h2
      have ev : vals[j]? = some vals[j] := List.getElem?_eq_getElem (by omega)
      have en : coefN cs.length L vals (j + 1) = (coefN cs.length L vals j).set L[j].pv (some vals[j]) := by
        show (match L[j]?, vals[j]? with | some b, some v => _ | _, _ => _) = _
        rw [eb, ev]
      have hp := pv _ (List.getElem_mem h2)
      have hcl := coefN_len (p := cs.length) (L := L) (vals := vals) j
      rw [en]
      generalize L[j] = b at eb hp
      generalize vals[j] = v at ev
      generalize coefN cs.length L vals j = cc at hcl
      repeat walk_at "aw"
      refine sub_cv ?_ ev (by omega)
      refine asg_sub (ev_attr (ev_name rfl rfl ⟨x, d, _, _, rfl, .tail _ (.tail _ (.head _)), rfl, ?_⟩))
      repeat walk_at "aw"
      refine ev_attr (ev_name rfl rfl ⟨x, d, _, _, rfl, .tail _ (.tail _ (.head _)), rfl, ?_⟩)
      repeat walk_at "aw"
      refine sub_lstN (l := pivV L) ?_ (map_get eb) (by simp; omega)
      refine ⟨co, _, _, b.pv, _, rfl, rfl, .head, idx_nat (by simp; omega), by simp; omega, ?_⟩
      refine exs_nil ⟨rfl, ⟨rfl, rfl, rfl, rfl, rfl, rfl, trivial⟩, ?_⟩
      rw [List.map_set]; rfl
    · intro ρ₁ hs
      rw [rangeVs_length]
      exact ⟨rfl, ⟨hs.get _ _ rfl, hs.get _ _ rfl, hs.get _ _ rfl, hs.get _ _ rfl, hs.get _ _ rfl, trivial⟩, rfl⟩
  have rl := Sa.len
  have rb := Sa.bits
  repeat walk_at "aw"
  refine asg_attr (ev_name rfl rfl ⟨x, d, _, _, rfl, .tail (.tail .head), Nat.le_of_ble_eq_true rfl, ?_⟩)
  repeat walk_at "aw"
  refine ev_comp_map ((List.zipWith (fun a b => a - b) y r.1).map fr) ⟨rfl, rfl, by decide⟩ ?_
  repeat walk_at "aw"
  refine cb_len_cv ?_ (by omega)
  repeat walk_at "aw"
  refine gen_range (by omega) (by simp [rl, yl]) ?_ fun i v hi hy => ?_
  case refine_2 =>
    obtain ⟨p, q, h1, h2, rfl, h3, h4⟩ := zip_get (by rw [rl, yl]) hi hy
    repeat walk_at "aw"
    refine sub_cv ?_ h1 (by omega)
    repeat walk_at "aw"
    refine sub_cv ?_ h2 (by omega)
    repeat walk_at "aw"
    exact c_sub (by omega) (I.yb _ h3) (rb _ h4) (by omega) ⟨rfl, rfl⟩
  refine asg_attr (ev_name rfl rfl ⟨x, d, _, _, rfl, .tail (.tail .head), Nat.le_of_ble_eq_true rfl, ?_⟩)
  repeat walk_at "aw"
  refine asg_attr (ev_name rfl rfl ⟨x, d, _, _, rfl, .tail (.tail .head), Nat.le_of_ble_eq_true rfl, ?_⟩)
  repeat walk_at "aw"
  refine cb_len_cv ?_ (by omega)
  repeat walk_at "aw"
  refine c_used (by omega) (by omega) (by rw [yl]; exact I.wl) ?_
  repeat walk_at "aw"
  refine ev_attr (ev_name rfl rfl ⟨x, d, _, _, rfl, .tail _ (.tail _ (.head _)), rfl, ?_⟩)
  repeat walk_at "aw"
  refine asg_attr (ev_name rfl rfl ⟨x, d, _, _, rfl, .tail (.tail .head), Nat.le_of_ble_eq_true rfl, ?_⟩)
  refine exs_freezeF "coefficients" (x := x) (d := d) (a := co) rfl .head (.tail .head) ?_
  refine exs_freezeF "steps" (x := x) (d := d) (a := st) rfl .head .head ?_
  repeat walk_at "aw"
  exact h x d
end
end
-- part R10
section
open Builtin.Int (intBits)
section
variable {n : Nat} {own : Own} {ns : Ns} {ρ : Rho} {Q : V → Own → Prop}
theorem low_num {a d : Int} (h : 0 < d) : a.fdiv (gcdI a d) = (Rat.divInt a d).num := by
  have := make_num (n := a) h
  have e : gcdI (if a < 0 then -a else a) d = gcdI a d := by unfold gcdI; congr 2; split <;> omega
  rwa [e] at this
theorem low_den {a d : Int} (h : 0 < d) : d.fdiv (gcdI a d) = ((Rat.divInt a d).den : Int) := by
  have := make_den (n := a) h
  have e : gcdI (if a < 0 then -a else a) d = gcdI a d := by unfold gcdI; congr 2; split <;> omega
  rwa [e] at this
theorem c_low (hn : 1 ≤ n) (a d : Int) (hd : 0 < d) (h : Q (fr (Rat.divInt a d)) own) : CALL n 242 [.int a, .int d] own Q := by
  obtain ⟨n, rfl⟩ : ∃ m, n = m + 1 := ⟨n - 1, by omega⟩
  refine call_def (names := ["n", "d"]) (fun w => rfl) (fun w => by kernel_rfl) (fun s vs' _ hl => binds2 (fun a b => rfl) hl) ?_
  refine exs_cut [("a", .int (if 0 ≤ a then a else -a)), ("n", .int a), ("d", .int d)] own ?_ ?_
  · repeat walk_at "aw"
    by_cases ha : 0 ≤ a
    · refine br_t (decide_eq_true ha) ?_
      repeat walk_at "aw"
      refine ⟨rfl, ⟨?_, rfl, rfl, trivial⟩, rfl⟩
      rw [if_pos ha]; rfl
    · refine br_f (decide_eq_false ha) ?_
      refine ev_neg ?_
      repeat walk_at "aw"
      refine ⟨_, rfl, ?_⟩
      repeat walk_at "aw"
      refine ⟨rfl, ⟨?_, rfl, rfl, trivial⟩, rfl⟩
      rw [if_neg ha]; rfl
  repeat walk_at "aw"
  refine ex_while (fun m ρ o => ∃ x y, 0 ≤ x ∧ 0 < y ∧ gcdI x y = gcdI a d ∧ m = x.toNat ∧ Sub [("a", .int x), ("b", .int y), ("n", .int a), ("d", .int d)] ρ ∧ o = own) (if 0 ≤ a then a else -a).toNat ⟨_, d, by split <;> omega, hd, by unfold gcdI; congr 2; split <;> omega, rfl, ⟨rfl, rfl, rfl, rfl, trivial⟩, rfl⟩ ?_
  rintro m ρ₁ o₁ ⟨x, y, hx, hy, hg, rfl, hs, rfl⟩
  refine eb_cmp (ev_name (hs.get _ _ rfl) rfl (ev_int (cmp_gt_int ?_)))
  by_cases hx0 : x > 0
  · rw [if_pos (decide_eq_true hx0)]
    refine exs_sub hs (exs_cons (ex_swap ?_ rfl rfl))
    repeat walk_at "aw"
    refine bin_mod (by omega) ?_
    repeat walk_at "aw"
    refine ⟨_, _, rfl, ?_⟩
    have h1 : 0 ≤ y.fmod x := Int.fmod_nonneg_of_pos _ hx0
    have h2 : y.fmod x < x := Int.fmod_lt_of_pos _ hx0
    have e : ∀ p q : Int, gcdI p q = gcdI q p := fun p q => by unfold gcdI; rw [Nat.gcd_comm]
    exact exs_nil ⟨rfl, (y.fmod x).toNat, by omega, y.fmod x, x, h1, hx0, by rw [e, gcdI_step y x (by omega) hx0, e, hg], rfl, ⟨rfl, rfl, rfl, rfl, trivial⟩, rfl⟩
  · rw [if_neg (by simpa using hx0)]
    refine exs_sub hs ?_
    obtain rfl : x = 0 := by omega
    have hg0 : y = gcdI a d := by
      rw [← hg]; unfold gcdI; simp; omega
    repeat walk_at "aw"
    refine bin_div (by omega) ?_
    repeat walk_at "aw"
    refine bin_div (by omega) ?_
    repeat walk_at "aw"
    show Q _ _
    rw [hg0, low_num hd, low_den hd]; exact h
theorem denpos (x : Rat) : (0 : Int) < x.den := by have := den0 x; omega
theorem c_lmul (hn : 2 ≤ n) {a b : Nat} {x y : Rat} (hx : bd a x) (hy : bd b y) (hab : a + b ≤ 100000000) (h : Q (fr (x * y)) own) : CALL n 256 [fr x, fr y] own Q := by
  obtain ⟨n, rfl⟩ : ∃ m, n = m + 1 := ⟨n - 1, by omega⟩
  refine call_def (names := ["x", "y"]) (fun w => rfl) (fun w => by kernel_rfl) (fun s vs' _ hl => binds2 (fun a b => rfl) hl) ?_
  repeat walk_at "aw"
  refine bin_mul ?_ (mulOk hx.1 hy.1 hab)
  repeat walk_at "aw"
  refine bin_mul ?_ (mulOk hx.2 hy.2 hab)
  repeat walk_at "aw"
  refine c_low (by omega) _ _ (Int.mul_pos (denpos x) (denpos y)) ?_
  show Q _ _
  rw [ratMul]; exact h
theorem c_ladd (hn : 2 ≤ n) {a b : Nat} {x y : Rat} (hx : bd a x) (hy : bd b y) (hab : a + b ≤ 100000000) (h : Q (fr (x + y)) own) : CALL n 249 [fr x, fr y] own Q := by
  obtain ⟨n, rfl⟩ : ∃ m, n = m + 1 := ⟨n - 1, by omega⟩
  refine call_def (names := ["x", "y"]) (fun w => rfl) (fun w => by kernel_rfl) (fun s vs' _ hl => binds2 (fun a b => rfl) hl) ?_
  repeat walk_at "aw"
  refine bin_mul ?_ (mulOk hx.1 hy.2 hab)
  repeat walk_at "aw"
  refine bin_mul ?_ (mulOk hy.1 hx.2 (by omega))
  repeat walk_at "aw"
  refine bin_mul ?_ (mulOk hx.2 hy.2 hab)
  repeat walk_at "aw"
  refine c_low (by omega) _ _ (Int.mul_pos (denpos x) (denpos y)) ?_
  show Q _ _
  rw [ratAdd]; exact h
theorem c_ldot (hn : 3 ≤ n) {u v : List Rat} {a b : Nat} (hu : u.length ≤ 5) (hl : v.length = u.length) (ha : bl a u) (hb : bl b v) (hab : 6 * a + 6 * b + 10 ≤ 100000000) (h : Q (fr (dotR u v)) own) : CALL n 263 [cv u, cv v] own Q := by
  obtain ⟨n, rfl⟩ : ∃ m, n = m + 1 := ⟨n - 1, by omega⟩
  refine call_def (names := ["u", "v"]) (fun w => rfl) (fun w => by kernel_rfl) (fun s vs' _ hl => binds2 (fun a b => rfl) hl) ?_
  repeat walk_at "aw"
  refine ex_for_fun (rangeVs 0 1 u.length) (fun i => [("total", fr (dotR (u.take i) (v.take i))), ("u", cv u), ("v", cv v)]) (fun _ => own) rfl ?_ ?_ ?_
  · repeat walk_at "aw"
    refine cb_len_cv ?_ (by omega)
    repeat walk_at "aw"
    exact ⟨items_range (by omega), ⟨rfl, rfl, rfl, trivial⟩, rfl⟩
  · intro i y hi
    obtain ⟨h1, rfl⟩ := rangeVs0_get hi
    have h2 : i < v.length := by omega
    have eu := List.getElem?_eq_getElem h1
    have ev := List.getElem?_eq_getElem h2
    have hs := dotR_take eu ev
    have b0 := dotR_bd5 (u := u.take i) (v := v.take i) (by simp; omega) (bl_take ha i) (bl_take hb i)
    have bu := ha _ (List.getElem_mem h1)
    have bv := hb _ (List.getElem_mem h2)
    generalize u[i] = p at eu hs bu
    generalize v[i] = q at ev hs bv
    repeat walk_at "aw"
    refine sub_cv ?_ eu (by omega)
    repeat walk_at "aw"
    refine sub_cv ?_ ev (by omega)
    repeat walk_at "aw"
    refine c_lmul (by omega) bu bv (by omega) ?_
    repeat walk_at "aw"
    refine c_ladd (by omega) b0 (bd_mul bu bv) (by omega) ?_
    repeat walk_at "aw"
    refine ⟨rfl, ⟨?_, rfl, rfl, trivial⟩, rfl⟩
    rw [hs]; rfl
  · intro ρ₁ hs
    refine exs_sub hs ?_
    repeat walk_at "aw"
    show Q _ _
    rw [rangeVs_length, List.take_length, ← hl, List.take_length]; exact h
-- the hand: figures left, where, what is left of the figure, the state
structure Hand where
  pos : Nat
  rest : Int
  st : Int
noncomputable def handV (cells : List Int) (h : Hand) : List V := [.lst (cells.map .int), .int h.pos, .int h.rest, .int h.st]
noncomputable def pick (cells : List Int) (lim : Int) (h : Hand) : Int × Hand :=
  if h.rest = 0 then
    (if h.pos = cells.length then ((((h.st * 48271).fmod 2147483647).fdiv 7).fmod lim, { h with st := (h.st * 48271).fmod 2147483647 })
    else
      let f := cells[h.pos]?.getD 0
      let g := if 0 ≤ f then f else -f
      (g.fmod lim, { h with pos := h.pos + 1, rest := g.fdiv lim }))
  else (h.rest.fmod lim, { h with rest := h.rest.fdiv lim })
structure HOk (cells : List Int) (h : Hand) : Prop where
  len : cells.length ≤ 63
  pos : h.pos ≤ cells.length
  st : intBits h.st ≤ 64
end
end
-- part R10b
section
open Builtin.Int (intBits)
section
variable {n : Nat} {own : Own} {ns : Ns} {ρ : Rho} {Q : V → Own → Prop}
theorem Turn.via {a : Addr} {o o' : AO} {l l' : Own} (t : Turn a o o' l l') (o'' : AO) : ∃ l'', Turn a o o'' l l'' ∧ Turn a o'' o' l'' l' := by
  induction t with
  | head => exact ⟨_, .head, .head⟩
  | tail _ ih => obtain ⟨_, a, b⟩ := ih; exact ⟨_, .tail a, .tail b⟩
theorem Turn.self {a : Addr} {o : AO} {l l' : Own} (t : Turn a o o l l') : l = l' := by
  induction t with
  | head => rfl
  | tail _ ih => rw [ih]
theorem hand_get {ha : Addr} {cells : List Int} {h : Hand} {k : Nat} {v : V} (hk : (handV cells h)[k]? = some v) (hm : (ha, AO.lst (handV cells h)) ∈ own) (hq : Q v own) : SUB n (.loc ha) (.int (k : Int)) own Q :=
  sub_ownN hq hm hk (by simp [handV])
theorem hand_set {ha : Addr} {cells : List Int} {h h' : Hand} {k : Nat} {v : V} {own' : Own} {o : PySem.Expr} {ik : Int} {p q : Pos} {P : Rho → Own → Prop} (hs : (handV cells h).set k v = handV cells h') (hk4 : k < 4) (T : Turn ha (.lst (handV cells h)) (.lst (handV cells h')) own own') (hik : ik = (k : Int))
    (ho : EV n ns ρ own o fun w o' => w = .loc ha ∧ o' = own) (hP : P ρ own') : ASG n ns ρ own (.Subscript o (.Constant (.int ik) 0 p) q) v P :=
  asg_sub (ho.mono fun w o' q_u => by
    obtain ⟨e1, e2⟩ := q_u
    subst e1 e2
    refine ev_int ⟨ha, ik, handV cells h, k, own', rfl, rfl, by rw [hs]; exact T, by rw [hik]; exact idx_nat (by simpa [handV] using hk4), by simp [handV], hP⟩)
set_option maxHeartbeats 2000000 in
theorem c_pick (hn : 1 ≤ n) {ha : Addr} {cells : List Int} {h : Hand} {lim : Int} {own' : Own} (hl : 0 < lim) (hp : h.pos ≤ cells.length) (hc : cells.length ≤ 63) (T : Turn ha (.lst (handV cells h)) (.lst (handV cells (pick cells lim h).2)) own own')
    (hq : Q (.int (pick cells lim h).1) own') : CALL n 235 [.loc ha, .int lim] own Q := by
  obtain ⟨n, rfl⟩ : ∃ m, n = m + 1 := ⟨n - 1, by omega⟩
  refine call_def (names := ["hand", "limit"]) (fun w => rfl) (fun w => by kernel_rfl) (fun s vs' _ hl => binds2 (fun a b => rfl) hl) ?_
  repeat walk_at "aw"
  refine hand_get (k := 2) rfl T.mem ?_
  repeat walk_at "aw"
  by_cases h0 : h.rest = 0
  · refine br_t (by simp [h0]) ?_
    repeat walk_at "aw"
    refine hand_get (k := 1) rfl T.mem ?_
    repeat walk_at "aw"
    refine hand_get (k := 0) rfl T.mem ?_
    repeat walk_at "aw"
    refine cb_len (by simp; omega) ?_
    rw [List.length_map]
    repeat walk_at "aw"
    by_cases h1 : h.pos = cells.length
    · have e : pick cells lim h = ((((h.st * 48271).fmod 2147483647).fdiv 7).fmod lim, { h with st := (h.st * 48271).fmod 2147483647 }) := by unfold pick; rw [if_pos h0, if_pos h1]
      rw [e] at T hq
      refine br_t (by simp [h1]) ?_
      repeat walk_at "aw"
      refine hand_get (k := 3) rfl T.mem ?_
      repeat walk_at "aw"
      refine bin_mul ?_ (IntMulOk.of_right (by decide))
      repeat walk_at "aw"
      refine bin_mod (by decide) ?_
      refine hand_set (cells := cells) (h := h) (k := 3) (h' := { h with st := (h.st * 48271).fmod 2147483647 }) rfl (by decide) T rfl (ev_name rfl rfl ⟨rfl, rfl⟩) ?_
      obtain ⟨l'', T1, T2⟩ := T.via (.lst (handV cells { h with st := (h.st * 48271).fmod 2147483647 }))
      have hm := T2.self ▸ T2.mem
      repeat walk_at "aw"
      refine hand_get (h := { h with st := (h.st * 48271).fmod 2147483647 }) (k := 3) rfl hm ?_
      repeat walk_at "aw"
      refine bin_div (by decide) ?_
      repeat walk_at "aw"
      refine bin_mod (by omega) ?_
      exact hq
    · have hlt : h.pos < cells.length := by omega
      have ef : cells[h.pos]? = some cells[h.pos] := List.getElem?_eq_getElem hlt
      have e : pick cells lim h = ((if 0 ≤ cells[h.pos] then cells[h.pos] else -cells[h.pos]).fmod lim, { h with pos := h.pos + 1, rest := (if 0 ≤ cells[h.pos] then cells[h.pos] else -cells[h.pos]).fdiv lim }) := by
        unfold pick; rw [if_pos h0, if_neg h1, ef]; rfl
      rw [e] at T hq
      generalize cells[h.pos] = f at *
      refine br_f (by simp; omega) (exs_nil ?_)
      repeat walk_at "aw"
      refine hand_get (k := 0) rfl T.mem ?_
      repeat walk_at "aw"
      refine hand_get (k := 1) rfl T.mem ?_
      refine sub_lstN ?_ (map_get ef) (by simp; omega)
      repeat walk_at "aw"
      refine hand_get (k := 1) rfl T.mem ?_
      repeat walk_at "aw"
      obtain ⟨o1, T1, T1'⟩ := T.via (.lst (handV cells { h with pos := h.pos + 1 }))
      refine hand_set (cells := cells) (h := h) (k := 1) (h' := { h with pos := h.pos + 1 }) rfl (by decide) T1 rfl (ev_name rfl rfl ⟨rfl, rfl⟩) ?_
      obtain ⟨o2, T2, T2'⟩ := T1'.via (.lst (handV cells { h with pos := h.pos + 1, rest := if 0 ≤ f then f else -f }))
      refine exs_cut [("limit", .int lim), ("hand", .loc ha)] o2 ?_ ?_
      · repeat walk_at "aw"
        by_cases hf : 0 ≤ f
        · rw [if_pos hf] at T2
          refine br_t (decide_eq_true hf) ?_
          repeat walk_at "aw"
          exact hand_set (cells := cells) (h := { h with pos := h.pos + 1 }) (k := 2) (h' := { h with pos := h.pos + 1, rest := f }) rfl (by decide) T2 rfl (ev_name rfl rfl ⟨rfl, rfl⟩) ⟨rfl, ⟨rfl, rfl, trivial⟩, rfl⟩
        · rw [if_neg hf] at T2
          refine br_f (decide_eq_false hf) ?_
          refine ev_neg ?_
          repeat walk_at "aw"
          refine ⟨_, rfl, ?_⟩
          exact hand_set (cells := cells) (h := { h with pos := h.pos + 1 }) (k := 2) (h' := { h with pos := h.pos + 1, rest := -f }) rfl (by decide) T2 rfl (ev_name rfl rfl ⟨rfl, rfl⟩) ⟨rfl, ⟨rfl, rfl, trivial⟩, rfl⟩
      · generalize (if 0 ≤ f then f else -f) = g at *
        repeat walk_at "aw"
        refine hand_get (h := { h with pos := h.pos + 1, rest := g }) (k := 2) rfl T2'.mem ?_
        repeat walk_at "aw"
        refine bin_mod (by omega) ?_
        repeat walk_at "aw"
        refine hand_get (h := { h with pos := h.pos + 1, rest := g }) (k := 2) rfl T2'.mem ?_
        repeat walk_at "aw"
        refine bin_div (by omega) ?_
        refine hand_set (h := { h with pos := h.pos + 1, rest := g }) (k := 2) (h' := { h with pos := h.pos + 1, rest := g.fdiv lim }) rfl (by decide) T2' rfl (ev_name rfl rfl ⟨rfl, rfl⟩) ?_
        repeat walk_at "aw"
        exact hq
  · have e : pick cells lim h = (h.rest.fmod lim, { h with rest := h.rest.fdiv lim }) := by unfold pick; rw [if_neg h0]
    rw [e] at T hq
    refine br_f (by simp [h0]) (exs_nil ?_)
    repeat walk_at "aw"
    refine hand_get (k := 2) rfl T.mem ?_
    repeat walk_at "aw"
    refine bin_mod (by omega) ?_
    repeat walk_at "aw"
    refine hand_get (k := 2) rfl T.mem ?_
    repeat walk_at "aw"
    refine bin_div (by omega) ?_
    refine hand_set (cells := cells) (h := h) (k := 2) (h' := { h with rest := h.rest.fdiv lim }) rfl (by decide) T rfl (ev_name rfl rfl ⟨rfl, rfl⟩) ?_
    repeat walk_at "aw"
    exact hq
end
theorem pick_range {cells : List Int} {lim : Int} {h : Hand} (hl : 0 < lim) : 0 ≤ (pick cells lim h).1 ∧ (pick cells lim h).1 < lim := by
  have k : ∀ x : Int, 0 ≤ x.fmod lim ∧ x.fmod lim < lim := fun x => ⟨Int.fmod_nonneg_of_pos _ hl, Int.fmod_lt_of_pos _ hl⟩
  unfold pick
  split
  · split
    · exact k _
    · exact k _
  · exact k _
theorem pick_pos {cells : List Int} {lim : Int} {h : Hand} (hp : h.pos ≤ cells.length) : (pick cells lim h).2.pos ≤ cells.length := by
  unfold pick
  split
  · split
    · exact hp
    · show h.pos + 1 ≤ _; omega
  · exact hp
noncomputable def valueTab : List Rat := [0, 1, 2, -1, ⟨1, 2, by decide, by decide⟩, 3, ⟨-2, 3, by decide, by decide⟩, 5, 0]
theorem valueTab_bd : ∀ q ∈ valueTab, bd 3 q := by
  intro q hq
  simp only [valueTab, List.mem_cons, List.not_mem_nil, or_false] at hq
  rcases hq with rfl | rfl | rfl | rfl | rfl | rfl | rfl | rfl | rfl <;> exact ⟨by decide, by decide⟩
noncomputable def valueQ (cells : List Int) (h : Hand) : Rat × Hand := (valueTab[(pick cells 9 h).1.toNat]?.getD 0, (pick cells 9 h).2)
section
variable {n : Nat} {own : Own} {ns : Ns} {ρ : Rho} {Q : V → Own → Prop}
theorem c_value (hn : 2 ≤ n) {ha : Addr} {cells : List Int} {h : Hand} {own' : Own} (hp : h.pos ≤ cells.length) (hc : cells.length ≤ 63) (T : Turn ha (.lst (handV cells h)) (.lst (handV cells (valueQ cells h).2)) own own')
    (hq : Q (fr (valueQ cells h).1) own') : CALL n 275 [.loc ha] own Q := by
  obtain ⟨n, rfl⟩ : ∃ m, n = m + 1 := ⟨n - 1, by omega⟩
  refine call_def (names := ["hand"]) (fun w => rfl) (fun w => by kernel_rfl) (fun s vs' _ hl => binds1 (fun a => rfl) hl) ?_
  repeat walk_at "aw"
  refine c_pick (by omega) (by decide) hp hc T ?_
  repeat walk_at "aw"
  refine ev_listF ?_
  repeat walk_at "aw"
  refine ev_neg ?_
  repeat walk_at "aw"
  refine ⟨_, rfl, ?_⟩
  repeat walk_at "aw"
  refine ev_neg ?_
  repeat walk_at "aw"
  refine ⟨_, rfl, ?_⟩
  repeat walk_at "aw"
  obtain ⟨r1, r2⟩ := pick_range (cells := cells) (h := h) (lim := 9) (by decide)
  have hlt : (pick cells 9 h).1.toNat < valueTab.length := by show _ < 9; omega
  have eg : valueTab[(pick cells 9 h).1.toNat]? = some (valueQ cells h).1 := by
    unfold valueQ; rw [List.getElem?_eq_getElem hlt]; rfl
  have en : (pick cells 9 h).1 = ((pick cells 9 h).1.toNat : Int) := by omega
  rw [en]
  exact sub_lstN (l := valueTab.map fr) hq (map_get eg) (by decide)
end
theorem valueQ_bd {cells : List Int} {h : Hand} : bd 3 (valueQ cells h).1 := by
  obtain ⟨r1, r2⟩ := pick_range (cells := cells) (h := h) (lim := 9) (by decide)
  have hlt : (pick cells 9 h).1.toNat < valueTab.length := by show _ < 9; omega
  unfold valueQ
  rw [List.getElem?_eq_getElem hlt]
  exact valueTab_bd _ (List.getElem_mem hlt)
end
-- part R11
section
open Builtin.Int (intBits)
noncomputable def rowAt (rows : List (List Rat)) (e : Nat) : List Rat := rows[e]?.getD []
noncomputable def ent (r : List Rat) (s : Nat) : Rat := r[s]?.getD 0
noncomputable def elimRow (top r : List Rat) (s : Nat) : List Rat := if ent r s = 0 then r else List.zipWith (fun a b => a + -(ent r s / ent top s) * b) r top
noncomputable def elimRows (rows : List (List Rat)) (f s j : Nat) : List (List Rat) := rows.mapIdx fun e r => if f < e ∧ e < f + 1 + j then elimRow (rowAt rows f) r s else r
noncomputable def filledL (rows : List (List Rat)) (f s : Nat) : List Nat := ((List.range (rows.length - f)).map (f + ·)).filter fun e => ent (rowAt rows e) s ≠ 0
noncomputable def swapR (rows : List (List Rat)) (f g : Nat) : List (List Rat) := (rows.set f (rowAt rows g)).set g (rowAt rows f)
noncomputable def rankStep (st : List (List Rat) × Nat) (s : Nat) : List (List Rat) × Nat :=
  match filledL st.1 st.2 s with
  | [] => st
  | g :: _ => (elimRows (swapR st.1 st.2 g) st.2 s (st.1.length - (st.2 + 1)), st.2 + 1)
noncomputable def rankN (rows : List (List Rat)) : Nat → List (List Rat) × Nat
  | 0 => (rows, 0)
  | s + 1 => rankStep (rankN rows s) s
noncomputable def lawRank : List (List Rat) → Nat
  | [] => 0
  | r :: rs => (rankN (r :: rs) r.length).2
noncomputable def Rb : Nat → Nat
  | 0 => 17
  | f + 1 => 4 * Rb f + 1
structure ROk (m k : Nat) (st : List (List Rat) × Nat) : Prop where
  len : st.1.length = k
  rl : ∀ r ∈ st.1, r.length = m
  rb : ∀ r ∈ st.1, bl (Rb st.2) r
  f : st.2 ≤ k
theorem rowAt_mem {rows : List (List Rat)} {e : Nat} (h : e < rows.length) : rowAt rows e ∈ rows := by
  unfold rowAt; rw [List.getElem?_eq_getElem h]; exact List.getElem_mem h
theorem rowAt_get {rows : List (List Rat)} {e : Nat} (h : e < rows.length) : rows[e]? = some (rowAt rows e) := by
  unfold rowAt; rw [List.getElem?_eq_getElem h]; rfl
theorem ent_get {r : List Rat} {s : Nat} (h : s < r.length) : r[s]? = some (ent r s) := by
  unfold ent; rw [List.getElem?_eq_getElem h]; rfl
theorem ent_bd {r : List Rat} {s b : Nat} (h : s < r.length) (hb : bl b r) : bd b (ent r s) := hb _ (List.mem_of_getElem? (ent_get h))
theorem filled_mem {rows : List (List Rat)} {f s g : Nat} {l : List Nat} (h : filledL rows f s = g :: l) : f ≤ g ∧ g < rows.length ∧ ent (rowAt rows g) s ≠ 0 := by
  have : g ∈ filledL rows f s := by rw [h]; exact List.mem_cons_self
  unfold filledL at this
  rw [List.mem_filter, List.mem_map] at this
  obtain ⟨⟨a, ha, rfl⟩, h2⟩ := this
  have := List.mem_range.mp ha
  exact ⟨by omega, by omega, by simpa using h2⟩
theorem filled_none {rows : List (List Rat)} {f s e : Nat} (h : filledL rows f s = []) (h1 : f ≤ e) (h2 : e < rows.length) : ent (rowAt rows e) s = 0 := by
  unfold filledL at h
  rw [List.filter_eq_nil_iff] at h
  have := h e (List.mem_map.mpr ⟨e - f, List.mem_range.mpr (by omega), by omega⟩)
  simpa using this
theorem swap_mem {rows : List (List Rat)} {f g : Nat} (hf : f < rows.length) (hg : g < rows.length) : ∀ r ∈ swapR rows f g, r ∈ rows := by
  intro r hr
  unfold swapR at hr
  rcases List.mem_or_eq_of_mem_set hr with h | rfl
  · rcases List.mem_or_eq_of_mem_set h with h | rfl
    · exact h
    · exact rowAt_mem hg
  · exact rowAt_mem hf
theorem swap_len {rows : List (List Rat)} {f g : Nat} : (swapR rows f g).length = rows.length := by simp [swapR]
theorem swap_top {rows : List (List Rat)} {f g : Nat} (hf : f < rows.length) (hg : g < rows.length) : rowAt (swapR rows f g) f = rowAt rows g := by
  have e : (swapR rows f g)[f]? = some (rowAt rows g) := by
    unfold swapR
    rw [List.getElem?_set]
    split
    · rename_i h; subst h; simp [hf]
    · rw [List.getElem?_set]; simp [hf]
  unfold rowAt at e ⊢
  rw [e]; rfl
theorem elim_get {rows : List (List Rat)} {f s j e : Nat} (h : e < rows.length) : (elimRows rows f s j)[e]? = some (if f < e ∧ e < f + 1 + j then elimRow (rowAt rows f) (rowAt rows e) s else rowAt rows e) := by
  unfold elimRows
  rw [List.getElem?_mapIdx, rowAt_get h]; rfl
theorem elim_len {rows : List (List Rat)} {f s j : Nat} : (elimRows rows f s j).length = rows.length := by simp [elimRows]
theorem elim_zero {rows : List (List Rat)} {f s : Nat} : elimRows rows f s 0 = rows := by
  unfold elimRows
  apply List.ext_getElem?
  intro i
  rw [List.getElem?_mapIdx]
  cases rows[i]? with
  | none => rfl
  | some r => simp; omega
theorem elim_step {rows : List (List Rat)} {f s j : Nat} (h : f + 1 + j < rows.length) : elimRows rows f s (j + 1) = (elimRows rows f s j).set (f + 1 + j) (elimRow (rowAt rows f) (rowAt rows (f + 1 + j)) s) := by
  apply List.ext_getElem?
  intro i
  by_cases hi : i < rows.length
  · rw [elim_get hi, List.getElem?_set, elim_get hi, elim_len]
    by_cases e : f + 1 + j = i
    · subst e
      rw [if_pos (by omega), if_pos rfl, if_pos h]
    · rw [if_neg e]
      congr 1
      by_cases c : f < i ∧ i < f + 1 + j
      · rw [if_pos c, if_pos (by omega)]
      · rw [if_neg c, if_neg (by omega)]
  · rw [List.getElem?_eq_none (by rw [elim_len]; omega), List.getElem?_eq_none (by simp [elim_len]; omega)]
theorem elimRow_len {top r : List Rat} {s : Nat} (h : top.length = r.length) : (elimRow top r s).length = r.length := by
  unfold elimRow; split
  · rfl
  · simp [h]
theorem elimRow_bl {top r : List Rat} {s b : Nat} (hs : s < r.length) (hl : top.length = r.length) (ht : bl b top) (hr : bl b r) (h0 : ent top s ≠ 0) : bl (4 * b + 1) (elimRow top r s) := by
  unfold elimRow; split
  · exact hr.mono (by omega)
  · have h1 := bd_neg (bd_div (ent_bd hs hr) (ent_bd (by omega) ht) h0)
    exact bl_zip fun x hx y hy => (bd_add (hr x hx) (bd_mul h1 (ht y hy))).mono (by omega)
theorem ROk.step {m k s : Nat} {st : List (List Rat) × Nat} (R : ROk m k st) (hs : s < m) : ROk m k (rankStep st s) := by
  unfold rankStep
  split
  · exact R
  · rename_i g l hg
    obtain ⟨h1, h2, h3⟩ := filled_mem hg
    have hl := R.len
    have hf : st.2 < st.1.length := by omega
    have top := swap_top hf h2
    have tm := rowAt_mem h2
    refine ⟨by rw [elim_len, swap_len, hl], fun r hr => ?_, fun r hr => ?_, by show st.2 + 1 ≤ k; omega⟩
    · obtain ⟨i, hi, rfl⟩ := List.getElem_of_mem hr
      have hi' : i < (swapR st.1 st.2 g).length := by rwa [elim_len] at hi
      have e := elim_get (rows := swapR st.1 st.2 g) (f := st.2) (s := s) (j := st.1.length - (st.2 + 1)) hi'
      rw [List.getElem?_eq_getElem hi] at e
      have e' := Option.some.inj e
      rw [e']
      have rm := R.rl _ (swap_mem hf h2 _ (rowAt_mem hi'))
      split
      · rw [elimRow_len (by rw [top, R.rl _ tm, rm]), rm]
      · exact rm
    · obtain ⟨i, hi, rfl⟩ := List.getElem_of_mem hr
      have hi' : i < (swapR st.1 st.2 g).length := by rwa [elim_len] at hi
      have e := elim_get (rows := swapR st.1 st.2 g) (f := st.2) (s := s) (j := st.1.length - (st.2 + 1)) hi'
      rw [List.getElem?_eq_getElem hi] at e
      have e' := Option.some.inj e
      rw [e']
      have mm := swap_mem hf h2 _ (rowAt_mem hi')
      have rm := R.rl _ mm
      have rb := R.rb _ mm
      show bl (4 * Rb st.2 + 1) _
      split
      · exact elimRow_bl (by omega) (by rw [top, R.rl _ tm, rm]) (by rw [top]; exact R.rb _ tm) rb (by rw [top]; exact h3)
      · exact rb.mono (by omega)
theorem ROk.all {m k : Nat} {rows : List (List Rat)} (h1 : rows.length = k) (h2 : ∀ r ∈ rows, r.length = m) (h3 : ∀ r ∈ rows, bl 17 r) : ∀ s, s ≤ m → ROk m k (rankN rows s)
  | 0, _ => ⟨h1, h2, h3, Nat.zero_le _⟩
  | s + 1, h => (ROk.all h1 h2 h3 s (by omega)).step (by omega)
theorem Rb3 {f : Nat} (h : f ≤ 3) : Rb f ≤ 1109 := by
  match f, h with
  | 0, _ => decide
  | 1, _ => decide
  | 2, _ => decide
  | 3, _ => decide
end
-- part L11
section
variable {n : Nat} {own : Own} {ns : Ns} {ρ : Rho}
theorem eb_or3 {x y z : PySem.Expr} {p : Pos} {Q : Bool → Own → Prop} (h : EB n ns ρ own x fun b o => Br b (Q true o) (EB n ns ρ o y fun c o' => Br c (Q true o') (EB n ns ρ o' z Q))) : EB n ns ρ own (.BoolOp .Or [x, y, z] p) Q := by
  exact .mk fun w h₀ A env s G E C R K S F => wpAny_isTrue_BoolOp (wpAny_allTrue_Or_cons (wpAny_mono (h.go w h₀ A env s G E C R K S F) (fun b s₁ q_u => by
    obtain ⟨o, G₁, h1, h2⟩ := q_u
    cases b with
    | true => exact ⟨o, G₁, h1.yes rfl, h2⟩
    | false =>
      have h1' := h1.no rfl
      exact wpAny_allTrue_Or_cons (wpAny_mono (h1'.go w h₀ A env s₁ G₁ E C R K h2.sr (F.ev h2)) (fun c s₂ q_u => by
        obtain ⟨o', G₂, h3, h4⟩ := q_u
        cases c with
        | true => exact ⟨o', G₂, h3.yes rfl, h2.trans h4⟩
        | false =>
          have h3' := h3.no rfl
          exact wpAny_allTrue_Or_cons (wpAny_mono (h3'.go w h₀ A env s₂ G₂ E C R K h4.sr ((F.ev h2).ev h4)) (fun c s₃ q => by
            cases c with
            | true => exact q.after (h2.trans h4)
            | false => exact wpAny_allTrue_Or_nil (q.after (h2.trans h4))) fun _ _ x => x)) fun _ _ x => x)) fun _ _ x => x))
theorem cmp_eq_same {a b : V} {Q : Bool → Prop} (e : a = b) (ha : isData 8 a = true) (h : Q true) : CMP n .Eq a b own Q := by
  subst e
  refine cmp_eq_data ha ha ?_
  rw [SeqAt.eqv_refl _ (canLay_of 8 a ha).1]; exact h
theorem cmp_ne_same {a b : V} {Q : Bool → Prop} (e : a = b) (ha : isData 8 a = true) (h : Q false) : CMP n .NotEq a b own Q := by
  subst e
  refine cmp_ne_data ha ha ?_
  rw [SeqAt.eqv_refl _ (canLay_of 8 a ha).1]; exact h
theorem eqv_nil {l : List V} : PyData.eqv (toPy (.lst l)) (toPy (.lst [])) = l.isEmpty := by
  cases l <;> simp [toPy, toPys, PyData.eqv, PyData.eqvAll]
theorem cmp_ne_nil {l : List V} {Q : Bool → Prop} (ha : isData 8 (.lst l) = true) (h : Q (!l.isEmpty)) : CMP n .NotEq (.lst l) (.lst []) own Q := by
  refine cmp_ne_data ha rfl ?_
  rw [eqv_nil]; exact h
theorem cmp_ne_nil_own {a : Addr} {l : List V} {Q : Bool → Prop} (hm : (a, AO.lst l) ∈ own) (ha : isData 8 (.lst l) = true) (h : Q (!l.isEmpty)) : CMP n .NotEq (.loc a) (.lst []) own Q := by
  exact .mk fun w h₀ A s G E a' b' C R S ra rb => by
    cases ra
    obtain ⟨vs, m, hg, hr⟩ := S.owned _ hm
    have ha' := ha
    rw [isData] at ha'
    obtain ⟨as, hs⟩ := reads_all S hr ha'
    have r1 : ∃ as, Reads s.heap (.ref a) (toPy (.lst l)) as := by
      rw [toPy]
      exact ⟨_, .list hg rfl rfl (by simpa using hs)⟩
    obtain ⟨as', r1⟩ := r1
    obtain ⟨bs, r2⟩ := reads_of S (k := 8) rb rfl
    have hu := R.units
    have hm := Nat.min_le_left (toPy (.lst l)).depth (toPy (.lst [])).depth
    have hd := (canLay_of 8 _ ha).2
    exact SeqAt.compareNe_reads r1 r2 (canLay_of 8 _ ha).1 (canLay_of 8 (.lst []) rfl).1 (by omega) ⟨_, rfl, by rw [eqv_nil]; exact h, .refl S⟩
theorem fr_data {k : Nat} (q : Rat) : isData (k + 1) (fr q) = true := by simp [fr, isData, areData]
theorem map_data {α : Type} {k : Nat} {f : α → V} {l : List α} (h : ∀ a, isData k (f a) = true) : isData (k + 1) (.lst (l.map f)) = true := by
  rw [isData]
  exact areData_of fun v hv => by
    obtain ⟨a, _, rfl⟩ := List.mem_map.mp hv
    exact h a
theorem cv_data {k : Nat} (u : List Rat) : isData (k + 2) (cv u) = true := map_data fun q => fr_data q
end
-- part R12
section
open Builtin.Int (intBits)
theorem itemsOf_r2 {a k : Nat} (h : a + k ≤ 400) : itemsOf (.rng (a : Int) ((a + k : Nat) : Int) 1) = some (rangeVs a 1 k) := by
  rw [items_range2 (by omega) (by omega)]; congr 2; omega
section
variable {n : Nat} {own : Own} {ns : Ns} {ρ : Rho} {Q : V → Own → Prop}
theorem bool_sub (x y : Rat) (h : y ≠ 0) : Rat.divInt (0 - x.num * y.den * (if y.num > 0 then 1 else -1)) (x.den * (if y.num > 0 then y.num else -y.num)) = -(x / y) := by
  have h0 := num0 h
  rw [← ratDiv, Rat.neg_divInt]
  by_cases hy : y.num > 0
  · rw [if_pos hy, if_pos hy]; congr 1; omega
  · rw [if_neg hy, if_neg hy]
    have : Rat.divInt (-(x.num * y.den)) (x.den * y.num) = Rat.divInt (- -(x.num * y.den)) (-(x.den * y.num)) := (Rat.neg_divInt_neg _ _).symm
    rw [this]; congr 1
    · omega
    · rw [Int.mul_neg]
theorem mapLe3 {α β : Type} {f : α → β} {l : List α} (h : l.length ≤ 3) : (l.map f).length ≤ 400 := by rw [List.length_map]; exact Nat.le_trans h (by decide)
theorem mapLt3 {α β : Type} {f : α → β} {l : List α} (h : l.length ≤ 3) : (l.map f).length < 2 ^ 63 := by rw [List.length_map]; exact Nat.lt_of_le_of_lt h (by decide)
set_option maxHeartbeats 4000000 in
theorem c_rank (hn : 4 ≤ n) {cs : List (List Rat)} {m : Nat} (hm : m ≤ 5) (h3 : cs.length ≤ 3) (hc : ∀ c ∈ cs, c.length = m ∧ bl 17 c) (h : Q (.int (lawRank cs)) own) : CALL n 268 [.lst (cs.map cv)] own Q := by
  obtain ⟨n, rfl⟩ : ∃ m, n = m + 1 := ⟨n - 1, by omega⟩
  refine call_def (names := ["columns"]) (fun w => rfl) (fun w => by kernel_rfl) (fun s vs' _ hl => binds1 (fun a => rfl) hl) ?_
  refine exs_cons (ex_comp_map_own (cs.map cv) ⟨rfl, rfl, by decide⟩ ?_)
  repeat walk_at "aw"
  refine gen_lst (by simp; omega) rfl ?_ ?_
  case refine_2 =>
    intro i v y hv hy
    rw [hv] at hy
    obtain rfl := Option.some.inj hy
    obtain ⟨c, hc', rfl⟩ := lst_get hv
    have cl := (hc c (List.mem_of_getElem? hc')).1
    repeat walk_at "aw"
    exact cb_list_frozen (szL (by simp; omega)) ⟨rfl, rfl⟩
  intro ra
  repeat walk_at "aw"
  have RO := ROk.all (m := m) (rows := cs) rfl (fun r hr => (hc r hr).1) (fun r hr => (hc r hr).2)
  generalize hk : (match cs with | [] => 0 | r :: _ => r.length) = k
  have hkm : k ≤ m := by
    subst hk
    cases cs with
    | nil => exact Nat.zero_le _
    | cons r rs => exact Nat.le_of_eq (hc r List.mem_cons_self).1
  have hlr : lawRank cs = (rankN cs k).2 := by
    subst hk
    cases cs <;> rfl
  rw [hlr] at h
  refine ex_for_fun (rangeVs 0 1 k) (fun i => [("rows", .loc ra), ("found", .int (rankN cs i).2)]) (fun i => (ra, AO.lst ((rankN cs i).1.map cv)) :: own) rfl ?_ ?_ ?_
  · repeat walk_at "aw"
    refine ev_listF ?_
    repeat walk_at "aw"
    refine cmp_ne_nil_own (.head _) (map_data fun u => cv_data u) ?_
    cases cs with
    | nil =>
      subst hk
      refine br_F ?_
      repeat walk_at "aw"
      exact ⟨items_range (k := 0) (by omega), ⟨rfl, rfl, trivial⟩, rfl⟩
    | cons r rs =>
      subst hk
      refine br_T ?_
      repeat walk_at "aw"
      refine sub_ownN (k := 0) (v := cv r) ?_ (.head _) rfl (by simp at h3 ⊢; omega)
      repeat walk_at "aw"
      have hr := (hc r List.mem_cons_self).1
      refine cb_len_cv ?_ (by omega)
      repeat walk_at "aw"
      exact ⟨items_range (by omega), ⟨rfl, rfl, trivial⟩, rfl⟩
  · intro i v hi
    obtain ⟨h1, rfl⟩ := rangeVs0_get hi
    have R := RO i (by omega)
    have en : rankN cs (i + 1) = rankStep (rankN cs i) i := rfl
    rw [en]
    generalize rankN cs i = st at R
    obtain ⟨rows, f⟩ := st
    have hlen : rows.length = cs.length := R.len
    have hr3 : rows.length ≤ 3 := by rw [hlen]; exact h3
    have hrl : ∀ r ∈ rows, r.length = m := R.rl
    have hrb : ∀ r ∈ rows, bl (Rb f) r := R.rb
    have hf : f ≤ cs.length := R.f
    have r3 := Rb3 (show f ≤ 3 by omega)
    have hst : rankStep (rows, f) i = match filledL rows f i with | [] => (rows, f) | g :: _ => (elimRows (swapR rows f g) f i (rows.length - (f + 1)), f + 1) := rfl
    rw [hst]
    show EXS _ _ ((_, _) :: [(Str.ofString "rows", V.loc ra), (Str.ofString "found", V.int f)]) ((ra, AO.lst (rows.map cv)) :: own) _ _
    refine exs_cons (ex_assign_comp (fun j acc o => acc = ((((List.range (rows.length - f)).map (f + ·)).take j).filter fun e => ent (rowAt rows e) i ≠ 0).map (fun e : Nat => V.int e) ∧ o = (ra, AO.lst (rows.map cv)) :: own) ⟨rfl, rfl, by decide⟩ rfl ?_)
    repeat walk_at "aw"
    refine cb_len_own (l := rows.map cv) (.head _) (mapLt3 hr3) ?_
    repeat walk_at "aw"
    have eri : (((rows.map cv).length : Nat) : Int) = ((f + (rows.length - f) : Nat) : Int) := by rw [List.length_map]; omega
    rw [eri]
    refine ⟨_, itemsOf_r2 (by omega), by rw [rangeVs_length]; omega, ⟨rfl, rfl⟩, ?_, ?_⟩
    · rintro j v acc o₁ hj ⟨rfl, rfl⟩
      obtain ⟨hj1, rfl⟩ := rangeVs_get hj
      have e1 : ((f : Int) + (j : Int) * 1) = ((f + j : Nat) : Int) := by omega
      rw [e1]
      have ej : ((List.range (rows.length - f)).map (f + ·))[j]? = some (f + j) := by simp [hj1]
      have et : ((List.range (rows.length - f)).map (f + ·)).take (j + 1) = ((List.range (rows.length - f)).map (f + ·)).take j ++ [f + j] := by
        obtain ⟨h5, h6⟩ := List.getElem?_eq_some_iff.mp ej
        rw [List.take_succ_eq_append_getElem h5, h6]
      have hin : f + j < rows.length := by omega
      have rl := hrl _ (rowAt_mem hin)
      refine tests_one ?_
      repeat walk_at "aw"
      refine sub_ownN (l := rows.map cv) ?_ (.head _) (map_get (rowAt_get hin)) (mapLe3 hr3)
      repeat walk_at "aw"
      refine sub_cv ?_ (ent_get (s := i) (by omega)) (by omega)
      repeat walk_at "aw"
      rw [bool_ne, et, List.filter_append, List.map_append]
      by_cases hz : ent (rowAt rows (f + j)) i = 0
      · simp [hz]
      · rw [if_pos (by simp [hz])]
        repeat walk_at "aw"
        simp [hz]
    rintro acc o₁ ⟨rfl, rfl⟩
    have ef : ((List.range (rows.length - f)).map (f + ·)).take (rangeVs f 1 (rows.length - f)).length = (List.range (rows.length - f)).map (f + ·) := by
      rw [rangeVs_length, List.take_of_length_le (by simp)]
    rw [ef]
    have efl : (((List.range (rows.length - f)).map (f + ·)).filter fun e => decide (ent (rowAt rows e) i ≠ 0)) = filledL rows f i := rfl
    rw [efl]
    have hfl : (filledL rows f i).length ≤ 3 := by
      have := List.length_filter_le (fun e => decide (ent (rowAt rows e) i ≠ 0)) ((List.range (rows.length - f)).map (f + ·))
      rw [efl] at this
      simp at this; omega
    have fm := @filled_mem rows f i
    generalize filledL rows f i = fl at fm hfl
    generalize hres : (match fl with | [] => (rows, f) | g :: _ => (elimRows (swapR rows f g) f i (rows.length - (f + 1)), f + 1)) = res
    repeat walk_at "aw"
    refine ev_listF ?_
    repeat walk_at "aw"
    refine cmp_ne_nil (map_data (k := 7) (f := fun e : Nat => V.int e) fun e => by simp [isData]) ?_
    cases fl with
    | nil =>
      have hres' : (rows, f) = res := hres
      subst hres'
      exact br_F (exs_nil (exs_nil ⟨rfl, ⟨rfl, rfl, trivial⟩, rfl⟩))
    | cons g l =>
      obtain ⟨g1, g2, g3⟩ := fm rfl
      refine br_T ?_
      have fg : f < rows.length := by omega
      refine exs_cons (ex_pair ?_)
      repeat walk_at "aw"
      refine sub_lstN (k := 0) ?_ rfl (by simp at hfl ⊢; omega)
      refine sub_ownN (l := rows.map cv) ?_ (.head _) (map_get (rowAt_get g2)) (mapLe3 hr3)
      repeat walk_at "aw"
      refine sub_ownN (l := rows.map cv) ?_ (.head _) (map_get (rowAt_get fg)) (mapLe3 hr3)
      repeat walk_at "aw"
      refine ⟨_, _, rfl, ?_⟩
      refine asg_sub (ev_name rfl rfl (ev_name rfl rfl ⟨ra, _, rows.map cv, f, _, rfl, rfl, .head, idx_nat (by simpa using fg), mapLt3 hr3, ?_⟩))
      refine asg_sub (ev_name rfl rfl ?_)
      repeat walk_at "aw"
      refine sub_lstN (k := 0) ?_ rfl (by simp at hfl ⊢; omega)
      refine ⟨ra, _, _, g, _, rfl, rfl, .head, idx_nat (by simpa using g2), by simp; omega, ?_⟩
      have es : ((rows.map cv).set f (cv (rowAt rows g))).set g (cv (rowAt rows f)) = (swapR rows f g).map cv := by unfold swapR; rw [List.map_set, List.map_set]
      rw [es]
      have sl := swap_len (rows := rows) (f := f) (g := g)
      have sm := swap_mem (rows := rows) fg g2
      have st := swap_top (rows := rows) fg g2
      have hres' : (elimRows (swapR rows f g) f i (rows.length - (f + 1)), f + 1) = res := hres
      subst hres'
      clear hres
      generalize swapR rows f g = sw at sl sm st
      have fs : f < sw.length := by omega
      have hs3 : sw.length ≤ 3 := by rw [sl]; exact hr3
      have srl : ∀ r ∈ sw, r.length = m := fun r hr => hrl r (sm r hr)
      have srb : ∀ r ∈ sw, bl (Rb f) r := fun r hr => hrb r (sm r hr)
      have tl := srl _ (rowAt_mem fs)
      have tb := srb _ (rowAt_mem fs)
      rw [← st] at g3
      repeat walk_at "aw"
      refine sub_ownN (l := sw.map cv) ?_ (.head _) (map_get (rowAt_get fs)) (mapLe3 hs3)
      repeat walk_at "aw"
      refine sub_cv ?_ (ent_get (s := i) (by omega)) (by omega)
      repeat walk_at "aw"
      have tbb := ent_bd (s := i) (by omega) tb
      generalize hte : ent (rowAt sw f) i = tp at tbb g3
      refine ex_cut [("rows", .loc ra), ("found", .int f)] ((ra, AO.lst ((elimRows sw f i (sw.length - (f + 1))).map cv)) :: own) ?_ ?_
      · refine ex_for_fun (rangeVs ((f + 1 : Nat) : Int) 1 (sw.length - (f + 1))) (fun j => [("top", fr tp), ("rows", .loc ra), ("found", .int f), ("spot", .int i)]) (fun j => (ra, AO.lst ((elimRows sw f i j).map cv)) :: own) rfl ?_ ?_ ?_
        · repeat walk_at "aw"
          refine cb_len_own (l := sw.map cv) (.head _) (mapLt3 hs3) ?_
          repeat walk_at "aw"
          have e1 : (((sw.map cv).length : Nat) : Int) = ((f + 1 + (sw.length - (f + 1)) : Nat) : Int) := by rw [List.length_map]; omega
          rw [e1]
          exact ⟨itemsOf_r2 (a := f + 1) (k := sw.length - (f + 1)) (by omega), ⟨rfl, rfl, rfl, rfl, trivial⟩, by rw [elim_zero]⟩
        · intro j v hj
          obtain ⟨hj1, rfl⟩ := rangeVs_get hj
          have e1 : (((f + 1 : Nat) : Int) + (j : Int) * 1) = ((f + 1 + j : Nat) : Int) := by omega
          rw [e1]
          have he : f + 1 + j < sw.length := by omega
          have ge := elim_get (rows := sw) (f := f) (s := i) (j := j) he
          rw [if_neg (by omega)] at ge
          have gf := elim_get (rows := sw) (f := f) (s := i) (j := j) fs
          rw [if_neg (by omega)] at gf
          have el := elim_len (rows := sw) (f := f) (s := i) (j := j)
          have es := elim_step (s := i) he
          have rel := srl _ (rowAt_mem he)
          have reb := srb _ (rowAt_mem he)
          have beb := ent_bd (s := i) (by omega) reb
          have er : elimRow (rowAt sw f) (rowAt sw (f + 1 + j)) i = if ent (rowAt sw (f + 1 + j)) i = 0 then rowAt sw (f + 1 + j) else List.zipWith (fun a b => a + -(ent (rowAt sw (f + 1 + j)) i / tp) * b) (rowAt sw (f + 1 + j)) (rowAt sw f) := by
            unfold elimRow; rw [hte]
          have gi := ent_get (r := rowAt sw (f + 1 + j)) (s := i) (by omega)
          rw [er] at es
          rw [es]
          generalize elimRows sw f i j = ew at ge gf el
          have he3 : ew.length ≤ 3 := by rw [el]; exact hs3
          generalize rowAt sw (f + 1 + j) = re at ge rel reb beb gi
          generalize rowAt sw f = rt at gf tl tb
          generalize ent re i = by0 at beb gi
          generalize hE : f + 1 + j = e at *
          repeat walk_at "aw"
          refine sub_ownN (l := ew.map cv) ?_ (.head _) (map_get ge) (mapLe3 he3)
          repeat walk_at "aw"
          refine sub_cv ?_ gi (by omega)
          repeat walk_at "aw"
          rw [bool_ne]
          by_cases hz : by0 = 0
          · refine br_f (by simp [hz]) (exs_nil (exs_nil ⟨rfl, ⟨rfl, rfl, rfl, rfl, trivial⟩, ?_⟩))
            rw [if_pos hz]
            have : ew.set e re = ew := by
              apply List.ext_getElem?
              intro q
              rw [List.getElem?_set]
              split
              · rename_i h; subst h; rw [if_pos (by omega), ge]
              · rfl
            rw [this]
          · rw [if_neg hz]
            refine br_t (by simp [hz]) ?_
            have qb := bd_neg (bd_div beb tbb g3)
            refine exs_cut [("by", fr (-(by0 / tp))), ("each", .int e), ("top", fr tp), ("rows", .loc ra), ("found", .int f), ("spot", .int i)] ((ra, AO.lst (ew.map cv)) :: own) ?_ ?_
            · have hlow := bool_sub by0 tp g3
              have t0 := num0 g3
              repeat walk_at "aw"
              refine bin_mul ?_ (mulOk beb.1 tbb.2 (by omega))
              repeat walk_at "aw"
              by_cases hp : tp.num > 0
              · rw [if_pos hp, if_pos hp] at hlow
                refine br_t (decide_eq_true hp) ?_
                repeat walk_at "aw"
                refine bin_mul ?_ (IntMulOk.of_right (by decide))
                repeat walk_at "aw"
                refine br_t (decide_eq_true hp) ?_
                repeat walk_at "aw"
                refine bin_mul ?_ (mulOk beb.2 tbb.1 (by omega))
                repeat walk_at "aw"
                refine c_low (by omega) _ _ (Int.mul_pos (denpos _) hp) ?_
                rw [hlow]
                repeat walk_at "aw"
                exact ⟨rfl, ⟨rfl, rfl, rfl, rfl, rfl, rfl, trivial⟩, rfl⟩
              · rw [if_neg hp, if_neg hp] at hlow
                refine br_f (decide_eq_false hp) ?_
                refine ev_neg ?_
                repeat walk_at "aw"
                refine ⟨_, rfl, ?_⟩
                refine bin_mul ?_ (IntMulOk.of_right (by decide))
                repeat walk_at "aw"
                refine br_f (decide_eq_false hp) ?_
                refine ev_neg ?_
                repeat walk_at "aw"
                refine ⟨_, rfl, ?_⟩
                refine bin_mul ?_ (mulOk beb.2 (intBits_neg_le tbb.1) (by omega))
                repeat walk_at "aw"
                refine c_low (by omega) _ _ (Int.mul_pos (denpos _) (by omega)) ?_
                rw [hlow]
                repeat walk_at "aw"
                exact ⟨rfl, ⟨rfl, rfl, rfl, rfl, rfl, rfl, trivial⟩, rfl⟩
            · generalize -(by0 / tp) = q at qb
              repeat walk_at "aw"
              refine ev_comp_map ((List.zipWith (fun a b => a + q * b) re rt).map fr) ⟨rfl, rfl, by decide⟩ ?_
              repeat walk_at "aw"
              refine sub_ownN (l := ew.map cv) ?_ (.head _) (map_get ge) (mapLe3 he3)
              repeat walk_at "aw"
              refine cb_len_cv ?_ (by omega)
              repeat walk_at "aw"
              refine gen_range (by omega) (by simp [rel, tl]) ?_ fun z y hz hy => ?_
              case refine_2 =>
                obtain ⟨p', q', h1', h2', rfl, h3', h4'⟩ := zip_get (by rw [rel, tl]) hz hy
                repeat walk_at "aw"
                refine sub_ownN (l := ew.map cv) ?_ (.head _) (map_get ge) (mapLe3 he3)
                repeat walk_at "aw"
                refine sub_cv ?_ h1' (by omega)
                repeat walk_at "aw"
                refine sub_ownN (l := ew.map cv) ?_ (.head _) (map_get gf) (mapLe3 he3)
                repeat walk_at "aw"
                refine sub_cv ?_ h2' (by omega)
                repeat walk_at "aw"
                refine c_lmul (by omega) qb (tb _ h4') (by omega) ?_
                repeat walk_at "aw"
                exact c_ladd (by omega) (reb _ h3') (bd_mul qb (tb _ h4')) (by omega) ⟨rfl, rfl⟩
              refine asg_sub (ev_name rfl rfl (ev_name rfl rfl ⟨ra, _, ew.map cv, e, _, rfl, rfl, .head, idx_nat (by simp; omega), mapLt3 he3, ?_⟩))
              refine exs_nil (exs_nil ⟨rfl, ⟨rfl, rfl, rfl, rfl, trivial⟩, ?_⟩)
              rw [List.map_set]; rfl
        · intro ρ₁ hs
          rw [rangeVs_length]
          exact ⟨rfl, ⟨hs.get _ _ rfl, hs.get _ _ rfl, trivial⟩, rfl⟩
      · refine exs_cons (ex_augadd rfl rfl ?_)
        repeat walk_at "aw"
        refine ⟨_, rfl, exs_nil (exs_nil ⟨rfl, ⟨rfl, ?_, trivial⟩, ?_⟩)⟩
        · show some (V.int ((f : Int) + 1)) = some (V.int ((f + 1 : Nat) : Int)); rfl
        · rw [sl]
  · intro ρ₁ hs
    rw [rangeVs_length] at hs ⊢
    refine exs_sub hs (exs_freeze (x := "rows") rfl .head ?_)
    repeat walk_at "aw"
    exact h
end
end
-- part X1
section
set_option tactic.hygienic false
open Builtin Builtin.ObjectAttr
noncomputable abbrev excC : Addr := 44
-- an exception as it is made
noncomputable abbrev excObj (t : Addr) (d : Option Addr) : Obj := { cls := .ref excC, dict := d, data := .fields #[.ref t, .none, .none, .none, .bool false, .none] }
theorem exc_setattr : ∀ w, findIn (KK w) (.ref excC) "__setattr__" = some (some (.builtin "object.__setattr__")) := fun w => by kernel_rfl
theorem exc_ga : ∀ w, findIn (KK w) (.ref excC) "__getattribute__" = some (some (.builtin "BaseException.__getattribute__")) := fun w => by kernel_rfl
theorem exc_taker : ∀ w, takerIn (KK w) excC "message" = some none := fun w => by kernel_rfl
theorem exc_initf : ∀ w, findIn (KK w) (.ref excC) "__init__" = some (some (.ref 41)) := fun w => by kernel_rfl
theorem exc_initfn : ∀ w, typeIn (KK w) (.ref 41) = some (.type "function") := fun w => by kernel_rfl
noncomputable def excCd : ClassData := { name := "Refusal", bases := [.ref 24], mro := [.ref 44, .ref 24, .type "Exception", .type "BaseException", .type "object"], ns := 43, qualname := "Refusal" }
theorem exc_cls : ∀ w, clsIn (KK w) excC = some excCd := fun w => by kernel_rfl
theorem osa_exc {w : World} {A : Around} {s : Shared} {e t : Addr} {R : Result → Shared → Prop} {tk : Tok} {v : Value} (X : (KK w).In s.heap) (I : InstAt s.heap e (excObj t none) excC none)
    (h : ∀ h' d, (∀ b o, b ≠ e → s.heap.get? b = some o → h'.get? b = some o) → s.heap.get? d = none → h'.get? e = some (excObj t (some d)) → (∃ m hs tk', h'.get? d = some (dictOf [⟨hs, .str "message" tk', v⟩] m)) → R (.ok (.ret .none)) { s with heap := h', toks := s.toks + 1 }) :
    codeAny (model prg w) A (.call (.builtin "object.__setattr__") ⟨[.ref e, .str "message" tk, v], []⟩) R s := by
  have SF := PySem.F.store_object
  have hc := exc_cls w
  have sub : Looks (model prg w) s.heap (isInstance (.ref e) (.type "object")) true := I.type.andThen (looks_mroIn X (by unfold mroIn; rw [hc]; rfl))
  refine codeAny_call_builtin SF.slot.plain SF.entry (@check_slot (model prg w) _ _ s "object.__setattr__" "object" "__setattr__" (.ref e) [.str "message" tk, v] [] _ SF.kind SF.split sub (SF.args (.ref e) (.str "message" tk) v) ?_)
  obtain ⟨attr, ha, hr⟩ := Option.bind_eq_some_iff.mp (exc_taker w)
  have hm : Looks (model prg w) s.heap (mroOf (.ref excC)) excCd.mro := (looks_clsIn X hc).andThen .now
  have L3 : Looks (model prg w) s.heap (storeTaker? attr) none := by
    cases attr with
    | none => exact .now
    | some a =>
      obtain ⟨b, hb, hb'⟩ := Option.map_eq_some_iff.mp hr
      refine (looks_takesIn X hb).andThen ?_
      cases b
      · exact .now
      · cases hb'
  rw [osa_eq, refuse_eq]
  refine wpAny_bind (wpAny_bind (I.type.here (wpAny_bind (hm.here ?_))))
  rw [show excCd.mro = [.ref 44, .ref 24, .type "Exception", .type "BaseException", .type "object"] from rfl, refuseLoop_ref, refuseLoop_ref, PySem.F.store_Exception.passes]
  refine wpAny_pure (wpAny_bind (I.type.here (wpAny_bind ((looks_findIn X ha).here (wpAny_bind (L3.here ?_))))))
  dsimp only
  unfold storeInOwnDict
  refine wpAny_bind (wpAny_pure ?_)
  rw [if_neg (by decide)]
  have hx := I.at_
  refine wpAny_bind ?_
  unfold ownDictForStores instanceDict
  refine wpAny_bind (wpAny_loadPart hx ?_)
  dsimp only
  refine wpAny_bind ((looks_clsIn X hc).here ?_)
  rw [if_neg (by decide)]
  rw [if_neg (by decide)]
  refine wpAny_bind (wpAny_alloc ?_)
  have hlt := Heap.lt_size hx
  have hx1 := Heap.get?_push_of_some { cls := .type "dict", data := .dict #[] } hx
  refine wpAny_bind (wpAny_update hx1 ?_)
  unfold dictMade
  refine wpAny_pure ?_
  dsimp only
  unfold storeInDict newKeyGuard
  refine wpAny_bind (wpAny_pure (wpAny_bind ?_))
  have hne : e ≠ s.heap.objs.size := Nat.ne_of_lt hlt
  have D : ((s.heap.push { cls := .type "dict", data := .dict #[] }).update e (fun o => { o with dict := some s.heap.objs.size })).get? s.heap.objs.size = some (dictOf [] 0) := by
    rw [Heap.get?_update_other _ _ hne]
    exact Heap.get?_push_size _ rfl
  have pd := putName_dict "message" (PyData.keyHash w.params "message") (.str "message" s.toks) v [] 0
  have D' := Heap.get?_update_self (Obj.putName "message" (PyData.keyHash w.params "message") (.str "message" s.toks) v) D rfl
  unfold nsSet
  refine wpAny_bind (wpAny_bind (wpAny_askSetting (wpAny_pure (wpAny_bind (wpAny_mkText (wpAny_bind (wpAny_loadPart D ?_)))))))
  refine wpAny_updatePart D ?_
  refine wpAny_bind (wpAny_lookBehind D' (by rw [pd]; exact pastItsLine_dict (by rw [List.size_toArray, sizeLine_eq]; show 1 ≤ _; decide)) ?_)
  refine wpAny_pure (h _ s.heap.objs.size ?_ (get?_size_none _) ?_ ?_)
  · intro b o hb ho
    have hbs : b ≠ s.heap.objs.size := Nat.ne_of_lt (Heap.lt_size ho)
    rw [Heap.get?_update_other _ _ (Ne.symm hbs), Heap.get?_update_other _ _ (Ne.symm hb)]
    exact Heap.get?_push_of_some _ ho
  · rw [Heap.get?_update_other _ _ (Ne.symm hne)]
    exact Heap.get?_update_self _ hx1 rfl
  · exact ⟨_, _, _, D'.trans (by rw [pd]; rfl)⟩
theorem SR.butE {h₀ : Heap} {G : Ghost} {own : Own} {h h' : Heap} {e : Addr} (S : SR h₀ G own h) (k : ∀ b o, b ≠ e → h.get? b = some o → h'.get? b = some o) (hg : G e = none) (ho : e ∉ addrs own) : SR h₀ G own h' :=
  ⟨S.base, fun a o x => ⟨k a o (fun q => by rw [q, hg] at x; cases x) (S.frozen a o x).1, (S.frozen a o x).2⟩, S.nodup, fun p hp => (S.owned p hp).keeps fun b hb x q => k b x (fun z => ho (z ▸ mem_addrs.mpr ⟨p, hp, hb⟩)) q⟩
theorem Ev.none_back {h₀ : Heap} {G G' : Ghost} {own : Own} {s s' : Shared} (S : SR h₀ G own s.heap) (e : Ev h₀ G own s G' own s') {b : Addr} (h : s'.heap.get? b = none) : s.heap.get? b = none := by
  cases hq : s.heap.get? b with
  | none => rfl
  | some o =>
    by_cases h1 : b ∈ addrs own
    · obtain ⟨o', ho'⟩ := e.sr.ownGet h1
      rw [h] at ho'; cases ho'
    · cases h2 : G b with
      | some o' => rw [(e.sr.frozen b o' (e.sub b o' h2)).1] at h; cases h
      | none => rw [(e.keep b o hq h1 h2).1] at h; cases h
theorem exc_init {n : Nat} {w : World} {h₀ : Heap} {A : Around} {s : Shared} {G : Ghost} {own : Own} {e t : Addr} {R : Result → Shared → Prop} {msg : Str} {u' : Value} (C : Cx w h₀) (Rm : Room (n + 1) A) (S : SR h₀ G own s.heap) (he : s.heap.get? e = some (excObj t none)) (hG : G e = none) (ho : e ∉ addrs own) (hu : RV G (.str msg) u')
    (h : ∀ G' h' d tk, Gsub G G' → SR h₀ G' own h' → (∀ b o, b ≠ e → s.heap.get? b = some o → b ∉ addrs own → G b = none → h'.get? b = some o ∧ G' b = none) → s.heap.get? d = none → G' d = none → d ∉ addrs own → G' e = none →
      h'.get? e = some (excObj t (some d)) → (∃ m hs tk' tk2, h'.get? d = some (dictOf [⟨hs, .str "message" tk', .str msg tk2⟩] m)) → R (.ok (.ret .none)) { s with heap := h', toks := tk }) :
    codeAny (model prg w) A (.call (.ref 41) ⟨[.ref e, u'], []⟩) R s := by
  have hin := cx_in C S
  obtain ⟨mg, mb, T⟩ := C.t
  have hlim : s.heap.NoLimit := T.nolimit.keeps S.keeps0
  have hcd : codeIn (KK w) (.ref 40) "Refusal.__init__" = true := by kernel_rfl
  refine codeAny_call_function (by have := Rm.depth; show A.depth < recursionLimit; omega) (hin _ _ (show (KK w).lookup 41 = _ from rfl)) rfl rfl rfl rfl (codeRec_of hin hcd) ?_
  refine binds2 (x := "self") (y := "message") (fun a b => rfl) (vs' := [.ref e, u']) rfl _ _ _ _ ?_
  refine wpAny_newFunctionEnv_cells (by rfl) (fun x hx => ?_) fun env he' s₁ x => ?_
  · have hx1 : x.1 ∈ (["self", "message"] : List Str) := (List.of_mem_zip hx).1
    refine .inl ?_
    simp only [List.mem_cons, List.not_mem_nil, or_false] at hx1
    rcases hx1 with h1 | h1 <;> rw [h1] <;> rfl
  · have r : RVs G [.loc e, .str msg] [.ref e, u'] := .cons .loc (.cons hu .nil)
    obtain ⟨e1, F1⟩ := frame_of (names := ["self", "message"]) S r (by decide) (he' ▸ x)
    have e1k := e1.keep e _ he ho hG
    have kp := x.toInCall.keep
    refine ⟨hlim.keeps x.toInCall.keep, codeAny_func ?_⟩
    have K1 : EnvOk [("self", .local), ("message", .local)] env := by rw [he']; exact ⟨rfl, rfl, rfl, rfl⟩
    have F1' : FR G own env [("self", .loc e), ("message", .str msg)] s₁.heap := by rw [he']; exact F1
    have R1 : Room n (A.deeper env) := by rw [he']; exact Rm.deeper rfl rfl rfl rfl
    obtain ⟨hh1, t1, q1⟩ := e1.same
    refine wpAny_execs_cons ?_
    rw [exec_Assign, swapsWithSole_c K1]
    refine wpAny_bind (wpAny_standAt (wpAny_bind (wpAny_pure (a := false) ?_)))
    rw [if_neg (by decide)]
    have evm : EV n [("self", .local), ("message", .local)] [("self", .loc e), ("message", .str msg)] own (.Name "message" { line := 7, col := 23, endLine := 7, endCol := 30 }) fun v o => v = .str msg ∧ o = own := ev_name rfl rfl ⟨rfl, rfl⟩
    have evs : EV n [("self", .local), ("message", .local)] [("self", .loc e), ("message", .str msg)] own (.Name "self" { line := 7, col := 8, endLine := 7, endCol := 12 }) fun v o => v = .loc e ∧ o = own := ev_name rfl rfl ⟨rfl, rfl⟩
    refine wpAny_bind (wpAny_mono (evm.go w h₀ _ env s₁ G _ C R1 K1 e1.sr F1') (fun v' s₂ q_u => ?_) fun _ _ x => x)
    obtain ⟨v, o, G₂, ⟨hv, ho2⟩, rv, e2⟩ := q_u
    subst hv ho2
    cases rv with
    | @str _ tkv =>
    rw [swappedStores_c K1]
    refine wpAny_bind (wpAny_pure (a := none) ?_)
    show wpAny _ _ (do assign (.Attribute (.Name "self" { line := 7, col := 8, endLine := 7, endCol := 12 }) "message" _) env (.str msg tkv); pure Flow.next) _ _ s₂
    have F2 := F1'.ev e2
    rw [arm_assign_Attribute]
    refine wpAny_bind (wpAny_bind (wpAny_holding (wpAny_mono (evs.go w h₀ _ env s₂ G₂ _ C R1 K1 e2.sr F2) (fun v' s₃ q_u => ?_) fun _ _ x => x)))
    obtain ⟨v, o, G₃, ⟨hv, ho3⟩, rv, e3⟩ := q_u
    subst hv ho3
    cases rv
    have e123 := (e1.trans e2).trans e3
    obtain ⟨g1, g2, g3⟩ := e123.keep e _ he ho hG
    refine wpAny_bind (wpAny_standAt (wpAny_bind (wpAny_holding ?_)))
    have I : W.InstAt s₃.heap e (excObj t none) excC none := ⟨g1, rfl, rfl, trivial⟩
    refine set_plain (cx_in C e3.sr) I (exc_setattr w) (osa_exc (s := { s₃ with toks := s₃.toks + 1 }) (cx_in C e3.sr) I fun h' d k1 k2 k3 k4 => ?_)
    refine wpAny_release' (wpAny_pure ?_)
    refine wpAny_execs_nil ?_
    obtain ⟨hh3, t3, q3⟩ := e123.same
    have fin := h G₃ h' d (s₃.toks + 1 + 1) e123.sub (e123.sr.butE k1 g3 g2) (fun b o hb k5 k6 k7 => by
      obtain ⟨j1, j2, j3⟩ := e123.keep b o k5 k6 k7
      exact ⟨k1 b o hb j1, j3⟩) (e123.none_back S k2) (e123.sr.fresh_G k2) (e123.sr.fresh_own k2) g3 k3 (by
        obtain ⟨m, hs, tk', hd⟩ := k4
        exact ⟨m, hs, tk', _, hd⟩)
    subst q3
    exact fin
-- an exception has been made
structure XMade (h₀ : Heap) (G : Ghost) (own : Own) (h : Heap) (G' : Ghost) (h' : Heap) (e d t : Addr) (msg : Str) : Prop where
  sub : Gsub G G'
  sr : SR h₀ G' own h'
  keep : ∀ b o, h.get? b = some o → b ∉ addrs own → G b = none → h'.get? b = some o ∧ G' b = none
  en : h.get? e = none
  dn : h.get? d = none
  ge : G' e = none
  gd : G' d = none
  eo : e ∉ addrs own
  dO : d ∉ addrs own
  he : h'.get? e = some (excObj t (some d))
  hd : ∃ m hs tk' tk2, h'.get? d = some (dictOf [⟨hs, .str "message" tk', .str msg tk2⟩] m)
theorem exc_call {n : Nat} {w : World} {h₀ : Heap} {A : Around} {s : Shared} {G : Ghost} {own : Own} {E : Value → Shared → Prop} {Q : Value → Shared → Prop} {msg : Str} {u' : Value} (C : Cx w h₀) (Rm : Room (n + 2) A) (S : SR h₀ G own s.heap) (hu : RV G (.str msg) u')
    (h : ∀ G' h' e d t tk, XMade h₀ G own s.heap G' h' e d t msg → Q (.ref e) { s with heap := h', toks := tk }) : wpAny (model prg w) A (call (.ref 44) [u']) Q E s := by
  have F := PySem.F.excBase_Exception
  have X := cx_in C S
  have T : OwnTail s.heap [.type "Exception", .type "BaseException", .type "object"] [.ref 24, .type "Exception", .type "BaseException", .type "object"] := tail_of_in X (by kernel_rfl)
  have hC : s.heap.get? 44 = some (excClassObj "Refusal" "Refusal" 44 43 [.ref 24] [.ref 24, .type "Exception", .type "BaseException", .type "object"] true [] [] false none none (some (.ref 28)) none (some (.str "Refusal" 209)) (some (.str "Refusal" 217)) (some (.bool true)) "Exception.__new__") := X _ _ (by rfl)
  obtain ⟨hp, g, dr, tt, os⟩ := s
  have f1 := tc_lookup
  have f2 := tc_bind (.ref 44)
  have hT : (⟨hp, g, dr, tt, os⟩ : Shared).TypeIs (.ref 44) "type" := ⟨_, hC, rfl⟩
  refine wpAny_call (codeAny_of_tree ?_)
  show wpAny _ _ (callAny (.ref 44) _) _ _ _
  repeat (any_goals (first | assumption | with_reducible refine wpAny_loadPart_at hC ?_ | wp_step))
  refine ⟨rfl, ?_⟩
  refine codeAny_call_builtin_at (Code.quiet_builtin _ (by decide +kernel)) entry_typeCall (wpAny_check_type_call_sub hC ?_)
  repeat (first | with_reducible refine wpAny_loadPart_at hC ?_ | with_reducible refine wpAny_madeBy_exc hC ?_ | wp_step)
  refine codeAny_call_builtin_code (Code.quiet_builtin _ F.quiet) (wpAny_check_new_subT F T hC ?_)
  refine codeAny_exc_new_subT F T hC ?_ (by rw [sizeLine_eq]; show 1 ≤ _; decide)
  show wpAny _ _ _ _ _ _
  have k : ∀ b o, hp.get? b = some o → ((hp.push { cls := .type "tuple", data := .seq [u'].toArray }).push (excObj hp.objs.size none)).get? b = some o := fun b o e => Heap.get?_push_of_some _ (Heap.get?_push_of_some _ e)
  have hget : ((hp.push { cls := .type "tuple", data := .seq [u'].toArray }).push (excObj hp.objs.size none)).get? (hp.objs.size + 1) = some (excObj hp.objs.size none) := by heap_get
  have hC₁ := k _ _ hC
  have X₁ : (KK w).In ((hp.push { cls := .type "tuple", data := .seq [u'].toArray }).push (excObj hp.objs.size none)) := fun a o q => k a o (X a o q)
  have hcC : (Value.ref 44 :: [.ref 24, .type "Exception", .type "BaseException", .type "object"]).contains (.ref 44) = true := by simp
  have ev : Ev h₀ G own ⟨hp, g, dr, tt, os⟩ G own ⟨(hp.push { cls := .type "tuple", data := .seq [u'].toArray }).push (excObj hp.objs.size none), g, dr, tt, os⟩ := .junk S ⟨_, _, rfl⟩ k
  have hn1 : hp.get? (hp.objs.size + 1) = none := by
    cases hq : hp.get? (hp.objs.size + 1) with
    | none => rfl
    | some o => exact absurd (Heap.lt_size hq) (Nat.not_lt.mpr (Nat.le_succ _))
  have i1 := looks_findIn (M := model prg w) X₁ (exc_initf w)
  have b1 := bind_fn (M := model prg w) X₁ (.ref (hp.objs.size + 1)) (exc_initfn w)
  unfold isInstance
  repeat (first | with_reducible refine wpAny_loadPart_at hget ?_ | wp_step)
  refine wpAny_isSubtype_exc hC₁ ?_
  rw [hcC]
  repeat (first | with_reducible refine wpAny_loadPart_at hget ?_ | wp_step)
  show wpAny _ _ (typeLookup (.ref 44) _) _ _ _
  refine i1.here ?_
  refine wpAny_holding (wpAny_bind (b1.here ?_))
  refine wpAny_bind (wpAny_call (exc_init (n := n) C ?_ ev.sr hget (S.fresh_G hn1) (S.fresh_own hn1) hu ?_))
  · exact Rm.mk_
  intro G' h' d tk h1 h2 h3 h4 h5 h6 h7 h8 h9
  refine wpAny_pure (wpAny_pure ?_)
  refine h G' h' (hp.objs.size + 1) d hp.objs.size tk ⟨h1, h2, fun b o e1 e2 e3 => h3 b o (fun q => by rw [q, hn1] at e1; cases e1) (k b o e1) e2 e3, hn1, ?_, h7, h5, S.fresh_own hn1, h6, h8, h9⟩
  cases hq : hp.get? d with
  | none => rfl
  | some o => exact absurd (h4.symm.trans (k d o hq)) (by intro z; cases z)
theorem exc_obj {w : World} {h : Heap} (X : (KK w).In h) : h.get? 44 = some (excClassObj "Refusal" "Refusal" 44 43 [.ref 24] [.ref 24, .type "Exception", .type "BaseException", .type "object"] true [] [] false none none (some (.ref 28)) none (some (.str "Refusal" 209)) (some (.str "Refusal" 217)) (some (.bool true)) "Exception.__new__") := X _ _ (by rfl)
theorem raise_core {w : World} {A : Around} {E : Value → Shared → Prop} {s : Shared} {env : Env} {x : Sem Value} {Q : Flow → Shared → Prop} (hh : A.handled = none)
    (h : wpAny (model prg w) A x (fun v s₁ => ∃ e t d, v = .ref e ∧ (KK w).In s₁.heap ∧ s₁.heap.get? e = some (excObj t (some d)) ∧ E (.ref e) s₁) E s) : wpAny (model prg w) A (raiseStmt env (some x) none) Q E s := by
  have hcB : (Value.ref 44 :: [.ref 24, .type "Exception", .type "BaseException", .type "object"]).contains (.type "BaseException") = true := by simp
  unfold raiseStmt
  refine wpAny_bind (wpAny_mono h (fun v s₁ h₁ => ?_) fun _ _ x => x)
  obtain ⟨e, t, d, rfl, X, he, hE⟩ := h₁
  have hC := exc_obj X
  obtain ⟨hp, g, dr, tk, os⟩ := s₁
  repeat (first | with_reducible refine wpAny_loadPart_at he ?_ | with_reducible refine wpAny_loadPart_at hC ?_ | (refine wpAny_isSubtype_exc hC ?_; rw [hcB]) | wp_step)
  exact wpAny_raiseNew_none hh hE
end
-- part X2
section
set_option tactic.hygienic false
-- the frames below
noncomputable def Stk (G : Ghost) (own : Own) (h : Heap) (envs : List Env) : Prop := ∀ env ∈ envs, env.scope.kind ≠ .module ∧ ∃ L o, env.frame = some L ∧ h.get? L = some o ∧ (∀ vs, o.data ≠ .fields vs) ∧ L ∉ addrs own ∧ G L = none
noncomputable abbrev frs (envs : List Env) : List Addr := envs.filterMap (·.frame)
noncomputable def Heap0 : Heap := { objs := #[] }
theorem Stk.fun {G : Ghost} {own : Own} {h : Heap} : ∀ {envs : List Env}, Stk G own h envs → h.FunFrames Heap0 envs
  | [], _ => trivial
  | env :: r, S => by
    obtain ⟨h1, L, o, h2, h3, h4, _, _⟩ := S env List.mem_cons_self
    exact ⟨h1, ⟨L, o, h2, rfl, h3, h4⟩, Stk.fun (envs := r) fun x hx => S x (List.mem_cons_of_mem _ hx)⟩
theorem Stk.mem {G : Ghost} {own : Own} {h : Heap} {envs : List Env} (S : Stk G own h envs) {b : Addr} (hb : b ∈ frs envs) : (∃ o, h.get? b = some o ∧ ∀ vs, o.data ≠ .fields vs) ∧ b ∉ addrs own ∧ G b = none := by
  obtain ⟨env, he, hf⟩ := List.mem_filterMap.mp hb
  obtain ⟨h1, L, o, h2, h3, h4, h5, h6⟩ := S env he
  rw [h2] at hf; cases hf
  exact ⟨⟨o, h3, h4⟩, h5, h6⟩
-- an exception in flight
noncomputable def TbOk (G : Ghost) (own : Own) (K : Addr → Prop) (h' : Heap) (e : Addr) (x : Value) (vs : Array Value) : Prop :=
  ∃ T oT ts, vs[1]? = some (.ref T) ∧ T ≠ e ∧ ¬ K T ∧ G T = none ∧ T ∉ addrs own ∧ h'.get? T = some oT ∧ oT.data = .fields ts ∧ ts[3]? = some x
structure XG (G : Ghost) (own : Own) (K : Addr → Prop) (h' : Heap) (e : Addr) (msg : Str) (P : Array Value → Prop) : Prop where
  en : ¬ K e
  ge : G e = none
  eo : e ∉ addrs own
  ex : ∃ oe vs d, h'.get? e = some oe ∧ oe.cls = .ref excC ∧ oe.dict = some d ∧ oe.data = .fields vs ∧ 1 < vs.size ∧ (¬ K d ∧ G d = none ∧ d ∉ addrs own ∧
    (∃ m hs tk' tk2, h'.get? d = some (dictOf [⟨hs, .str "message" tk', .str msg tk2⟩] m))) ∧ P vs
-- in the frame L
noncomputable abbrev XSt (G : Ghost) (own : Own) (K : Addr → Prop) (L : Addr) (h' : Heap) (e : Addr) (msg : Str) : Prop := XG G own K h' e msg fun vs => vs[1]? = some .none ∨ TbOk G own K h' e .none vs ∨ TbOk G own K h' e (rawInt L) vs
-- its places
noncomputable def XP (h : Heap) (e b : Addr) : Prop := b = e ∨ ∃ oe vs, h.get? e = some oe ∧ oe.data = .fields vs ∧ vs[1]? = some (.ref b)
noncomputable def KeepX (F : List Addr) (e : Addr) (h h' : Heap) : Prop := ∀ b o, ¬ XP h e b → h.get? b = some o → (∃ sl, h'.get? b = some { o with slots := sl }) ∧ (b ∉ F → h'.get? b = some o)
theorem XG.places {G : Ghost} {own : Own} {K : Addr → Prop} {h' : Heap} {e : Addr} {msg : Str} {P : Array Value → Prop} (x : XG G own K h' e msg P) (hP : ∀ vs, P vs → vs[1]? = some .none ∨ ∃ y, TbOk G own K h' e y vs) {b : Addr} (hb : XP h' e b) : ¬ K b ∧ G b = none ∧ b ∉ addrs own := by
  obtain ⟨oe, vs, d, he, _, _, hd, _, _, p⟩ := x.ex
  rcases hb with rfl | ⟨oe', vs', he', hd', h1⟩
  · exact ⟨x.en, x.ge, x.eo⟩
  · rw [he] at he'; cases he'
    rw [hd] at hd'; cases hd'
    rcases hP vs p with q | ⟨y, T, oT, ts, q1, q2, q3, q4, q5, _⟩
    · rw [h1] at q; cases q
    · rw [h1] at q1; cases q1
      exact ⟨q3, q4, q5⟩
theorem SR.butL {h₀ : Heap} {G : Ghost} {own : Own} {h h' : Heap} (X : Addr → Prop) (S : SR h₀ G own h) (k : ∀ b o, ¬ X b → h.get? b = some o → h'.get? b = some o) (hX : ∀ b, X b → G b = none ∧ b ∉ addrs own) : SR h₀ G own h' :=
  ⟨S.base, fun a o x => ⟨k a o (fun q => by rw [(hX a q).1] at x; cases x) (S.frozen a o x).1, (S.frozen a o x).2⟩, S.nodup, fun p hp => (S.owned p hp).keeps fun b hb x q => k b x (fun z => (hX b z).2 (mem_addrs.mpr ⟨p, hp, hb⟩)) q⟩
section
variable {M : Model} {A : Around} {E : Value → Shared → Prop} {s : Shared}
-- the entry in the traceback
theorem entry_x {G : Ghost} {own : Own} {env : Env} {outer : List Env} {L e : Addr} {oe : Obj} {vs : Array Value} {head : Value} {hadNext : Bool} {Q : Unit → Shared → Prop}
    (hfr : A.frames = some (env :: outer)) (hS : Stk G own s.heap (env :: outer)) (hf : env.frame = some L) (he : s.heap.get? e = some oe) (hd : oe.data = .fields vs) (hsz : 1 < vs.size)
    (h : ∀ h' T oT ts oe', s.heap.get? T = none → T ≠ e → h'.get? T = some oT → oT.data = .fields ts → ts[3]? = some (rawInt L) → h'.get? e = some oe' → oe'.cls = oe.cls → oe'.dict = oe.dict → oe'.data = .fields (vs.setIfInBounds 1 (.ref T)) →
      (∀ b o, b ≠ e → b ∉ frs (env :: outer) → s.heap.get? b = some o → h'.get? b = some o) → (∀ b o, b ≠ e → s.heap.get? b = some o → ∃ sl, h'.get? b = some { o with slots := sl }) → Q () { s with heap := h' }) :
    wpAny M A (do let a ← frameOf env; let pl ← entryPlaceOf L hadNext; let b ← EntryCells.newEntry head a .none (rawInt L) .none pl; setField (.ref e) 1 b) Q E s := by
  have hene : e ∉ frs (env :: outer) := fun hm => by
    obtain ⟨⟨o, ho, hnf⟩, _⟩ := hS.mem hm
    rw [he] at ho; injection ho with ho; subst ho; exact hnf vs hd
  refine wpAny_bind (wpAny_frameOf_fun hfr hS.fun hf fun h₁ hs₁ => ?_)
  refine wpAny_bind (wpAny_entryPlaceOf fun pl hpl => ?_)
  unfold EntryCells.newEntry newFields
  refine wpAny_bind (wpAny_newObj_type ?_ (hpl.sizeOk5 _ _ _ _ _))
  have he₁ : h₁.get? e = some oe := (hs₁.2.1 e hene).trans he
  have he₂ := Heap.get?_push_of_some (h := h₁) { cls := .type "traceback", dict := none, data := .fields ([head, .ref L, .none, rawInt L, .none] ++ (if pl.isEmpty then List.replicate 6 Value.none else pl)).toArray } he₁
  have hTe : h₁.objs.size ≠ e := Nat.ne_of_gt (Heap.lt_size he₁)
  have hd₃ := Obj.data_mapFields hd (·.setIfInBounds 1 (Value.ref h₁.objs.size))
  have hdict : (Obj.mapFields (·.setIfInBounds 1 (Value.ref h₁.objs.size)) oe).dict = oe.dict := by obtain ⟨a, b, c, d⟩ := oe; cases c <;> rfl
  have hTn : s.heap.get? h₁.objs.size = none := by rw [hs₁.1]; exact get?_size_none _
  have hT₃ := (Heap.get?_update_other (h₁.push { cls := .type "traceback", dict := none, data := .fields ([head, .ref L, .none, rawInt L, .none] ++ (if pl.isEmpty then List.replicate 6 Value.none else pl)).toArray })
    (Obj.mapFields (·.setIfInBounds 1 (Value.ref h₁.objs.size))) (Ne.symm hTe)).trans (Heap.get?_push_size h₁ rfl)
  refine wpAny_setField he₂ hd hsz (h _ h₁.objs.size _ _ _ hTn hTe hT₃ rfl ?_ (Heap.get?_update_self _ he₂ (Obj.isFreed_of_fields hd₃)) (Obj.cls_mapFields _ _) hdict hd₃ ?_ ?_)
  · first | (simp; done) | (rcases hpl with rfl | ⟨_, _, _, _, _, _, _, rfl⟩ <;> simp)
  · intro b o hbe hb ho
    rw [Heap.get?_update_other _ _ (Ne.symm hbe)]
    exact Heap.get?_push_of_some _ ((hs₁.2.1 b hb).trans ho)
  · intro b o hbe ho
    obtain ⟨sl, hq⟩ := hs₁.2.2 b o ho
    refine ⟨sl, ?_⟩
    rw [Heap.get?_update_other _ _ (Ne.symm hbe)]
    exact Heap.get?_push_of_some _ hq
theorem note_x {G : Ghost} {own : Own} {K : Addr → Prop} {msg : Str} {env : Env} {outer : List Env} {L e : Addr} {Q : Unit → Shared → Prop}
    (hfr : A.frames = some (env :: outer)) (hS : Stk G own s.heap (env :: outer)) (hf : env.frame = some L) (x : XSt G own K L s.heap e msg)
    (hnew : ∀ b, s.heap.get? b = none → ¬ K b ∧ G b = none ∧ b ∉ addrs own) (hfb : ∀ b ∈ frs (env :: outer), K b)
    (hQ : ∀ h', XG G own K h' e msg (TbOk G own K h' e (rawInt L)) → KeepX (frs (env :: outer)) e s.heap h' → Q () { s with heap := h' }) : wpAny M A (noteFrame (.ref e) env) Q E s := by
  obtain ⟨oe, vs, d, he, hc, hdi, hd, hsz, hdd, hp⟩ := x.ex
  unfold noteFrame
  simp only [hf]
  rcases hp with h1 | ⟨T, oT, ts, h1, hTe, hT0, hTG, hTo, hT, hdT, h3⟩ | ⟨T, oT, ts, h1, hTe, hT0, hTG, hTo, hT, hdT, h3⟩
  · refine wpAny_bind (wpAny_field he hd h1 ?_)
    rw [if_neg (by decide)]
    refine entry_x hfr hS hf he hd hsz fun h' T oT ts oe' k1 k2 k3 k4 k5 k6 k7 k8 k9 k10 k11 => hQ h' ⟨x.en, x.ge, x.eo, ?_⟩ ?_
    · obtain ⟨n1, n2, n3⟩ := hnew T k1
      obtain ⟨d1, d2, d3, m, hs, tk', tk2, d4⟩ := hdd
      have hde : d ≠ e := fun q => by rw [q, he] at d4; cases d4; cases hd
      refine ⟨oe', _, d, k6, k7.trans hc, k8.trans hdi, k9, by simpa using hsz, ⟨d1, d2, d3, m, hs, tk', tk2, ?_⟩, T, oT, ts, by simp [hsz], k2, n1, n2, n3, k3, k4, k5⟩
      exact k10 d _ hde (fun hm => d1 (hfb d hm)) d4
    · intro b o hb ho
      have hbe : b ≠ e := fun q => hb (.inl q)
      exact ⟨k11 b o hbe ho, fun hF => k10 b o hbe hF ho⟩
  · refine wpAny_bind (wpAny_field he hd h1 ?_)
    rw [if_pos (show (Value.ref T != Value.none) = true from by simp)]
    refine wpAny_bind (wpAny_field hT hdT h3 ?_)
    rw [if_neg (show ¬ ((Value.none == rawInt L) = true) from by simp [rawInt])]
    refine wpAny_bind (wpAny_setField hT hdT (Array.getElem?_eq_some_iff.mp h3).1 ?_)
    have other : ∀ b, b ≠ T → (s.heap.update T (Obj.mapFields (·.setIfInBounds 3 Value.none))).get? b = s.heap.get? b := fun b hb => Heap.get?_update_other _ _ (Ne.symm hb)
    have hTf : T ∉ frs (env :: outer) := fun hm => hT0 (hfb T hm)
    have hTT : ∃ o', (s.heap.update T (Obj.mapFields (·.setIfInBounds 3 Value.none))).get? T = some o' := ⟨_, Heap.get?_update_self _ hT (Obj.isFreed_of_fields (Obj.data_mapFields hdT _))⟩
    have hS' : Stk G own (s.heap.update T (Obj.mapFields (·.setIfInBounds 3 Value.none))) (env :: outer) := fun v hv => by
      obtain ⟨y1, L', o, y2, y3, y4, y5, y6⟩ := hS v hv
      exact ⟨y1, L', o, y2, (other L' (fun q => hTf (q ▸ List.mem_filterMap.mpr ⟨v, hv, y2⟩))).trans y3, y4, y5, y6⟩
    refine entry_x hfr hS' hf ((other e (Ne.symm hTe)).trans he) hd hsz fun h' T' oT' ts' oe' k1 k2 k3 k4 k5 k6 k7 k8 k9 k10 k11 => hQ h' ⟨x.en, x.ge, x.eo, ?_⟩ ?_
    · have hT'T : T' ≠ T := fun q => by
        obtain ⟨o', ho'⟩ := hTT
        rw [q, ho'] at k1; cases k1
      obtain ⟨n1, n2, n3⟩ := hnew T' ((other T' hT'T).symm.trans k1)
      obtain ⟨d1, d2, d3, m, hs, tk', tk2, d4⟩ := hdd
      have hde : d ≠ e := fun q => by rw [q, he] at d4; cases d4; cases hd
      have hdT : d ≠ T := fun q => by rw [q, hT] at d4; cases d4; cases hdT
      refine ⟨oe', _, d, k6, k7.trans hc, k8.trans hdi, k9, by simpa using hsz, ⟨d1, d2, d3, m, hs, tk', tk2, ?_⟩, T', oT', ts', by simp [hsz], k2, n1, n2, n3, k3, k4, k5⟩
      exact k10 d _ hde (fun hm => d1 (hfb d hm)) ((other d hdT).trans d4)
    · intro b o hb ho
      have hbe : b ≠ e := fun q => hb (.inl q)
      have hbT : b ≠ T := fun q => hb (.inr ⟨oe, vs, he, hd, q ▸ h1⟩)
      exact ⟨k11 b o hbe ((other b hbT).trans ho), fun hF => k10 b o hbe hF ((other b hbT).trans ho)⟩
  · refine wpAny_bind (wpAny_field he hd h1 ?_)
    rw [if_pos (show (Value.ref T != Value.none) = true from by simp)]
    refine wpAny_bind (wpAny_field hT hdT h3 ?_)
    rw [if_pos (show (rawInt L == rawInt L) = true from by simp)]
    exact wpAny_pure (hQ s.heap ⟨x.en, x.ge, x.eo, oe, vs, d, he, hc, hdi, hd, hsz, hdd, T, oT, ts, h1, hTe, hT0, hTG, hTo, hT, hdT, h3⟩ fun b o _ ho => ⟨⟨o.slots, ho⟩, fun _ => ho⟩)
-- the flight is set
theorem fl_x {G : Ghost} {own : Own} {K : Addr → Prop} {msg : Str} {e : Addr} {y : Value} {Q : Unit → Shared → Prop} (F : List Addr) (fl : Option Addr)
    (x : XG G own K s.heap e msg (TbOk G own K s.heap e y))
    (hQ : ∀ h', XG G own K h' e msg (TbOk G own K h' e (fl.elim Value.none fun f => rawInt f)) → KeepX F e s.heap h' → Q () { s with heap := h' }) : wpAny M A (setFlight (.ref e) fl) Q E s := by
  obtain ⟨oe, vs, d, he, hc, hdi, hd, hsz, hdd, T, oT, ts, h1, hTe, hT0, hTG, hTo, hT, hdT, h3⟩ := x.ex
  have hsz3 : 3 < ts.size := (Array.getElem?_eq_some_iff.mp h3).1
  have other : ∀ b, b ≠ T → (s.heap.update T (Obj.mapFields (·.setIfInBounds 3 (fl.elim Value.none fun f => rawInt f)))).get? b = s.heap.get? b :=
    fun b hb => Heap.get?_update_other _ _ (Ne.symm hb)
  unfold setFlight
  refine wpAny_bind (wpAny_field he hd h1 ?_)
  rw [if_pos (show (Value.ref T != Value.none) = true from by simp)]
  refine wpAny_setField hT hdT hsz3 (hQ _ ⟨x.en, x.ge, x.eo, ?_⟩ ?_)
  · obtain ⟨d1, d2, d3, m, hs, tk', tk2, d4⟩ := hdd
    have hdTT : d ≠ T := fun q => by rw [q, hT] at d4; cases d4; cases hdT
    exact ⟨oe, vs, d, (other e (Ne.symm hTe)).trans he, hc, hdi, hd, hsz, ⟨d1, d2, d3, m, hs, tk', tk2, (other d hdTT).trans d4⟩, T, _, _, h1, hTe, hT0, hTG, hTo,
      Heap.get?_update_self _ hT (Obj.isFreed_of_fields (Obj.data_mapFields hdT _)), Obj.data_mapFields hdT _, by simp [hsz3]⟩
  · intro b o hb ho
    have hbT : b ≠ T := fun q => hb (.inr ⟨oe, vs, he, hd, q ▸ h1⟩)
    have := (other b hbT).trans ho
    exact ⟨⟨o.slots, this⟩, fun _ => this⟩
end
end
-- part X3
section
set_option tactic.hygienic false
noncomputable def prot (G : Ghost) (own : Own) (h : Heap) (b : Addr) : Prop := (∃ o, h.get? b = some o) ∧ b ∉ addrs own ∧ G b = none
theorem XG.mono {G : Ghost} {own : Own} {K K' : Addr → Prop} {h' : Heap} {e : Addr} {msg : Str} {P P' : Array Value → Prop} (x : XG G own K h' e msg P) (hK : ∀ b, K' b → K b) (hP : ∀ vs, P vs → P' vs) : XG G own K' h' e msg P' := by
  obtain ⟨a, b, c, oe, vs, d, h1, h2, h3, h4, h5, ⟨h6, h7⟩, h8⟩ := x
  exact ⟨fun q => a (hK _ q), b, c, oe, vs, d, h1, h2, h3, h4, h5, ⟨fun q => h6 (hK _ q), h7⟩, hP _ h8⟩
theorem TbOk.mono {G : Ghost} {own : Own} {K K' : Addr → Prop} {h' : Heap} {e : Addr} {x : Value} {vs : Array Value} (t : TbOk G own K h' e x vs) (hK : ∀ b, K' b → K b) : TbOk G own K' h' e x vs := by
  obtain ⟨T, oT, ts, h1, h2, h3, h4⟩ := t
  exact ⟨T, oT, ts, h1, h2, fun q => h3 (hK _ q), h4⟩
theorem XSt.monoK {G : Ghost} {own : Own} {K K' : Addr → Prop} {L : Addr} {h' : Heap} {e : Addr} {msg : Str} (x : XSt G own K L h' e msg) (hK : ∀ b, K' b → K b) : XSt G own K' L h' e msg :=
  XG.mono x hK fun vs h => by
    rcases h with h | h | h
    · exact .inl h
    · exact .inr (.inl (h.mono hK))
    · exact .inr (.inr (h.mono hK))
noncomputable def KeepP (F : List Addr) (G : Ghost) (own : Own) (h : Heap) (G' : Ghost) (own' : Own) (h' : Heap) (X : Addr → Prop) : Prop :=
  ∀ b o, h.get? b = some o → b ∉ addrs own → G b = none → ¬ X b → (∃ sl, h'.get? b = some { o with slots := sl }) ∧ (b ∉ F → h'.get? b = some o) ∧ b ∉ addrs own' ∧ G' b = none
-- a call has raised
structure RzC (h₀ : Heap) (G : Ghost) (own : Own) (s : Shared) (F : List Addr) (msg : Str) (e : Addr) (G' : Ghost) (own' : Own) (s' : Shared) : Prop where
  same : ∃ h' tk, s' = { s with heap := h', toks := tk }
  sub : Gsub G G'
  sr : SR h₀ G' own' s'.heap
  x : XG G' own' (prot G own s.heap) s'.heap e msg (TbOk G' own' (prot G own s.heap) s'.heap e .none)
  keep : KeepP F G own s.heap G' own' s'.heap fun _ => False
-- a statement has raised
structure RzS (h₀ : Heap) (env : Env) (G : Ghost) (own : Own) (s : Shared) (F : List Addr) (msg : Str) (ρk : Rho) (e : Addr) (G' : Ghost) (own' : Own) (s' : Shared) : Prop where
  same : ∃ h' tk, s' = { s with heap := h', toks := tk }
  sub : Gsub G G'
  sr : SR h₀ G' own' s'.heap
  x : XSt G' own' (prot G own s.heap) env.locals s'.heap e msg
  keep : KeepP F G own s.heap G' own' s'.heap (fp env)
  fr : FR G' own' env ρk s'.heap
theorem FR.slots {G G' : Ghost} {own own' : Own} {env : Env} {ρ : Rho} {h h' : Heap} (F : FR G own env ρ h) (hs : Gsub G G') (k : ∀ b, fp env b → ∀ o, h.get? b = some o → (∃ sl, h'.get? b = some { o with slots := sl }) ∧ b ∉ addrs own' ∧ G' b = none) : FR G' own' env ρ h' := by
  have lm : ∀ {x c}, env.cells.lookup x = some c → fp env c := fun h => .inr ⟨_, h⟩
  have cl : ∀ {c v}, fp env c → h.IsCell c v → h'.IsCell c v := fun hc q_u => by
    obtain ⟨o, ho, hd⟩ := q_u
    obtain ⟨⟨sl, q⟩, _⟩ := k _ hc o ho
    exact ⟨_, q, hd⟩
  refine ⟨?_, fun x v hx hk => ?_, fun x hk => ?_, F.inj, fun b hb => ?_, F.lc⟩
  · obtain ⟨m, ⟨o, es, ep, ho, hd, r⟩, hm⟩ := F.ns
    obtain ⟨⟨sl, q⟩, _⟩ := k _ (.inl rfl) o ho
    exact ⟨m, ⟨_, es, ep, q, hd, r⟩, fun x v hx hk => let ⟨v', a, b⟩ := hm x v hx hk; ⟨v', a, b.mono hs⟩⟩
  · obtain ⟨c, v', h1, h2, h3⟩ := F.cells x v hx hk
    exact ⟨c, v', h1, cl (lm h1) h2, h3.mono hs⟩
  · obtain ⟨c, v0, h1, h2⟩ := F.cok x hk
    exact ⟨c, v0, h1, cl (lm h1) h2⟩
  · obtain ⟨a, b', o, ho⟩ := F.free b hb
    obtain ⟨⟨sl, q⟩, k2, k3⟩ := k b hb o ho
    exact ⟨k2, k3, _, q⟩
theorem FR.prot {G : Ghost} {own : Own} {env : Env} {ρ : Rho} {h : Heap} (F : FR G own env ρ h) {b : Addr} (hb : fp env b) : prot G own h b := let ⟨a, b', o, ho⟩ := F.free b hb; ⟨⟨o, ho⟩, a, b'⟩
theorem RzC.toS {h₀ : Heap} {env : Env} {G : Ghost} {own : Own} {s : Shared} {F : List Addr} {msg : Str} {e : Addr} {G' : Ghost} {own' : Own} {s' : Shared} {ρ : Rho} (z : RzC h₀ G own s F msg e G' own' s') (fr : FR G own env ρ s.heap) : RzS h₀ env G own s F msg ρ e G' own' s' :=
  ⟨z.same, z.sub, z.sr, z.x.mono (fun _ h => h) fun _ h => .inr (.inl h), fun b o h1 h2 h3 _ => z.keep b o h1 h2 h3 id, fr.slots z.sub fun b hb o ho => by
    obtain ⟨p1, p2, p3⟩ := fr.prot hb
    obtain ⟨k1, _, k3, k4⟩ := z.keep b o ho p2 p3 id
    exact ⟨k1, k3, k4⟩⟩
theorem RzS.weaken {h₀ : Heap} {env : Env} {G : Ghost} {own : Own} {s : Shared} {F : List Addr} {msg : Str} {e : Addr} {G' : Ghost} {own' : Own} {s' : Shared} {ρ ρ' : Rho} (z : RzS h₀ env G own s F msg ρ e G' own' s') (hs : Sub ρ' ρ) : RzS h₀ env G own s F msg ρ' e G' own' s' :=
  ⟨z.same, z.sub, z.sr, z.x, z.keep, z.fr.weaken hs.get⟩
-- ahead of it
theorem RzS.after {h₀ : Heap} {env : Env} {G G₁ : Ghost} {own own₁ : Own} {s s₁ : Shared} {F : List Addr} {msg : Str} {e : Addr} {G' : Ghost} {own' : Own} {s' : Shared} {ρ ρ₁ : Rho} (ev : EvF h₀ env G own s G₁ own₁ s₁) (fr : FR G₁ own₁ env ρ₁ s₁.heap) (z : RzS h₀ env G₁ own₁ s₁ F msg ρ e G' own' s') : RzS h₀ env G own s F msg ρ e G' own' s' := by
  have hp : ∀ b, prot G own s.heap b → prot G₁ own₁ s₁.heap b := fun b q_u => by
    obtain ⟨⟨o, ho⟩, p2, p3⟩ := q_u
    by_cases hf : fp env b
    · exact fr.prot hf
    · obtain ⟨k1, k2, k3⟩ := ev.keep b o ho p2 p3 hf
      exact ⟨⟨o, k1⟩, k2, k3⟩
  obtain ⟨h1, t1, q1⟩ := ev.same
  obtain ⟨h2, t2, q2⟩ := z.same
  refine ⟨⟨h2, t2, by rw [q2, q1]⟩, fun a o h => z.sub a o (ev.sub a o h), z.sr, XSt.monoK z.x hp, fun b o k1 k2 k3 k4 => ?_, z.fr⟩
  obtain ⟨j1, j2, j3⟩ := ev.keep b o k1 k2 k3 k4
  exact z.keep b o j1 j2 j3 k4
-- the stack holds on
theorem Stk.ev {h₀ : Heap} {env : Env} {G G₁ : Ghost} {own own₁ : Own} {s s₁ : Shared} {outer : List Env} (S : Stk G own s.heap outer) (ev : EvF h₀ env G own s G₁ own₁ s₁) (hd : ∀ b ∈ frs outer, ¬ fp env b) : Stk G₁ own₁ s₁.heap outer := fun v hv => by
  obtain ⟨y1, L, o, y2, y3, y4, y5, y6⟩ := S v hv
  obtain ⟨k1, k2, k3⟩ := ev.keep L o y3 y5 y6 (hd L (List.mem_filterMap.mpr ⟨v, hv, y2⟩))
  exact ⟨y1, L, o, y2, k1, y4, k2, k3⟩
theorem Stk.ev' {h₀ : Heap} {G G₁ : Ghost} {own own₁ : Own} {s s₁ : Shared} {outer : List Env} (S : Stk G own s.heap outer) (ev : Ev h₀ G own s G₁ own₁ s₁) : Stk G₁ own₁ s₁.heap outer := fun v hv => by
  obtain ⟨y1, L, o, y2, y3, y4, y5, y6⟩ := S v hv
  obtain ⟨k1, k2, k3⟩ := ev.keep L o y3 y5 y6
  exact ⟨y1, L, o, y2, k1, y4, k2, k3⟩
theorem Stk.cons {G : Ghost} {own : Own} {env : Env} {outer : List Env} {ρ : Rho} {h : Heap} (S : Stk G own h outer) (F : FR G own env ρ h) (hk : env.scope.kind = .function) (hf : env.frame = some env.locals) : Stk G own h (env :: outer) := fun v hv => by
  rcases List.mem_cons.mp hv with rfl | hv
  · obtain ⟨m, ⟨o, es, ep, ho, hd, _⟩, _⟩ := F.ns
    obtain ⟨f1, f2, _⟩ := F.free v.locals (.inl rfl)
    exact ⟨by rw [hk]; decide, v.locals, o, hf, ho, (fun vs q => by rw [hd] at q; cases q), f1, f2⟩
  · exact S v hv
-- behind a note or a flight
theorem RzS.keepX {h₀ : Heap} {env : Env} {G : Ghost} {own : Own} {s : Shared} {F : List Addr} {msg : Str} {ρ : Rho} {e : Addr} {G' : Ghost} {own' : Own} {s' : Shared} (z : RzS h₀ env G own s F msg ρ e G' own' s') {h'' : Heap} (fr0 : FR G own env ρ₀ s.heap) (k : KeepX F e s'.heap h'') (hF : ∀ b ∈ F, prot G own s.heap b)
    (x : XSt G' own' (prot G own s.heap) env.locals h'' e msg) : RzS h₀ env G own s F msg ρ e G' own' { s' with heap := h'' } := by
  have pl : ∀ b, XP s'.heap e b → ¬ prot G own s.heap b ∧ G' b = none ∧ b ∉ addrs own' := fun b hb => z.x.places (fun vs h => by
    rcases h with h | h | h
    · exact .inl h
    · exact .inr ⟨_, h⟩
    · exact .inr ⟨_, h⟩) hb
  have kF : ∀ b, b ∈ F → G' b = none ∧ b ∉ addrs own' := fun b hb => by
    obtain ⟨⟨o, ho⟩, p2, p3⟩ := hF b hb
    by_cases hf : fp env b
    · obtain ⟨a, b', _⟩ := z.fr.free b hf
      exact ⟨b', a⟩
    · obtain ⟨_, _, k3, k4⟩ := z.keep b o ho p2 p3 hf
      exact ⟨k4, k3⟩
  obtain ⟨h2, t2, q2⟩ := z.same
  refine ⟨⟨h'', t2, by rw [q2]⟩, z.sub, z.sr.butL (fun b => XP s'.heap e b ∨ b ∈ F) (fun b o hb ho => (k b o (fun q => hb (.inl q)) ho).2 fun q => hb (.inr q)) (fun b hb => ?_), x, fun b o k1 k2 k3 k4 => ?_, z.fr.slots (fun _ _ h => h) fun b hb o ho => ?_⟩
  · rcases hb with hb | hb
    · exact (pl b hb).2
    · exact kF b hb
  · obtain ⟨⟨sl, j1⟩, j2, j3, j4⟩ := z.keep b o k1 k2 k3 k4
    have np : ¬ XP s'.heap e b := fun q => (pl b q).1 ⟨⟨o, k1⟩, k2, k3⟩
    obtain ⟨⟨sl', i1⟩, i2⟩ := k b _ np j1
    exact ⟨⟨sl', i1⟩, fun hb => by
      obtain ⟨_, i3⟩ := k b _ np (j2 hb)
      exact i3 hb, j3, j4⟩
  · have np : ¬ XP s'.heap e b := fun q => (pl b q).1 (fr0.prot hb)
    obtain ⟨f1, f2, _⟩ := z.fr.free b hb
    exact ⟨(k b o np ho).1, f1, f2⟩
end
-- part X4
section
set_option tactic.hygienic false
-- the room of a raise
structure RS (env : Env) (A : Around) (G : Ghost) (own : Own) (h : Heap) (outer : List Env) : Prop where
  fr : env.frame = some env.locals
  st : A.frames = some (env :: outer)
  stk : Stk G own h outer
  dis : ∀ b ∈ frs outer, ¬ fp env b
structure EXR (n : Nat) (ns : Ns) (ρ : Rho) (own : Own) (st : Stmt) (msg : Str) (ρk : Rho) : Prop where
  go : ∀ (w : World) (h₀ : Heap) (A : Around) (env : Env) (s : Shared) (G : Ghost) (E : Value → Shared → Prop) (outer : List Env), Cx w h₀ → Room n A → EnvOk ns env → SR h₀ G own s.heap → FR G own env ρ s.heap → RS env A G own s.heap outer →
    (∀ e G' own' s', RzS h₀ env G own s (frs (env :: outer)) msg ρk e G' own' s' → E (.ref e) s') → wpAny (model prg w) A (exec st env) (fun _ _ => False) E s
structure EXSR (n : Nat) (ns : Ns) (ρ : Rho) (own : Own) (sts : List Stmt) (msg : Str) (ρk : Rho) : Prop where
  go : ∀ (w : World) (h₀ : Heap) (A : Around) (env : Env) (s : Shared) (G : Ghost) (E : Value → Shared → Prop) (outer : List Env), Cx w h₀ → Room n A → EnvOk ns env → SR h₀ G own s.heap → FR G own env ρ s.heap → RS env A G own s.heap outer →
    (∀ e G' own' s', RzS h₀ env G own s (frs (env :: outer)) msg ρk e G' own' s' → E (.ref e) s') → wpAny (model prg w) A (execs sts env) (fun _ _ => False) E s
structure CALLR (n : Nat) (f : Addr) (vs : List V) (own : Own) (msg : Str) : Prop where
  go : ∀ (w : World) (h₀ : Heap) (A : Around) (s : Shared) (G : Ghost) (E : Value → Shared → Prop) (vs' : List Value) (outer : List Env), Cx w h₀ → Room n A → SR h₀ G own s.heap → RVs G vs vs' → A.frames = some outer → Stk G own s.heap outer →
    (∀ e G' own' s', RzC h₀ G own s (frs outer) msg e G' own' s' → E (.ref e) s') → wpAny (model prg w) A (call (.ref f) vs') (fun _ _ => False) E s
theorem RS.ev {h₀ : Heap} {env : Env} {A : Around} {G G₁ : Ghost} {own own₁ : Own} {s s₁ : Shared} {outer : List Env} (R : RS env A G own s.heap outer) (ev : EvF h₀ env G own s G₁ own₁ s₁) : RS env A G₁ own₁ s₁.heap outer := ⟨R.fr, R.st, R.stk.ev ev R.dis, R.dis⟩
section
variable {n : Nat} {ns : Ns} {ρ ρk : Rho} {own : Own} {msg : Str}
theorem exsr_here {st : Stmt} {rest : List Stmt} (h : EXR n ns ρ own st msg ρk) : EXSR n ns ρ own (st :: rest) msg ρk :=
  .mk fun w h₀ A env s G E outer C R K S F RR hE => wpAny_execs_cons (wpAny_mono (h.go w h₀ A env s G E outer C R K S F RR hE) (fun f _ q => q.elim) fun _ _ x => x)
theorem exsr_next {st : Stmt} {rest : List Stmt} (h : EX n ns ρ own st fun f ρ' o' => f = .next ∧ EXSR n ns ρ' o' rest msg ρk) : EXSR n ns ρ own (st :: rest) msg ρk :=
  .mk fun w h₀ A env s G E outer C R K S F RR hE => wpAny_execs_cons (wpAny_mono (h.go w h₀ A env s G E C R K S F) (fun f s₁ q_u => by
    obtain ⟨m, ρ', o', G', ⟨h1, h2⟩, rf, ev, fr⟩ := q_u
    subst h1
    cases rf
    exact h2.go w h₀ A env s₁ G' E outer C R K ev.sr fr (RR.ev ev) fun e G'' own'' s' z => hE e G'' own'' s' (z.after ev fr)) fun _ _ x => x)
theorem exsr_sub {ρ' : Rho} {sts : List Stmt} (hs : Sub ρ' ρ) (h : EXSR n ns ρ' own sts msg ρk) : EXSR n ns ρ own sts msg ρk :=
  .mk fun w h₀ A env s G E outer C R K S F RR hE => h.go w h₀ A env s G E outer C R K S (F.weaken hs.get) RR hE
theorem exr_if {t : PySem.Expr} {a b : List Stmt} {p : Pos} (h : EB n ns ρ own t fun c o => Br c (EXSR n ns ρ o a msg ρk) (EXSR n ns ρ o b msg ρk)) : EXR n ns ρ own (.If t a b p) msg ρk :=
  .mk fun w h₀ A env s G E outer C R K S F RR hE => wpAny_If (wpAny_mono (h.go w h₀ A env s G E C R K S F) (fun c s₁ q_u => by
    obtain ⟨o, G₁, h1, h2⟩ := q_u
    have F1 := F.ev h2
    cases c with
    | true => exact (h1.yes rfl).go w h₀ A env s₁ G₁ E outer C R K h2.sr F1 (RR.ev h2.toF) fun e G'' own'' s' z => hE e G'' own'' s' (z.after h2.toF F1)
    | false => exact (h1.no rfl).go w h₀ A env s₁ G₁ E outer C R K h2.sr F1 (RR.ev h2.toF) fun e G'' own'' s' z => hE e G'' own'' s' (z.after h2.toF F1)) fun _ _ x => x)
-- a call that raises, as a statement
theorem exr_call {x : Str} {np p q : Pos} {f : Addr} {e : PySem.Expr} {es : List PySem.Expr} (hk : ns.lookup x = some .globalImplicit) (hg : ∀ w, nsIn (KK w) mainGlobals x = some (some (.ref f))) (hf : ∀ w, keepIn (KK w) (.ref f) = true)
    (h : EVL n ns ρ own (e :: es) fun vs o => CALLR n f vs o msg) (hs : Sub ρk ρ) (hn : (e :: es).all noStar = true := by rfl) (hd : (x == ("__debug__" : Str)) = false := by decide)
    (hsw : swapsWith (.Call (.Name x np) (e :: es) [] p) none q.line (cenv ns) = pure false := by rfl) : EXR n ns ρ own (.Expr (.Call (.Name x np) (e :: es) [] p) q) msg ρk :=
  .mk fun w h₀ A env s G E outer C R K S F RR hE => by
    refine wpAny_Expr ?_ (inter_c K) (by rw [swapsWith_c K]; exact hsw)
    refine wpAny_Call_NameR (wp_global (hg w) hk C K S ?_ hd)
    have hn' : noStar e = true ∧ es.all noStar = true := by simpa using hn
    refine callWith_K (C.k) (hf w) (wpAny_mono (h.go w h₀ A env s G E p C R K S F) (fun vs' s₁ ⟨vs, o, G₁, h1, h2, h3⟩ => ⟨cx_in C h3.sr, ?_⟩) fun _ _ x => x) (starEach_cons hn'.1) (plain_args hn'.2)
    have F1 := F.ev h3
    have st1 := ((RR.ev h3.toF).stk).cons F1 K.kind RR.fr
    exact wpAny_mono (h1.go w h₀ A s₁ G₁ E vs' (env :: outer) C R h3.sr h2 RR.st st1 fun e G'' own'' s' z => hE e G'' own'' s' (((z.toS F1).weaken hs).after h3.toF F1)) (fun _ _ q => q.elim) fun _ _ x => x
end
theorem RzS.stk {h₀ : Heap} {env : Env} {G : Ghost} {own : Own} {s : Shared} {F : List Addr} {msg : Str} {ρk : Rho} {e : Addr} {G' : Ghost} {own' : Own} {s' : Shared} {outer : List Env} (z : RzS h₀ env G own s F msg ρk e G' own' s') (S : Stk G own s.heap outer) (hd : ∀ b ∈ frs outer, ¬ fp env b) : Stk G' own' s'.heap outer := fun v hv => by
  obtain ⟨y1, L, o, y2, y3, y4, y5, y6⟩ := S v hv
  obtain ⟨⟨sl, k1⟩, _, k2, k3⟩ := z.keep L o y3 y5 y6 (hd L (List.mem_filterMap.mpr ⟨v, hv, y2⟩))
  exact ⟨y1, L, _, y2, k1, y4, k2, k3⟩
theorem RzS.new {h₀ : Heap} {env : Env} {G : Ghost} {own : Own} {s : Shared} {F : List Addr} {msg : Str} {ρk : Rho} {e : Addr} {G' : Ghost} {own' : Own} {s' : Shared} (z : RzS h₀ env G own s F msg ρk e G' own' s') : ∀ b, s'.heap.get? b = none → ¬ prot G own s.heap b ∧ G' b = none ∧ b ∉ addrs own' := fun b hb => by
  refine ⟨fun q_u => ?_, z.sr.fresh_G hb, z.sr.fresh_own hb⟩
  obtain ⟨⟨o, ho⟩, p2, p3⟩ := q_u
  by_cases hf : fp env b
  · obtain ⟨_, _, o', ho'⟩ := z.fr.free b hf
    rw [hb] at ho'; cases ho'
  · obtain ⟨⟨sl, k1⟩, _⟩ := z.keep b o ho p2 p3 hf
    rw [hb] at k1; cases k1
theorem Stk.prot {G : Ghost} {own : Own} {h : Heap} {envs : List Env} (S : Stk G own h envs) : ∀ b ∈ frs envs, prot G own h b := fun b hb => by
  obtain ⟨⟨o, ho, _⟩, h2, h3⟩ := S.mem hb
  exact ⟨⟨o, ho⟩, h2, h3⟩
-- the note in the frame
theorem note_S {M : Model} {A : Around} {E : Value → Shared → Prop} {h₀ : Heap} {env : Env} {G : Ghost} {own : Own} {s : Shared} {msg : Str} {ρk ρ : Rho} {e : Addr} {G' : Ghost} {own' : Own} {s' : Shared} {outer : List Env} {Q : Unit → Shared → Prop} (z : RzS h₀ env G own s (frs (env :: outer)) msg ρk e G' own' s') (F : FR G own env ρ s.heap) (hk : env.scope.kind = .function) (R : RS env A G own s.heap outer)
    (hQ : ∀ s'', RzS h₀ env G own s (frs (env :: outer)) msg ρk e G' own' s'' → XG G' own' (prot G own s.heap) s''.heap e msg (TbOk G' own' (prot G own s.heap) s''.heap e (rawInt env.locals)) → Q () s'') : wpAny M A (noteFrame (.ref e) env) Q E s' := by
  have st := (R.stk.cons F hk R.fr)
  refine note_x R.st ((z.stk R.stk R.dis).cons z.fr hk R.fr) R.fr z.x z.new (fun b hb => st.prot b hb) fun h' x k => ?_
  exact hQ _ (z.keepX F k (fun b hb => st.prot b hb) (x.mono (fun _ h => h) fun _ h => .inr (.inr h))) x
-- the flight in the frame
theorem fl_S {M : Model} {A : Around} {E : Value → Shared → Prop} {h₀ : Heap} {env : Env} {G : Ghost} {own : Own} {s : Shared} {msg : Str} {ρk ρ : Rho} {e : Addr} {G' : Ghost} {own' : Own} {s' : Shared} {outer : List Env} {Q : Unit → Shared → Prop} {y : Value} (fl : Option Addr) (hfl : fl = none ∨ fl = some env.locals) (z : RzS h₀ env G own s (frs (env :: outer)) msg ρk e G' own' s') (F : FR G own env ρ s.heap) (hk : env.scope.kind = .function) (R : RS env A G own s.heap outer)
    (x : XG G' own' (prot G own s.heap) s'.heap e msg (TbOk G' own' (prot G own s.heap) s'.heap e y))
    (hQ : ∀ s'', RzS h₀ env G own s (frs (env :: outer)) msg ρk e G' own' s'' → XG G' own' (prot G own s.heap) s''.heap e msg (TbOk G' own' (prot G own s.heap) s''.heap e (fl.elim Value.none fun f => rawInt f)) → Q () s'') : wpAny M A (setFlight (.ref e) fl) Q E s' := by
  have st := (R.stk.cons F hk R.fr)
  refine fl_x (frs (env :: outer)) fl x fun h' x' k => ?_
  refine hQ _ (z.keepX F k (fun b hb => st.prot b hb) (x'.mono (fun _ h => h) fun _ h => ?_)) x'
  rcases hfl with q | q
  · rw [q] at h; exact .inr (.inl h)
  · rw [q] at h; exact .inr (.inr h)
theorem callr_def {n : Nat} {own : Own} {f : Addr} {vs : List V} {msg : Str} {oc : Value} {od : Option Addr} {osl : Array (Option Value)} {fd : FuncData} {ns : Ns} {body : List Stmt} {names : List Str}
    (hf : ∀ w, (KK w).lookup f = some ⟨oc, od, .func fd, osl⟩) (hcd : ∀ w, codeIn (KK w) fd.code fd.qualname = true)
    (hb : ∀ (s : Shared) (vs' : List Value), (∃ w, (KK w).In s.heap) → vs'.length = vs.length → BindsTo s fd ⟨vs', []⟩ (names.zip vs'))
    (h : EXSR n ns (names.zip vs) own body msg [])
    (hbody : fd.body = .stmts body := by rfl) (hsc : ∃ more, fd.scope = scopeOf ns more := by exact ⟨_, rfl⟩) (hnd : names.Nodup := by decide) (hl : vs.length = names.length := by rfl) (hk : names.all (fun x => isLC (ns.lookup x)) = true := by rfl)
    (hclo : fd.closure = [] := by rfl) (hgl : fd.globals = mainGlobals := by rfl) (hbl : fd.builtins = builtinsNs := by rfl) : CALLR (n + 1) f vs own msg :=
  .mk fun w h₀ A s G E vs' outer C R S r hfr hst hE => by
    obtain ⟨more, hsc⟩ := hsc
    have hin := cx_in C S
    obtain ⟨mg, mb, T⟩ := C.t
    have hlim : s.heap.NoLimit := T.nolimit.keeps S.keeps0
    refine wpAny_call ?_
    refine codeAny_call_function (fd := fd) (body := body) (by have := R.depth; show A.depth < recursionLimit; omega) (hin _ _ (hf w)) rfl (by rw [hsc]) (by rw [hsc]) hbody (codeRec_of hin (hcd w)) ?_
    refine hb s vs' ⟨w, hin⟩ r.length.symm _ _ _ _ ?_
    rw [hclo]
    refine wpAny_newFunctionEnv_cells (by rw [hsc]) (fun x hx => ?_) fun env he s₁ x => ?_
    · have hx1 : x.1 ∈ names := (List.of_mem_zip hx).1
      have := List.all_eq_true.mp hk _ hx1
      rw [hsc]
      show ns.lookup x.1 = _ ∨ _
      cases hq : ns.lookup x.1 with
      | none => rw [hq] at this; cases this
      | some k =>
        rw [hq] at this
        cases k <;> first | cases this | skip
        · exact .inl rfl
        · exact .inr ⟨rfl, cellsFrom_some _ _ _ (.inl hq)⟩
    · have he' : env = callEnvC fd s.heap.objs.size f := he
      subst he'
      obtain ⟨e1, F1⟩ := frame_of S r hnd x
      refine ⟨hlim.keeps x.toInCall.keep, codeAny_func ?_⟩
      have hkind : (callEnvC fd s.heap.objs.size f).scope.kind = .function := by show fd.scope.kind = _; rw [hsc]
      have K1 : EnvOk ns (callEnvC fd s.heap.objs.size f) := ⟨by show fd.scope.names = ns; rw [hsc], hkind, hgl, hbl⟩
      have hfresh : ∀ b, fp (callEnvC fd s.heap.objs.size f) b → s.heap.get? b = none := fun b hfp => by
        have hge : s.heap.objs.size ≤ b := by
          rcases hfp with rfl | ⟨y, hy⟩
          · exact Nat.le_refl _
          · exact Nat.le_of_lt (x.above y b (mem_of_lookup hy))
        cases hq : s.heap.get? b with
        | none => rfl
        | some o => exact absurd (Heap.lt_size hq) (Nat.not_lt.mpr hge)
      have RR : RS (callEnvC fd s.heap.objs.size f) (A.deeper (callEnvC fd s.heap.objs.size f)) G own s₁.heap outer := ⟨rfl, Around.frames_deeper hfr, hst.ev' e1, fun b hb hfp => by
        obtain ⟨⟨o, ho⟩, _⟩ := hst.prot b hb
        rw [hfresh b hfp] at ho; cases ho⟩
      refine wpAny_mono (h.go w h₀ (A.deeper (callEnvC fd s.heap.objs.size f)) _ s₁ G _ outer C (R.deeper (by show fd.scope.isGenerator = _; rw [hsc]) (by show fd.scope.isCoroutine = _; rw [hsc]) hbl hgl) K1 e1.sr F1 RR fun e G' own' s' z => ?_) (fun _ _ q => q.elim) fun _ _ x => x
      unfold leaving
      refine wpAny_bind (note_S z F1 hkind RR fun s2 z2 x2 => ?_)
      refine fl_S none (.inl rfl) z2 F1 hkind RR x2 fun s3 z3 x3 => ?_
      refine hE e G' own' s3 ?_
      have hp : ∀ b, prot G own s.heap b → prot G own s₁.heap b := fun b q_u => by
        obtain ⟨⟨o, ho⟩, p2, p3⟩ := q_u
        obtain ⟨k1, k2, k3⟩ := e1.keep b o ho p2 p3
        exact ⟨⟨o, k1⟩, k2, k3⟩
      obtain ⟨h1, t1, q1⟩ := e1.same
      obtain ⟨h2, t2, q2⟩ := z3.same
      refine ⟨⟨h2, t2, by rw [q2, q1]⟩, z3.sub, z3.sr, x3.mono hp fun vs t => t.mono hp, fun b o k1 k2 k3 _ => ?_⟩
      obtain ⟨j1, j2, j3⟩ := e1.keep b o k1 k2 k3
      obtain ⟨i1, i2, i3⟩ := z3.keep b o j1 j2 j3 fun hfp => by rw [hfresh b hfp] at k1; cases k1
      refine ⟨i1, fun hb => i2 fun hm => ?_, i3⟩
      rcases List.mem_cons.mp (show b ∈ (callEnvC fd s.heap.objs.size f).locals :: frs outer from hm) with q | q
      · rw [hfresh b (.inl q)] at k1; cases k1
      · exact hb q
end
-- part X5
section
set_option tactic.hygienic false
theorem cameBack_S {w : World} {A : Around} {E : Value → Shared → Prop} {h₀ : Heap} {env : Env} {G : Ghost} {own : Own} {s : Shared} {msg : Str} {ρk ρ : Rho} {e : Addr} {G' : Ghost} {own' : Own} {s' : Shared} {outer : List Env} (z : RzS h₀ env G own s (frs (env :: outer)) msg ρk e G' own' s') (F : FR G own env ρ s.heap) (hk : env.scope.kind = .function) (R : RS env A G own s.heap outer)
    {y : Value} (x : XG G' own' (prot G own s.heap) s'.heap e msg (TbOk G' own' (prot G own s.heap) s'.heap e y))
    (hE : ∀ s'', RzS h₀ env G own s (frs (env :: outer)) msg ρk e G' own' s'' → E (.ref e) s'') : cameBackBy (model prg w) A env E (.ref e) s' := by
  unfold cameBackBy
  obtain ⟨oe, vs, d, he, hc, hdi, hd, hsz, hdd, T, oT, ts, h1, r⟩ := id x.ex
  refine wpAny_bind (wpAny_field he hd h1 ?_)
  rw [if_neg (by simp)]
  rw [R.fr]
  first
    | exact fl_S (some env.locals) (.inr rfl) z F hk R x fun s'' z' _ => hE s'' z'
    | exact wpAny_bind (wpAny_pure (fl_S (some env.locals) (.inr rfl) z F hk R x fun s'' z' _ => hE s'' z'))
section
variable {n : Nat} {ns : Ns} {ρ ρk : Rho} {own : Own} {msg : Str}
theorem exr_for {x : Str} {px p : Pos} {iter : PySem.Expr} {body : List Stmt} (k : Nat) (I : Nat → Rho → Own → Prop) (hx : isLC (ns.lookup x) = true)
    (h : EV n ns ρ own iter fun v o => ∃ items, itemsOf v = some items ∧ I 0 ρ o ∧
      (∀ i v ρ₁ o₁, i < k → items[i]? = some v → I i ρ₁ o₁ → EXS n ns ((x, v) :: ρ₁) o₁ body fun f ρ₂ o₂ => f = .next ∧ I (i + 1) ρ₂ o₂) ∧
      ∃ v, items[k]? = some v ∧ ∀ ρ₁ o₁, I k ρ₁ o₁ → EXSR n ns ((x, v) :: ρ₁) o₁ body msg ρk)
    (hs : ∀ env x, foldedSetIterable iter env x = pure x := by intro _ _; rfl) : EXR n ns ρ own (.For (.Name x px) iter body [] p) msg ρk :=
  .mk fun w h₀ A env s G E outer C R K S F RR hE => by
    refine wpAny_For (wpAny_mono (h.go w h₀ A env s G E C R K S F) (fun v' s₁ q_u => ?_) fun _ _ x => x) (hs env)
    obtain ⟨v, o, G₁, ⟨items, hi, hI, turn, vk, hvk, turnR⟩, h2, h3⟩ := q_u
    refine wp_iter h3.sr h2 hi fun it s₂ hnew hit e₂ _ => ?_
    have F₂ := (F.ev h3).ev e₂
    have e0 : EvF h₀ env G₁ o s₁ G₁ o s₂ := e₂.toF
    have it0 : it ∉ addrs o ∧ G₁ it = none ∧ ¬ fp env it := ⟨h3.sr.fresh_own hnew, h3.sr.fresh_G hnew, fun hf => by
      obtain ⟨_, _, o', ho'⟩ := (F.ev h3).free it hf
      rw [hnew] at ho'; cases ho'⟩
    have hkl := (List.getElem?_eq_some_iff.mp hvk).1
    let J : Nat → Shared → Prop := fun j s' => ∃ i ρ₁ o₁ G', j = items.length - i ∧ i ≤ k ∧ I i ρ₁ o₁ ∧ EvF h₀ env G₁ o s₁ G' o₁ s' ∧ FR G' o₁ env ρ₁ s'.heap ∧ ItRel G' s'.heap it (items.drop i) ∧ it ∉ addrs o₁ ∧ G' it = none
    refine codeAny_forLoop J (fun j s' q_u => ?_) items.length ⟨0, ρ, o, G₁, rfl, Nat.zero_le _, hI, e0, F₂, by simpa using hit, it0.1, it0.2.1⟩
    obtain ⟨i, ρ₁, o₁, G', hk, hle, hIi, hev, hfr, hir, ho, hg⟩ := q_u
    have hil : i < items.length := by omega
    have hq : items[i]? = some items[i] := List.getElem?_eq_getElem hil
    generalize items[i] = v₁ at hq
    rw [drop_cons hq] at hir
    refine wp_next hev.sr hir fun v₁' h' tk r hir' hsb => ?_
    have ev1 := hev.but (tk := tk) hnew hsb.extBut ho hg
    have fr1 := hfr.but hsb.extBut it0.2.2
    refine PyProof.Rows.assign_Name (storeLC hx K ev1.sr fr1 r fun s₃ ev2 fr2 _ => ?_)
    by_cases hik : i < k
    · have hg3 : s₃.heap.get? it = h'.get? it ∧ it ∉ addrs o₁ ∧ G' it = none := by
        obtain ⟨ob, hob⟩ := hir'.get
        obtain ⟨k1, k2, k3⟩ := ev2.keep it ob hob ho hg it0.2.2
        exact ⟨k1.trans hob.symm, k2, k3⟩
      refine wpAny_mono ((turn i v₁ ρ₁ o₁ hik hq hIi).go w h₀ A env s₃ G' _ C R K ev2.sr fr2) (fun f s₄ q_u => ?_) fun _ _ x => x
      obtain ⟨m, ρ₂, o₂, G₂, ⟨e, hI2⟩, rf, ev3, fr3⟩ := q_u
      subst e
      cases rf
      obtain ⟨ob, hob⟩ := hir'.get
      obtain ⟨k1, k2, k3⟩ := ev3.keep it ob (hg3.1.trans hob) ho hg it0.2.2
      refine ⟨items.length - (i + 1), by omega, i + 1, ρ₂, o₂, G₂, rfl, by omega, hI2, (ev1.trans ev2).trans ev3, fr3, hir'.keeps ev3.sub fun ob' hob' => ?_, k2, k3⟩
      rw [hob] at hob'; cases hob'; exact k1
    · obtain rfl : i = k := by omega
      rw [hvk] at hq; cases hq
      have evA := h3.toF.trans (ev1.trans ev2)
      have RR3 := RR.ev evA
      refine wpAny_mono ((turnR ρ₁ o₁ hIi).go w h₀ A env s₃ G' _ outer C R K ev2.sr fr2 RR3 fun e G'' own'' s4 z => ?_) (fun _ _ q => q.elim) fun _ _ x => x
      unfold notedBy
      refine note_S z fr2 K.kind RR3 fun s5 z5 x5 => ?_
      exact cameBack_S z5 fr2 K.kind RR3 x5 fun s6 z6 => hE e G'' own'' s6 (z6.after evA fr2)
-- raise Refusal(..)
theorem exr_raise {np cp p : Pos} {a : PySem.Expr} (hk : ns.lookup ("Refusal" : Str) = some .globalImplicit) (hs : Sub ρk ρ)
    (h : EV (n + 2) ns ρ own a fun v o => v = .str msg) (hn : noStar a = true := by rfl) : EXR (n + 2) ns ρ own (.Raise (some (.Call (.Name "Refusal" np) [a] [] cp)) none p) msg ρk :=
  .mk fun w h₀ A env s G E outer C R K S F RR hE => by
    rw [arm_exec_Raise]
    have core : wpAny (model prg w) A (eval (.Call (.Name "Refusal" np) [a] [] cp) env) (fun v s₁ => ∃ e t d, v = .ref e ∧ (KK w).In s₁.heap ∧ s₁.heap.get? e = some (excObj t (some d)) ∧ E (.ref e) s₁) E s := by
      refine wpAny_Call_NameR (wp_global (v := .ref 44) rfl hk C K S ?_)
      have evl : EVL (n + 2) ns ρ own [a] fun vs o => vs = [.str msg] := evl_cons (h.mono fun v o e => evl_nil (by rw [e])) hn
      refine callWith_K (C.k) rfl (wpAny_mono (evl.go w h₀ A env s G E cp C R K S F) (fun vs' s₁ ⟨vs, o, G₁, h1, h2, h3⟩ => ⟨cx_in C h3.sr, ?_⟩) fun _ _ x => x) (starEach_cons hn) rfl
      subst h1
      obtain ⟨u', rfl, ru⟩ := rvs1 h2
      refine exc_call C R h3.sr ru fun G' h' e d t tk z => ⟨e, t, d, rfl, fun a o q => z.sr.keeps0 a o (C.k a o q), z.he, ?_⟩
      have F1 := F.ev h3
      obtain ⟨h1', t1', q1'⟩ := h3.same
      have hpK : ∀ b, prot G₁ o s₁.heap b → b ≠ e ∧ b ≠ d := fun b ⟨⟨ob, hob⟩, _⟩ => ⟨(fun q => by rw [q, z.en] at hob; cases hob), (fun q => by rw [q, z.dn] at hob; cases hob)⟩
      have zz : RzS h₀ env G₁ o s₁ (frs (env :: outer)) msg ρk e G' o { s₁ with heap := h', toks := tk } := by
        refine ⟨⟨_, _, rfl⟩, z.sub, z.sr, ⟨fun q => (hpK _ q).1 rfl, z.ge, z.eo, _, _, d, z.he, rfl, rfl, rfl, by show 1 < 6; decide, ⟨fun q => (hpK _ q).2 rfl, z.gd, z.dO, z.hd⟩, .inl rfl⟩, fun b ob k1 k2 k3 _ => ?_, (F1.weaken hs.get).slots z.sub fun b hb ob hob => ?_⟩
        · obtain ⟨j1, j2⟩ := z.keep b ob k1 k2 k3
          exact ⟨⟨ob.slots, j1⟩, fun _ => j1, k2, j2⟩
        · obtain ⟨p1, p2, p3⟩ := F1.prot hb
          obtain ⟨j1, j2⟩ := z.keep b ob hob p2 p3
          exact ⟨⟨ob.slots, j1⟩, p2, j2⟩
      exact hE e G' o _ (zz.after h3.toF F1)
    first
      | exact wpAny_bind (wpAny_standAt (raise_core R.handled (wpAny_bind (wpAny_mono core (fun v s₃ h₃ => wpAny_bind (wpAny_standAt (wpAny_pure h₃))) fun _ _ x => x))))
      | (simp only [evalOpt, Option.map]; exact wpAny_bind (wpAny_standAt (raise_core R.handled (wpAny_bind (wpAny_mono core (fun v s₃ h₃ => wpAny_bind (wpAny_standAt (wpAny_pure h₃))) fun _ _ x => x)))))
      | (refine wpAny_bind (wpAny_standAt (raise_core R.handled ?_)); exact wpAny_bind (wpAny_mono core (fun v s₃ h₃ => wpAny_bind (wpAny_standAt (wpAny_pure h₃))) fun _ _ x => x))
end
end
-- part X6
section
set_option tactic.hygienic false
open Builtin Builtin.ObjectAttr
theorem exc_noGetattr : ∀ w, findIn (KK w) (.ref excC) "__getattr__" = some none := fun w => by kernel_rfl
theorem exc_nomsg : ∀ w, findIn (KK w) (.ref excC) "message" = some none := fun w => by kernel_rfl
theorem exc_findObj {w : World} {hs : Int} {tk tk2 : Tok} {msg : Str} {m : Nat} : findObj (KK w) excC (some (dictOf [⟨hs, .str "message" tk, .str msg tk2⟩] m)) "message" = some (.value (.str msg tk2)) := by
  unfold findObj
  rw [exc_cls w, exc_nomsg w]
  rfl
-- the message of an exception
theorem exc_attr {w : World} {A : Around} {E : Value → Shared → Prop} {s : Shared} {e d : Addr} {oe : Obj} {vs : Array Value} {msg : Str} {hs : Int} {tk tk2 : Tok} {m : Nat} {expr : Bool} {Q : Value → Shared → Prop} (X : (KK w).In s.heap) (he : s.heap.get? e = some oe) (hc : oe.cls = .ref excC) (hdi : oe.dict = some d) (hd : oe.data = .fields vs)
    (hdd : s.heap.get? d = some (dictOf [⟨hs, .str "message" tk, .str msg tk2⟩] m)) (h : Q (.str msg tk2) { s with toks := s.toks + 1 }) : wpAny (model prg w) A (getAttr (.ref e) "message" expr) Q E s := by
  have I : W.InstAt s.heap e oe excC (some (dictOf [⟨hs, .str "message" tk, .str msg tk2⟩] m)) := ⟨he, hc, by unfold notCls; rw [hd], by rw [hdi]; exact hdd⟩
  obtain ⟨hh, g, dr, t, os⟩ := s
  have L0 := I.type (M := model prg w)
  have L1 := looks_findIn (M := model prg w) X (exc_ga w)
  have L2 := looks_findIn (M := model prg w) X (exc_noGetattr w)
  have L3 := looks_find (M := model prg w) X I (exc_findObj (w := w))
  have hcl := exc_cls w
  have sub : Looks (model prg w) hh (isInstance (.ref e) (.type "BaseException")) true := L0.andThen (looks_mroIn X (by unfold mroIn; rw [hcl]; rfl))
  unfold getAttr getAttrBy
  refine wpAny_bind (wpAny_mkText (wpAny_holding (wpAny_bind (L0.at (wpAny_bind (L1.at ?_))))))
  show wpAny _ _ (getAttrByItsOwn _ _ _ _ _ _) _ _ _
  unfold getAttrByItsOwn
  refine wpAny_bind (m := hookBefore _) ?_
  show wpAny _ _ (typeLookup (.ref excC) "__getattr__") _ _ _
  refine L2.at ?_
  refine wpAny_bind (wpAny_attempt ?_)
  refine wpAny_holding ?_
  have e1 : callGetattribute (.ref e) (.str "message" t) (.builtin "BaseException.__getattribute__") expr = boundAndCalled (.builtin "BaseException.__getattribute__") (.ref e) (.str "message" t) := by
    unfold callGetattribute; cases expr <;> rfl
  rw [e1]
  unfold boundAndCalled
  have FB := PySem.F.attrBase_Exception
  rw [FB.ga.bind (.ref e)]
  refine wpAny_bind (wpAny_pure ?_)
  show wpAny _ _ (call (.builtin "BaseException.__getattribute__") [.ref e, .str "message" t]) _ _ _
  refine wpAny_call (codeAny_call_builtin FB.ga.plain F.entry_bexc_ga (@check_slot (model prg w) _ _ ⟨hh, g, dr, t + 1, os⟩ "BaseException.__getattribute__" "BaseException" "__getattribute__" (.ref e) [.str "message" t] [] _ (by decide +kernel) (by decide +kernel) sub (F.args_bexc_ga _ _) ?_))
  unfold Builtin.«object.__getattribute__»
  refine wpAny_bind (wpAny_pure (wpAny_bind (wpAny_pure (wpAny_bind (L0.at (wpAny_bind (L3.at ?_)))))))
  refine wpAny_pure ?_
  exact wpAny_pure h
end
-- part X7
section
set_option tactic.hygienic false
theorem RzS.evF {h₀ : Heap} {env : Env} {G : Ghost} {own : Own} {s : Shared} {msg : Str} {ρk : Rho} {e : Addr} {G' : Ghost} {own' : Own} {s' : Shared} (z : RzS h₀ env G own s (frs [env]) msg ρk e G' own' s') (hf : env.frame = some env.locals) : EvF h₀ env G own s G' own' s' :=
  ⟨z.same, z.sub, fun b o h1 h2 h3 h4 => by
    obtain ⟨_, k2, k3, k4⟩ := z.keep b o h1 h2 h3 h4
    refine ⟨k2 fun hb => h4 (.inl ?_), k3, k4⟩
    have e1 : frs [env] = [env.locals] := by simp [frs, hf]
    rw [e1] at hb
    simpa using hb, z.sr⟩
-- statements in a frame that stands alone
structure EXT (n : Nat) (ns : Ns) (ρ : Rho) (own : Own) (sts : List Stmt) (Q : MF → Rho → Own → Prop) : Prop where
  go : ∀ (w : World) (h₀ : Heap) (A : Around) (env : Env) (s : Shared) (G : Ghost) (E : Value → Shared → Prop), Cx w h₀ → Room n A → EnvOk ns env → SR h₀ G own s.heap → FR G own env ρ s.heap → RS env A G own s.heap [] →
    wpAny (model prg w) A (execs sts env) (PostF h₀ env G own s Q) E s
noncomputable def thenT (n : Nat) (ns : Ns) (rest : List Stmt) (Q : MF → Rho → Own → Prop) : MF → Rho → Own → Prop
  | .next, ρ, own => EXT n ns ρ own rest Q
  | f, ρ, own => Q f ρ own
section
variable {n : Nat} {ns : Ns} {ρ : Rho} {own : Own} {Q : MF → Rho → Own → Prop}
theorem ext_of {sts : List Stmt} (h : EXS n ns ρ own sts Q) : EXT n ns ρ own sts Q := .mk fun w h₀ A env s G E C R K S F _ => h.go w h₀ A env s G E C R K S F
theorem ext_cons {st : Stmt} {rest : List Stmt} (h : EX n ns ρ own st (thenT n ns rest Q)) : EXT n ns ρ own (st :: rest) Q :=
  .mk fun w h₀ A env s G E C R K S F RR => wpAny_execs_cons (wpAny_mono (h.go w h₀ A env s G E C R K S F) (fun f s₁ q_u => by
    obtain ⟨m, ρ', o, G₁, h1, h2, h3, h4⟩ := q_u
    cases h2 with
    | next => exact wpAny_mono (h1.go w h₀ A env s₁ G₁ E C R K h3.sr h4 (RR.ev h3)) (fun _ _ q => q.after h3) fun _ _ x => x
    | brk => exact ⟨_, _, _, _, h1, .brk, h3, h4⟩
    | cont => exact ⟨_, _, _, _, h1, .cont, h3, h4⟩
    | ret r => exact ⟨_, _, _, _, h1, .ret r, h3, h4⟩) fun _ _ x => x)
theorem ext_sub {ρ' : Rho} {sts : List Stmt} (hs : Sub ρ' ρ) (h : EXT n ns ρ' own sts Q) : EXT n ns ρ own sts Q :=
  .mk fun w h₀ A env s G E C R K S F RR => h.go w h₀ A env s G E C R K S (F.weaken hs.get) RR
theorem ext_cut {st : Stmt} {rest : List Stmt} (ρs : Rho) (os : Own) (h1 : EX n ns ρ own st fun f ρ' o' => f = .next ∧ Sub ρs ρ' ∧ o' = os) (h2 : EXT n ns ρs os rest Q) : EXT n ns ρ own (st :: rest) Q :=
  ext_cons (h1.mono fun f r o h => by
    obtain ⟨rfl, h, rfl⟩ := h
    exact ext_sub h h2)
theorem ext_freeze {x : Str} {a : Addr} {l : List V} {own' : Own} {sts : List Stmt} (hx : ρ.lookup x = some (.loc a)) (D : Drop a (.lst l) own own') (h : EXT n ns ((x, .lst l) :: ρ) own' sts Q) : EXT n ns ρ own sts Q :=
  .mk fun w h₀ A env s G E C R K S F RR => by
    obtain ⟨l₁, l₂, rfl, rfl⟩ := D.split
    obtain ⟨G₂, e, r⟩ := Ev.freeze S
    have F' := F.ev e
    refine wpAny_mono (h.go w h₀ A env s G₂ E C R K e.sr ?_ (RR.ev e.toF)) (fun _ _ q => q.after e.toF) fun _ _ x => x
    have rl : ∀ {v : Value}, RV G₂ (.loc a) v → RV G₂ (.lst l) v := fun h => by cases h; exact r
    refine ⟨?_, fun y u hy hk => ?_, F'.cok, F'.inj, F'.free, F'.lc⟩
    · obtain ⟨m, hm, hr⟩ := F'.ns
      refine ⟨m, hm, fun y u hy hk => ?_⟩
      rw [List.lookup_cons] at hy
      by_cases hyx : y = x
      · subst hyx; simp at hy; subst hy
        obtain ⟨v', a1, a2⟩ := hr y _ hx hk
        exact ⟨v', a1, rl a2⟩
      · rw [show (y == x) = false by simpa using hyx] at hy
        exact hr y u hy hk
    · rw [List.lookup_cons] at hy
      by_cases hyx : y = x
      · subst hyx; simp at hy; subst hy
        obtain ⟨c, v', a0, a1, a2⟩ := F'.cells y _ hx hk
        exact ⟨c, v', a0, a1, rl a2⟩
      · rw [show (y == x) = false by simpa using hyx] at hy
        exact F'.cells y u hy hk
theorem ext_if {t : PySem.Expr} {a b : List Stmt} {p : Pos} {rest : List Stmt} (h : EB n ns ρ own t fun c o => Br c (EXT n ns ρ o a (thenT n ns rest Q)) (EXT n ns ρ o b (thenT n ns rest Q))) : EXT n ns ρ own (.If t a b p :: rest) Q :=
  .mk fun w h₀ A env s G E C R K S F RR => wpAny_execs_cons (wpAny_If (wpAny_mono (h.go w h₀ A env s G E C R K S F) (fun c s₁ q_u => by
    obtain ⟨o, G₁, h1, h2⟩ := q_u
    have fin : ∀ f s₂, PostF h₀ env G₁ o s₁ (thenT n ns rest Q) f s₂ → (match f with | .next => wpAny (model prg w) A (execs rest env) (PostF h₀ env G own s Q) E s₂ | f => PostF h₀ env G own s Q f s₂) := fun f s₂ q_u => by
      obtain ⟨m, ρ', o', G₂, q1, q2, q3, q4⟩ := q_u
      have q3' := h2.toF.trans q3
      cases q2 with
      | next => exact wpAny_mono (q1.go w h₀ A env s₂ G₂ E C R K q3.sr q4 (RR.ev q3')) (fun _ _ q => q.after q3') fun _ _ x => x
      | brk => exact ⟨_, _, _, _, q1, .brk, q3', q4⟩
      | cont => exact ⟨_, _, _, _, q1, .cont, q3', q4⟩
      | ret r => exact ⟨_, _, _, _, q1, .ret r, q3', q4⟩
    cases c with
    | true => simp only [if_true]; exact wpAny_mono ((h1.yes rfl).go w h₀ A env s₁ G₁ E C R K h2.sr (F.ev h2) (RR.ev h2.toF)) fin fun _ _ x => x
    | false => simp only [Bool.false_eq_true, if_false]; exact wpAny_mono ((h1.no rfl).go w h₀ A env s₁ G₁ E C R K h2.sr (F.ev h2) (RR.ev h2.toF)) fin fun _ _ x => x) fun _ _ x => x))
end
end
local macro_rules | `(tactic| walk_at "bw") => `(tactic| first | refine ext_cons ?_ | walk_at "aw")
-- part X8
section
set_option tactic.hygienic false
theorem exc_exm : ∀ w, exmOne (KK w) (.ref excC) (.ref excC) = some true := fun w => by kernel_rfl
section
variable {n : Nat} {ns : Ns} {ρ : Rho} {own : Own} {Q : MF → Rho → Own → Prop}
set_option maxHeartbeats 1000000 in
theorem ext_try {body : List Stmt} {np p1 p2 p3 p4 p5 hp p : Pos} {msg wds : Str} {ρk : Rho} (hR : ns.lookup ("Refusal" : Str) = some .globalImplicit) (he : ns.lookup ("error" : Str) = some .local) (hw : isLC (ns.lookup ("words" : Str)) = true) (hwk : ρk.lookup ("words" : Str) = some (.str wds))
    (hb : EXSR n ns ρ own body msg ρk) (hQ : ∀ own', Q (.ret (.bool (msg == wds))) [] own') :
    EXT n ns ρ own [.Try body [.ExceptHandler (some (.Name "Refusal" np)) (some "error") [.Return (some (.Compare (.Attribute (.Name "error" p1) "message" p2) [.Eq] [.Name "words" p3] p4)) p5] hp] [] [] p] Q := by
  refine .mk ?_; intro w h₀ A env s G E C R K S F RR
  refine wpAny_execs_cons (wpAny_Try_except ?_)
  refine wpAny_mono (hb.go w h₀ A env s G _ [] C R K S F RR fun e G' own' s' z => ?_) (fun f _ q => q.elim) fun _ _ x => x
  refine note_S z F K.kind RR fun s2 z2 x2 => ?_
  refine fl_S none (.inl rfl) z2 F K.kind RR x2 fun s3 z3 x3 => ?_
  have RRm : RS env (A.mark (some (.ref e))) G own s.heap [] := ⟨RR.fr, RR.st, RR.stk, RR.dis⟩
  refine wpAny_handleBy_cons (codeAny_handlers_test ?_) (by intro q; cases q)
  refine wp_global (v := .ref 44) rfl hR C K z3.sr ?_
  obtain ⟨oe, vs, d, g1, g2, g3, g4, g5, g6, g7⟩ := id x3.ex
  have LT : Looks (model prg w) s3.heap (typeOf (.ref e)) (.ref excC) := by
    rw [← g2]; exact (Looks.ld (M := model prg w) g1).andThen .now
  refine (exm_one (cx_in C z3.sr) LT (exc_exm w)).here ?_
  refine codeAny_handlers_suite_as ?_
  refine fl_S none (.inl rfl) z3 F K.kind RRm x3 fun s4 z4 x4 => ?_
  have ev4 := z4.evF RR.fr
  refine storeLC (x := "error") (v := .loc e) (by rw [he]; rfl) K z4.sr z4.fr .loc fun s5 e5 F5 q_u => ?_
  obtain ⟨b5, hb5, hs5⟩ := q_u
  have hfp5 : fp env b5 := by
    rcases hb5 with q | q
    · exact .inl q
    · exact .inr ⟨_, q⟩
  have hpr : prot G own s.heap b5 := F.prot hfp5
  obtain ⟨oe, vs, d, g1, g2, g3, g4, g5, ⟨g6, g7, g8, m, hs, tk', tk2, g9⟩, g10⟩ := id x4.ex
  have he5 : s5.heap.get? e = some oe := (hs5.2 e (fun q => x4.en (q ▸ hpr))).trans g1
  have hd5 : s5.heap.get? d = some (dictOf [⟨hs, .str "message" tk', .str msg tk2⟩] m) := (hs5.2 d (fun q => g6 (q ▸ hpr))).trans g9
  refine wpAny_execs_cons (wpAny_Return_some (wpAny_Compare1 ?_))
  rw [arm_eval_Attribute]
  refine wpAny_bind ?_
  show wpAny _ _ (eval (.Name "error" p1) env) _ _ _
  refine wpAny_Name (loadLC (ρ := ("error", .loc e) :: ρk) (v := .loc e) rfl (by rw [he]; rfl) K F5 fun v' r => ?_) (by decide)
  cases r
  refine wpAny_bind (wpAny_standAt (wpAny_bind (wpAny_holding ?_)))
  refine exc_attr (cx_in C e5.sr) he5 g2 g3 g4 hd5 ?_
  refine wpAny_bind (wpAny_letTemporaryGo (wpAny_pure ?_))
  have hwk' : (("error", .loc e) :: ρk : Rho).lookup ("words" : Str) = some (.str wds) := hwk
  refine wpAny_Name (loadLC (ρ := ("error", .loc e) :: ρk) hwk' hw K F5 fun v' r => ?_) (by decide)
  cases r
  refine PyProof.Rows.eq_str ?_
  obtain ⟨mm, hns, _⟩ := F5.ns
  refine wpAny_nameGoes (kindOf_of K he) hns (by rw [K.kind]; rfl) fun h6 m6 hn6 hs6 => ?_
  have evA := ev4.trans e5
  have kp : ∀ b, b ≠ env.locals → h6.get? b = s5.heap.get? b := fun b hb => hs6.2 b hb
  have fl := F5.free env.locals (.inl rfl)
  have ev6 : EvF h₀ env G' own' s5 G' own' { s5 with heap := h6, toks := s5.toks + 1 + 1 } := by
    refine ⟨⟨_, _, rfl⟩, fun _ _ h => h, fun b o k1 k2 k3 k4 => ⟨(kp b fun q => k4 (.inl q)).trans k1, k2, k3⟩, ⟨e5.sr.base, fun a o q => ⟨?_, (e5.sr.frozen a o q).2⟩, e5.sr.nodup, fun p hp => (e5.sr.owned p hp).keeps fun c hc y q => ?_⟩⟩
    · rw [kp a fun z => by rw [z, fl.2.1] at q; cases q]; exact (e5.sr.frozen a o q).1
    · rw [kp c fun z => fl.1 (z ▸ mem_addrs.mpr ⟨p, hp, hc⟩)]; exact q
  refine ⟨.ret (.bool (msg == wds)), [], own', G', hQ own', .ret .bool, evA.trans ev6, ?_⟩
  have lm : ∀ {y c}, env.cells.lookup y = some c → inC env c := fun h => ⟨_, h⟩
  refine ⟨⟨m6, hn6, fun x v hx => by simp at hx⟩, fun x v hx => by simp at hx, fun x hk => ?_, F5.inj, fun b hb => ?_, F5.lc⟩
  · obtain ⟨c, v0, h1, o, h2, h3⟩ := F5.cok x hk
    exact ⟨c, v0, h1, o, (kp c fun q => F5.lc (q ▸ lm h1)).trans h2, h3⟩
  · obtain ⟨a1, a2, o, ho⟩ := F5.free b hb
    refine ⟨a1, a2, ?_⟩
    by_cases hbl : b = env.locals
    · subst hbl
      obtain ⟨o', _, _, ho', _⟩ := hn6
      exact ⟨o', ho'⟩
    · exact ⟨o, (kp b hbl).trans ho⟩
end
end
-- part X9
section
variable {n : Nat} {own : Own} {ns : Ns} {ρ ρk : Rho} {Q : V → Own → Prop}
theorem bin_add_str {x y : Str} {Q : V → Own → Prop} (hsz : x.length + y.length ≤ 1000) (h : Q (.str (x ++ y)) own) : BIN n .Add (.str x) (.str y) own Q := by
  exact .mk fun _ _ _ s _ _ _ _ _ _ S (.str) (.str) => PyProof.Rows.add_str (fun t' tk => ⟨_, _, _, h, .str, .tok S _⟩) (by rw [sizeLine_eq]; omega)
theorem c_isfinN (hn : 1 ≤ n) (h : Q (.bool false) own) : CALL n 75 [.none] own Q := by
  obtain ⟨n, rfl⟩ : ∃ m, n = m + 1 := ⟨n - 1, by omega⟩
  refine call_def (names := ["x"]) (fun w => rfl) (fun w => by kernel_rfl) (fun s vs' _ hl => binds1 (fun a => rfl) hl) ?_
  repeat walk_at "aw"
  exact br_F h
noncomputable def msg13 : Str := "NA/NaN/Inf in 'y'"
noncomputable def msg14 : Str := "incompatible dimensions"
noncomputable def msg15 : Str := "missing or negative weights not allowed"
theorem msg13_eq : (("NA/NaN/Inf in '" : Str) ++ ("y" : Str)) ++ ("'" : Str) = msg13 := by decide +kernel
theorem x_checkfin (hn : 4 ≤ n) {u : List Rat} : CALLR n 163 [.lst (u.map fr ++ [.none]), .str ("y" : Str)] own msg13 := by
  obtain ⟨n, rfl⟩ : ∃ m, n = m + 3 := ⟨n - 3, by omega⟩
  refine callr_def (names := ["column", "name"]) (fun w => rfl) (fun w => by kernel_rfl) (fun s vs' _ hl => binds2 (fun a b => rfl) hl) ?_
  refine exsr_here (exr_for u.length (fun _ ρ' o => Sub [("name", V.str ("y" : Str))] ρ' ∧ o = own) rfl ?_)
  repeat walk_at "aw"
  refine ⟨u.map fr ++ [.none], rfl, ⟨⟨rfl, trivial⟩, rfl⟩, ?_, .none, by simp, ?_⟩
  · rintro i v ρ₁ o₁ hi hv ⟨hs, rfl⟩
    rw [List.getElem?_append_left (by simpa using hi)] at hv
    obtain ⟨q, hq, rfl⟩ := lst_get hv
    refine exs_sub (ρ' := [("x", fr q), ("name", V.str ("y" : Str))]) ⟨rfl, hs.get _ _ rfl, trivial⟩ ?_
    repeat walk_at "aw"
    refine c_isfin (by omega) _ ?_
    repeat walk_at "aw"
    exact br_F (exs_nil (exs_nil ⟨rfl, ⟨rfl, trivial⟩, rfl⟩))
  · rintro ρ₁ o₁ ⟨hs, rfl⟩
    refine exsr_sub (ρ' := [("x", V.none), ("name", V.str ("y" : Str))]) ⟨rfl, hs.get _ _ rfl, trivial⟩ ?_
    refine exsr_here (exr_if ?_)
    repeat walk_at "aw"
    refine c_isfinN (by omega) ?_
    repeat walk_at "aw"
    refine br_T ?_
    refine exsr_here (exr_raise rfl trivial ?_)
    repeat walk_at "aw"
    refine bin_add_str (by decide) ?_
    repeat walk_at "aw"
    refine bin_add_str (by decide) ?_
    rw [msg13_eq]
theorem x_checkw (hn : 4 ≤ n) {k : Nat} (hk : 0 < k) (hk4 : k ≤ 400) : CALLR n 170 [cv (List.replicate k (-1)), .int k] own msg15 := by
  obtain ⟨n, rfl⟩ : ∃ m, n = m + 3 := ⟨n - 3, by omega⟩
  refine callr_def (names := ["weights", "count"]) (fun w => rfl) (fun w => by kernel_rfl) (fun s vs' _ hl => binds2 (fun a b => rfl) hl) ?_
  refine exsr_next ?_
  repeat walk_at "aw"
  refine cb_len_cv ?_ (by simp; omega)
  repeat walk_at "aw"
  refine br_f (by simp) (exs_nil ⟨rfl, ?_⟩)
  refine exsr_here (exr_for 0 (fun _ ρ' o => o = own) rfl ?_)
  repeat walk_at "aw"
  refine ⟨(List.replicate k (-1)).map fr, rfl, rfl, fun i v ρ₁ o₁ hi => absurd hi (Nat.not_lt_zero _), fr (-1), by simp [hk], ?_⟩
  rintro ρ₁ o₁ rfl
  refine exsr_sub (ρ' := [("w", fr (-1))]) ⟨rfl, trivial⟩ ?_
  refine exsr_here (exr_if ?_)
  repeat walk_at "aw"
  refine c_isfin (by omega) _ ?_
  repeat walk_at "aw"
  refine br_F ?_
  repeat walk_at "aw"
  refine br_T ?_
  refine exsr_here (exr_raise rfl trivial ?_)
  repeat walk_at "aw"
  rfl
end
-- part X10
section
variable {n : Nat} {own : Own} {ns : Ns} {ρ ρk : Rho} {Q : V → Own → Prop}
set_option maxHeartbeats 1000000 in
theorem x_fit13 (hn : 8 ≤ n) {cs : List (List Rat)} {u : List Rat} {wt : V} (hu : u.length ≤ 300) (hc : ∀ c ∈ cs, c.length = u.length + 1) : CALLR n 200 [.lst (cs.map cv), .lst (u.map fr ++ [.none]), wt] own msg13 := by
  obtain ⟨n, rfl⟩ : ∃ m, n = m + 1 := ⟨n - 1, by omega⟩
  refine callr_def (names := ["columns", "y", "weights"]) (fun w => rfl) (fun w => by kernel_rfl) (fun s vs' ⟨w, X⟩ hl => binds3K X rfl rfl rfl (fun a b c => rfl) (fun a b c => rfl) hl) ?_
  refine exsr_next (ex_for_fun (cs.map cv) (fun i => [("columns", .lst (cs.map cv)), ("y", .lst (u.map fr ++ [.none])), ("weights", wt)]) (fun _ => own) rfl ?_ ?_ fun ρ₁ hs => ⟨rfl, ?_⟩)
  · repeat walk_at "aw"
    exact ⟨rfl, ⟨rfl, rfl, rfl, trivial⟩, rfl⟩
  · intro i v hi
    obtain ⟨c, hc', rfl⟩ := lst_get hi
    have cl := hc c (List.mem_of_getElem? hc')
    repeat walk_at "aw"
    refine cb_len_cv ?_ (by omega)
    repeat walk_at "aw"
    refine cb_len (l := u.map fr ++ [V.none]) (by simp; omega) ?_
    repeat walk_at "aw"
    refine br_f (by rw [cl]; simp) (exs_nil (exs_cons (ex_expr ?_)))
    repeat walk_at "aw"
    refine c_checkfin (by omega) ⟨rfl, ?_⟩
    exact exs_nil ⟨rfl, ⟨rfl, rfl, rfl, trivial⟩, rfl⟩
  · refine exsr_sub hs (exsr_here (exr_call rfl (fun w => rfl) (fun w => rfl) ?_ trivial))
    repeat walk_at "aw"
    exact x_checkfin (by omega)
set_option maxHeartbeats 1000000 in
theorem x_fit15 (hn : 8 ≤ n) {cs : List (List Rat)} {y : List Rat} (hy : 0 < y.length) (hu : y.length ≤ 300) (hc : ∀ c ∈ cs, c.length = y.length) : CALLR n 200 [.lst (cs.map cv), cv y, cv (List.replicate y.length (-1))] own msg15 := by
  obtain ⟨n, rfl⟩ : ∃ m, n = m + 1 := ⟨n - 1, by omega⟩
  refine callr_def (names := ["columns", "y", "weights"]) (fun w => rfl) (fun w => by kernel_rfl) (fun s vs' ⟨w, X⟩ hl => binds3K X rfl rfl rfl (fun a b c => rfl) (fun a b c => rfl) hl) ?_
  refine exsr_next (ex_for_fun (cs.map cv) (fun i => [("columns", .lst (cs.map cv)), ("y", cv y), ("weights", cv (List.replicate y.length (-1)))]) (fun _ => own) rfl ?_ ?_ fun ρ₁ hs => ⟨rfl, ?_⟩)
  · repeat walk_at "aw"
    exact ⟨rfl, ⟨rfl, rfl, rfl, trivial⟩, rfl⟩
  · intro i v hi
    obtain ⟨c, hc', rfl⟩ := lst_get hi
    have cl := hc c (List.mem_of_getElem? hc')
    repeat walk_at "aw"
    refine cb_len_cv ?_ (by omega)
    repeat walk_at "aw"
    refine cb_len_cv ?_ (by omega)
    repeat walk_at "aw"
    refine br_f (by rw [cl]; simp) (exs_nil (exs_cons (ex_expr ?_)))
    repeat walk_at "aw"
    refine c_checkfin (by omega) ⟨rfl, ?_⟩
    exact exs_nil ⟨rfl, ⟨rfl, rfl, rfl, trivial⟩, rfl⟩
  · refine exsr_sub hs (exsr_next (ex_expr ?_))
    repeat walk_at "aw"
    refine c_checkfin (by omega) ⟨rfl, rfl, ?_⟩
    refine exsr_here (exr_if ?_)
    repeat walk_at "aw"
    refine br_T (exsr_here (exr_call rfl (fun w => rfl) (fun w => rfl) ?_ trivial))
    repeat walk_at "aw"
    refine cb_len_cv ?_ (by omega)
    repeat walk_at "aw"
    exact x_checkw (by omega) hy (by omega)
set_option maxHeartbeats 1000000 in
theorem x_fit14 (hn : 8 ≤ n) {cs : List (List Rat)} {y : List Rat} {wt : V} (hy : 0 < y.length) (hu : y.length ≤ 100) (hc : ∀ c ∈ cs, c.length = y.length) : CALLR n 200 [.lst (cs.map cv ++ [cv (y ++ y)]), cv y, wt] own msg14 := by
  obtain ⟨n, rfl⟩ : ∃ m, n = m + 3 := ⟨n - 3, by omega⟩
  refine callr_def (names := ["columns", "y", "weights"]) (fun w => rfl) (fun w => by kernel_rfl) (fun s vs' ⟨w, X⟩ hl => binds3K X rfl rfl rfl (fun a b c => rfl) (fun a b c => rfl) hl) ?_
  refine exsr_here (exr_for cs.length (fun _ ρ' o => Sub [("columns", .lst (cs.map cv ++ [cv (y ++ y)])), ("y", cv y), ("weights", wt)] ρ' ∧ o = own) rfl ?_)
  repeat walk_at "aw"
  refine ⟨cs.map cv ++ [cv (y ++ y)], rfl, ⟨⟨rfl, rfl, rfl, trivial⟩, rfl⟩, ?_, cv (y ++ y), by simp, ?_⟩
  · rintro i v ρ₁ o₁ hi hv ⟨hs, rfl⟩
    rw [List.getElem?_append_left (by simpa using hi)] at hv
    obtain ⟨c, hc', rfl⟩ := lst_get hv
    have cl := hc c (List.mem_of_getElem? hc')
    refine exs_sub (ρ' := [("column", cv c), ("columns", .lst (cs.map cv ++ [cv (y ++ y)])), ("y", cv y), ("weights", wt)]) ⟨rfl, hs.get _ _ rfl, hs.get _ _ rfl, hs.get _ _ rfl, trivial⟩ ?_
    repeat walk_at "aw"
    refine cb_len_cv ?_ (by omega)
    repeat walk_at "aw"
    refine cb_len_cv ?_ (by omega)
    repeat walk_at "aw"
    refine br_f (by rw [cl]; simp) (exs_nil (exs_cons (ex_expr ?_)))
    repeat walk_at "aw"
    refine c_checkfin (by omega) ⟨rfl, ?_⟩
    exact exs_nil ⟨rfl, ⟨rfl, rfl, rfl, trivial⟩, rfl⟩
  · rintro ρ₁ o₁ ⟨hs, rfl⟩
    refine exsr_sub (ρ' := [("column", cv (y ++ y)), ("y", cv y)]) ⟨rfl, hs.get _ _ rfl, trivial⟩ ?_
    refine exsr_here (exr_if ?_)
    repeat walk_at "aw"
    refine cb_len_cv ?_ (by simp; omega)
    repeat walk_at "aw"
    refine cb_len_cv ?_ (by omega)
    repeat walk_at "aw"
    refine br_t (by simp; omega) ?_
    refine exsr_here (exr_raise rfl trivial ?_)
    repeat walk_at "aw"
    rfl
end
-- part M1
-- a finite sum
noncomputable def Sm : Nat → (Nat → Rat) → Rat
  | 0, _ => 0
  | n + 1, f => Sm n f + f n
theorem Sm_congr {f g : Nat → Rat} : ∀ {n : Nat}, (∀ i, i < n → f i = g i) → Sm n f = Sm n g
  | 0, _ => rfl
  | n + 1, h => by
    show Sm n f + f n = Sm n g + g n
    rw [Sm_congr (n := n) fun i hi => h i (Nat.lt_succ_of_lt hi), h n (Nat.lt_succ_self n)]
theorem Sm_zero {f : Nat → Rat} : ∀ {n : Nat}, (∀ i, i < n → f i = 0) → Sm n f = 0
  | 0, _ => rfl
  | n + 1, h => by
    show Sm n f + f n = 0
    rw [Sm_zero (n := n) fun i hi => h i (Nat.lt_succ_of_lt hi), h n (Nat.lt_succ_self n)]
    exact Rat.add_zero _
theorem Sm_lin {f g : Nat → Rat} {c : Rat} : ∀ {n : Nat}, Sm n (fun i => f i + c * g i) = Sm n f + c * Sm n g
  | 0 => by show (0 : Rat) = 0 + c * 0; grind
  | n + 1 => by
    show Sm n _ + _ = (Sm n f + f n) + c * (Sm n g + g n)
    rw [Sm_lin (n := n)]; grind
theorem Sm_add {f g : Nat → Rat} {n : Nat} : Sm n (fun i => f i + g i) = Sm n f + Sm n g := by
  have := Sm_lin (f := f) (g := g) (c := 1) (n := n)
  rw [Rat.one_mul] at this
  rw [← this]
  exact Sm_congr fun i _ => by rw [Rat.one_mul]
theorem Sm_mul {f : Nat → Rat} {c : Rat} {n : Nat} : Sm n (fun i => c * f i) = c * Sm n f := by
  have := Sm_lin (f := fun _ => 0) (g := f) (c := c) (n := n)
  rw [Sm_zero (f := fun _ => 0) fun _ _ => rfl, Rat.zero_add] at this
  rw [← this]
  exact Sm_congr fun i _ => by rw [Rat.zero_add]
theorem Sm_swap {f : Nat → Nat → Rat} {m : Nat} : ∀ {n : Nat}, Sm n (fun i => Sm m fun j => f i j) = Sm m fun j => Sm n fun i => f i j
  | 0 => (Sm_zero fun _ _ => rfl).symm
  | n + 1 => by
    show Sm n _ + _ = Sm m fun j => Sm n (fun i => f i j) + f n j
    rw [Sm_add, Sm_swap (n := n)]
noncomputable def skip (p j : Nat) : Nat := if j < p then j else j + 1
theorem Sm_skip {f : Nat → Rat} {p : Nat} : ∀ {n : Nat}, p ≤ n → Sm (n + 1) f = f p + Sm n fun j => f (skip p j)
  | 0, h => by
    obtain rfl : p = 0 := by omega
    show (0 : Rat) + f 0 = f 0 + 0
    grind
  | n + 1, h => by
    by_cases e : p = n + 1
    · subst e
      show Sm (n + 1) f + f (n + 1) = _
      rw [Sm_congr (f := fun j => f (skip (n + 1) j)) (g := f) fun i hi => by simp [skip, hi]]
      grind
    · show Sm (n + 1) f + f (n + 1) = f p + (Sm n _ + f (skip p n))
      rw [Sm_skip (n := n) (p := p) (by omega)]
      have : skip p n = n + 1 := by unfold skip; rw [if_neg (by omega)]
      rw [this]; grind
theorem Sm_upd {f g : Nat → Rat} {p n : Nat} (hp : p < n) (h : ∀ i, i < n → i ≠ p → g i = f i) : Sm n g = Sm n f + (g p - f p) := by
  obtain ⟨n, rfl⟩ : ∃ k, n = k + 1 := ⟨n - 1, by omega⟩
  have hp' : p ≤ n := by omega
  rw [Sm_skip (f := f) hp', Sm_skip (f := g) hp']
  rw [Sm_congr (f := fun j => g (skip p j)) (g := fun j => f (skip p j)) fun i hi => h _ (by unfold skip; split <;> omega) (by unfold skip; split <;> omega)]
  grind
-- fewer equations than unknowns
theorem homog : ∀ (m n : Nat) (A : Nat → Nat → Rat), m < n → ∃ x : Nat → Rat, (∃ j, j < n ∧ x j ≠ 0) ∧ ∀ i, i < m → Sm n (fun j => A i j * x j) = 0
  | 0, n, A, h => ⟨fun _ => 1, ⟨0, h, by decide⟩, fun i hi => absurd hi (Nat.not_lt_zero _)⟩
  | m + 1, 0, A, h => absurd h (Nat.not_lt_zero _)
  | m + 1, n + 1, A, h => by
    by_cases hz : ∀ j, j < n + 1 → A m j = 0
    · obtain ⟨x, h1, h2⟩ := homog m (n + 1) A (by omega)
      refine ⟨x, h1, fun i hi => ?_⟩
      by_cases e : i = m
      · subst e
        exact Sm_zero fun j hj => by rw [hz j hj, Rat.zero_mul]
      · exact h2 i (by omega)
    · have : ∃ p, p < n + 1 ∧ A m p ≠ 0 := by
        apply Classical.byContradiction
        intro hn
        exact hz fun j hj => Classical.byContradiction fun h' => hn ⟨j, hj, h'⟩
      obtain ⟨p, hp, hA⟩ := this
      obtain ⟨x', ⟨j, hj, h1⟩, h2⟩ := homog m n (fun i j => A i (skip p j) - A i p * (A m (skip p j) / A m p)) (by omega)
      let x : Nat → Rat := fun j => if j = p then -(Sm n fun j => A m (skip p j) / A m p * x' j) else x' (if j < p then j else j - 1)
      have hx : ∀ j, x (skip p j) = x' j := by
        intro j
        show (if skip p j = p then _ else _) = _
        have e1 : skip p j ≠ p := by unfold skip; split <;> omega
        rw [if_neg e1]
        congr 1
        by_cases h : j < p
        · have e : skip p j = j := if_pos h
          rw [e, if_pos h]
        · have e : skip p j = j + 1 := if_neg h
          rw [e, if_neg (by omega)]; rfl
      have hxp : x p = -(Sm n fun j => A m (skip p j) / A m p * x' j) := if_pos rfl
      refine ⟨x, ⟨skip p j, by unfold skip; split <;> omega, by rw [hx]; exact h1⟩, fun i hi => ?_⟩
      rw [Sm_skip (p := p) (by omega), Sm_congr (f := fun j => A i (skip p j) * x (skip p j)) (g := fun j => A i (skip p j) * x' j) fun j _ => by rw [hx], hxp]
      by_cases e : i = m
      · subst e
        have : (Sm n fun j => A i (skip p j) * x' j) = A i p * Sm n fun j => A i (skip p j) / A i p * x' j := by
          rw [← Sm_mul]
          exact Sm_congr fun j _ => by grind
        rw [this]; grind
      · have h3 := h2 i (by omega)
        have : (Sm n fun j => (A i (skip p j) - A i p * (A m (skip p j) / A m p)) * x' j) = (Sm n fun j => A i (skip p j) * x' j) + -(A i p) * Sm n fun j => A m (skip p j) / A m p * x' j := by
          rw [← Sm_lin]
          exact Sm_congr fun j _ => by grind
        rw [this] at h3
        grind
-- what is made of the members of B
inductive Sp (B : (Nat → Rat) → Prop) : (Nat → Rat) → Prop
  | mem {u : Nat → Rat} : B u → Sp B u
  | zero : Sp B (fun _ => 0)
  | lin {u v : Nat → Rat} (c : Rat) : Sp B u → Sp B v → Sp B (fun k => u k + c * v k)
theorem Sp.trans {B C : (Nat → Rat) → Prop} (h : ∀ u, B u → Sp C u) {x : Nat → Rat} (hx : Sp B x) : Sp C x := by
  induction hx with
  | mem h' => exact h _ h'
  | zero => exact .zero
  | lin c _ _ h1 h2 => exact .lin c h1 h2
-- the members of a family
noncomputable def FamP (n : Nat) (b : Nat → Nat → Rat) : (Nat → Rat) → Prop := fun u => ∃ i, i < n ∧ u = b i
theorem Sp.coef {n : Nat} {b : Nat → Nat → Rat} {x : Nat → Rat} (h : Sp (FamP n b) x) : ∃ a : Nat → Rat, ∀ k, x k = Sm n fun i => a i * b i k := by
  induction h with
  | mem h' =>
    obtain ⟨i, hi, rfl⟩ := h'
    refine ⟨fun j => if j = i then 1 else 0, fun k => ?_⟩
    rw [Sm_upd (f := fun _ => 0) hi fun j _ hj => by simp only []; rw [if_neg hj, Rat.zero_mul], Sm_zero fun _ _ => rfl]
    simp only [if_true]
    grind
  | zero => exact ⟨fun _ => 0, fun k => (Sm_zero fun i _ => Rat.zero_mul _).symm⟩
  | lin c _ _ h1 h2 =>
    obtain ⟨a, ha⟩ := h1
    obtain ⟨d, hd⟩ := h2
    refine ⟨fun i => a i + c * d i, fun k => ?_⟩
    simp only []
    rw [ha, hd, ← Sm_lin]
    exact Sm_congr fun i _ => by grind
noncomputable def Ind (n : Nat) (u : Nat → Nat → Rat) : Prop := ∀ a : Nat → Rat, (∀ k, Sm n (fun i => a i * u i k) = 0) → ∀ i, i < n → a i = 0
theorem steinitz {n m : Nat} {u b : Nat → Nat → Rat} (hu : Ind n u) (h : ∀ j, j < n → Sp (FamP m b) (u j)) : n ≤ m := by
  apply Classical.byContradiction
  intro hn
  have : ∀ j, ∃ a : Nat → Rat, j < n → ∀ k, u j k = Sm m fun i => a i * b i k := fun j => by
    by_cases hj : j < n
    · obtain ⟨a, ha⟩ := (h j hj).coef
      exact ⟨a, fun _ => ha⟩
    · exact ⟨fun _ => 0, fun h => absurd h hj⟩
  obtain ⟨a, ha⟩ := Classical.axiomOfChoice this
  obtain ⟨x, ⟨j, hj, hx⟩, h2⟩ := homog m n (fun i j => a j i) (by omega)
  refine hx (hu x (fun k => ?_) j hj)
  rw [Sm_congr (g := fun j => Sm m fun i => x j * (a j i * b i k)) fun j hj => by rw [ha j hj k, Sm_mul], Sm_swap]
  refine Sm_zero fun i hi => ?_
  rw [Sm_congr (g := fun j => b i k * (a j i * x j)) fun j _ => by grind, Sm_mul, h2 i hi, Rat.mul_zero]
-- part M2
theorem ent_zip {f : Rat → Rat → Rat} {u v : List Rat} (h : u.length = v.length) (h0 : f 0 0 = 0) (k : Nat) : ent (List.zipWith f u v) k = f (ent u k) (ent v k) := by
  unfold ent
  by_cases hk : k < u.length
  · rw [List.getElem?_eq_getElem (by simp; omega), List.getElem?_eq_getElem hk, List.getElem?_eq_getElem (by omega)]
    simp
  · rw [List.getElem?_eq_none (by simp; omega), List.getElem?_eq_none (by omega), List.getElem?_eq_none (by omega)]
    exact h0.symm
noncomputable def fam (rows : List (List Rat)) (i : Nat) : Nat → Rat := ent (rowAt rows i)
structure EInv (vs : List (List Rat)) (m s : Nat) (st : List (List Rat) × Nat) : Prop where
  len : st.1.length = vs.length
  rl : ∀ r ∈ st.1, r.length = m
  f : st.2 ≤ vs.length
  toS : ∀ i, i < vs.length → Sp (FamP vs.length (fam vs)) (fam st.1 i)
  fromS : ∀ i, i < vs.length → Sp (FamP vs.length (fam st.1)) (fam vs i)
  low : ∀ i, st.2 ≤ i → i < vs.length → ∀ k, k < s → fam st.1 i k = 0
  ind : ∀ a : Nat → Rat, (∀ k, k < s → Sm st.2 (fun i => a i * fam st.1 i k) = 0) → ∀ i, i < st.2 → a i = 0
noncomputable def sw (f g i : Nat) : Nat := if i = g then f else if i = f then g else i
theorem sw_sw {f g i : Nat} : sw f g (sw f g i) = i := by
  by_cases h1 : i = g
  · subst h1
    have e : sw f i i = f := if_pos rfl
    rw [e]
    unfold sw
    by_cases h2 : f = i
    · rw [if_pos h2]; exact h2
    · rw [if_neg h2, if_pos rfl]
  · by_cases h2 : i = f
    · subst h2
      have e : sw i g i = g := by unfold sw; rw [if_neg h1, if_pos rfl]
      rw [e]
      exact if_pos rfl
    · have e : sw f g i = i := by unfold sw; rw [if_neg h1, if_neg h2]
      rw [e, e]
theorem swap_row {rows : List (List Rat)} {f g : Nat} (hf : f < rows.length) (hg : g < rows.length) (i : Nat) : rowAt (swapR rows f g) i = rowAt rows (sw f g i) := by
  have e : (swapR rows f g)[i]? = rows[sw f g i]? := by
    unfold swapR sw
    rw [List.getElem?_set]
    by_cases h : g = i
    · subst h
      rw [if_pos rfl, if_pos (by simp; exact hg), if_pos rfl, rowAt_get hf]
    · rw [if_neg h, if_neg (fun e => h e.symm), List.getElem?_set]
      by_cases h2 : f = i
      · subst h2
        rw [if_pos rfl, if_pos hf, if_pos rfl, rowAt_get hg]
      · rw [if_neg h2, if_neg (fun e => h2 e.symm)]
  unfold rowAt
  rw [e]
theorem EInv.swap {vs : List (List Rat)} {m s f g : Nat} {rows : List (List Rat)} (E : EInv vs m s (rows, f)) (hf : f < vs.length) (hg : f ≤ g) (hgl : g < vs.length) : EInv vs m s (swapR rows f g, f) := by
  have hl : rows.length = vs.length := E.len
  have hfam : ∀ i, fam (swapR rows f g) i = fam rows (sw f g i) := fun i => by
    unfold fam; rw [swap_row (by omega) (by omega)]
  have hlt : ∀ i, i < vs.length → sw f g i < vs.length := fun i hi => by unfold sw; split; omega; split <;> omega
  refine ⟨by rw [swap_len]; exact hl, fun r hr => E.rl r (swap_mem (f := f) (g := g) (by show f < rows.length; omega) (by show g < rows.length; omega) r hr), E.f, fun i hi => ?_, fun i hi => ?_, fun i h1 h2 k hk => ?_, fun a ha => ?_⟩
  · show Sp _ (fam (swapR rows f g) i)
    rw [hfam]; exact E.toS _ (hlt i hi)
  · refine (E.fromS i hi).trans fun u q_u => ?_
    obtain ⟨j, hj, e⟩ := q_u
    refine .mem ⟨sw f g j, hlt j hj, ?_⟩
    show u = fam (swapR rows f g) _
    rw [hfam, sw_sw]; exact e
  · show fam (swapR rows f g) i k = 0
    rw [hfam]
    refine E.low _ ?_ (hlt i h2) k hk
    have h1' : f ≤ i := h1
    show f ≤ sw f g i
    unfold sw; split; omega; split <;> omega
  · refine E.ind a fun k hk => ?_
    have := ha k hk
    rw [← this]
    refine Sm_congr fun i hi => ?_
    have hi' : i < f := hi
    show _ = a i * fam (swapR rows f g) i k
    rw [hfam]
    have : sw f g i = i := by unfold sw; rw [if_neg (by omega), if_neg (by omega)]
    rw [this]
theorem EInv.elim {vs : List (List Rat)} {m s f : Nat} {rows : List (List Rat)} (E : EInv vs m s (rows, f)) (hf : f < vs.length) (ht : fam rows f s ≠ 0) : EInv vs m (s + 1) (elimRows rows f s (rows.length - (f + 1)), f + 1) := by
  have hl : rows.length = vs.length := E.len
  have hrl : ∀ i, i < vs.length → (rowAt rows i).length = m := fun i hi => E.rl _ (rowAt_mem (by show i < rows.length; omega))
  have hrow : ∀ i, i < vs.length → rowAt (elimRows rows f s (rows.length - (f + 1))) i = if f < i then elimRow (rowAt rows f) (rowAt rows i) s else rowAt rows i := fun i hi => by
    have e := elim_get (rows := rows) (f := f) (s := s) (j := rows.length - (f + 1)) (e := i) (by omega)
    show ((elimRows rows f s (rows.length - (f + 1)))[i]?).getD [] = _
    rw [e]
    by_cases h : f < i
    · rw [if_pos h, if_pos ⟨h, by omega⟩]; rfl
    · rw [if_neg h, if_neg fun h' => h h'.1]; rfl
  have hfam : ∀ i, i < vs.length → f < i → ∀ k, fam (elimRows rows f s (rows.length - (f + 1))) i k = fam rows i k + -(fam rows i s / fam rows f s) * fam rows f k := fun i hi h k => by
    show ent (rowAt _ i) k = _
    rw [hrow i hi, if_pos h]
    unfold elimRow
    by_cases h0 : ent (rowAt rows i) s = 0
    · rw [if_pos h0]
      have h0' : fam rows i s = 0 := h0
      rw [h0']
      show fam rows i k = _
      grind
    · rw [if_neg h0, ent_zip (by rw [hrl i hi, hrl f hf]) (by rw [Rat.mul_zero]; exact Rat.add_zero 0)]
      rfl
  have hfam0 : ∀ i, i < vs.length → ¬f < i → fam (elimRows rows f s (rows.length - (f + 1))) i = fam rows i := fun i hi h => by
    show ent (rowAt _ i) = _
    rw [hrow i hi, if_neg h]; rfl
  refine ⟨by rw [elim_len]; exact hl, fun r hr => ?_, hf, fun i hi => ?_, fun i hi => ?_, fun i h1 h2 k hk => ?_, fun a ha => ?_⟩
  · obtain ⟨i, hi, rfl⟩ := List.getElem_of_mem hr
    rw [elim_len] at hi
    have e : (elimRows rows f s (rows.length - (f + 1)))[i] = rowAt (elimRows rows f s (rows.length - (f + 1))) i := by
      unfold rowAt; rw [List.getElem?_eq_getElem (by rw [elim_len]; exact hi)]; rfl
    rw [e, hrow i (by omega)]
    split
    · unfold elimRow
      split
      · exact hrl i (by omega)
      · simp [hrl i (by omega), hrl f hf]
    · exact hrl i (by omega)
  · show Sp _ (fam (elimRows rows f s (rows.length - (f + 1))) i)
    by_cases h : f < i
    · have : fam (elimRows rows f s (rows.length - (f + 1))) i = fun k => fam rows i k + -(fam rows i s / fam rows f s) * fam rows f k := funext (hfam i hi h)
      rw [this]
      exact .lin _ (E.toS i hi) (E.toS f hf)
    · rw [hfam0 i hi h]; exact E.toS i hi
  · refine (E.fromS i hi).trans fun u q_u => ?_
    obtain ⟨j, hj, e⟩ := q_u
    have e : u = fam rows j := e
    subst e
    have hft : Sp (FamP vs.length (fam (elimRows rows f s (rows.length - (f + 1))))) (fam rows f) := .mem ⟨f, hf, (hfam0 f hf (Nat.lt_irrefl f)).symm⟩
    by_cases h : f < j
    · have : fam rows j = fun k => fam (elimRows rows f s (rows.length - (f + 1))) j k + (fam rows j s / fam rows f s) * fam rows f k := funext fun k => by
        rw [hfam j hj h]; grind
      rw [this]
      exact .lin _ (.mem ⟨j, hj, rfl⟩) hft
    · rw [← hfam0 j hj h]; exact .mem ⟨j, hj, rfl⟩
  · show fam (elimRows rows f s (rows.length - (f + 1))) i k = 0
    have h1' : f < i := h1
    rw [hfam i h2 h1']
    by_cases e : k = s
    · subst e; grind
    · have a1 : fam rows i k = 0 := E.low i (Nat.le_of_lt h1') h2 k (by omega)
      have a2 : fam rows f k = 0 := E.low f (Nat.le_refl f) hf k (by omega)
      rw [a1, a2]; grind
  · have hs : ∀ k, k < s + 1 → Sm f (fun i => a i * fam rows i k) + a f * fam rows f k = 0 := fun k hk => by
      have h0 : Sm (f + 1) (fun i => a i * fam (elimRows rows f s (rows.length - (f + 1))) i k) = 0 := ha k hk
      rw [← h0]
      show _ = Sm f _ + a f * fam (elimRows rows f s (rows.length - (f + 1))) f k
      rw [hfam0 f hf (Nat.lt_irrefl f)]
      congr 1
      exact Sm_congr fun i hi => by rw [hfam0 i (by omega) (by omega)]
    have hlo := E.ind a fun k hk => by
      have := hs k (by omega)
      have a2 : fam rows f k = 0 := E.low f (Nat.le_refl f) hf k hk
      rw [a2, Rat.mul_zero, Rat.add_zero] at this
      exact this
    have hlo' : ∀ i, i < f → a i = 0 := hlo
    have haf : a f = 0 := by
      have := hs s (by omega)
      rw [Sm_zero fun i hi => by rw [hlo' i hi, Rat.zero_mul], Rat.zero_add] at this
      rcases Rat.mul_eq_zero.mp this with h | h
      · exact h
      · exact absurd h ht
    intro i hi
    have hi' : i < f + 1 := hi
    by_cases e : i = f
    · subst e; exact haf
    · exact hlo' i (by omega)
theorem EInv.step {vs : List (List Rat)} {m s : Nat} {st : List (List Rat) × Nat} (E : EInv vs m s st) : EInv vs m (s + 1) (rankStep st s) := by
  obtain ⟨rows, f⟩ := st
  have hl : rows.length = vs.length := E.len
  unfold rankStep
  split
  · rename_i h
    refine ⟨E.len, E.rl, E.f, E.toS, E.fromS, fun i h1 h2 k hk => ?_, fun a ha => E.ind a fun k hk => ha k (by omega)⟩
    by_cases e : k = s
    · subst e
      exact filled_none h h1 (by show i < rows.length; omega)
    · exact E.low i h1 h2 k (by omega)
  · rename_i g l h
    obtain ⟨h1, h2, h3⟩ := filled_mem h
    have h1' : f ≤ g := h1
    have h2' : g < rows.length := h2
    have E2 := E.swap (by omega) h1' (by omega)
    have e : rows.length - (f + 1) = (swapR rows f g).length - (f + 1) := by rw [swap_len]
    show EInv vs m (s + 1) (elimRows (swapR rows f g) f s (rows.length - (f + 1)), f + 1)
    rw [e]
    refine E2.elim (by omega) ?_
    show ent (rowAt (swapR rows f g) f) s ≠ 0
    rw [swap_top (by omega) h2']
    exact h3
theorem EInv.all {vs : List (List Rat)} {m : Nat} (h : ∀ v ∈ vs, v.length = m) : ∀ s, EInv vs m s (rankN vs s)
  | 0 => ⟨rfl, h, Nat.zero_le _, fun i hi => .mem ⟨i, hi, rfl⟩, fun i hi => .mem ⟨i, hi, rfl⟩, fun i _ _ k hk => absurd hk (Nat.not_lt_zero _), fun a _ i hi => absurd hi (Nat.not_lt_zero _)⟩
  | s + 1 => (EInv.all h s).step
theorem lawRank_eq {vs : List (List Rat)} {m n : Nat} {u : Nat → Nat → Rat} (h : ∀ v ∈ vs, v.length = m) (hu : Ind n u) (h1 : ∀ j, j < n → Sp (FamP vs.length (fam vs)) (u j)) (h2 : ∀ i, i < vs.length → Sp (FamP n u) (fam vs i)) : lawRank vs = n := by
  cases vs with
  | nil =>
    have := steinitz hu h1
    show 0 = n
    have : n ≤ 0 := this
    omega
  | cons r rs =>
    have hr : r.length = m := h r List.mem_cons_self
    show (rankN (r :: rs) r.length).2 = n
    rw [hr]
    have E := EInv.all h m
    generalize r :: rs = vs at *
    generalize rankN vs m = st at E ⊢
    obtain ⟨rows, f⟩ := st
    have hl : rows.length = vs.length := E.len
    have zero : ∀ i, f ≤ i → i < vs.length → fam rows i = fun _ => 0 := fun i hi hl' => funext fun k => by
      by_cases hk : k < m
      · exact E.low i hi hl' k hk
      · have : (rowAt rows i).length = m := E.rl _ (rowAt_mem (by show i < rows.length; omega))
        show ent (rowAt rows i) k = 0
        unfold ent
        rw [List.getElem?_eq_none (by omega)]; rfl
    have top : ∀ x, Sp (FamP vs.length (fam rows)) x → Sp (FamP f (fam rows)) x := fun x hx => hx.trans fun u q_u => by
      obtain ⟨j, hj, e⟩ := q_u
      subst e
      by_cases hjf : j < f
      · exact .mem ⟨j, hjf, rfl⟩
      · rw [zero j (by omega) hj]; exact .zero
    have hi : Ind f (fam rows) := fun a ha => E.ind a fun k _ => ha k
    have a1 : n ≤ f := steinitz hu fun j hj => top _ ((h1 j hj).trans fun u ⟨i, hi, e⟩ => by subst e; exact E.fromS i hi)
    have hfl : f ≤ vs.length := E.f
    have a2 : f ≤ n := steinitz hi fun j hj => (E.toS j (by omega)).trans fun u ⟨i, hi, e⟩ => by subst e; exact h2 i hi
    show f = n
    omega
-- part S1
section
set_option tactic.hygienic false
-- small sets of ints: figures below 3
noncomputable abbrev SL := List (Nat × Tok)
noncomputable def tabOf (ks : List Nat) (led : Bool) : SetTable := { mask := 7, place := ks.toArray, dummies := #[], finger := 0, led := led, moves := 0, plain := true }
noncomputable def esOf (l : SL) : Array (Int × Value) := (l.map fun p => (((p.1 : Nat) : Int), Value.int ((p.1 : Nat) : Int) p.2)).toArray
noncomputable def setObj (l : SL) (led : Bool) (ep : Nat) : Obj := { cls := .type "set", dict := none, data := .set (esOf l) ep (tabOf (l.map (·.1)) led) }
inductive OkL : SL → Prop where
  | e : OkL []
  | a {t} : OkL [(0, t)]
  | b {t} : OkL [(1, t)]
  | c {t} : OkL [(2, t)]
  | ab {t u} : OkL [(0, t), (1, u)]
  | ac {t u} : OkL [(0, t), (2, u)]
  | bc {t u} : OkL [(1, t), (2, u)]
  | abc {t u v} : OkL [(0, t), (1, u), (2, v)]
noncomputable def ins (k : Nat) (t : Tok) : SL → SL
  | [] => [(k, t)]
  | p :: r => if k < p.1 then (k, t) :: p :: r else if k = p.1 then p :: r else p :: ins k t r
theorem lay_small {l : SL} {led : Bool} {k : Nat} {t : Tok} (hl : OkL l) (hk : k < 3) (hn : k ∉ l.map (·.1)) : layNew (tabOf (l.map (·.1)) led) (esOf l) (hashInt (k : Int)) (.int (k : Int) t) = (esOf (ins k t l), tabOf ((ins k t l).map (·.1)) led, false, false) ∧ OkL (ins k t l) ∧ (tabOf ((ins k t l).map (·.1)) led).tooFull = false := by
  have : k = 0 ∨ k = 1 ∨ k = 2 := by omega
  rcases this with rfl | rfl | rfl <;> cases hl <;> first | (exfalso; apply hn; simp; done) | skip
  all_goals refine ⟨by kernel_rfl, ?_, by kernel_rfl⟩
  all_goals constructor
set_option tactic.hygienic true in
theorem ins_mem {k : Nat} {t : Tok} : ∀ {l : SL} (j : Nat), j ∈ (ins k t l).map (·.1) ↔ j = k ∨ j ∈ l.map (·.1)
  | [], j => by simp [ins]
  | p :: r, j => by
    have ih := @ins_mem k t r j
    unfold ins
    split
    · simp
    · split
      · rename_i h; simp only [List.map_cons, List.mem_cons]; constructor
        · intro q; exact .inr q
        · rintro (rfl | q)
          · exact .inl h
          · exact q
      · simp only [List.map_cons, List.mem_cons, ih]
        constructor
        · rintro (q | q | q)
          · exact .inr (.inl q)
          · exact .inl q
          · exact .inr (.inr q)
        · rintro (q | q | q)
          · exact .inr (.inl q)
          · exact .inl q
          · exact .inr (.inr q)
theorem OkL.lt {l : SL} (h : OkL l) : ∀ p ∈ l, p.1 < 3 := by
  cases h <;> simp
theorem hash3 {k : Nat} (h : k < 3) : ((k : Nat) : Int) = hashInt ((k : Nat) : Int) := by
  have : k = 0 ∨ k = 1 ∨ k = 2 := by omega
  rcases this with rfl | rfl | rfl <;> rfl
theorem es_elems {prog : Program} {w : World} {l : SL} (hl : OkL l) : ElemsOf (intKind prog w) (esOf l).toList := by
  intro e he
  simp only [esOf, List.mem_map] at he
  obtain ⟨p, hp, rfl⟩ := he
  exact ⟨⟨((p.1 : Nat) : Int), by simp [intKind, Value.isInt], hash3 (hl.lt p hp)⟩, rfl⟩
theorem OkL.fits {l : SL} {led : Bool} (h : OkL l) : (tabOf (l.map (·.1)) led).fits (esOf l).size = true := by
  cases h <;> rfl
theorem OkL.len {l : SL} (h : OkL l) : l.length ≤ 3 := by cases h <;> simp
theorem es_size (l : SL) : (esOf l).size = l.length := by simp [esOf]
section
variable {prog : Program} {w : World} {A : Around} {E : Value → Shared → Prop} {s : Shared}
theorem set_add {a : Addr} {l : SL} {led : Bool} {ep k : Nat} {t : Tok} {Q : Bool → Shared → Prop} (hl : OkL l) (hk : k < 3) (ho : s.heap.get? a = some (setObj l led ep))
    (h : ∀ b h' l' ep', OkL l' → (∀ j, j ∈ l'.map (·.1) ↔ j = k ∨ j ∈ l.map (·.1)) → Heap.SameBut a s.heap h' → h'.get? a = some (setObj l' led ep') → Q b { s with heap := h' }) :
    wpAny (model prog w) A (setAddHashed a (.int ((k : Nat) : Int) t) (hashInt ((k : Nat) : Int))) Q E s := by
  have hel := es_elems (prog := prog) (w := w) hl
  have hsc : (Value.int ((k : Nat) : Int) t).scannable = true := rfl
  have hb : (esOf l).size < scanBound := by rw [es_size]; have := hl.len; unfold scanBound; omega
  have hkey : (intKind prog w).is ((k : Nat) : Int) (.int ((k : Nat) : Int) t) = true := by simp [intKind, Value.isInt]
  unfold setAddHashed setAddHashedIn
  refine wpAny_holding (wpAny_bind (wpAny_setState_of ho rfl hl.fits ?_))
  dsimp only
  rw [byScan_of hsc hb hel]
  simp only [↓reduceIte]
  unfold setAddByScan
  refine wpAny_bind ?_
  refine wpAny_bind (wpAny_rule ?_)
  refine wpAny_bind (wpAny_setScan_of (knd := intKind prog w) hkey ho rfl hl.fits hel ?_)
  cases hr : List.findIdx? (fun e => (intKind prog w).is ((k : Nat) : Int) e.2) (esOf l).toList with
  | some j =>
    dsimp only
    obtain ⟨hj, hpj, _⟩ := List.findIdx?_eq_some_iff_getElem.mp hr
    refine wpAny_pure (wpAny_pure ?_)
    refine h false s.heap l ep hl (fun i => ⟨.inr, fun q => ?_⟩) (Heap.SameBut.refl a s.heap) ho
    rcases q with rfl | q
    · have hm := List.getElem_mem hj
      generalize (esOf l).toList[j] = e at hm hpj
      simp only [esOf, List.mem_map] at hm
      obtain ⟨p, hp, rfl⟩ := hm
      have : ((p.1 : Nat) : Int) = ((i : Nat) : Int) := by simpa [intKind, Value.isInt] using hpj
      have : p.1 = i := by omega
      rw [← this]; exact List.mem_map.mpr ⟨p, hp, rfl⟩
    · exact q
  | none =>
    dsimp only
    have hn : k ∉ l.map (·.1) := fun hm => by
      obtain ⟨p, hp, rfl⟩ := List.mem_map.mp hm
      have := List.findIdx?_eq_none_iff.mp hr (((p.1 : Nat) : Int), .int ((p.1 : Nat) : Int) p.2) (by simp only [esOf, List.mem_map]; exact ⟨p, hp, rfl⟩)
      simp [intKind, Value.isInt] at this
    obtain ⟨e1, e2, e3⟩ := lay_small (led := led) (t := t) hl hk hn
    have e1' : layNew (tabOf (l.map (·.1)) led) (esOf l) ((intKind prog w).hash ((k : Nat) : Int)) (.int ((k : Nat) : Int) t) = (esOf (ins k t l), tabOf ((ins k t l).map (·.1)) led, false, false) := e1
    show wpAny _ _ (match layNew (tabOf (l.map (·.1)) led) (esOf l) (hashInt ((k : Nat) : Int)) (.int ((k : Nat) : Int) t) with | (es, t, wasDummy, gave) => _) _ _ _
    rw [e1]
    dsimp only
    refine wpAny_bind (wpAny_pure (a := ()) ?_)
    rw [if_pos (show (tabOf ((ins k t l).map (·.1)) led).plain = true from rfl)]
    refine wpAny_bind ?_
    rw [hashByValue_scannable 8 hsc]
    refine wpAny_pure ?_
    rw [if_pos (show plainKind (.int ((k : Nat) : Int) t) = true from rfl)]
    refine wpAny_bind (wpAny_storeSet_of ho rfl ?_ (by rw [es_size]; have := e2.len; rw [sizeLine_eq]; omega))
    rw [e3]
    simp only [Bool.not_false, Bool.and_false, Bool.false_eq_true, ↓reduceIte]
    refine wpAny_pure ?_
    refine wpAny_pure ?_
    have hg := Heap.get?_update_self (Obj.putSet (esOf (ins k t l)) (tabOf ((ins k t l).map (·.1)) led)) ho (by rw [putSet_of _ _ (ep := ep) (es := esOf l) (t := tabOf (l.map (·.1)) led) rfl]; rfl)
    rw [putSet_of _ _ (ep := ep) (es := esOf l) (t := tabOf (l.map (·.1)) led) rfl] at hg
    exact h true _ (ins k t l) (ep + 1) e2 (fun j => ins_mem j) (Heap.SameBut.update ..) hg
end
end
-- part S2
section
set_option tactic.hygienic false
noncomputable def natVs (ns : List Nat) : List Int := ns.map fun k => ((k : Nat) : Int)
section
variable {prog : Program} {w : World} {A : Around} {E : Value → Shared → Prop} {R : Result → Shared → Prop}
theorem set_loop {ns : List Nat} {vs : List Value} {S I L : Addr} {led : Bool} (hh : A.handled = none) (hI : IntsAre vs (natVs ns)) (h3 : ∀ k ∈ ns, k < 3) (hIS : I ≠ S) (hLS : L ≠ S) (hLI : L ≠ I) :
    ∀ (r i : Nat) (s : Shared) (l : SL) (ep : Nat), ns.length - i = r → i ≤ ns.length → s.heap.IsListIter I L i → s.heap.IsList L vs.toArray → s.heap.get? S = some (setObj l led ep) → OkL l → (∀ j, j ∈ l.map (·.1) ↔ j ∈ ns.take i) →
      (∀ h' tk l' ep', h'.get? S = some (setObj l' led ep') → OkL l' → (∀ j, j ∈ l'.map (·.1) ↔ j ∈ ns) → (∀ b o, b ≠ S → b ≠ I → s.heap.get? b = some o → h'.get? b = some o) → R (.ok (.ret .none)) { s with heap := h', toks := tk }) →
      codeAny (model prog w) A (.builtin "set.update.loop" ⟨[.ref S, .ref I], []⟩) R s := by
  have hlen : vs.length = ns.length := by have := hI.length; simpa [natVs] using this
  intro r
  induction r with
  | zero =>
    intro i s l ep hr hi hit hl hS hok hm hR
    obtain rfl : i = ns.length := by omega
    refine codeAny_builtin F.entry_set_update_loop ?_
    rw [Around.under_plainId F.plain_set_update_loop _]
    show wpAny _ A.in1 (pyNext (.ref I) >>= _) _ _ s
    refine wpAny_bind (wpAny_pyNext_list_end (by simpa using hh) hit hl (by rw [Array.getElem?_eq_none]; simp; omega) fun h' he => ?_)
    show wpAny _ A.in1 (ret Value.none) _ _ _
    exact wpAny_pure (hR h' s.toks l ep (he S _ (Ne.symm hIS) hS) hok (fun j => by rw [hm, List.take_length]) fun b o b1 b2 hb => he b o b2 hb)
  | succ r ih =>
    intro i s l ep hr hi hit hl hS hok hm hR
    have hin : i < ns.length := by omega
    refine codeAny_builtin F.entry_set_update_loop ?_
    rw [Around.under_plainId F.plain_set_update_loop _]
    show wpAny _ A.in1 (pyNext (.ref I) >>= _) _ _ s
    have hg : vs[i]? = some vs[i] := List.getElem?_eq_getElem (by omega)
    obtain ⟨t, ht⟩ := IntsAre.int_at hI i _ hg
    have hk : (natVs ns).getD i 0 = ((ns[i] : Nat) : Int) := by simp [natVs, List.getD, hin]
    rw [hk] at ht
    rw [ht] at hg
    refine wpAny_bind (wpAny_pyNext_list_item hit hl (by simpa using hg) fun h₁ hi₁ hs₁ => ?_)
    show wpAny _ A.in1 (holding [Value.int ((ns[i] : Nat) : Int) t] (setAdd S (.int ((ns[i] : Nat) : Int) t)) >>= _) _ _ _
    refine wpAny_bind (wpAny_holding ?_)
    unfold setAdd
    refine wpAny_holding ?_
    refine wpAny_bind ((intKind prog w).pyHash (k := ((ns[i] : Nat) : Int)) (intKind_is _ _ _ _) ?_)
    have hS₁ : h₁.get? S = some (setObj l led ep) := (hs₁.2 S (Ne.symm hIS)).trans hS
    refine set_add (s := { s with heap := h₁, toks := s.toks + 1 }) hok (h3 _ (List.getElem_mem hin)) hS₁ fun b h₂ l' ep' ok' hm' hs₂ hS₂ => ?_
    have keep : ∀ b o, b ≠ S → b ≠ I → s.heap.get? b = some o → h₂.get? b = some o := fun b o b1 b2 hb => (hs₂.2 b b1).trans ((hs₁.2 b b2).trans hb)
    have hit₂ : h₂.IsListIter I L (i + 1) := by
      obtain ⟨o, ho, r1⟩ := hi₁
      exact ⟨o, (hs₂.2 I hIS).trans ho, r1⟩
    have hl₂ : h₂.IsList L vs.toArray := by
      obtain ⟨o, ho, r1⟩ := hl
      exact ⟨o, keep L o hLS hLI ho, r1⟩
    refine wpAny_pure ⟨plainId_quiet F.plain_set_update_loop _, ih (i + 1) _ l' ep' (by omega) hin hit₂ hl₂ hS₂ ok' (fun j => ?_) fun h' tk l'' ep'' q1 q2 q3 q4 => ?_⟩
    · rw [hm', hm, List.take_succ_eq_append_getElem hin, List.mem_append, List.mem_singleton]; exact or_comm
    · exact hR h' tk l'' ep'' q1 q2 q3 fun b o b1 b2 hb => q4 b o b1 b2 (keep b o b1 b2 hb)
theorem code_set_new_led {s : Shared} (a : Value) {Q₁ : Value → Shared → Prop}
    (h : Q₁ (.ref s.heap.objs.size) { s with heap := s.heap.push { cls := .type "set", dict := none, data := .set #[] 0 (.fresh 0 0 (!(w.params.followText "set-order"))) } }) :
    codeAny (model prog w) A (.call (.builtin "set.__new__") ⟨[.type "set", a], []⟩) (wants Q₁ E) s := by
  refine codeAny_of_tree ?_
  show wpAny _ A.in1 (do checkBuiltinCall "set.__new__" ⟨[.type "set", a], []⟩; again (.builtin "set.__new__" ⟨[.type "set", a], []⟩)) _ _ s
  refine wpAny_bind (wpAny_of_eq (PySem.F.newCall_set_1 a) (wpAny_pure ⟨plainId_quiet PySem.F.plain_set_new _, codeAny_builtin PySem.F.entry_set_new ?_⟩))
  rw [Around.under_plainId PySem.F.plain_set_new _]
  unfold Builtin.«set.__new__» Builtin.Frozenset.newClass
  have hsub := sub_set_self
  obtain ⟨hp, g, d, tk, os⟩ := s
  dsimp only
  wp_walk
  refine wpAny_askSetting (wpAny_pure ?_)
  dsimp only
  simp only [newObj]
  refine wpAny_bind (wpAny_alloc (wpAny_pure ?_))
  exact wpAny_pure h
set_option maxHeartbeats 3200000 in
theorem call_set_small {s : Shared} {l : Addr} {ns : List Nat} {vs : List Value} {Q : Value → Shared → Prop} (hh : A.handled = none) (hl : s.heap.IsList l vs.toArray) (hi : IntsAre vs (natVs ns)) (h3 : ∀ k ∈ ns, k < 3)
    (h : ∀ (h' : Heap) (tk : Nat) l' ep', h'.get? s.heap.objs.size = some (setObj l' (!(w.params.followText "set-order")) ep') → OkL l' → (∀ j, j ∈ l'.map (·.1) ↔ j ∈ ns) →
      (∀ b o, s.heap.get? b = some o → h'.get? b = some o) → Q (.ref s.heap.objs.size) { s with heap := h', toks := tk }) :
    wpAny (model prog w) A (call (.type "set") [.ref l]) Q E s := by
  obtain ⟨c, tl, hmro⟩ := PySem.F.called_set.mro
  have hmade := PySem.F.called_set.made
  have hsub := PySem.F.called_set.sub
  refine wpAny_call (codeAny_of_tree ?_)
  show wpAny _ _ (callAny (.type "set") _) _ _ _
  refine wpAny_pure ⟨Code.quiet_builtin _ (by decide +kernel), codeAny_builtin PySem.F.entry_type_call ?_⟩
  rw [Around.under_plain (weight_type_call_type "set" [.ref l] []) rfl]
  have h1 := PySem.F.called_set.notType
  have h2 := PySem.F.called_set.canCreate
  have hct := PySem.F.typeCall_set_1 (.ref l)
  repeat (any_goals (first | assumption | wp_step))
  generalize hled : (!(w.params.followText "set-order")) = led at h
  refine codeAny_mono (code_set_new_led (.ref l) (E := E) (Q₁ := fun obj s₁ => obj = .ref s.heap.objs.size ∧ s₁ = { s with heap := s.heap.push { cls := .type "set", dict := none, data := .set #[] 0 (.fresh 0 0 led) } }) (by rw [hled]; exact ⟨rfl, rfl⟩)) fun r s₁ hr => ?_
  cases r with
  | error e => exact hr
  | ok fl =>
    cases fl with
    | ret obj =>
      obtain ⟨rfl, rfl⟩ := hr
      have hS : (s.heap.push { cls := .type "set", dict := none, data := .set #[] 0 (.fresh 0 0 led) }).get? s.heap.objs.size = some { cls := .type "set", dict := none, data := .set #[] 0 (.fresh 0 0 led) } := Heap.get?_push_size _ rfl
      have hT : Shared.TypeIs { s with heap := s.heap.push { cls := .type "set", dict := none, data := .set #[] 0 (.fresh 0 0 led) } } (.ref s.heap.objs.size) "set" := ⟨_, hS, rfl⟩
      have hli := PySem.F.called_set.init.lookup
      have hbi := PySem.F.called_set.init.bind (.ref s.heap.objs.size)
      repeat (any_goals (first | assumption | wp_step))
      refine codeAny_mono (codeAny_call_builtin (R := wants (fun r s₂ => r = .none ∧ ∃ h' tk l' ep', s₂ = { s with heap := h', toks := tk } ∧ h'.get? s.heap.objs.size = some (setObj l' led ep') ∧ OkL l' ∧ (∀ j, j ∈ l'.map (·.1) ↔ j ∈ ns) ∧
          (∀ b o, s.heap.get? b = some o → h'.get? b = some o)) E) PySem.F.called_set.init.plain PySem.F.entry_set_init (check_set_init_1 hT ?_)) fun r₂ s₂ hr₂ => ?_
      · obtain ⟨ol, hol, hcl, nl, hdl⟩ := hl
        obtain ⟨ocls, odict, odata, oslots⟩ := ol
        simp only at hcl hdl
        subst hcl; subst hdl
        have hol' : (s.heap.push { cls := .type "set", dict := none, data := .set #[] 0 (.fresh 0 0 led) }).get? l = some { cls := .type "list", dict := odict, data := .seq vs.toArray nl, slots := oslots } := Heap.get?_push_of_some _ hol
        have hsls := PySem.F.sub_list_set
        have hslf := PySem.F.sub_list_frozenset
        have hne : (Value.type "list" == Value.type "dict") = false := by decide
        have hl1 : (s.heap.push { cls := .type "set", dict := none, data := .set #[] 0 (.fresh 0 0 led) }).IsList l vs.toArray := ⟨_, hol', rfl, nl, rfl⟩
        unfold Builtin.«set.__init__» noKeywords Builtin.Frozenset.updateFrom
        generalize hPI : pyIter = PI
        wp_walk
        subst hPI
        refine wpAny_pyIter_list hl1 ?_
        refine wpAny_bind (wpAny_runValue ?_)
        have hlS : l < s.heap.objs.size := Heap.lt_size hol
        have hsz : (s.heap.push { cls := .type "set", dict := none, data := .set #[] 0 (.fresh 0 0 led) }).objs.size = s.heap.objs.size + 1 := Heap.size_push ..
        have hS2 : ((s.heap.push { cls := .type "set", dict := none, data := .set #[] 0 (.fresh 0 0 led) }).push { cls := .type "list_iterator", data := .fields #[.ref l, .int 0 0] }).get? s.heap.objs.size = some (setObj [] led 0) := Heap.get?_push_of_some _ hS
        refine set_loop (led := led) (by simp [hh]) hi h3 (by rw [hsz]; exact Nat.ne_of_gt (Nat.lt_succ_self _)) (Nat.ne_of_lt hlS) (by rw [hsz]; exact Nat.ne_of_lt (Nat.lt_succ_of_lt hlS)) _ 0 _ [] 0 rfl (Nat.zero_le _) ⟨_, Heap.get?_push_size _ rfl, rfl, rfl⟩ (hl1.push _) hS2 .e (fun j => by simp) fun h' tk l' ep' q1 q2 q3 q4 => ?_
        refine wpAny_pure ?_
        show wpAny _ _ (ret Value.none) _ _ _
        refine wpAny_pure ⟨rfl, h', tk, l', ep', rfl, q1, q2, q3, fun b o hb => ?_⟩
        have hb' := Heap.lt_size hb
        exact q4 b o (Nat.ne_of_lt hb') (by rw [hsz]; exact Nat.ne_of_lt (Nat.lt_succ_of_lt hb')) (Heap.get?_push_of_some _ (Heap.get?_push_of_some _ hb))
      · cases r₂ with
        | error e => exact hr₂
        | ok fl₂ =>
          cases fl₂ with
          | ret r =>
            obtain ⟨rfl, h', tk, l', ep', rfl, q1, q2, q3, q4⟩ := hr₂
            repeat (any_goals (first | assumption | wp_step))
            exact h _ _ _ _ q1 q2 q3 q4
          | _ => exact hr₂.elim
    | _ => exact hr.elim
end
end
-- part S3
section
set_option tactic.hygienic false
theorem sl_next : Slot "set_iterator" "__next__" "set_iterator.__next__" :=
  .of (owner := "set_iterator") (n := "__next__") (by rw [typeLookup_type, builtinLookup_eq_fast]; kernel_rfl) (by decide +kernel) (by decide +kernel) (by decide +kernel)
    (by first | exact .inl (by decide +kernel) | exact .inr (by decide +kernel)) (by rw [isSubtype_type]; kernel_rfl)
theorem en_next : entryFor table "set_iterator.__next__" = some Builtin.«set_iterator.__next__» := entryFor_of_fast (by kernel_rfl)
theorem ar_next (a : Value) : argsOk "set_iterator.__next__" ⟨[a], []⟩ := by unfold argsOk; kernel_rfl
theorem en_iter : entryFor table "set.__iter__" = some Builtin.«frozenset.__iter__» :=
  entryFor_alias (id' := "frozenset.__iter__") (by kernel_rfl) rfl (by decide +kernel) (by kernel_rfl)
noncomputable def slotAt (ks : List Nat) : Nat → Nat
  | 0 => 0
  | i + 1 => ks.getD i 0 + 1
theorem below_small {l : SL} (hl : OkL l) {i : Nat} (hi : i ≤ l.length) : SetTable.below (l.map (·.1)).toArray (slotAt (l.map (·.1)) i) = i := by
  have : i = 0 ∨ i = 1 ∨ i = 2 ∨ i = 3 := by have := hl.len; omega
  rcases this with rfl | rfl | rfl | rfl <;> cases hl <;> first | (exfalso; revert hi; simp; done) | skip
  all_goals kernel_rfl
-- the order of a walk
noncomputable def ordOf (w : World) (S : Addr) (l : SL) (ep : Nat) : Array (Int × Value) := if w.params.followText "set-order" = true then pickOrder (w.params.setOrder S ep) (esOf l) else esOf l
noncomputable def setIt (w : World) (ks : List Nat) (S : Addr) (i n ep : Nat) : Obj := { cls := .type "set_iterator", data := .fields #[rawInt ((if w.params.followText "set-order" = true then 0 else slotAt ks i : Nat) : Int), rawInt (i : Int), .ref S, rawInt (n : Int), rawInt (ep : Int)] }
section
variable {prog : Program} {w : World} {A : Around} {E : Value → Shared → Prop} {s : Shared}
set_option tactic.hygienic true in
theorem set_next {S : Addr} {l : SL} {ep i : Nat} {Q : Option (Value × Nat) → Shared → Prop} (hl : OkL l) (hi : i ≤ l.length) (hS : s.heap.get? S = some (setObj l (!(w.params.followText "set-order")) ep))
    (h : Q (((ordOf w S l ep)[i]?).map fun e => (e.2, if w.params.followText "set-order" = true then 0 else slotAt (l.map (·.1)) (i + 1))) s) :
    wpAny (model prog w) A (setNext S (if w.params.followText "set-order" = true then 0 else slotAt (l.map (·.1)) i) i ep) Q E s := by
  unfold ordOf at h
  cases hb : w.params.followText "set-order" with
  | true =>
    rw [hb] at h hS
    unfold setNext
    refine wpAny_bind (wpAny_setState_of hS rfl hl.fits ?_)
    dsimp only
    unfold setsByText
    refine wpAny_bind (wpAny_bind (wpAny_askSetting (wpAny_pure ?_)))
    have hb' : (model prog w).w.params.followText "set-order" = true := hb
    rw [hb', if_pos rfl]
    simp only [bne_self_eq_false, Bool.false_eq_true, if_false]
    unfold setWalk
    refine wpAny_bind (wpAny_bind (wpAny_setState_of hS rfl hl.fits ?_))
    dsimp only
    unfold setsByText
    refine wpAny_bind (wpAny_bind (wpAny_askSetting (wpAny_pure ?_)))
    rw [hb', if_pos rfl]
    refine wpAny_bind (wpAny_askSetting (wpAny_pure (wpAny_pure ?_)))
    exact (by simpa using h : Q (Option.map (fun e => (e.2, 0)) (pickOrder (w.params.setOrder S ep) (esOf l))[i]?) s)
  | false =>
    rw [hb] at h hS
    unfold setNext
    refine wpAny_bind (wpAny_setState_of hS rfl hl.fits ?_)
    dsimp only
    unfold setsByText
    refine wpAny_bind (wpAny_bind (wpAny_askSetting (wpAny_pure ?_)))
    have hb' : (model prog w).w.params.followText "set-order" = false := hb
    rw [hb', if_neg (by decide)]
    split
    · rename_i hd
      exact absurd (show (false : Bool) = true from hd) (by decide)
    refine wpAny_bind (wpAny_pure (a := ()) ?_)
    rw [if_neg (show ¬ (false = true) by decide)]
    have eb : SetTable.below (tabOf (l.map (·.1)) (!false)).place (slotAt (l.map (·.1)) i) = i := below_small hl hi
    rw [eb]
    refine wpAny_pure ?_
    simp only [Bool.false_eq_true, if_false] at h
    have es : (esOf l)[i]? = (l[i]?).map fun p => (((p.1 : Nat) : Int), Value.int ((p.1 : Nat) : Int) p.2) := by simp [esOf]
    have ep : (tabOf (l.map (·.1)) (!false)).place[i]? = (l[i]?).map (·.1) := by simp [tabOf]
    rw [es] at h ⊢
    rw [ep]
    cases hq : l[i]? with
    | none => rw [hq] at h; simpa using h
    | some p =>
      rw [hq] at h
      have e1 : slotAt (l.map (·.1)) (i + 1) = p.1 + 1 := by simp [slotAt, List.getD, hq]
      rw [e1] at h
      simpa using h
end
end
-- part S4
section
set_option tactic.hygienic false
section
variable {prog : Program} {w : World} {A : Around} {E : Value → Shared → Prop} {s : Shared}
theorem setIt_upd {ks : List Nat} {S : Addr} {i n ep : Nat} {w : World} : Obj.mapFields (·.setIfInBounds 1 (rawInt ((i : Nat) + 1 : Int))) (Obj.mapFields (·.setIfInBounds 0 (rawInt ((if w.params.followText "set-order" = true then 0 else slotAt ks (i + 1) : Nat) : Int))) (setIt w ks S i n ep)) = setIt w ks S (i + 1) n ep := by
  rfl
theorem next_item {it S : Addr} {l : SL} {ep i : Nat} {e : Int × Value} {Q : Option Value → Shared → Prop} (hl : OkL l) (hi : i ≤ l.length) (hit : s.heap.get? it = some (setIt w (l.map (·.1)) S i l.length ep)) (hS : s.heap.get? S = some (setObj l (!(w.params.followText "set-order")) ep))
    (he : (ordOf w S l ep)[i]? = some e) (h : ∀ h', Heap.SameBut it s.heap h' → h'.get? it = some (setIt w (l.map (·.1)) S (i + 1) l.length ep) → Q (some e.2) { s with heap := h' }) : wpAny (model prog w) A (pyNext (.ref it)) Q E s := by
  have hT : s.TypeIs (.ref it) "set_iterator" := ⟨_, hit, rfl⟩
  unfold pyNext
  refine wpAny_bind (wpAny_attempt (wpAny_callSpecial?_slot (name := Str.ofString "__next__") hT sl_next (wpAny_call_entry sl_next hT en_next ?_ (ar_next _))))
  unfold Builtin.«set_iterator.__next__»
  refine wpAny_bind (wpAny_pure ?_)
  refine wpAny_bind (wpAny_bind (wpAny_load hit (wpAny_pure ?_)))
  dsimp only [rawInt]
  refine wpAny_bind (m := setEntries S) ?_
  unfold setEntries
  refine wpAny_bind (wpAny_setState_of hS rfl hl.fits (wpAny_pure ?_))
  rw [if_neg (by rw [es_size]; simp)]
  simp only [Int.toNat_natCast]
  refine wpAny_bind (set_next hl hi hS ?_)
  rw [he]
  dsimp only [Option.map]
  have hd : (setIt w (l.map (·.1)) S i l.length ep).data = .fields #[rawInt ((if w.params.followText "set-order" = true then 0 else slotAt (l.map (·.1)) i : Nat) : Int), rawInt (i : Int), .ref S, rawInt (l.length : Int), rawInt (ep : Int)] := rfl
  refine wpAny_bind (wpAny_setField hit hd (by simp) ?_)
  have h1 := Heap.get?_update_self (Obj.mapFields (·.setIfInBounds 0 (rawInt ((if w.params.followText "set-order" = true then 0 else slotAt (l.map (·.1)) (i + 1) : Nat) : Int)))) hit (Obj.isFreed_of_fields (Obj.data_mapFields hd _))
  refine wpAny_bind (wpAny_setField h1 (Obj.data_mapFields hd _) (by simp) ?_)
  have h2 := Heap.get?_update_self (Obj.mapFields (·.setIfInBounds 1 (rawInt ((i : Nat) + 1 : Int)))) h1 (Obj.isFreed_of_fields (Obj.data_mapFields (Obj.data_mapFields hd _) _))
  rw [setIt_upd] at h2
  exact wpAny_pure ⟨_, rfl, wpAny_pure (h _ ((Heap.SameBut.update ..).trans (Heap.SameBut.update ..)) h2)⟩
theorem next_end {it S : Addr} {l : SL} {ep i : Nat} {Q : Option Value → Shared → Prop} (hh : A.handled = none) (hl : OkL l) (hi : i ≤ l.length) (hit : s.heap.get? it = some (setIt w (l.map (·.1)) S i l.length ep)) (hS : s.heap.get? S = some (setObj l (!(w.params.followText "set-order")) ep))
    (he : (ordOf w S l ep)[i]? = none) (h : ∀ h', Heap.ExtBut it s.heap h' → Q none { s with heap := h' }) : wpAny (model prog w) A (pyNext (.ref it)) Q E s := by
  have hT : s.TypeIs (.ref it) "set_iterator" := ⟨_, hit, rfl⟩
  unfold pyNext
  refine wpAny_bind (wpAny_attempt (wpAny_callSpecial?_slot (name := Str.ofString "__next__") hT sl_next (wpAny_call_entry sl_next hT en_next ?_ (ar_next _))))
  unfold Builtin.«set_iterator.__next__»
  refine wpAny_bind (wpAny_pure ?_)
  refine wpAny_bind (wpAny_bind (wpAny_load hit (wpAny_pure ?_)))
  dsimp only [rawInt]
  refine wpAny_bind (m := setEntries S) ?_
  unfold setEntries
  refine wpAny_bind (wpAny_setState_of hS rfl hl.fits (wpAny_pure ?_))
  rw [if_neg (by rw [es_size]; simp)]
  simp only [Int.toNat_natCast]
  refine wpAny_bind (set_next hl hi hS ?_)
  rw [he]
  dsimp only [Option.map]
  have hd : (setIt w (l.map (·.1)) S i l.length ep).data = .fields #[rawInt ((if w.params.followText "set-order" = true then 0 else slotAt (l.map (·.1)) i : Nat) : Int), rawInt (i : Int), .ref S, rawInt (l.length : Int), rawInt (ep : Int)] := rfl
  refine wpAny_bind (wpAny_setField hit hd (by simp) ?_)
  refine wpAny_bind (m := newExc (.type "StopIteration") []) ?_
  simp only [newExc, newTuple]
  refine wpAny_bind (wpAny_newObj_type ?_ (by size_fits))
  refine wpAny_bind (m := firstArgMember _ _) (wpAny_of_eq (a := Value.none) (by first | rfl | (simp only [firstArgMember]; rfl)) ?_)
  refine wpAny_newObj_type ?_ (by size_fits)
  simp only [raiseNew]
  refine wpAny_bind (wpAny_handled ?_)
  rw [show A.in1.handled = none from hh]
  refine wpAny_bind (wpAny_pure (wpAny_throw ?_))
  refine wpAny_bind (wpAny_isInstance (T := "StopIteration") (b := true) ⟨_, Heap.get?_push_size _ rfl, rfl⟩ isSubtype_stop ?_)
  exact wpAny_pure (h _ (((Heap.SameBut.update ..).extBut.push _).push _))
end
end
-- part S5
section
set_option tactic.hygienic false
theorem pick_go {α : Type} (next : Nat → Nat) : ∀ (fuel k : Nat) (left : List α) (out : Array α), left.length = fuel → (pickOrder.go next fuel k left out).toList.Perm (out.toList ++ left)
  | 0, k, left, out, h => by
    have : left = [] := List.length_eq_zero_iff.mp h
    subst this
    unfold pickOrder.go; simp
  | fuel + 1, k, left, out, h => by
    unfold pickOrder.go
    have hlt : next k % left.length < left.length := Nat.mod_lt _ (by omega)
    rw [List.getElem?_eq_getElem hlt]
    dsimp only
    refine (pick_go next fuel (k + 1) _ _ (by rw [List.length_eraseIdx]; split <;> omega)).trans ?_
    rw [Array.toList_push, List.append_assoc]
    refine List.Perm.append_left _ ?_
    rw [List.eraseIdx_eq_take_drop_succ]
    have e1 : left = left.take (next k % left.length) ++ left[next k % left.length] :: left.drop (next k % left.length + 1) := by
      rw [← List.drop_eq_getElem_cons hlt, List.take_append_drop]
    have e2 := List.perm_middle (a := left[next k % left.length]) (l₁ := left.take (next k % left.length)) (l₂ := left.drop (next k % left.length + 1))
    rw [← e1] at e2
    exact e2.symm
theorem ord_perm (w : World) (S : Addr) (l : SL) (ep : Nat) : (ordOf w S l ep).toList.Perm (esOf l).toList := by
  unfold ordOf
  split
  · unfold pickOrder
    have := pick_go (w.params.setOrder S ep) (esOf l).size 0 (esOf l).toList #[] (by simp)
    simpa using this
  · exact List.Perm.refl _
-- the items of a walk
noncomputable def ordV (w : World) (S : Addr) (l : SL) (ep : Nat) : List Value := (ordOf w S l ep).toList.map (·.2)
theorem ord_ints (w : World) (S : Addr) (l : SL) (ep : Nat) : ∃ js : List Nat, IntsAre (ordV w S l ep) (natVs js) ∧ js.Perm (l.map (·.1)) := by
  have key : ∀ (es : List (Int × Value)), (∀ e ∈ es, ∃ p : Nat × Tok, e = (((p.1 : Nat) : Int), Value.int ((p.1 : Nat) : Int) p.2)) → IntsAre (es.map (·.2)) (natVs (es.map fun e => e.1.toNat)) := by
    intro es
    induction es with
    | nil => intro _; exact .nil
    | cons e r ih =>
      intro h
      obtain ⟨p, rfl⟩ := h _ List.mem_cons_self
      exact .cons _ _ (ih fun e he => h e (List.mem_cons_of_mem _ he))
  have hp := ord_perm w S l ep
  refine ⟨(ordOf w S l ep).toList.map fun e => e.1.toNat, ?_, ?_⟩
  · unfold ordV
    refine key _ fun e he => ?_
    have := hp.mem_iff.mp he
    simp only [esOf, List.mem_map] at this
    obtain ⟨p, _, rfl⟩ := this
    exact ⟨p, rfl⟩
  · have := hp.map (fun e : Int × Value => e.1.toNat)
    refine this.trans (List.Perm.of_eq ?_)
    simp [esOf, Function.comp_def]
section
variable {prog : Program} {w : World} {A : Around} {E : Value → Shared → Prop} {s : Shared} {R : Result → Shared → Prop}
set_option tactic.hygienic true in
theorem iter_set {S : Addr} {l : SL} {ep : Nat} {Q : Value → Shared → Prop} (hl : OkL l) (hS : s.heap.get? S = some (setObj l (!(w.params.followText "set-order")) ep))
    (h : Q (.ref s.heap.objs.size) { s with heap := s.heap.push (setIt w (l.map (·.1)) S 0 l.length ep) }) : wpAny (model prog w) A (pyIter (.ref S)) Q E s := by
  have hT : s.TypeIs (.ref S) "set" := ⟨_, hS, rfl⟩
  refine wpAny_pyIter_slot hT PySem.F.slot_set_iter (wpAny_call_entry PySem.F.slot_set_iter hT en_iter ?_ (PySem.F.args_set_iter_1 _))
  unfold Builtin.«frozenset.__iter__» Builtin.Frozenset.slot0 slotArgs
  simp only [List.isEmpty_nil, Bool.not_true, Bool.false_eq_true, ↓reduceIte, bind_assoc, List.length_nil, bne_self_eq_false]
  unfold Builtin.Frozenset.addrOf Builtin.Frozenset.sizeOf setEntries
  refine wpAny_bind (wpAny_pure ?_)
  try dsimp only
  refine wpAny_bind (wpAny_pure ?_)
  refine wpAny_bind (wpAny_bind (wpAny_bind (wpAny_setState_of hS rfl hl.fits (wpAny_pure (wpAny_pure ?_)))))
  unfold setDrawn
  refine wpAny_bind (wpAny_bind (wpAny_setState_of hS rfl hl.fits ?_))
  dsimp only
  unfold setsByText
  refine wpAny_bind (wpAny_bind (wpAny_askSetting (wpAny_pure (wpAny_pure ?_))))
  split
  · rename_i hd
    exact absurd (show (false : Bool) = true from (Bool.and_eq_true_iff.mp hd).2) (by decide)
  refine wpAny_bind (wpAny_pure ?_)
  refine wpAny_bind (wpAny_setEpoch_of hS rfl hl.fits ?_)
  refine wpAny_bind (wpAny_newObj_type (wpAny_pure ⟨_, rfl, "set_iterator", _, ⟨_, Heap.get?_push_size _ rfl, rfl⟩, sl_next.lookup, ?_⟩))
  have e : setIt w (l.map (·.1)) S 0 l.length ep = { cls := .type "set_iterator", data := .fields [rawInt 0, rawInt 0, Value.ref S, rawInt ((esOf l).size : Int), rawInt (ep : Int)].toArray } := by
    unfold setIt
    rw [es_size]
    have : (if w.params.followText "set-order" = true then 0 else slotAt (l.map (·.1)) 0) = 0 := by split <;> rfl
    rw [this]; rfl
  rw [e] at h
  exact h
end
end
-- part S6
section
set_option tactic.hygienic false
theorem en_ext : entryFor table "list.extend.loop" = some Builtin.«list.extend.loop» := entryFor_of_tree (by kernel_rfl)
theorem pl_ext : plainId "list.extend.loop" = true := by decide +kernel
section
variable {prog : Program} {w : World} {A : Around} {E : Value → Shared → Prop} {s : Shared} {R : Result → Shared → Prop}
theorem hint_set {S : Addr} {l : SL} {ep : Nat} {led : Bool} {Q : Bool → Shared → Prop} (hS : s.heap.get? S = some (setObj l led ep)) (h : Q false s) : wpAny (model prog w) A (Builtin.List.listLengthHint (.ref S)) Q E s := by
  have hT : s.TypeIs (.ref S) "set" := ⟨_, hS, rfl⟩
  unfold Builtin.List.listLengthHint
  refine wpAny_bind (wpAny_specialOf hT PySem.F.slot_set_len.lookup ?_)
  dsimp only
  rw [show splitId "set.__len__" = some ("set", "__len__") from by decide +kernel]
  dsimp only
  refine wpAny_bind (wpAny_isInstance hT sub_set_self ?_)
  simp only [Bool.not_true, Bool.false_eq_true, if_false]
  rw [if_pos (show _ = true from by kernel_rfl)]
  refine wpAny_bind (wpAny_typeOf hT ?_)
  exact wpAny_pure h
theorem ext_loop {S I D : Addr} {l : SL} {ep : Nat} {vs : List Value} (hh : A.handled = none) (hl : OkL l) (hIS : I ≠ S) (hDS : D ≠ S) (hDI : D ≠ I) (hvs : vs = ordV w S l ep) :
    ∀ (r i : Nat) (s : Shared) (m : Nat), l.length - i = r → i ≤ l.length → s.heap.get? I = some (setIt w (l.map (·.1)) S i l.length ep) → s.heap.get? S = some (setObj l (!(w.params.followText "set-order")) ep) → s.heap.get? D = some (seqObj "list" (vs.take i).toArray m) →
      (∀ h' m', h'.get? D = some (seqObj "list" vs.toArray m') → (∀ b o, b ≠ D → b ≠ I → s.heap.get? b = some o → h'.get? b = some o) → R (.ok (.ret (.ref D))) { s with heap := h' }) →
      codeAny (model prog w) A (.builtin "list.extend.loop" ⟨[.ref D, .ref I, .ref D], []⟩) R s := by
  have hol : (ordOf w S l ep).size = l.length := by
    have := (ord_perm w S l ep).length_eq
    rw [Array.length_toList, Array.length_toList, es_size] at this
    exact this
  have hvl : vs.length = l.length := by rw [hvs]; unfold ordV; simp [hol]
  intro r
  induction r with
  | zero =>
    intro i s m hr hi hit hS hD hR
    obtain rfl : i = l.length := by omega
    refine codeAny_builtin en_ext ?_
    rw [Around.under_plainId pl_ext _]
    show wpAny _ A.in1 (pyNext (.ref I) >>= _) _ _ s
    refine wpAny_bind (next_end (by simpa using hh) hl hi hit hS (by rw [Array.getElem?_eq_none]; omega) fun h' he => ?_)
    show wpAny _ A.in1 (ret (.ref D)) _ _ _
    refine wpAny_pure (hR h' m ?_ fun b o b1 b2 hb => he b o b2 hb)
    have := he D _ hDI hD
    rwa [show vs.take l.length = vs from by rw [← hvl, List.take_length]] at this
  | succ r ih =>
    intro i s m hr hi hit hS hD hR
    have hin : i < l.length := by omega
    refine codeAny_builtin en_ext ?_
    rw [Around.under_plainId pl_ext _]
    show wpAny _ A.in1 (pyNext (.ref I) >>= _) _ _ s
    have hio : i < (ordOf w S l ep).size := by omega
    refine wpAny_bind (next_item hl hi hit hS (Array.getElem?_eq_getElem hio) fun h₁ hs₁ hit₁ => ?_)
    show wpAny _ A.in1 (Builtin.List.listUpdate (.ref D) (·.push (ordOf w S l ep)[i].2) >>= _) _ _ _
    have hD₁ : h₁.get? D = some (seqObj "list" (vs.take i).toArray m) := (hs₁.2 D hDI).trans hD
    have h3 := hl.len
    refine wpAny_bind (listUpdate_at (s := { s with heap := h₁ }) hD₁ rfl ?_ (by rw [List.size_toArray, List.length_take, sizeLine_eq]; omega) (by rw [Array.size_push, List.size_toArray, List.length_take, sizeLine_eq]; omega))
    have hg := get?_update_seq hD₁ (·.push (ordOf w S l ep)[i].2)
    have hti : (vs.take i).toArray.push (ordOf w S l ep)[i].2 = (vs.take (i + 1)).toArray := by
      have hv : vs[i]? = some (ordOf w S l ep)[i].2 := by
        rw [hvs]; unfold ordV
        rw [List.getElem?_map, Array.getElem?_toList, Array.getElem?_eq_getElem hio]; rfl
      obtain ⟨hi', he⟩ := List.getElem?_eq_some_iff.mp hv
      rw [List.take_succ_eq_append_getElem hi', he]; simp
    rw [hti] at hg
    have keep : ∀ b o, b ≠ D → b ≠ I → s.heap.get? b = some o → (h₁.update D (Obj.mapSeq (·.push (ordOf w S l ep)[i].2))).get? b = some o := fun b o b1 b2 hb => (Heap.get?_update_other _ _ (Ne.symm b1)).trans ((hs₁.2 b b2).trans hb)
    refine wpAny_pure ⟨plainId_quiet pl_ext _, ih (i + 1) { s with heap := h₁.update D (Obj.mapSeq (·.push (ordOf w S l ep)[i].2)) } _ (by omega) hin ((Heap.get?_update_other _ _ hDI).trans hit₁) (keep S _ (Ne.symm hDS) (Ne.symm hIS) hS) hg fun h' m' q1 q2 => ?_⟩
    exact hR h' m' q1 fun b o b1 b2 hb => q2 b o b1 b2 (keep b o b1 b2 hb)
end
end
-- part S7
section
set_option tactic.hygienic false
section
variable {prog : Program} {w : World} {A : Around} {E : Value → Shared → Prop} {s : Shared} {R : Result → Shared → Prop}
theorem collect_set {S : Addr} {l : SL} {ep : Nat} {Q : List Value → Shared → Prop} (hh : A.handled = none) (hl : OkL l) (hS : s.heap.get? S = some (setObj l (!(w.params.followText "set-order")) ep))
    (h : ∀ h', (∀ b o, s.heap.get? b = some o → h'.get? b = some o) → Q (ordV w S l ep) { s with heap := h' }) : wpAny (model prog w) A (collect (.ref S)) Q E s := by
  have hSl := Heap.lt_size hS
  unfold collect
  refine wpAny_bind (wpAny_runValue (codeAny_builtin entry_proto_collect' ?_))
  show wpAny _ _ (do again (.builtin "list.__iadd__" ⟨[← newList [], .ref S], []⟩)) _ _ s
  refine wpAny_bind (wpAny_newList (wpAny_pure ⟨Code.quiet_builtin _ (by decide +kernel), codeAny_builtin entry_list_iadd' ?_⟩))
  show wpAny _ _ (Builtin.List.listExtendWith (.ref s.heap.objs.size) (.ref S) (.ref s.heap.objs.size)) _ _ { s with heap := s.heap.push (seqObj "list" #[] 0) }
  have hDn : s.heap.get? s.heap.objs.size = none := get?_size_none _
  have hDS : s.heap.objs.size ≠ S := Nat.ne_of_gt hSl
  have hS1 : (s.heap.push (seqObj "list" #[] 0)).get? S = some (setObj l (!(w.params.followText "set-order")) ep) := Heap.get?_push_of_some _ hS
  have hD1 : (s.heap.push (seqObj "list" #[] 0)).get? s.heap.objs.size = some (seqObj "list" #[] 0) := Heap.get?_push_size _ rfl
  have hz1 : (s.heap.push (seqObj "list" #[] 0)).objs.size = s.heap.objs.size + 1 := size_push' ..
  have kp1 : ∀ b o, s.heap.get? b = some o → (s.heap.push (seqObj "list" #[] 0)).get? b = some o := fun b o hb => Heap.get?_push_of_some _ hb
  generalize s.heap.push (seqObj "list" #[] 0) = h1 at *
  generalize s.heap.objs.size = D at *
  unfold Builtin.List.listExtendWith
  refine wpAny_bind (wpAny_typeOf (T := "set") ⟨_, hS1, rfl⟩ ?_)
  have hne : Builtin.List.listSameRef (.ref D) (.ref S) = false := by
    show (D == S) = false
    simpa using hDS
  rw [if_neg (by rw [hne]; decide)]
  refine wpAny_bind (iter_set (s := { s with heap := h1 }) hl hS1 ?_)
  have hS2 := Heap.get?_push_of_some (setIt w (l.map (·.1)) S 0 l.length ep) hS1
  have hD2 := Heap.get?_push_of_some (setIt w (l.map (·.1)) S 0 l.length ep) hD1
  have hI2 : (h1.push (setIt w (l.map (·.1)) S 0 l.length ep)).get? h1.objs.size = some (setIt w (l.map (·.1)) S 0 l.length ep) := Heap.get?_push_size _ rfl
  have kp2 : ∀ b o, s.heap.get? b = some o → (h1.push (setIt w (l.map (·.1)) S 0 l.length ep)).get? b = some o := fun b o hb => Heap.get?_push_of_some _ (kp1 b o hb)
  have hDI : D ≠ h1.objs.size := Nat.ne_of_lt (Heap.lt_size hD1)
  have hIS : h1.objs.size ≠ S := Nat.ne_of_gt (Heap.lt_size hS1)
  have hIn : s.heap.get? h1.objs.size = none := by
    cases hq : s.heap.get? h1.objs.size with
    | none => rfl
    | some o => have := kp1 _ o hq; rw [get?_size_none] at this; cases this
  show wpAny _ _ _ _ _ { s with heap := h1.push (setIt w (l.map (·.1)) S 0 l.length ep) }
  show wpAny _ _ (do let room ← holding [Value.ref h1.objs.size] (Builtin.List.listLengthHint (.ref S)); _) _ _ _
  generalize h1.push (setIt w (l.map (·.1)) S 0 l.length ep) = h2 at *
  generalize h1.objs.size = I at *
  refine wpAny_bind (wpAny_holding (hint_set (s := { s with heap := h2 }) hS2 ?_))
  rw [if_pos (show _ = true from by kernel_rfl)]
  refine wpAny_bind (wpAny_rule ?_)
  unfold Builtin.List.listTouch
  refine wpAny_bind (wpAny_bind (listUpdate_at (s := { s with heap := h2 }) hD2 rfl ?_ (by simp) (by simp)))
  have hD3 := get?_update_seq hD2 (·.push .none)
  refine listUpdate_at (s := { s with heap := h2.update D (Obj.mapSeq (·.push .none)) }) hD3 rfl ?_ (by simp [sizeLine_eq]) (by simp)
  have hD4 := get?_update_seq hD3 (·.pop)
  have kp4 : ∀ b o, b ≠ D → h2.get? b = some o → ((h2.update D (Obj.mapSeq (·.push .none))).update D (Obj.mapSeq (·.pop))).get? b = some o := fun b o hb hq => (Heap.get?_update_other _ _ (Ne.symm hb)).trans ((Heap.get?_update_other _ _ (Ne.symm hb)).trans hq)
  refine wpAny_pure ⟨plainId_quiet pl_ext _, ?_⟩
  refine ext_loop (vs := ordV w S l ep) (by simpa using hh) hl hIS hDS hDI rfl _ 0 { s with heap := (h2.update D (Obj.mapSeq (·.push .none))).update D (Obj.mapSeq (·.pop)) } _ rfl (Nat.zero_le _) (kp4 I _ (Ne.symm hDI) hI2) (kp4 S _ (Ne.symm hDS) hS2) hD4 fun h' m' q1 q2 => ?_
  refine wpAny_bind (wpAny_load q1 ?_)
  refine wpAny_pure (h h' fun b o hb => ?_)
  have b1 : b ≠ D := fun q => by rw [q, hDn] at hb; cases hb
  have b2 : b ≠ I := fun q => by rw [q, hIn] at hb; cases hb
  exact q2 b o b1 b2 (kp4 b o b1 (kp2 b o hb))
theorem sorted_set {S : Addr} {l : SL} {ep : Nat} {Q : Value → Shared → Prop} (hh : A.handled = none) (hl : OkL l) (hS : s.heap.get? S = some (setObj l (!(w.params.followText "set-order")) ep))
    (h : ∀ h' D (out : List Value) m (ns' : List Int), h'.get? D = some (lstObj out m) → s.heap.get? D = none → IntsAre out ns' → ns'.Perm (natVs (l.map (·.1))) → ns'.Pairwise (· ≤ ·) → (∀ b o, s.heap.get? b = some o → h'.get? b = some o) → Q (.ref D) { s with heap := h' }) :
    wpAny (model prog w) A (call (.builtin "sorted") [.ref S]) Q E s := by
  obtain ⟨js, hjs, hperm⟩ := ord_ints w S l ep
  have hvl : (ordV w S l ep).length < 64 := by
    have h1 := hjs.length
    have h2 := hperm.length_eq
    have h3 := hl.len
    simp [natVs] at h1 h2
    omega
  refine Calls.call_function_entry kind_sorted plain_sorted entry_sorted (args_sorted1 _) ?_
  unfold Builtin.«sorted»
  refine wpAny_bind (m := checkCount "sorted" 1 1 _) (wpAny_pure ?_)
  refine wpAny_bind (collect_set (by simpa using hh) hl hS fun h1 kp1 => ?_)
  refine wpAny_bind (wpAny_newList ?_)
  have hoL : (h1.push (seqObj "list" (ordV w S l ep).toArray 0)).get? h1.objs.size = some (seqObj "list" (ordV w S l ep).toArray 0) := Heap.get?_push_size _ rfl
  have kp2 : ∀ b o, s.heap.get? b = some o → (h1.push (seqObj "list" (ordV w S l ep).toArray 0)).get? b = some o := fun b o hb => Heap.get?_push_of_some _ (kp1 b o hb)
  have hDn : s.heap.get? h1.objs.size = none := by
    cases hq : s.heap.get? h1.objs.size with
    | none => rfl
    | some o => have := kp1 _ o hq; rw [get?_size_none] at this; cases this
  show wpAny _ _ _ _ _ { s with heap := h1.push (seqObj "list" (ordV w S l ep).toArray 0) }
  refine wpAny_bind (wpAny_holding (wpAny_call_entry slot_list_sort ⟨_, hoL, rfl⟩ entry_list_sort (list_sort_tree (s := { s with heap := h1.push (seqObj "list" (ordV w S l ep).toArray 0) }) hoL hjs hvl fun out ns' a1 a2 a3 => ⟨_, rfl, ?_⟩) (args_list_sort _)))
  obtain ⟨e, he⟩ := sortedHeap_at (h := h1.push (seqObj "list" (ordV w S l ep).toArray 0)) (a := h1.objs.size) (vs := ordV w S l ep) (out := out) hoL
  refine wpAny_pure ⟨_, rfl, h _ h1.objs.size out.toList e ns' (by simpa [seqObj, lstObj] using he) hDn a1 (a2.trans (hperm.map _)) a3 fun b o hb => ?_⟩
  have h1b := Heap.lt_size (kp1 b o hb)
  rw [sortedHeap_old (Nat.ne_of_lt h1b) (by rw [size_push']; exact Nat.lt_succ_of_lt h1b)]
  exact kp2 b o hb
end
end
-- part S8
section
set_option tactic.hygienic false
section
variable {n : Nat} {ns : Ns} {ρ : Rho} {own : Own}
theorem OkL.nodup {l : SL} (h : OkL l) : (l.map (·.1)).Nodup := by cases h <;> simp
theorem ev_sorted_set {e : PySem.Expr} {np np2 p p2 : Pos} {Q : V → Own → Prop} (hk1 : ns.lookup ("sorted" : Str) = some .globalImplicit) (hk2 : ns.lookup ("set" : Str) = some .globalImplicit)
    (h : EV n ns ρ own e fun v o => ∃ ks : List Nat, v = .lst ((natVs ks).map .int) ∧ (∀ k ∈ ks, k < 3) ∧ ∀ js : List Nat, js.Pairwise (· < ·) → (∀ j, j ∈ js ↔ j ∈ ks) → Q (.lst ((natVs js).map .int)) o) (hn : noStar e = true := by rfl) :
    EV n ns ρ own (.Call (.Name "sorted" np) [.Call (.Name "set" np2) [e] [] p2] [] p) Q :=
  .mk fun w h₀ A env s G E C R K S F => by
    refine wpAny_Call_NameR (wp_builtin (v := .builtin "sorted") rfl (by kernel_rfl) hk1 C K S ?_ (by decide) (by decide))
    refine Calls.callWith_builtin rfl ?_
    refine Calls.evalArgs_plain ?_
    refine Calls.spliced_cons ?_
    refine wpAny_Call_NameR (wp_builtin (v := .type "set") rfl (by kernel_rfl) hk2 C K S ?_ (by decide) (by decide))
    refine PySem.callWith_type (plain_args (by simpa using hn)) ?_
    rw [backTo_cons hn]
    refine Calls.evalArgs_plain ?_
    refine Calls.spliced_cons (wpAny_mono (h.go w h₀ A env s G _ C R K S F) (fun v' s₁ q_u => ?_) fun _ _ x => x)
    obtain ⟨v, o, G₁, ⟨ks, hv, h3, hq⟩, h2, e1⟩ := q_u
    subst hv
    refine Calls.spliced_nil ?_
    cases h2 with
    | @lst _ vs a m g rr =>
      have hI : IntsAre vs (natVs ks) := ints_are rr
      refine call_set_small R.handled ⟨_, (e1.sr.frozen _ _ g).1, rfl, _, rfl⟩ hI h3 fun h' tk l' ep' q1 q2 q3 q4 => ?_
      refine Calls.spliced_nil ?_
      have eJ : Ev h₀ G₁ o s₁ G₁ o { s₁ with heap := h', toks := tk } := .junk e1.sr ⟨_, _, rfl⟩ q4
      refine sorted_set (s := { s₁ with heap := h', toks := tk }) R.handled q2 q1 fun h2 D out m2 ns' k1 k2 k3 k4 k5 k6 => ?_
      have hmem : ∀ i ∈ ns', ∃ j : Nat, i = (j : Int) ∧ j ∈ l'.map (·.1) := fun i hi => by
        have := k4.mem_iff.mp hi
        simp only [natVs, List.mem_map] at this
        obtain ⟨j, hj, rfl⟩ := this
        exact ⟨j, rfl, by simpa using hj⟩
      have ej : ns' = natVs (ns'.map Int.toNat) := by
        unfold natVs
        rw [List.map_map]
        conv => lhs; rw [← List.map_id ns']
        refine List.map_congr_left fun i hi => ?_
        obtain ⟨j, rfl, _⟩ := hmem i hi
        rfl
      have hnd : ns'.Nodup := k4.nodup_iff.mpr (by
        unfold natVs
        exact List.pairwise_map.mpr (List.Pairwise.imp (fun {a b} h q => h (by omega)) q2.nodup))
      refine ⟨.lst ((natVs (ns'.map Int.toNat)).map .int), o, gput G₁ D (lstObj out m2), hq _ ?_ (fun j => ?_), .lst gput_self (are_ints (by rw [← ej]; exact k3)), (e1.trans eJ).trans (.newFrozen eJ.sr ⟨_, _, rfl⟩ k6 k2 k1)⟩
      · rw [List.pairwise_map]
        have := List.Pairwise.and k5 hnd
        refine List.Pairwise.imp_of_mem (fun {a b} ha hb hab => ?_) this
        obtain ⟨i, rfl, _⟩ := hmem a ha
        obtain ⟨j, rfl, _⟩ := hmem b hb
        simp at hab ⊢
        omega
      · rw [← q3 j]
        constructor
        · intro hj
          obtain ⟨i, hi, rfl⟩ := List.mem_map.mp hj
          obtain ⟨k, rfl, hk⟩ := hmem i hi
          simpa using hk
        · intro hj
          refine List.mem_map.mpr ⟨(j : Int), k4.mem_iff.mpr ?_, rfl⟩
          unfold natVs
          exact List.mem_map.mpr ⟨j, hj, rfl⟩
theorem ev_count {x : Str} {px apos cp : Pos} {e : PySem.Expr} {is : List Int} {Q : V → Own → Prop} (hx : ρ.lookup x = some (.lst (is.map .int))) (hk : isLC (ns.lookup x) = true) (h : EV n ns ρ own e fun v o => ∃ k, v = .int k ∧ Q (.int (is.count k : Nat)) o)
    (hp : (apos.endLine == cp.line) = true := by rfl) (hn : noStar e = true := by rfl) (hd : (x == ("__debug__" : Str)) = false := by decide) : EV n ns ρ own (.Call (.Attribute (.Name x px) "count" apos) [e] [] cp) Q :=
  .mk fun w h₀ A env s G E C R K S F => by
    refine wpAny_Call_method1_late rfl hp (by rw [backTo_cons hn]; rfl) ?_
    refine wpAny_Name (loadLC hx hk K F fun v' r => ?_) hd
    cases r with
    | @lst _ vs a m g rr =>
      have hg := (S.frozen _ _ g).1
      refine ⟨"list", "list.count", PySem.F.plainAttrs_list, PySem.F.slot_list_count, PySem.F.type_list_count, ⟨_, hg, rfl⟩, (fun b q => by cases q; exact ⟨_, hg, rfl⟩), ?_⟩
      refine Calls.callWith_builtin rfl (Calls.evalArgs_plain (Calls.spliced_cons (wpAny_mono (h.go w h₀ A env s G E C R K S F) (fun v' s₁ q_u => ?_) fun _ _ x => x)))
      obtain ⟨v, o, G₁, ⟨k, hv, hq⟩, h2, e1⟩ := q_u
      subst hv
      cases h2
      refine Calls.spliced_nil ?_
      have hg1 := (e1.sr.frozen _ _ (e1.sub _ _ g)).1
      exact count_list_ints ⟨_, hg1, rfl, _, rfl⟩ (ints_are rr) ⟨_, _, _, hq, .int, e1.trans (.tok e1.sr _)⟩
end
end
-- part D1
-- the text of law
noncomputable def lawBody : List Stmt := fbody (prg.main.body.getLast?.getD default)
noncomputable def fnames : Stmt → Ns
  | .FunctionDef _ _ _ _ _ _ sc .. => sc.names
  | _ => []
noncomputable def lawNs : Ns := fnames (prg.main.body.getLast?.getD default)
-- what law reckons
noncomputable def gvn (m : Nat) : Option (List Rat) → List Rat
  | none => List.replicate m 1
  | some w => w
noncomputable def zer (g : Rat) : Rat := if g = 0 then 0 else 1
noncomputable def seenL (gv : List Rat) (cs : List (List Rat)) : List (List Rat) := cs.map fun c => List.zipWith (fun q g => q * zer g) c gv
noncomputable def pivN (sn : List (List Rat)) (i : Nat) : List Nat := (List.range i).filter fun s => decide (lawRank (sn.take s) < lawRank (sn.take (s + 1)))
noncomputable def coAt (co : List (Option Rat)) (s : Nat) : Rat := (co[s]?.getD none).getD 0
noncomputable def totL (cs : List (List Rat)) (co : List (Option Rat)) (m : Nat) (pv : List Nat) : List Rat := pv.foldl (fun t s => List.zipWith (fun a q => a + coAt co s * q) t (rowAt cs s)) (List.replicate m 0)
noncomputable def heavyR (rest gv : List Rat) : List Rat := List.zipWith (· * ·) rest gv
noncomputable def pvs (cs : List (List Rat)) (w : Option (List Rat)) : List Nat := (fitL cs w).map (·.pv)
noncomputable def usedL (ow : List Nat) (pv : List Nat) : List Nat := pv.map fun s => ow[s]?.getD 0
noncomputable def anovaF (cs : List (List Rat)) (y : List Rat) (w : Option (List Rat)) (ow : List Nat) : List Row := anovaN (fitL cs w) (fitSteps cs y w) (natVs ow) (fitL cs w).length
structure GF (m : Nat) (cs : List (List Rat)) (y : List Rat) (w : Option (List Rat)) : Prop where
  piv : pvs cs w = pivN (seenL (gvn m w) cs) cs.length
  cn : ∀ i, i < cs.length → ∃ o, (fitCo cs y w)[i]? = some o ∧ o.isNone = decide (i ∉ pvs cs w)
  sum : List.zipWith (fun a b => a + b) (fitFit cs y w) (fitRest cs y w) = y
  pred : combN cs (fitCo cs y w) m cs.length = fitFit cs y w
  orth : ∀ c ∈ cs, dotR (heavyR (fitRest cs y w) (gvn m w)) c = 0
  tot : totL cs (fitCo cs y w) m (pvs cs w) = fitFit cs y w
  rss : normR w (fitRest cs y w) = dotR (heavyR (fitRest cs y w) (gvn m w)) (fitRest cs y w)
  df : usedN y.length w = ((gvn m w).filter fun q => q ≠ 0).length
  rows : ∀ ow : List Nat, ow.length = cs.length → ow.Pairwise (· ≤ ·) → ∀ js : List Nat, js.Pairwise (· < ·) → (∀ j, j ∈ js ↔ j ∈ usedL ow (pvs cs w)) → (anovaF cs y w ow).map (fun r => (r.te, r.co)) = js.map fun t => (((t : Nat) : Int), (((usedL ow (pvs cs w)).count t : Nat) : Int))
  sq : ∀ ow : List Nat, (anovaF cs y w ow).foldl (fun a r => a + r.sq) (dotR (heavyR (fitRest cs y w) (gvn m w)) (fitRest cs y w)) = dotR (heavyR y (gvn m w)) y
-- part WA
section
variable {n : Nat} {own : Own} {ns : Ns} {ρ : Rho} {Q : V → Own → Prop}
noncomputable abbrev good : MF → Rho → Own → Prop := retD fun v _ => v = .bool true
noncomputable abbrev oS (x d ha : Addr) (cells : List Int) (h : Hand) (cs : List (List Rat)) (y : List Rat) (w : Option (List Rat)) : Own := [(x, .inst d (fitAll cs y w)), (ha, .lst (handV cells h))]
noncomputable def Row.pr (r : Row) : V := .tup [.int r.te, .int r.co]
theorem In3.no {m : Nat} {cs : List (List Rat)} {y : List Rat} {w : Option (List Rat)} (I : In3 m cs y w) : ∀ b ∈ fitL cs w, bd 200000 b.no := fun b hb => by
  obtain ⟨i, hi, rfl⟩ := List.getElem_of_mem hb
  have := (I.L.ok i _ (List.getElem?_eq_getElem hi)).no
  have hle := I.L.le
  have b2 := Bb_mono (show i ≤ 2 by omega)
  have e : Bb 2 = 8503 := rfl
  exact this.mono (by omega)
theorem heavy_len {u g : List Rat} (h : g.length = u.length) : (heavyR u g).length = u.length := by simp [heavyR, h]
theorem heavy_bl {a b : Nat} {u g : List Rat} (hu : bl a u) (hg : bl b g) : bl (a + b) (heavyR u g) := bl_zip fun x hx y hy => bd_mul (hu x hx) (hg y hy)
theorem gv_len {m : Nat} {w : Option (List Rat)} (h : wlen m w) : (gvn m w).length = m := by
  cases w with
  | none => simp [gvn]
  | some w => exact h
theorem gv_bl {m : Nat} {w : Option (List Rat)} (h : wbl 2 w) : bl 2 (gvn m w) := by
  cases w with
  | none => intro q hq; simp [gvn] at hq; rw [hq.2]; exact ⟨by decide, by decide⟩
  | some w => exact h
theorem In3.restL {m : Nat} {cs : List (List Rat)} {y : List Rat} {w : Option (List Rat)} (I : In3 m cs y w) : (fitRest cs y w).length = m := I.S.len
theorem In3.restB {m : Nat} {cs : List (List Rat)} {y : List Rat} {w : Option (List Rat)} (I : In3 m cs y w) : bl 187099 (fitRest cs y w) := I.S.bits.mono (Bb3 I.L.le)
theorem owners_of {is is' : List Int} (hp : is'.Perm is) (h3 : ∀ i ∈ is, 0 ≤ i ∧ i < 3) : ∃ ow : List Nat, is' = natVs ow ∧ ∀ k ∈ ow, k < 3 := by
  refine ⟨is'.map Int.toNat, ?_, fun k hk => ?_⟩
  · unfold natVs
    rw [List.map_map]
    conv => lhs; rw [← List.map_id is']
    refine List.map_congr_left fun i hi => ?_
    have := h3 i (hp.mem_iff.mp hi)
    show i = ((i.toNat : Nat) : Int)
    omega
  · obtain ⟨i, hi, rfl⟩ := List.mem_map.mp hk
    have := h3 i (hp.mem_iff.mp hi)
    omega
theorem sorted_uniq {a b : List Nat} (ha : a.Pairwise (· < ·)) (hb : b.Pairwise (· < ·)) (h : ∀ j, j ∈ a ↔ j ∈ b) : a = b := by
  induction a generalizing b with
  | nil =>
    cases b with
    | nil => rfl
    | cons y r => exact absurd ((h y).mpr List.mem_cons_self) (by simp)
  | cons x l ih =>
    cases b with
    | nil => exact absurd ((h x).mp List.mem_cons_self) (by simp)
    | cons y r =>
      obtain ⟨a1, a2⟩ := List.pairwise_cons.mp ha
      obtain ⟨b1, b2⟩ := List.pairwise_cons.mp hb
      have hxy : x = y := by
        rcases List.mem_cons.mp ((h x).mp List.mem_cons_self) with e | e
        · exact e
        · rcases List.mem_cons.mp ((h y).mpr List.mem_cons_self) with f | f
          · exact f.symm
          · have := a1 _ f; have := b1 _ e; omega
      subst hxy
      congr 1
      refine ih a2 b2 fun j => ?_
      constructor
      · intro hj
        rcases List.mem_cons.mp ((h j).mp (List.mem_cons_of_mem _ hj)) with e | e
        · have := a1 _ hj; omega
        · exact e
      · intro hj
        rcases List.mem_cons.mp ((h j).mpr (List.mem_cons_of_mem _ hj)) with e | e
        · have := b1 _ hj; omega
        · exact e
theorem nat_count (us : List Nat) (t : Nat) : (natVs us).count ((t : Nat) : Int) = us.count t := by
  induction us with
  | nil => rfl
  | cons a r ih =>
    show List.count ((t : Nat) : Int) (((a : Nat) : Int) :: natVs r) = _
    rw [List.count_cons, List.count_cons, ih]
    congr 1
    by_cases e : a = t
    · subst e; simp
    · have e2 : ¬ ((a : Nat) : Int) = ((t : Nat) : Int) := by omega
      simp [e, e2]
theorem fold_sq {B c : Nat} {sq0 : Rat} (h0 : bd B sq0) : ∀ {rows : List Row}, (∀ r ∈ rows, bd c r.sq) → bd (B + rows.length * (c + 1)) (rows.foldl (fun a r => a + r.sq) sq0)
  | [], _ => by simpa using h0
  | r :: rs, h => by
    have h1 := bd_add h0 (h r List.mem_cons_self)
    have := fold_sq h1 (rows := rs) fun q hq => h q (List.mem_cons_of_mem _ hq)
    refine this.mono ?_
    rw [List.length_cons, Nat.succ_mul]; omega
set_option maxHeartbeats 2000000 in
theorem w_tail (hn : 10 ≤ n) {m : Nat} {cs : List (List Rat)} {y : List Rat} {w : Option (List Rat)} {cells : List Int} {h : Hand} {x d ha : Addr} (I : In3 m cs y w) (F : GF m cs y w) (hc : cells.length ≤ 63) (hp : h.pos ≤ cells.length) :
    EXT n lawNs [("columns", .lst (cs.map cv)), ("many", .int m), ("y", cv y), ("found", .loc x), ("given", cv (gvn m w)), ("pivots", .lst ((natVs (pvs cs w)).map .int)), ("square", fr (dotR (heavyR (fitRest cs y w) (gvn m w)) (fitRest cs y w))), ("hand", .loc ha)] (oS x d ha cells h cs y w) (lawBody.drop 24) good := by
  have m5 := I.m5
  have c3 := I.c3
  have yl := I.yl
  have gl := gv_len I.wl
  have gb := gv_bl (m := m) I.wb
  have rl := I.restL
  have rb := I.restB
  refine ext_cons (ex_assign ?_)
  refine ev_callB rfl rfl (evl_cons (ev_comp (fun i acc o => ∃ h' : Hand, ∃ is : List Int, h'.pos ≤ cells.length ∧ acc = is.map .int ∧ is.length = i ∧ (∀ k ∈ is, 0 ≤ k ∧ k < 3) ∧ o = oS x d ha cells h' cs y w) ⟨rfl, rfl, by decide⟩ ?_))
  refine ev_name rfl rfl ⟨cs.map cv, rfl, by simp; omega, ⟨h, [], hp, rfl, rfl, by simp, rfl⟩, ?_, ?_⟩
  · rintro i v acc o₁ hi ⟨h', is, hp', rfl, hl, h3, rfl⟩
    refine tests_nil ?_
    rw [if_pos rfl]
    repeat walk_at "bw"
    refine c_pick (lim := 3) (own' := oS x d ha cells (pick cells 3 h').2 cs y w) (by omega) (by decide) hp' hc (.tail .head) ?_
    refine ⟨(pick cells 3 h').2, is ++ [(pick cells 3 h').1], pick_pos hp', by simp, by simp [hl], fun k hk => ?_, rfl⟩
    rcases List.mem_append.mp hk with hk | hk
    · exact h3 k hk
    · obtain rfl := List.mem_singleton.mp hk
      exact pick_range (by decide)
  rintro acc o₁ ⟨h', is, hp', rfl, hl, h3, rfl⟩
  rw [List.length_map] at hl
  refine evl_nil ?_
  refine cb_sorted (by omega) fun is' hperm hs => ?_
  obtain ⟨ow, rfl, ho3⟩ := owners_of hperm h3
  have hol : ow.length = cs.length := by
    have := hperm.length_eq
    simp [natVs] at this
    omega
  have hos : ow.Pairwise (· ≤ ·) := by
    unfold natVs at hs
    rw [List.pairwise_map] at hs
    exact hs.imp fun h => by omega
  have ssl : (fitSteps cs y w).length = (fitL cs w).length := I.S.shl
  have ssb : ∀ s ∈ fitSteps cs y w, bd 200000 s := I.S.small I.L.le
  have pvl : ∀ b ∈ fitL cs w, b.pv < cs.length := orth_pv cs.length
  repeat walk_at "bw"
  refine c_anova (by omega) (L := fitL cs w) (ss := fitSteps cs y w) (ow := natVs ow) (.head _) rfl rfl rfl rfl I.L.le ssl ssb I.no (fun b hb => by have := pvl b hb; simp [natVs]; omega) (by simp [natVs]; omega) ?_
  repeat walk_at "bw"
  have pvm : ∀ p ∈ pvs cs w, p < cs.length := fun p hp => by
    obtain ⟨b, hb, rfl⟩ := List.mem_map.mp hp
    exact pvl b hb
  have pl3 : (pvs cs w).length ≤ 3 := by unfold pvs; rw [List.length_map]; exact I.L.le
  have ule : (usedL ow (pvs cs w)).length ≤ 3 := by unfold usedL; rw [List.length_map]; exact pl3
  have u3 : ∀ k ∈ usedL ow (pvs cs w), k < 3 := fun k hk => by
    unfold usedL at hk
    obtain ⟨p, hp, rfl⟩ := List.mem_map.mp hk
    have h1 : p < ow.length := by have := pvm p hp; omega
    rw [List.getElem?_eq_getElem h1]
    exact ho3 _ (List.getElem_mem h1)
  refine ev_comp_map ((natVs (usedL ow (pvs cs w))).map .int) ⟨rfl, rfl, by decide⟩ ?_
  refine ev_name rfl rfl (gen_lst (by simp [natVs]; omega) (by simp [natVs, usedL]) ?_ fun i v y' hv hy => ?_)
  case refine_2 =>
    obtain ⟨k, hk, rfl⟩ := lst_get hv
    unfold natVs at hk
    rw [List.getElem?_map] at hk
    cases hq : (pvs cs w)[i]? with
    | none => rw [hq] at hk; cases hk
    | some p =>
      rw [hq] at hk; cases hk
      have h1 : p < ow.length := by have := pvm p (List.mem_of_getElem? hq); omega
      have e1 : ow[p]? = some ow[p] := List.getElem?_eq_getElem h1
      have ey : y' = .int ((ow[p] : Nat) : Int) := by
        rw [List.getElem?_map] at hy
        unfold natVs usedL at hy
        rw [List.getElem?_map, List.getElem?_map, hq] at hy
        simp [e1] at hy
        exact hy.symm
      repeat walk_at "bw"
      refine sub_lstN (v := .int ((ow[p] : Nat) : Int)) ⟨ey.symm, rfl⟩ (map_get (by unfold natVs; rw [List.getElem?_map, e1]; rfl)) (by simp [natVs]; omega)
  repeat walk_at "bw"
  have al : (anovaF cs y w ow).length ≤ 3 := Nat.le_trans (anova_ok (fun s hs => ssb s hs) I.no _).2 I.L.le
  have ab : ∀ r ∈ anovaF cs y w ow, bd 2000000 r.sq := fun r hr => ((anova_ok (fun s hs => ssb s hs) I.no _).1 r hr).mono (by have := I.L.le; omega)
  have FR := F.rows ow hol hos
  have FS := F.sq ow
  have eA : anovaN (fitL cs w) (fitSteps cs y w) (natVs ow) (fitL cs w).length = anovaF cs y w ow := rfl
  rw [eA]
  generalize anovaF cs y w ow = rows at al ab FR FS
  generalize usedL ow (pvs cs w) = us at ule u3 FR
  refine ev_comp_map (rows.map Row.pr) ⟨rfl, rfl, by decide⟩ ?_
  refine ev_name rfl rfl (gen_lst (by simp; omega) (by simp) ?_ fun i v y' hv hy => ?_)
  case refine_2 =>
    obtain ⟨r, hr, rfl⟩ := lst_get hv
    obtain ⟨r', hr', rfl⟩ := lst_get hy
    rw [hr] at hr'; cases hr'
    repeat walk_at "bw"
    refine sub_row0 ?_
    repeat walk_at "bw"
    refine sub_row1 ?_
    repeat walk_at "bw"
    exact ⟨rfl, rfl⟩
  have hj0 : ((List.range 3).filter fun j => decide (j ∈ us)).Pairwise (· < ·) := List.Pairwise.filter _ (List.pairwise_lt_range)
  have hm0 : ∀ j, j ∈ ((List.range 3).filter fun j => decide (j ∈ us)) ↔ j ∈ us := fun j => by
    rw [List.mem_filter, List.mem_range]
    constructor
    · intro q; simpa using q.2
    · intro q; exact ⟨u3 j q, by simpa using q⟩
  have hl0 : ((List.range 3).filter fun j => decide (j ∈ us)).length ≤ 3 := by
    have := List.length_filter_le (fun j => decide (j ∈ us)) (List.range 3)
    simpa using this
  have FRJ := FR _ hj0 hm0
  refine ev_comp_map (((List.range 3).filter fun j => decide (j ∈ us)).map fun t => V.tup [.int ((t : Nat) : Int), .int (((us.count t : Nat)) : Int)]) ⟨rfl, rfl, by decide⟩ ?_
  refine ev_sorted_set rfl rfl (ev_name rfl rfl ⟨us, rfl, u3, fun js j1 j2 => ?_⟩)
  obtain rfl := sorted_uniq j1 hj0 fun j => (j2 j).trans (hm0 j).symm
  generalize ((List.range 3).filter fun j => decide (j ∈ us)) = js at *
  refine gen_lst (by simp [natVs]; omega) (by simp [natVs]) ?_ fun i v y' hv hy => ?_
  case refine_2 =>
    obtain ⟨t, ht, rfl⟩ := lst_get hv
    obtain ⟨t', ht', rfl⟩ := lst_get hy
    unfold natVs at ht
    rw [List.getElem?_map, ht'] at ht
    cases ht
    repeat walk_at "bw"
    refine ev_count (is := natVs us) rfl rfl (ev_name rfl rfl ⟨_, rfl, ?_⟩)
    rw [nat_count]
    repeat walk_at "bw"
    exact ⟨rfl, rfl⟩
  have er : rows.map Row.pr = js.map fun t => V.tup [.int ((t : Nat) : Int), .int (((us.count t : Nat)) : Int)] := by
    have := congrArg (List.map fun p : Int × Int => V.tup [.int p.1, .int p.2]) FRJ
    rw [List.map_map, List.map_map] at this
    exact this
  refine cmp_ne_same (by rw [er]) (map_data (k := 7) fun a => by simp [Row.pr, isData, areData]) ?_
  refine br_F (exs_nil ?_)
  have hb := heavy_bl rb gb
  have sq0 := dotR_bd5 (u := heavyR (fitRest cs y w) (gvn m w)) (v := fitRest cs y w) (by rw [heavy_len (by rw [gl, rl]), rl]; exact m5) hb rb
  generalize dotR (heavyR (fitRest cs y w) (gvn m w)) (fitRest cs y w) = s0 at sq0 FS
  refine ext_cut [("square", fr (rows.foldl (fun a r => a + r.sq) s0)), ("y", cv y), ("given", cv (gvn m w)), ("many", .int m)] (oS x d ha cells h' cs y w) ?_ ?_
  · refine ex_for_fun (rows.map rowV) (fun i => [("square", fr ((rows.take i).foldl (fun a r => a + r.sq) s0)), ("y", cv y), ("given", cv (gvn m w)), ("many", .int m)]) (fun _ => oS x d ha cells h' cs y w) rfl ?_ ?_ ?_
    · repeat walk_at "bw"
      exact ⟨rfl, ⟨rfl, rfl, rfl, rfl, trivial⟩, rfl⟩
    · intro i v hi
      obtain ⟨r, hr, rfl⟩ := lst_get hi
      have rm := List.mem_of_getElem? hr
      have e1 : rows.take (i + 1) = rows.take i ++ [r] := by
        obtain ⟨h1, rfl⟩ := List.getElem?_eq_some_iff.mp hr
        rw [List.take_succ_eq_append_getElem h1]
      have b1 := fold_sq sq0 (rows := rows.take i) fun q hq => ab q (List.mem_of_mem_take hq)
      have l1 : (rows.take i).length ≤ 3 := by rw [List.length_take]; omega
      rw [e1, List.foldl_append]
      repeat walk_at "bw"
      refine sub_row2 ?_
      repeat walk_at "bw"
      refine c_ladd (by omega) b1 (ab r rm) (by omega) ?_
      repeat walk_at "bw"
      exact ⟨rfl, ⟨rfl, rfl, rfl, rfl, trivial⟩, rfl⟩
    · intro ρ₁ hs
      rw [List.length_map, List.take_length] at hs
      exact ⟨rfl, hs, rfl⟩
  rw [FS]
  have hy := heavy_bl I.yb gb
  have hyl := heavy_len (u := y) (g := gvn m w) (by rw [gl, yl])
  repeat walk_at "bw"
  refine ev_comp_map ((heavyR y (gvn m w)).map fr) ⟨rfl, rfl, by decide⟩ ?_
  repeat walk_at "bw"
  refine gen_range (by omega) (by rw [List.length_map, hyl, yl]) ?_ fun i y' hi hy' => ?_
  case refine_2 =>
    obtain ⟨p', q', h1', h2', rfl, h3', h4'⟩ := zip_get (by rw [gl, yl]) (by omega) hy'
    repeat walk_at "bw"
    refine sub_cv ?_ h1' (by omega)
    repeat walk_at "bw"
    refine sub_cv (u := gvn m w) ?_ h2' (by omega)
    repeat walk_at "bw"
    exact c_lmul (by omega) (I.yb _ h3') (gb _ h4') (by omega) ⟨rfl, rfl⟩
  repeat walk_at "bw"
  refine c_ldot (by omega) (by rw [hyl, yl]; exact m5) (by rw [hyl]) hy I.yb (by omega) ?_
  refine cmp_eq_same rfl (fr_data _) ?_
  rfl
end
-- part WC
theorem fr_rep (m : Nat) (q : Rat) : V.lst (List.replicate m (fr q)) = cv (List.replicate m q) := by unfold cv; rw [List.map_replicate]
section
variable {n : Nat} {own : Own} {ns : Ns} {ρ : Rho} {Q : V → Own → Prop}
theorem any_ints (pv : List Nat) (i : Nat) : ((toPys ((natVs pv).map .int)).any fun y => PyData.eqv y (toPy (.int ((i : Nat) : Int)))) = decide (i ∈ pv) := by
  induction pv with
  | nil => simp [natVs, toPys]
  | cons a r ih =>
    have e : toPys ((natVs (a :: r)).map .int) = .int ((a : Nat) : Int) :: toPys ((natVs r).map .int) := by simp [natVs, toPys, toPy]
    rw [e, List.any_cons, ih]
    have e2 : PyData.eqv (.int ((a : Nat) : Int)) (toPy (.int ((i : Nat) : Int))) = decide (i = a) := by
      simp only [toPy, PyData.eqv]
      by_cases h : i = a
      · subst h; simp
      · have : ¬ ((a : Nat) : Int) = ((i : Nat) : Int) := by omega
        simp [h, this]
    rw [e2]
    simp
theorem any_false {α : Type} (l : List α) : ((toPys (l.map fun _ => V.bool false)).any fun y => PyData.eqv y (toPy (.bool true))) = false := by
  induction l with
  | nil => simp [toPys]
  | cons a r ih =>
    have e : toPys ((a :: r).map fun _ => V.bool false) = .bool false :: toPys (r.map fun _ => V.bool false) := by simp [toPys, toPy]
    rw [e, List.any_cons, ih]
    simp [toPy, PyData.eqv]
theorem In3.coL {m : Nat} {cs : List (List Rat)} {y : List Rat} {w : Option (List Rat)} (I : In3 m cs y w) : (fitCo cs y w).length = cs.length := coefN_len _
theorem In3.coB {m : Nat} {cs : List (List Rat)} {y : List Rat} {w : Option (List Rat)} (I : In3 m cs y w) : ∀ f, some f ∈ fitCo cs y w → bd 2000000 f := by
  intro f hf
  exact coefN_mem (back_bd I.L I.S.shl (I.S.small I.L.le)) _ f hf
theorem In3.fitLn {m : Nat} {cs : List (List Rat)} {y : List Rat} {w : Option (List Rat)} (I : In3 m cs y w) : (fitFit cs y w).length = m := by
  unfold fitFit; simp [I.yl, I.restL]
theorem In3.fitB {m : Nat} {cs : List (List Rat)} {y : List Rat} {w : Option (List Rat)} (I : In3 m cs y w) : bl 187116 (fitFit cs y w) :=
  (bl_zip fun x hx z hz => bd_sub (I.yb x hx) (I.restB z hz)).mono (by omega)
theorem totL_len {cs : List (List Rat)} {co : List (Option Rat)} {m : Nat} (hc : ∀ c ∈ cs, c.length = m) : ∀ (pv : List Nat) (t : List Rat), t.length = m → (∀ p ∈ pv, p < cs.length) → (pv.foldl (fun t s => List.zipWith (fun a q => a + coAt co s * q) t (rowAt cs s)) t).length = m
  | [], t, h, _ => h
  | p :: r, t, h, hp => by
    refine totL_len hc r _ ?_ fun q hq => hp q (List.mem_cons_of_mem _ hq)
    have := hc _ (rowAt_mem (hp p List.mem_cons_self))
    simp [h, this]
theorem totL_bl {cs : List (List Rat)} {co : List (Option Rat)} {cf : Nat} (hc : ∀ c ∈ cs, bl 16 c) (hf : ∀ s, bd cf (coAt co s)) : ∀ (pv : List Nat) (t : List Rat) (b : Nat), bl b t → (∀ p ∈ pv, p < cs.length) → bl (b + pv.length * (cf + 17)) (pv.foldl (fun t s => List.zipWith (fun a q => a + coAt co s * q) t (rowAt cs s)) t)
  | [], t, b, h, _ => by simpa using h
  | p :: r, t, b, h, hp => by
    have h1 : bl (b + (cf + 17)) (List.zipWith (fun a q => a + coAt co p * q) t (rowAt cs p)) :=
      (bl_zip fun x hx z hz => bd_add (h x hx) (bd_mul (hf p) (hc _ (rowAt_mem (hp p List.mem_cons_self)) z hz))).mono (by omega)
    have := totL_bl hc hf r _ _ h1 fun q hq => hp q (List.mem_cons_of_mem _ hq)
    refine this.mono ?_
    rw [List.length_cons, Nat.succ_mul]; omega
theorem coAt_bd {co : List (Option Rat)} {cf : Nat} (h1 : 1 ≤ cf) (h : ∀ f, some f ∈ co → bd cf f) (s : Nat) : bd cf (coAt co s) := by
  unfold coAt
  cases hq : co[s]? with
  | none => exact bd0.mono h1
  | some o =>
    cases o with
    | none => exact bd0.mono h1
    | some f => exact h f (List.mem_of_getElem? hq)
theorem totL_step {cs : List (List Rat)} {co : List (Option Rat)} {m i p : Nat} {pv : List Nat} (h : pv[i]? = some p) : totL cs co m (pv.take (i + 1)) = List.zipWith (fun a q => a + coAt co p * q) (totL cs co m (pv.take i)) (rowAt cs p) := by
  obtain ⟨h1, rfl⟩ := List.getElem?_eq_some_iff.mp h
  unfold totL
  rw [List.take_succ_eq_append_getElem h1, List.foldl_append]; rfl
set_option maxHeartbeats 2000000 in
theorem w_mid3 (hn : 10 ≤ n) {m : Nat} {cs : List (List Rat)} {y : List Rat} {w : Option (List Rat)} {cells : List Int} {h : Hand} {x d ha : Addr} (I : In3 m cs y w) (F : GF m cs y w) (hc : cells.length ≤ 63) (hp : h.pos ≤ cells.length) :
    EXT n lawNs [("heavy", cv (heavyR (fitRest cs y w) (gvn m w))), ("pivots", .lst ((natVs (pvs cs w)).map .int)), ("given", cv (gvn m w)), ("columns", .lst (cs.map cv)), ("many", .int m), ("y", cv y), ("found", .loc x), ("hand", .loc ha)] (oS x d ha cells h cs y w) (lawBody.drop 19) good := by
  have m5 := I.m5
  have c3 := I.c3
  have yl := I.yl
  have gl := gv_len I.wl
  have gb := gv_bl (m := m) I.wb
  have rl := I.restL
  have rb := I.restB
  have pvl : ∀ p ∈ pvs cs w, p < cs.length := fun p hp => by
    obtain ⟨b, hb, rfl⟩ := List.mem_map.mp hp
    exact orth_pv cs.length b hb
  have pl : (pvs cs w).length = (fitL cs w).length := by unfold pvs; rw [List.length_map]
  have Lle := I.L.le
  have hvl := heavy_len (u := fitRest cs y w) (g := gvn m w) (by rw [gl, rl])
  have hvb := heavy_bl rb gb
  have FT := F.tot
  refine ext_cut [("total", cv (List.replicate m 0)), ("heavy", cv (heavyR (fitRest cs y w) (gvn m w))), ("pivots", .lst ((natVs (pvs cs w)).map .int)), ("given", cv (gvn m w)), ("columns", .lst (cs.map cv)), ("many", .int m), ("y", cv y), ("found", .loc x), ("hand", .loc ha)] (oS x d ha cells h cs y w) ?_ ?_
  · refine ex_assign (ev_bin (ev_listF ?_))
    repeat walk_at "bw"
    refine bin_mul_lst (by omega) (by omega) ?_
    rw [Int.toNat_natCast]
    repeat walk_at "bw"
    exact ⟨rfl, ⟨congrArg some (fr_rep m 0), rfl, rfl, rfl, rfl, rfl, rfl, rfl, rfl, trivial⟩, rfl⟩
  refine ext_cut [("total", cv (totL cs (fitCo cs y w) m (pvs cs w))), ("heavy", cv (heavyR (fitRest cs y w) (gvn m w))), ("pivots", .lst ((natVs (pvs cs w)).map .int)), ("given", cv (gvn m w)), ("columns", .lst (cs.map cv)), ("many", .int m), ("y", cv y), ("found", .loc x), ("hand", .loc ha)] (oS x d ha cells h cs y w) ?_ ?_
  · refine ex_for_fun ((natVs (pvs cs w)).map .int) (fun i => [("total", cv (totL cs (fitCo cs y w) m ((pvs cs w).take i))), ("heavy", cv (heavyR (fitRest cs y w) (gvn m w))), ("pivots", .lst ((natVs (pvs cs w)).map .int)), ("given", cv (gvn m w)), ("columns", .lst (cs.map cv)), ("many", .int m), ("y", cv y), ("found", .loc x), ("hand", .loc ha)]) (fun _ => oS x d ha cells h cs y w) rfl ?_ ?_ ?_
    · repeat walk_at "bw"
      exact ⟨rfl, ⟨rfl, rfl, rfl, rfl, rfl, rfl, rfl, rfl, rfl, trivial⟩, rfl⟩
    · intro i v hi
      obtain ⟨p, hp', rfl⟩ : ∃ p : Nat, (pvs cs w)[i]? = some p ∧ v = .int ((p : Nat) : Int) := by
        obtain ⟨k, hk, rfl⟩ := lst_get hi
        unfold natVs at hk
        rw [List.getElem?_map] at hk
        cases hq : (pvs cs w)[i]? with
        | none => rw [hq] at hk; cases hk
        | some p => rw [hq] at hk; cases hk; exact ⟨p, rfl, rfl⟩
      have pm := List.mem_of_getElem? hp'
      have pcl := pvl p pm
      obtain ⟨o, ho, hon⟩ := F.cn p pcl
      obtain ⟨f, rfl⟩ : ∃ f, o = some f := by
        cases o with
        | none => simp [pm] at hon
        | some f => exact ⟨f, rfl⟩
      have ecf : coAt (fitCo cs y w) p = f := by unfold coAt; rw [ho]; rfl
      have fb := I.coB f (List.mem_of_getElem? ho)
      have tl : (totL cs (fitCo cs y w) m ((pvs cs w).take i)).length = m := totL_len (fun c hc => (I.c c hc).1) _ _ (by simp) fun q hq => pvl q (List.mem_of_mem_take hq)
      have z0 : bl 1 (List.replicate m (0 : Rat)) := fun q hq => by
        simp at hq; rw [hq.2]; exact bd0
      have tb : bl (1 + ((pvs cs w).take i).length * (2000000 + 17)) (totL cs (fitCo cs y w) m ((pvs cs w).take i)) := totL_bl (fun c hc => (I.c c hc).2) (coAt_bd (by decide) I.coB) _ _ _ z0 fun q hq => pvl q (List.mem_of_mem_take hq)
      have tk : ((pvs cs w).take i).length ≤ 3 := by rw [List.length_take]; omega
      have tb' : bl 6000052 (totL cs (fitCo cs y w) m ((pvs cs w).take i)) := tb.mono (by omega)
      rw [totL_step hp', ecf]
      generalize totL cs (fitCo cs y w) m ((pvs cs w).take i) = tt at tl tb'
      have hr := rowAt_get pcl
      obtain ⟨cl, cb⟩ := I.c _ (rowAt_mem pcl)
      generalize rowAt cs p = c at hr cl cb
      repeat walk_at "bw"
      refine ev_comp_map ((List.zipWith (fun a q => a + f * q) tt c).map fr) ⟨rfl, rfl, by decide⟩ ?_
      repeat walk_at "bw"
      refine gen_range (by omega) (by simp [tl, cl]) ?_ fun k y' hk hy => ?_
      case refine_2 =>
        obtain ⟨p', q', h1', h2', rfl, h3', h4'⟩ := zip_get (by rw [cl, tl]) (by omega) hy
        repeat walk_at "bw"
        refine sub_cv ?_ h1' (by omega)
        repeat walk_at "bw"
        refine ev_attr (ev_name rfl rfl ⟨x, d, _, _, rfl, .head _, rfl, ?_⟩)
        repeat walk_at "bw"
        refine sub_lstN ?_ (map_get ho) (by rw [List.length_map, I.coL]; omega)
        repeat walk_at "bw"
        refine sub_lstN ?_ (map_get hr) (by simp; omega)
        repeat walk_at "bw"
        refine sub_cv (u := c) ?_ h2' (by omega)
        repeat walk_at "bw"
        refine c_lmul (by omega) fb (cb _ h4') (by omega) ?_
        repeat walk_at "bw"
        exact c_ladd (by omega) (tb' _ h3') (bd_mul fb (cb _ h4')) (by omega) ⟨rfl, rfl⟩
      repeat walk_at "bw"
      exact ⟨rfl, ⟨rfl, rfl, rfl, rfl, rfl, rfl, rfl, rfl, rfl, trivial⟩, rfl⟩
    · intro ρ₁ hs
      have e : ((natVs (pvs cs w)).map V.int).length = (pvs cs w).length := by simp [natVs]
      rw [e, List.take_length] at hs
      exact ⟨rfl, hs, rfl⟩
  rw [FT]
  repeat walk_at "bw"
  refine ev_attr (ev_name rfl rfl ⟨x, d, _, _, rfl, .head _, rfl, ?_⟩)
  refine cmp_ne_same rfl (cv_data _) (br_F (exs_nil ?_))
  repeat walk_at "bw"
  refine ev_attr (ev_name rfl rfl ⟨x, d, _, _, rfl, .head _, rfl, ?_⟩)
  repeat walk_at "bw"
  refine c_ldot (by omega) (by rw [hvl, rl]; exact m5) (by rw [hvl]) hvb rb (by omega) ?_
  repeat walk_at "bw"
  refine c_rss (u := fitRest cs y w) (w := w) (by omega) (.head _) rfl rfl (by omega) (rb.mono (by omega)) I.wb (by rw [rl]; exact I.wl) ?_
  rw [F.rss]
  repeat walk_at "bw"
  refine cmp_ne_same rfl (fr_data _) (br_F (exs_nil ?_))
  refine ext_sub ?_ (w_tail hn I F hc hp)
  exact ⟨rfl, rfl, rfl, rfl, rfl, rfl, rfl, rfl, trivial⟩
set_option maxHeartbeats 2000000 in
theorem w_mid2 (hn : 10 ≤ n) {m : Nat} {cs : List (List Rat)} {y : List Rat} {w : Option (List Rat)} {cells : List Int} {h : Hand} {x d ha : Addr} (I : In3 m cs y w) (F : GF m cs y w) (hc : cells.length ≤ 63) (hp : h.pos ≤ cells.length) :
    EXT n lawNs [("pivots", .lst ((natVs (pvs cs w)).map .int)), ("given", cv (gvn m w)), ("columns", .lst (cs.map cv)), ("many", .int m), ("y", cv y), ("found", .loc x), ("hand", .loc ha)] (oS x d ha cells h cs y w) (lawBody.drop 15) good := by
  have m5 := I.m5
  have c3 := I.c3
  have yl := I.yl
  have gl := gv_len I.wl
  have gb := gv_bl (m := m) I.wb
  have rl := I.restL
  have rb := I.restB
  have pvl : ∀ p ∈ pvs cs w, p < cs.length := fun p hp => by
    obtain ⟨b, hb, rfl⟩ := List.mem_map.mp hp
    exact orth_pv cs.length b hb
  have pl : (pvs cs w).length = (fitL cs w).length := by unfold pvs; rw [List.length_map]
  have Lle := I.L.le
  repeat walk_at "bw"
  refine ev_comp_map ((List.range cs.length).map fun i => V.bool (decide (i ∉ pvs cs w))) ⟨rfl, rfl, by decide⟩ ?_
  repeat walk_at "bw"
  refine cb_len (l := cs.map cv) (by simp; omega) ?_
  rw [List.length_map]
  repeat walk_at "bw"
  refine gen_range (by omega) (by simp) ?_ fun i y' hi hy => ?_
  case refine_2 =>
    have ey : y' = V.bool (decide (i ∉ pvs cs w)) := by
      rw [List.getElem?_map, List.getElem?_range hi] at hy
      simpa using hy.symm
    subst ey
    obtain ⟨o, ho, hon⟩ := F.cn i hi
    repeat walk_at "bw"
    refine ev_attr (ev_name rfl rfl ⟨x, d, _, _, rfl, .head _, rfl, ?_⟩)
    repeat walk_at "bw"
    refine sub_lstN ?_ (map_get ho) (by rw [List.length_map, I.coL]; omega)
    repeat walk_at "bw"
    refine ⟨?_, rfl⟩
    have e : (optV o).isNone = o.isNone := by cases o <;> rfl
    rw [e, hon]
  refine ev_comp_map ((List.range cs.length).map fun i => V.bool (decide (i ∉ pvs cs w))) ⟨rfl, rfl, by decide⟩ ?_
  repeat walk_at "bw"
  refine cb_len (l := cs.map cv) (by simp; omega) ?_
  rw [List.length_map]
  repeat walk_at "bw"
  refine gen_range (by omega) (by simp) ?_ fun i y' hi hy => ?_
  case refine_2 =>
    have ey : y' = V.bool (decide (i ∉ pvs cs w)) := by
      rw [List.getElem?_map, List.getElem?_range hi] at hy
      simpa using hy.symm
    subst ey
    repeat walk_at "bw"
    refine cmp_notin_data rfl (map_data (k := 7) fun a => by simp [isData]) ?_
    rw [any_ints]
    exact ⟨by simp, rfl⟩
  refine cmp_ne_same rfl (map_data (k := 7) fun a => by simp [isData]) ?_
  refine br_F (exs_nil ?_)
  -- the sums
  have fl := I.fitLn
  have fb := I.fitB
  have FS := F.sum
  have FPr := F.pred
  repeat walk_at "bw"
  refine ev_comp_map ((List.zipWith (fun a b => a + b) (fitFit cs y w) (fitRest cs y w)).map fr) ⟨rfl, rfl, by decide⟩ ?_
  repeat walk_at "bw"
  refine gen_range (by omega) (by simp [fl, rl]) ?_ fun i y' hi hy => ?_
  case refine_2 =>
    obtain ⟨p', q', h1', h2', rfl, h3', h4'⟩ := zip_get (by rw [rl, fl]) (by omega) hy
    repeat walk_at "bw"
    refine ev_attr (ev_name rfl rfl ⟨x, d, _, _, rfl, .head _, rfl, ?_⟩)
    repeat walk_at "bw"
    refine sub_cv ?_ h1' (by omega)
    repeat walk_at "bw"
    refine ev_attr (ev_name rfl rfl ⟨x, d, _, _, rfl, .head _, rfl, ?_⟩)
    repeat walk_at "bw"
    refine sub_cv (u := fitRest cs y w) ?_ h2' (by omega)
    repeat walk_at "bw"
    exact c_ladd (by omega) (fb _ h3') (rb _ h4') (by omega) ⟨rfl, rfl⟩
  rw [FS]
  repeat walk_at "bw"
  refine cmp_ne_same rfl (cv_data _) (br_F ?_)
  repeat walk_at "bw"
  refine c_predicted (co := fitCo cs y w) (by omega) (.head _) rfl m5 c3 I.coL I.c I.coB ?_
  rw [FPr]
  repeat walk_at "bw"
  refine ev_attr (ev_name rfl rfl ⟨x, d, _, _, rfl, .head _, rfl, ?_⟩)
  refine cmp_ne_same rfl (cv_data _) (br_F (exs_nil ?_))
  -- heavy
  have hvl := heavy_len (u := fitRest cs y w) (g := gvn m w) (by rw [gl, rl])
  have hvb := heavy_bl rb gb
  repeat walk_at "bw"
  refine ev_comp_map ((heavyR (fitRest cs y w) (gvn m w)).map fr) ⟨rfl, rfl, by decide⟩ ?_
  repeat walk_at "bw"
  refine gen_range (by omega) (by rw [List.length_map, hvl, rl]) ?_ fun i y' hi hy => ?_
  case refine_2 =>
    obtain ⟨p', q', h1', h2', rfl, h3', h4'⟩ := zip_get (by rw [gl, rl]) (by omega) hy
    repeat walk_at "bw"
    refine ev_attr (ev_name rfl rfl ⟨x, d, _, _, rfl, .head _, rfl, ?_⟩)
    repeat walk_at "bw"
    refine sub_cv ?_ h1' (by omega)
    repeat walk_at "bw"
    refine sub_cv (u := gvn m w) ?_ h2' (by omega)
    repeat walk_at "bw"
    exact c_lmul (by omega) (rb _ h3') (gb _ h4') (by omega) ⟨rfl, rfl⟩
  have FO := F.orth
  have FR := F.rss
  generalize hhv : heavyR (fitRest cs y w) (gvn m w) = hv at hvl hvb FO FR
  repeat walk_at "bw"
  refine ev_comp_map (cs.map fun _ => V.bool false) ⟨rfl, rfl, by decide⟩ ?_
  refine ev_name rfl rfl (gen_lst (by simp; omega) (by simp) ?_ fun i v y' hv' hy => ?_)
  case refine_2 =>
    obtain ⟨c, hc', rfl⟩ := lst_get hv'
    obtain ⟨_, _, rfl⟩ := lst_get hy
    have cm := List.mem_of_getElem? hc'
    obtain ⟨cl, cb⟩ := I.c c cm
    repeat walk_at "bw"
    refine c_ldot (by omega) (by omega) (by omega) hvb cb (by omega) ?_
    rw [FO c cm]
    repeat walk_at "bw"
    exact ⟨rfl, rfl⟩
  refine cmp_in_data rfl (map_data (k := 7) fun a => by simp [isData]) ?_
  rw [any_false]
  refine br_F (exs_nil ?_)
  rw [← hhv]
  refine ext_sub ?_ (w_mid3 hn I F hc hp)
  exact ⟨rfl, rfl, rfl, rfl, rfl, rfl, rfl, rfl, trivial⟩
end
-- part WB
section
variable {n : Nat} {own : Own} {ns : Ns} {ρ : Rho} {Q : V → Own → Prop}
theorem upto_nat {α : Type} {f : α → V} {l : List α} {k : Nat} : upto (l.map f) (k : Int) = (l.take k).map f := by
  unfold upto
  rw [if_neg (by omega), List.map_take]; rfl
theorem zer_bd (g : Rat) : bd 1 (zer g) := by
  unfold zer; split <;> exact ⟨by decide, by decide⟩
theorem seen_ok {m : Nat} {cs : List (List Rat)} {gv : List Rat} (hc : ∀ c ∈ cs, c.length = m ∧ bl 16 c) (hg : gv.length = m) : ∀ c ∈ seenL gv cs, c.length = m ∧ bl 17 c := by
  intro c hc'
  obtain ⟨c0, h0, rfl⟩ := List.mem_map.mp hc'
  obtain ⟨h1, h2⟩ := hc c0 h0
  exact ⟨by simp [h1, hg], bl_zip fun x hx y hy => bd_mul (h2 x hx) (zer_bd y)⟩
theorem seen_len {cs : List (List Rat)} {gv : List Rat} : (seenL gv cs).length = cs.length := by simp [seenL]
theorem piv_succ {sn : List (List Rat)} {i : Nat} : pivN sn (i + 1) = pivN sn i ++ if lawRank (sn.take (i + 1)) > lawRank (sn.take i) then [i] else [] := by
  unfold pivN
  rw [List.range_succ, List.filter_append]
  congr 1
  by_cases h : lawRank (sn.take i) < lawRank (sn.take (i + 1))
  · rw [if_pos h]; simp [h]
  · rw [if_neg h]; simp [h]
set_option maxHeartbeats 2000000 in
theorem w_mid (hn : 10 ≤ n) {m : Nat} {cs : List (List Rat)} {y : List Rat} {w : Option (List Rat)} {cells : List Int} {h : Hand} {x d ha : Addr} (I : In3 m cs y w) (F : GF m cs y w) (hc : cells.length ≤ 63) (hp : h.pos ≤ cells.length) :
    EXT n lawNs [("columns", .lst (cs.map cv)), ("many", .int m), ("y", cv y), ("weights", wv w), ("found", .loc x), ("hand", .loc ha)] (oS x d ha cells h cs y w) (lawBody.drop 11) good := by
  have m5 := I.m5
  have c3 := I.c3
  have yl := I.yl
  have gl := gv_len I.wl
  have gb := gv_bl (m := m) I.wb
  have rl := I.restL
  have rb := I.restB
  refine ext_cut [("given", cv (gvn m w)), ("columns", .lst (cs.map cv)), ("many", .int m), ("y", cv y), ("found", .loc x), ("hand", .loc ha)] (oS x d ha cells h cs y w) ?_ ?_
  · repeat walk_at "bw"
    cases w with
    | none =>
      refine br_T ?_
      refine ev_bin (ev_listF ?_)
      repeat walk_at "bw"
      refine bin_mul_lst (by omega) (by omega) ?_
      rw [Int.toNat_natCast]
      repeat walk_at "bw"
      exact ⟨rfl, ⟨congrArg some (fr_rep m 1), rfl, rfl, rfl, rfl, rfl, trivial⟩, rfl⟩
    | some w =>
      refine br_F ?_
      repeat walk_at "bw"
      exact ⟨rfl, ⟨rfl, rfl, rfl, rfl, rfl, rfl, trivial⟩, rfl⟩
  generalize hgv : gvn m w = gv at gl gb
  repeat walk_at "bw"
  refine ev_comp_map ((seenL gv cs).map cv) ⟨rfl, rfl, by decide⟩ ?_
  refine ev_name rfl rfl (gen_lst (by simp; omega) (by simp [seenL]) ?_ fun i v y' hv hy => ?_)
  case refine_2 =>
    obtain ⟨c, hc', rfl⟩ := lst_get hv
    obtain ⟨c', hc2, rfl⟩ := lst_get hy
    unfold seenL at hc2
    rw [List.getElem?_map, hc'] at hc2
    cases hc2
    obtain ⟨cl, cb⟩ := I.c c (List.mem_of_getElem? hc')
    refine ev_comp_map ((List.zipWith (fun q g => q * zer g) c gv).map fr) ⟨rfl, rfl, by decide⟩ ?_
    repeat walk_at "bw"
    refine gen_range (by omega) (by simp [cl, gl]) ⟨rfl, rfl⟩ fun k z hk hz => ?_
    obtain ⟨p', q', h1', h2', rfl, h3', h4'⟩ := zip_get (by rw [gl, cl]) (by omega) hz
    repeat walk_at "bw"
    refine sub_cv ?_ h1' (by omega)
    repeat walk_at "bw"
    refine sub_cv (u := gv) ?_ h2' (by omega)
    repeat walk_at "bw"
    by_cases hq : q' = 0
    · refine br_t (by rw [hq]; rfl) ?_
      repeat walk_at "bw"
      have e : V.tup [.int 0, .int 1] = fr (zer q') := by unfold zer; rw [if_pos hq]; rfl
      rw [e]
      exact c_lmul (by omega) (cb _ h3') (zer_bd q') (by omega) ⟨rfl, rfl⟩
    · refine br_f (by simpa using num0 hq) ?_
      repeat walk_at "bw"
      have e : V.tup [.int 1, .int 1] = fr (zer q') := by unfold zer; rw [if_neg hq]; rfl
      rw [e]
      exact c_lmul (by omega) (cb _ h3') (zer_bd q') (by omega) ⟨rfl, rfl⟩
  have so := seen_ok I.c gl
  have sl := seen_len (cs := cs) (gv := gv)
  have FP := F.piv
  rw [hgv] at FP
  generalize hsn : seenL gv cs = sn at so sl FP
  repeat walk_at "bw"
  refine ev_comp (fun i acc o => acc = (natVs (pivN sn i)).map .int ∧ o = oS x d ha cells h cs y w) ⟨rfl, rfl, by decide⟩ ?_
  repeat walk_at "bw"
  refine cb_len (l := sn.map cv) (by simp; omega) ?_
  rw [List.length_map]
  repeat walk_at "bw"
  refine ⟨rangeVs 0 1 sn.length, items_range (by omega), by rw [rangeVs_length]; omega, ⟨rfl, rfl⟩, ?_, ?_⟩
  · rintro i v acc o₁ hi ⟨rfl, rfl⟩
    obtain ⟨h1, rfl⟩ := rangeVs0_get hi
    refine tests_one ?_
    rw [piv_succ]
    refine eb_cmp (ev_call rfl (fun w => rfl) (fun w => rfl) (evl_cons (ev_slice (ev_name rfl rfl ?_))))
    repeat walk_at "bw"
    refine ⟨sn.map cv, ((i + 1 : Nat) : Int), rfl, rfl, szL (by simp; omega), ?_⟩
    rw [upto_nat]
    repeat walk_at "bw"
    refine c_rank (m := m) (by omega) m5 (by simp; omega) (fun c hc => so c (List.mem_of_mem_take hc)) ?_
    refine ev_call rfl (fun w => rfl) (fun w => rfl) (evl_cons (ev_slice (ev_name rfl rfl ?_)))
    repeat walk_at "bw"
    refine ⟨sn.map cv, ((i : Nat) : Int), rfl, rfl, szL (by simp; omega), ?_⟩
    rw [upto_nat]
    repeat walk_at "bw"
    refine c_rank (m := m) (by omega) m5 (by simp; omega) (fun c hc => so c (List.mem_of_mem_take hc)) ?_
    repeat walk_at "bw"
    by_cases hr : lawRank (sn.take (i + 1)) > lawRank (sn.take i)
    · rw [if_pos hr, if_pos (by simp; omega)]
      repeat walk_at "bw"
      exact ⟨by simp [natVs], rfl⟩
    · rw [if_neg hr, if_neg (by simp; omega)]
      exact ⟨by simp, rfl⟩
  rintro acc o₁ ⟨rfl, rfl⟩
  rw [rangeVs_length, sl, ← FP]
  have pvl : ∀ p ∈ pvs cs w, p < cs.length := fun p hp => by
    obtain ⟨b, hb, rfl⟩ := List.mem_map.mp hp
    exact orth_pv cs.length b hb
  have pl : (pvs cs w).length = (fitL cs w).length := by unfold pvs; rw [List.length_map]
  have Lle := I.L.le
  repeat walk_at "bw"
  refine eb_or3 ?_
  repeat walk_at "bw"
  refine ev_attr (ev_name rfl rfl ⟨x, d, _, _, rfl, .head _, rfl, ?_⟩)
  repeat walk_at "bw"
  refine cb_list_frozen (szL (by simp; omega)) ?_
  repeat walk_at "bw"
  refine cmp_ne_same (by unfold pvs natVs pivV; rw [List.map_map, List.map_map]; rfl) (map_data (k := 7) fun a => by simp [isData]) ?_
  refine br_F ?_
  repeat walk_at "bw"
  refine ev_attr (ev_name rfl rfl ⟨x, d, _, _, rfl, .head _, rfl, ?_⟩)
  repeat walk_at "bw"
  refine cb_len (by simp [natVs]; omega) ?_
  repeat walk_at "bw"
  refine br_f (by simp [natVs, pl]) ?_
  repeat walk_at "bw"
  refine ev_attr (ev_name rfl rfl ⟨x, d, _, _, rfl, .head _, rfl, ?_⟩)
  repeat walk_at "bw"
  refine ev_comp (fun i acc o => acc = ((gv.take i).filter fun q => q ≠ 0).map fr ∧ o = oS x d ha cells h cs y w) ⟨rfl, rfl, by decide⟩ ?_
  refine ev_name rfl rfl ⟨gv.map fr, rfl, by simp; omega, ⟨rfl, rfl⟩, ?_, ?_⟩
  · rintro i v acc o₁ hi ⟨rfl, rfl⟩
    obtain ⟨q, hq, rfl⟩ := lst_get hi
    have et : gv.take (i + 1) = gv.take i ++ [q] := by
      obtain ⟨h5, h6⟩ := List.getElem?_eq_some_iff.mp hq
      rw [List.take_succ_eq_append_getElem h5, h6]
    refine tests_one ?_
    repeat walk_at "bw"
    rw [bool_ne, et, List.filter_append, List.map_append]
    by_cases hz : q = 0
    · simp [hz]
    · rw [if_pos (by simp [hz])]
      repeat walk_at "bw"
      simp [hz]
  rintro acc o₁ ⟨rfl, rfl⟩
  rw [List.length_map, List.take_length]
  have fl : (gv.filter fun q => decide (q ≠ 0)).length ≤ 5 := by
    have := List.length_filter_le (fun q => decide (q ≠ 0)) gv
    omega
  refine evl_nil ?_
  refine cb_len (l := (gv.filter fun q => decide (q ≠ 0)).map fr) (by rw [List.length_map]; omega) ?_
  repeat walk_at "bw"
  refine cb_len (by simp [natVs]; omega) ?_
  repeat walk_at "bw"
  have FD := F.df
  rw [hgv] at FD
  refine br_f (by simp [natVs, pl, FD]) (exs_nil ?_)
  rw [← hgv]
  refine ext_sub ?_ (w_mid2 hn I F hc hp)
  exact ⟨rfl, rfl, rfl, rfl, rfl, rfl, rfl, trivial⟩
end
-- part WD
section
variable {n : Nat} {own : Own} {ns : Ns} {ρ : Rho} {Q : V → Own → Prop}
noncomputable abbrev oH (ha : Addr) (cells : List Int) (h : Hand) : Own := [(ha, .lst (handV cells h))]
theorem w_fit (hn : 10 ≤ n) {m : Nat} {cs : List (List Rat)} {y : List Rat} {w : Option (List Rat)} {cells : List Int} {h : Hand} {ha : Addr} (I : In3 m cs y w) (F : GF m cs y w) (hc : cells.length ≤ 63) (hp : h.pos ≤ cells.length) :
    EXT n lawNs [("columns", .lst (cs.map cv)), ("many", .int m), ("y", cv y), ("weights", wv w), ("hand", .loc ha)] (oH ha cells h) (lawBody.drop 10) good := by
  repeat walk_at "bw"
  refine c_fit (by omega) I fun x d => ?_
  refine asg_name rfl ?_
  refine ext_sub ?_ (w_mid hn I F hc hp)
  exact ⟨rfl, rfl, rfl, rfl, rfl, rfl, trivial⟩
theorem upto_last {y : List Rat} : upto (y.map fr) (-1) = (y.take (y.length - 1)).map fr := by
  unfold upto
  rw [if_pos (by decide), List.map_take, List.length_map]
  congr 1
  omega
set_option maxHeartbeats 2000000 in
theorem w_bad (hn : 11 ≤ n) {m : Nat} (hm : 0 < m) {cs : List (List Rat)} {y : List Rat} {w : Option (List Rat)} {cells : List Int} {h : Hand} {ha : Addr} (I : In3 m cs y w) (F : GF m cs y w) (hc : cells.length ≤ 63) (hp : h.pos ≤ cells.length) :
    EXT n lawNs [("columns", .lst (cs.map cv)), ("many", .int m), ("y", cv y), ("weights", wv w), ("hand", .loc ha)] (oH ha cells h) (lawBody.drop 8) good := by
  have m5 := I.m5
  have c3 := I.c3
  have yl := I.yl
  repeat walk_at "bw"
  refine c_pick (lim := 16) (own' := oH ha cells (pick cells 16 h).2) (by omega) (by decide) hp hc .head ?_
  obtain ⟨b0, b1⟩ := pick_range (cells := cells) (h := h) (lim := 16) (by decide)
  have hp' := pick_pos (lim := 16) (h := h) hp
  generalize pick cells 16 h = ph at b0 b1 hp'
  obtain ⟨b, h'⟩ := ph
  refine asg_name rfl ?_
  refine ext_if (eb_cmp ?_)
  repeat walk_at "bw"
  by_cases hb : b > 12
  · refine br_t (by simpa using hb) ?_
    have hb3 : b = 13 ∨ b = 14 ∨ b = 15 := by simp at b1; omega
    rcases hb3 with rfl | rfl | rfl
    · refine ext_cut [("words", .str msg13), ("bad", .int 13), ("columns", .lst (cs.map cv)), ("many", .int m), ("y", cv y), ("weights", wv w), ("hand", .loc ha)] (oH ha cells h') ?_ ?_
      · refine ex_assign (ev_sub (ev_listF ?_))
        repeat walk_at "bw"
        refine sub_lstN (k := 0) ?_ rfl (by decide)
        repeat walk_at "bw"
        exact ⟨rfl, ⟨rfl, rfl, rfl, rfl, rfl, rfl, rfl, trivial⟩, rfl⟩
      refine ext_try (ρk := [("words", .str msg13)]) (msg := msg13) rfl rfl rfl rfl ?_ fun own' => ?_
      · refine exsr_here (exr_if ?_)
        repeat walk_at "bw"
        refine br_T (exsr_here (exr_call rfl (fun w => rfl) (fun w => rfl) ?_ ⟨rfl, trivial⟩))
        refine evl_cons (ev_name rfl rfl (evl_cons (ev_bin (ev_slice (ev_name rfl rfl (ev_neg (ev_int ⟨1, rfl, y.map fr, -1, rfl, rfl, szL (by simp; omega), ?_⟩)))))))
        rw [upto_last]
        refine ev_listF ?_
        repeat walk_at "bw"
        refine bin_add_lst (by rw [sizeLine_eq]; simp; omega) ?_
        repeat walk_at "bw"
        exact x_fit13 (by omega) (by simp; omega) fun c hc => by rw [(I.c c hc).1, List.length_take]; omega
      · show V.bool (msg13 == msg13) = .bool true
        rw [beq_self_eq_true]
    · refine ext_cut [("words", .str msg14), ("bad", .int 14), ("columns", .lst (cs.map cv)), ("many", .int m), ("y", cv y), ("weights", wv w), ("hand", .loc ha)] (oH ha cells h') ?_ ?_
      · refine ex_assign (ev_sub (ev_listF ?_))
        repeat walk_at "bw"
        refine sub_lstN (k := 1) ?_ rfl (by decide)
        repeat walk_at "bw"
        exact ⟨rfl, ⟨rfl, rfl, rfl, rfl, rfl, rfl, rfl, trivial⟩, rfl⟩
      refine ext_try (ρk := [("words", .str msg14)]) (msg := msg14) rfl rfl rfl rfl ?_ fun own' => ?_
      · refine exsr_here (exr_if ?_)
        repeat walk_at "bw"
        refine br_F (exsr_here (exr_if ?_))
        repeat walk_at "bw"
        refine br_T (exsr_here (exr_call rfl (fun w => rfl) (fun w => rfl) ?_ ⟨rfl, trivial⟩))
        refine evl_cons (ev_bin (ev_name rfl rfl (ev_listF ?_)))
        repeat walk_at "bw"
        refine bin_add_lst (by rw [sizeLine_eq]; simp; omega) ?_
        have e : V.lst (y.map fr ++ y.map fr) = cv (y ++ y) := by unfold cv; rw [List.map_append]
        rw [e]
        repeat walk_at "bw"
        refine bin_add_lst (by rw [sizeLine_eq]; simp; omega) ?_
        repeat walk_at "bw"
        exact x_fit14 (by omega) (by omega) (by omega) fun c hc => by rw [(I.c c hc).1, yl]
      · show V.bool (msg14 == msg14) = .bool true
        rw [beq_self_eq_true]
    · refine ext_cut [("words", .str msg15), ("bad", .int 15), ("columns", .lst (cs.map cv)), ("many", .int m), ("y", cv y), ("weights", wv w), ("hand", .loc ha)] (oH ha cells h') ?_ ?_
      · refine ex_assign (ev_sub (ev_listF ?_))
        repeat walk_at "bw"
        refine sub_lstN (k := 2) ?_ rfl (by decide)
        repeat walk_at "bw"
        exact ⟨rfl, ⟨rfl, rfl, rfl, rfl, rfl, rfl, rfl, trivial⟩, rfl⟩
      refine ext_try (ρk := [("words", .str msg15)]) (msg := msg15) rfl rfl rfl rfl ?_ fun own' => ?_
      · refine exsr_here (exr_if ?_)
        repeat walk_at "bw"
        refine br_F (exsr_here (exr_if ?_))
        repeat walk_at "bw"
        refine br_F (exsr_here (exr_call rfl (fun w => rfl) (fun w => rfl) ?_ ⟨rfl, trivial⟩))
        repeat walk_at "bw"
        refine ev_listF ?_
        repeat walk_at "bw"
        refine ev_neg ?_
        repeat walk_at "bw"
        refine ⟨_, rfl, ?_⟩
        repeat walk_at "bw"
        refine bin_mul_lst (by omega) (by omega) ?_
        rw [Int.toNat_natCast]
        repeat walk_at "bw"
        have e : V.lst (List.replicate m (.tup [.int (-1), .int 1])) = cv (List.replicate y.length (-1)) := by
          unfold cv; rw [List.map_replicate, yl]; rfl
        rw [e]
        exact x_fit15 (by omega) (by omega) (by omega) fun c hc => by rw [(I.c c hc).1, yl]
      · show V.bool (msg15 == msg15) = .bool true
        rw [beq_self_eq_true]
  · refine br_f (by simpa using hb) (ext_of (exs_nil ?_))
    refine ext_sub ?_ (w_fit (by omega) I F hc hp')
    exact ⟨rfl, rfl, rfl, rfl, rfl, trivial⟩
end
-- part WE
section
open Builtin.Int (intBits)
section
variable {n : Nat} {own : Own} {ns : Ns} {ρ : Rho} {Q : V → Own → Prop}
-- what the walk leans on
noncomputable def AllG : Prop := ∀ (m : Nat) (cs : List (List Rat)) (y : List Rat) (w : Option (List Rat)), In3 m cs y w → GF m cs y w
noncomputable def wTab : List Rat := [1, 2, 0, ⟨1, 3, by decide, by decide⟩]
theorem wTab_ok : ∀ q ∈ wTab, bd 2 q ∧ 0 ≤ q.num := by
  intro q hq
  simp only [wTab, List.mem_cons, List.not_mem_nil, or_false] at hq
  rcases hq with rfl | rfl | rfl | rfl <;> exact ⟨⟨by decide, by decide⟩, by decide⟩
set_option maxHeartbeats 2000000 in
theorem w_weights (AG : AllG) (hn : 11 ≤ n) {m : Nat} (hm : 0 < m) (m5 : m ≤ 5) {cs : List (List Rat)} {y : List Rat} {cells : List Int} {h : Hand} {ha : Addr} (c3 : cs.length ≤ 3) (cok : ∀ c ∈ cs, c.length = m ∧ bl 16 c) (yl : y.length = m) (yb : bl 16 y) (hc : cells.length ≤ 63) (hp : h.pos ≤ cells.length) :
    EXT n lawNs [("y", cv y), ("columns", .lst (cs.map cv)), ("many", .int m), ("hand", .loc ha)] (oH ha cells h) (lawBody.drop 6) good := by
  repeat walk_at "bw"
  refine c_pick (lim := 3) (own' := oH ha cells (pick cells 3 h).2) (by omega) (by decide) hp hc .head ?_
  have hp' := pick_pos (lim := 3) (h := h) hp
  generalize pick cells 3 h = ph at hp'
  obtain ⟨b, h'⟩ := ph
  repeat walk_at "bw"
  by_cases hb : b = 2
  · refine br_t (by simpa using hb) ?_
    refine exs_cons (ex_assign_comp (fun i acc o => ∃ h' : Hand, ∃ u : List Rat, h'.pos ≤ cells.length ∧ acc = u.map fr ∧ u.length = i ∧ (∀ q ∈ u, bd 2 q ∧ 0 ≤ q.num) ∧ o = oH ha cells h') ⟨rfl, rfl, by decide⟩ rfl ?_)
    repeat walk_at "bw"
    refine ⟨rangeVs 0 1 m, items_range (by omega), by rw [rangeVs_length]; omega, ⟨h', [], hp', rfl, rfl, by simp, rfl⟩, ?_, ?_⟩
    · rintro i v acc o₁ hi ⟨h2, u, hp2, rfl, hl, hu, rfl⟩
      refine tests_nil ?_
      rw [if_pos rfl]
      refine ev_sub (ev_listF ?_)
      repeat walk_at "bw"
      refine c_pick (lim := 4) (own' := oH ha cells (pick cells 4 h2).2) (by omega) (by decide) hp2 hc .head ?_
      obtain ⟨r1, r2⟩ := pick_range (cells := cells) (h := h2) (lim := 4) (by decide)
      have hp3 := pick_pos (lim := 4) (h := h2) hp2
      generalize pick cells 4 h2 = ph at r1 r2 hp3
      obtain ⟨b4, h3⟩ := ph
      have hlt : b4.toNat < wTab.length := by show _ < 4; simp at r2; omega
      have en : b4 = ((b4.toNat : Nat) : Int) := by simp at r1; omega
      show SUB _ _ (.int b4) _ _
      rw [en]
      refine sub_lstN (l := wTab.map fr) ?_ (map_get (List.getElem?_eq_getElem hlt)) (by decide)
      refine ⟨h3, u ++ [wTab[b4.toNat]], hp3, by simp, by simp [hl], fun q hq => ?_, rfl⟩
      rcases List.mem_append.mp hq with hq | hq
      · exact hu q hq
      · obtain rfl := List.mem_singleton.mp hq
        exact wTab_ok _ (List.getElem_mem hlt)
    rintro acc o₁ ⟨h2, u, hp2, rfl, hl, hu, rfl⟩
    rw [rangeVs_length] at hl
    refine exs_nil ?_
    have I : In3 m cs y (some u) := ⟨m5, c3, cok, yl, yb, fun q hq => (hu q hq).1, hl, fun v hv q hq => by cases hv; exact (hu q hq).2⟩
    refine ext_sub ?_ (w_bad (w := some u) hn hm I (AG _ _ _ _ I) hc hp2)
    exact ⟨rfl, rfl, rfl, rfl, rfl, trivial⟩
  · refine br_f (by simpa using hb) (exs_nil ?_)
    have I : In3 m cs y none := ⟨m5, c3, cok, yl, yb, trivial, trivial, fun v hv => by cases hv⟩
    refine ext_sub ?_ (w_bad (w := none) hn hm I (AG _ _ _ _ I) hc hp')
    exact ⟨rfl, rfl, rfl, rfl, rfl, trivial⟩
set_option maxHeartbeats 2000000 in
theorem w_y (AG : AllG) (hn : 11 ≤ n) {m : Nat} (hm : 0 < m) (m5 : m ≤ 5) {cs : List (List Rat)} {cells : List Int} {h : Hand} {ha : Addr} (c3 : cs.length ≤ 3) (cok : ∀ c ∈ cs, c.length = m ∧ bl 16 c) (hc : cells.length ≤ 63) (hp : h.pos ≤ cells.length) :
    EXT n lawNs [("columns", .lst (cs.map cv)), ("many", .int m), ("hand", .loc ha)] (oH ha cells h) (lawBody.drop 5) good := by
  refine ext_cons (ex_assign_comp (fun i acc o => ∃ h' : Hand, ∃ u : List Rat, h'.pos ≤ cells.length ∧ acc = u.map fr ∧ u.length = i ∧ bl 3 u ∧ o = oH ha cells h') ⟨rfl, rfl, by decide⟩ rfl ?_)
  repeat walk_at "bw"
  refine ⟨rangeVs 0 1 m, items_range (by omega), by rw [rangeVs_length]; omega, ⟨h, [], hp, rfl, rfl, by intro q hq; simp at hq, rfl⟩, ?_, ?_⟩
  · rintro i v acc o₁ hi ⟨h2, u, hp2, rfl, hl, hu, rfl⟩
    refine tests_nil ?_
    rw [if_pos rfl]
    repeat walk_at "bw"
    refine c_value (own' := oH ha cells (valueQ cells h2).2) (by omega) hp2 hc .head ?_
    refine ⟨(valueQ cells h2).2, u ++ [(valueQ cells h2).1], pick_pos hp2, by simp, by simp [hl], fun q hq => ?_, rfl⟩
    rcases List.mem_append.mp hq with hq | hq
    · exact hu q hq
    · obtain rfl := List.mem_singleton.mp hq
      exact valueQ_bd
  rintro acc o₁ ⟨h2, u, hp2, rfl, hl, hu, rfl⟩
  rw [rangeVs_length] at hl
  refine ext_sub ?_ (w_weights AG hn hm m5 c3 cok hl (hu.mono (by decide)) hc hp2)
  exact ⟨rfl, rfl, rfl, rfl, trivial⟩
end
end
-- part WF
section
open Builtin.Int (intBits)
section
variable {n : Nat} {own : Own} {ns : Ns} {ρ : Rho} {Q : V → Own → Prop}
noncomputable def forB : List Stmt → List Stmt
  | .For _ _ b _ _ :: _ => b
  | _ => []
noncomputable def loopBody : List Stmt := forB (lawBody.drop 4)
noncomputable abbrev oC (ca ha : Addr) (cells : List Int) (h : Hand) (cs : List (List Rat)) : Own := [(ca, .lst (cs.map cv)), (ha, .lst (handV cells h))]
noncomputable def ColsOk (m : Nat) (cs : List (List Rat)) : Prop := ∀ j c, cs[j]? = some c → c.length = m ∧ bl (3 + 6 * j) c
noncomputable abbrev LI (m : Nat) (ca ha : Addr) (cells : List Int) (i : Nat) (ρ : Rho) (o : Own) : Prop := ∃ (h : Hand) (cs : List (List Rat)), h.pos ≤ cells.length ∧ cs.length = i ∧ ColsOk m cs ∧ Sub [("columns", .loc ca), ("hand", .loc ha), ("many", .int m)] ρ ∧ o = oC ca ha cells h cs
theorem ColsOk.snoc {m : Nat} {cs : List (List Rat)} {c : List Rat} (h : ColsOk m cs) (hl : c.length = m) (hb : bl (3 + 6 * cs.length) c) : ColsOk m (cs ++ [c]) := by
  intro j c' hj
  rw [List.getElem?_append] at hj
  split at hj
  · exact h j c' hj
  · rename_i hn
    have hlt := (List.getElem?_eq_some_iff.mp hj).1
    simp at hlt
    have : j = cs.length := by omega
    subst this
    simp at hj
    subst hj
    exact ⟨hl, hb⟩
theorem w_app {m : Nat} {cs : List (List Rat)} {c : List Rat} {cells : List Int} {h : Hand} {ca ha : Addr} (c3 : cs.length < 3) (cok : ColsOk m cs) (cl : c.length = m) (cb : bl (3 + 6 * cs.length) c) (hp : h.pos ≤ cells.length) :
    EXS n lawNs [("column", cv c), ("columns", .loc ca), ("hand", .loc ha), ("many", .int m)] (oC ca ha cells h cs) (loopBody.drop 2) fun f ρ₂ o₂ => f = .next ∧ LI m ca ha cells (cs.length + 1) ρ₂ o₂ := by
  refine exs_cons (ex_append (ev_name rfl rfl ⟨ca, rfl, ⟨_, .head _⟩, ev_name rfl rfl ⟨_, _, .head, szL (by simp; omega), exs_nil ⟨rfl, h, cs ++ [c], hp, by simp, cok.snoc cl cb, ⟨rfl, rfl, rfl, trivial⟩, ?_⟩⟩⟩))
  unfold oC
  rw [List.map_append]; rfl
set_option maxHeartbeats 2000000 in
theorem w_if (hn : 11 ≤ n) {m : Nat} (m5 : m ≤ 5) {cs : List (List Rat)} {c : List Rat} {cells : List Int} {h : Hand} {ca ha : Addr} (c3 : cs.length < 3) (cok : ColsOk m cs) (cl : c.length = m) (cb : bl 3 c) (hc : cells.length ≤ 63) (hp : h.pos ≤ cells.length) :
    EXS n lawNs [("column", cv c), ("columns", .loc ca), ("hand", .loc ha), ("many", .int m)] (oC ca ha cells h cs) (loopBody.drop 1) fun f ρ₂ o₂ => f = .next ∧ LI m ca ha cells (cs.length + 1) ρ₂ o₂ := by
  have plain : ∀ h' : Hand, h'.pos ≤ cells.length → EXS n lawNs [("column", cv c), ("columns", .loc ca), ("hand", .loc ha), ("many", .int m)] (oC ca ha cells h' cs) (loopBody.drop 2) fun f ρ₂ o₂ => f = .next ∧ LI m ca ha cells (cs.length + 1) ρ₂ o₂ :=
    fun h' hp' => w_app c3 cok cl (cb.mono (by omega)) hp'
  repeat walk_at "bw"
  refine ev_listF ?_
  repeat walk_at "bw"
  refine cmp_ne_nil_own (.head _) (map_data fun u => cv_data u) ?_
  cases hcs : cs with
  | nil =>
    refine br_F (br_F (exs_nil ?_))
    rw [← hcs]
    exact plain h hp
  | cons c0 cr =>
    rw [← hcs]
    have hne : cs ≠ [] := by rw [hcs]; exact List.cons_ne_nil _ _
    have h0 : cs[0]? = some c0 := by rw [hcs]; rfl
    have hlen : 0 < cs.length := by rw [hcs]; simp
    have hlast : cs[cs.length - 1]? = some cs[cs.length - 1] := List.getElem?_eq_getElem (by omega)
    generalize cs[cs.length - 1] = cz at hlast
    have hemp : (!(cs.map cv).isEmpty) = true := by rw [hcs]; rfl
    clear hcs
    refine br_t hemp ?_
    repeat walk_at "bw"
    refine c_pick (lim := 4) (own' := oC ca ha cells (pick cells 4 h).2 cs) (by omega) (by decide) hp hc (.tail .head) ?_
    have hp' := pick_pos (lim := 4) (h := h) hp
    generalize pick cells 4 h = ph at hp'
    obtain ⟨b, h'⟩ := ph
    repeat walk_at "bw"
    by_cases hb : b = 3
    · refine br_t (by simpa using hb) ?_
      obtain ⟨l0, b0⟩ := cok _ _ h0
      obtain ⟨lz, bz⟩ := cok _ _ hlast
      have e2 : V.tup [.int 2, .int 1] = fr 2 := rfl
      have bd2 : bd 2 (2 : Rat) := ⟨by decide, by decide⟩
      repeat walk_at "bw"
      refine ex_comp_map ((List.zipWith (fun p q => 2 * p + q) c0 cz).map fr) ⟨rfl, rfl, by decide⟩ ?_
      repeat walk_at "bw"
      refine gen_range (by omega) (by simp [l0, lz]) ?_ fun k y' hk hy => ?_
      case refine_2 =>
        obtain ⟨p', q', h1', h2', rfl, h3', h4'⟩ := zip_get (by rw [l0, lz]) (by omega) hy
        repeat walk_at "bw"
        refine sub_ownN (k := 0) (l := cs.map cv) (v := cv c0) ?_ (.head _) (map_get h0) (by simp; omega)
        repeat walk_at "bw"
        refine sub_cv ?_ h1' (by omega)
        rw [e2]
        repeat walk_at "bw"
        refine c_lmul (by omega) bd2 (b0 _ h3') (by omega) ?_
        repeat walk_at "bw"
        refine ev_neg ?_
        repeat walk_at "bw"
        refine ⟨1, rfl, ?_⟩
        refine sub_own (l := cs.map cv) (j := cs.length - 1) (v := cv cz) (.head _) (by rw [List.length_map]; exact idx_last hlen) (map_get hlast) (by simp; omega) ?_
        repeat walk_at "bw"
        refine sub_cv ?_ h2' (by omega)
        repeat walk_at "bw"
        exact c_ladd (by omega) (bd_mul bd2 (b0 _ h3')) (bz _ h4') (by omega) ⟨rfl, rfl⟩
      refine exs_nil ?_
      have fin := w_app (n := n) (ca := ca) (ha := ha) (h := h') (cells := cells) (c := List.zipWith (fun p q => 2 * p + q) c0 cz) c3 cok (by simp [l0, lz]) ((bl_zip fun x hx z hz => bd_add (bd_mul bd2 (b0 x hx)) (bz z hz)).mono (by omega)) hp'
      refine exs_sub ?_ fin
      exact ⟨rfl, rfl, rfl, rfl, trivial⟩
    · refine br_f (by simpa using hb) (exs_nil ?_)
      exact plain h' hp'
end
end
-- part WG
section
open Builtin.Int (intBits)
section
variable {n : Nat} {own : Own} {ns : Ns} {ρ : Rho} {Q : V → Own → Prop}
theorem w_turn (hn : 11 ≤ n) {m : Nat} (m5 : m ≤ 5) {cs : List (List Rat)} {cells : List Int} {h : Hand} {ca ha : Addr} (c3 : cs.length < 3) (cok : ColsOk m cs) (hc : cells.length ≤ 63) (hp : h.pos ≤ cells.length) :
    EXS n lawNs [("columns", .loc ca), ("hand", .loc ha), ("many", .int m)] (oC ca ha cells h cs) loopBody fun f ρ₂ o₂ => f = .next ∧ LI m ca ha cells (cs.length + 1) ρ₂ o₂ := by
  refine exs_cons (ex_assign_comp (fun i acc o => ∃ h' : Hand, ∃ u : List Rat, h'.pos ≤ cells.length ∧ acc = u.map fr ∧ u.length = i ∧ bl 3 u ∧ o = oC ca ha cells h' cs) ⟨rfl, rfl, by decide⟩ rfl ?_)
  repeat walk_at "bw"
  refine ⟨rangeVs 0 1 m, items_range (by omega), by rw [rangeVs_length]; omega, ⟨h, [], hp, rfl, rfl, by intro q hq; simp at hq, rfl⟩, ?_, ?_⟩
  · rintro i v acc o₁ hi ⟨h2, u, hp2, rfl, hl, hu, rfl⟩
    refine tests_nil ?_
    rw [if_pos rfl]
    repeat walk_at "bw"
    refine c_value (own' := oC ca ha cells (valueQ cells h2).2 cs) (by omega) hp2 hc (.tail .head) ?_
    refine ⟨(valueQ cells h2).2, u ++ [(valueQ cells h2).1], pick_pos hp2, by simp, by simp [hl], fun q hq => ?_, rfl⟩
    rcases List.mem_append.mp hq with hq | hq
    · exact hu q hq
    · obtain rfl := List.mem_singleton.mp hq
      exact valueQ_bd
  rintro acc o₁ ⟨h2, u, hp2, rfl, hl, hu, rfl⟩
  rw [rangeVs_length] at hl
  exact w_if hn m5 c3 cok hl hu hc hp2
theorem ColsOk.mem {m : Nat} {cs : List (List Rat)} (h : ColsOk m cs) (h3 : cs.length ≤ 3) : ∀ c ∈ cs, c.length = m ∧ bl 16 c := by
  intro c hc
  obtain ⟨i, hi, rfl⟩ := List.getElem_of_mem hc
  obtain ⟨a, b⟩ := h i _ (List.getElem?_eq_getElem hi)
  exact ⟨a, b.mono (by omega)⟩
set_option maxHeartbeats 1000000 in
theorem w_loop (AG : AllG) (hn : 11 ≤ n) {m : Nat} (hm : 0 < m) (m5 : m ≤ 5) {cells : List Int} {h : Hand} {ca ha : Addr} (hc : cells.length ≤ 63) (hp : h.pos ≤ cells.length) :
    EXT n lawNs [("columns", .loc ca), ("hand", .loc ha), ("many", .int m)] (oC ca ha cells h []) (lawBody.drop 4) good := by
  refine ext_cons (ex_for (LI m ca ha cells) rfl ?_)
  repeat walk_at "bw"
  refine c_pick (lim := 4) (own' := oC ca ha cells (pick cells 4 h).2 []) (by omega) (by decide) hp hc (.tail .head) ?_
  obtain ⟨r1, r2⟩ := pick_range (cells := cells) (h := h) (lim := 4) (by decide)
  have hp' := pick_pos (lim := 4) (h := h) hp
  generalize pick cells 4 h = ph at r1 r2 hp'
  obtain ⟨b, h'⟩ := ph
  obtain ⟨k, rfl⟩ : ∃ k : Nat, b = (k : Int) := ⟨b.toNat, by simp at r1; omega⟩
  have hk : k ≤ 3 := by simp at r2; omega
  repeat walk_at "bw"
  refine ⟨rangeVs 0 1 k, items_range (by omega), ⟨h', [], hp', rfl, fun j c hj => by simp at hj, ⟨rfl, rfl, rfl, trivial⟩, rfl⟩, ?_, ?_⟩
  · rintro i v ρ₁ o₁ hi ⟨h2, cs, hp2, rfl, cok, hs, rfl⟩
    obtain ⟨h1, rfl⟩ := rangeVs0_get hi
    refine exs_sub (ρ' := [("columns", .loc ca), ("hand", .loc ha), ("many", .int m)]) ⟨hs.get _ _ rfl, hs.get _ _ rfl, hs.get _ _ rfl, trivial⟩ ?_
    exact w_turn hn m5 (by omega) cok hc hp2
  rintro ρ₁ o₁ ⟨h2, cs, hp2, hl, cok, hs, rfl⟩
  rw [rangeVs_length] at hl
  refine ext_sub (ρ' := [("columns", .loc ca), ("hand", .loc ha), ("many", .int m)]) hs (ext_freeze (x := "columns") rfl .head ?_)
  refine ext_sub ?_ (w_y AG hn hm m5 (by omega) (cok.mem (by omega)) hc hp2)
  exact ⟨rfl, rfl, rfl, trivial⟩
set_option maxHeartbeats 1000000 in
theorem w_head (AG : AllG) (hn : 11 ≤ n) {cells : List Int} (hc : cells.length ≤ 63) :
    EXT n lawNs [("cells", .lst (cells.map .int))] [] (lawBody.drop 1) good := by
  refine ext_cons (ex_assign (ev_listO ?_))
  repeat walk_at "bw"
  refine cb_sum ?_
  repeat walk_at "bw"
  refine bin_mod (by decide) ?_
  repeat walk_at "bw"
  refine bin_mul ?_ (IntMulOk.of_right (by decide))
  repeat walk_at "bw"
  intro ha
  refine asg_name rfl ?_
  have start : ∀ st : Int, EXT n lawNs [("hand", .loc ha), ("cells", .lst (cells.map .int))] (oH ha cells ⟨0, 0, st⟩) (lawBody.drop 2) good := fun st => by
    repeat walk_at "bw"
    refine c_pick (lim := 5) (own' := oH ha cells (pick cells 5 ⟨0, 0, st⟩).2) (by omega) (by decide) (Nat.zero_le _) hc .head ?_
    obtain ⟨r1, r2⟩ := pick_range (cells := cells) (h := ⟨0, 0, st⟩) (lim := 5) (by decide)
    have hp' := pick_pos (lim := 5) (cells := cells) (h := ⟨0, 0, st⟩) (Nat.zero_le _)
    generalize pick cells 5 ⟨0, 0, st⟩ = ph at r1 r2 hp'
    obtain ⟨b, h'⟩ := ph
    obtain ⟨k, rfl⟩ : ∃ k : Nat, b = (k : Int) := ⟨b.toNat, by simp at r1; omega⟩
    have hk : k ≤ 4 := by simp at r2; omega
    repeat walk_at "bw"
    refine ev_listO ?_
    repeat walk_at "bw"
    intro ca
    refine asg_name rfl ?_
    refine ext_sub ?_ (w_loop (m := k + 1) AG hn (by omega) (by omega) hc hp')
    refine ⟨rfl, rfl, ?_, trivial⟩
    show some (V.int (1 + (k : Int))) = some (V.int ((k + 1 : Nat) : Int))
    congr 2; omega
  exact start _
end
end
-- part E1
theorem slice_raw {n : Nat} {ns : Ns} {ρ : Rho} {own : Own} {w : World} {h₀ : Heap} {A : Around} {env : Env} {s : Shared} {G : Ghost} {E : Value → Shared → Prop} {x : Str} {a : Addr} {vs : List Value} {is : List Int} {px pc sp p : Pos} {kk : Nat} (C : Cx w h₀) (R : Room n A) (K : EnvOk ns env) (S : SR h₀ G own s.heap) (F : FR G own env ρ s.heap)
    (hx : ρ.lookup x = some (.loc a)) (hk : isLC (ns.lookup x) = true) (hL : s.heap.IsList a vs.toArray) (hI : IntsAre vs is) (h63 : is.length ≤ 63) (hd : (x == ("__debug__" : Str)) = false := by decide) :
    wpAny (model prg w) A (eval (.Subscript (.Name x px) (.Slice none (some (.Constant (.int 63) kk pc)) none sp) p) env) (PostV h₀ G own s fun v o => v = .lst (is.map .int) ∧ o = own) E s := by
  have hlen : vs.length = is.length := hI.length
  refine wpAny_Subscript_list_slice (wpAny_Name (loadLC hx hk K F fun v' r => ?_) hd)
  cases r
  rw [evalPart_none]
  refine wpAny_pure ?_
  rw [evalPart_some]
  refine wpAny_Constant_int ?_
  refine ⟨a, vs.toArray, none, some 63, rfl, hL, by rw [List.size_toArray, hlen, sizeLine_eq]; omega, .none, .int _ _, ?_⟩
  rw [slice_upto]
  have ht : vs.take (if (63 : Int) < 0 then (63 + vs.length : Int).toNat else (63 : Int).toNat) = vs := by
    rw [if_neg (by decide)]
    exact List.take_of_length_le (by rw [hlen]; exact h63)
  rw [ht]
  have hn : s.heap.get? (s.heap.objs.size + 1) = none := by
    cases hq : s.heap.get? (s.heap.objs.size + 1) with
    | none => rfl
    | some o => exact absurd (Heap.lt_size hq) (Nat.not_lt.mpr (Nat.le_succ _))
  have hd2 : ∀ tk : Tok, ((s.heap.push { cls := .type "slice", data := .fields #[.none, .int 63 tk, .none] }).push (lstObj vs 0)).get? (s.heap.objs.size + 1) = some (lstObj vs 0) := fun tk => by
    have := Heap.get?_push_size (s.heap.push { cls := .type "slice", data := .fields #[.none, .int 63 tk, .none] }) (o := lstObj vs 0) rfl
    rw [Heap.size_push] at this
    exact this
  exact ⟨_, _, _, ⟨rfl, rfl⟩, .lst (vs := vs) (n := 0) gput_self (are_ints hI), .newFrozen S ⟨_, _, rfl⟩ (fun b o e => Heap.get?_push_of_some _ (Heap.get?_push_of_some _ e)) hn (hd2 _)⟩
theorem sr_base (h : Heap) : SR h (fun b => h.get? b) [] h := ⟨fun _ _ e => e, fun _ _ e => ⟨e, by simp [addrs]⟩, by simp [addrs], fun p hp => by cases hp⟩
set_option maxHeartbeats 1000000 in
theorem law_enter (AG : AllG) {cells : List Int} (h63 : cells.length ≤ 63) {w : World} {s : Shared} {a : Addr} {vs : List Value} {E : Value → Shared → Prop} (C : Cx w s.heap) (hL : s.heap.IsList a vs.toArray) (hI : IntsAre vs cells) :
    wpAny (model prg w) callerA (call (.ref 280) [.ref a]) (fun v s' => v = .bool true ∧ (∀ b o, s.heap.get? b = some o → s'.heap.get? b = some o) ∧ s'.os = s.os ∧ s'.gens = s.gens) E s := by
  have hin : (KK w).In s.heap := C.k
  obtain ⟨mg, mb, T⟩ := C.t
  have S := sr_base s.heap
  have hcd : codeIn (KK w) (.ref 279) "law" = true := by kernel_rfl
  refine wpAny_call ?_
  refine codeAny_call_function (body := lawBody) (by decide +kernel) (hin _ _ (show (KK w).lookup 280 = _ from rfl)) rfl rfl rfl rfl (codeRec_of hin hcd) ?_
  refine binds1 (x := "script") (fun a => rfl) (vs' := [.ref a]) rfl _ _ _ _ ?_
  refine wpAny_newFunctionEnv_cells (by rfl) (fun x hx => ?_) fun env he s₁ x => ?_
  · have hx1 : x.1 ∈ (["script"] : List Str) := (List.of_mem_zip hx).1
    refine .inl ?_
    simp only [List.mem_cons, List.not_mem_nil, or_false] at hx1
    rw [hx1]; rfl
  · have r : RVs (fun b => s.heap.get? b) [.loc a] [.ref a] := .cons .loc .nil
    obtain ⟨e1, F1⟩ := frame_of (names := ["script"]) S r (by decide) (he ▸ x)
    have kp := x.toInCall.keep
    refine ⟨T.nolimit.keeps x.toInCall.keep, codeAny_func ?_⟩
    have K1 : EnvOk lawNs env := by rw [he]; exact ⟨rfl, rfl, rfl, rfl⟩
    have F1' : FR (fun b => s.heap.get? b) [] env [("script", .loc a)] s₁.heap := by rw [he]; exact F1
    have R1 : Room 11 (callerA.deeper env) := by
      rw [he]
      exact ⟨rfl, by show 1 + claimMargin + 1 + 11 + 100 < recursionLimit; decide +kernel, by show 4 + 3 + 16 * (11 + 1) < cLine; decide +kernel, _, [], rfl, rfl, rfl, rfl, rfl⟩
    have RR : RS env (callerA.deeper env) (fun b => s.heap.get? b) [] s₁.heap [] := by
      rw [he]
      exact ⟨rfl, rfl, (fun v hv => by cases hv), (fun b hb => by cases hb)⟩
    refine wpAny_execs_cons ?_
    rw [exec_Assign, swapsWithSole_c K1]
    refine wpAny_bind (wpAny_standAt (wpAny_bind (wpAny_pure (a := false) ?_)))
    rw [if_neg (by decide)]
    refine wpAny_bind (wpAny_mono (slice_raw (is := cells) C R1 K1 e1.sr F1' rfl rfl (by obtain ⟨o, ho, hr⟩ := hL; exact ⟨o, kp _ _ ho, hr⟩) hI h63) (fun v' s₂ q_u => ?_) fun _ _ x => x)
    obtain ⟨v, o, G₂, ⟨hv, ho⟩, rv, e2⟩ := q_u
    subst hv ho
    rw [swappedStores_c K1]
    refine wpAny_bind (wpAny_pure (a := none) ?_)
    have F2 := F1'.ev e2
    refine wpAny_bind (PyProof.Rows.assign_Name (storeLC (x := "cells") (v := .lst (cells.map .int)) rfl K1 e2.sr F2 rv fun s₃ e3 F3 _ => wpAny_pure ?_))
    have e123 : EvF s.heap env (fun b => s.heap.get? b) [] s₁ G₂ [] s₃ := e2.toF.trans e3
    refine wpAny_mono ((ext_sub (ρ' := [("cells", .lst (cells.map .int))]) ⟨rfl, trivial⟩ (w_head AG (by decide) h63)).go w s.heap _ env s₃ G₂ _ C R1 K1 e3.sr F3 (RR.ev e123)) (fun f s₄ q_u => ?_) fun _ _ x => x
    obtain ⟨m, ρ', o', G', q, rf, e4, _⟩ := q_u
    obtain ⟨h1, t1, q1⟩ := e1.same
    obtain ⟨h2, t2, q2⟩ := (e123.trans e4).same
    have big : (∀ b o, s.heap.get? b = some o → s₄.heap.get? b = some o) ∧ s₄.os = s.os ∧ s₄.gens = s.gens := by
      refine ⟨e4.sr.keeps0, ?_, ?_⟩
      · rw [q2, q1]
      · rw [q2, q1]
    cases rf with
    | next => cases q
    | brk => exact q.elim
    | cont => exact q.elim
    | ret rv' =>
      have hv : _ = V.bool true := q
      subst hv
      cases rv'
      exact ⟨rfl, big⟩
-- part E2
theorem top_close (AG : AllG) {w : World} {s₀ s₁ : Shared} {fa la : Addr} {mg mb : Str → Option Value} {is : List Int} {vs : List Value} (hl : is.length ≤ 63)
    (T : Top view (looseW view [Str.ofString "fit"]) (ExcName.means s₀.heap) mg mb s₁.heap) (TR : TopRead view (looseW view [Str.ofString "fit"]) mg mb s₁.heap) (KX : (heapK w.params).In s₁.heap) (hmg : mg (Str.ofString "law") = some (.ref fa)) (hL : s₁.heap.IsList la vs.toArray) (hI : IntsAre vs is) (hg : s₁.gens = #[]) :
    wpAny (model PySem.Challenge.rw_no0502_01.row.prog w) callerA (call (.ref fa) [.ref la])
      (fun v s' => GoodWG PySem.Challenge.rw_no0502_01.row.claim (classAt s₀.heap) (ExcName.means s₀.heap) [ofPy (PyData.list (List.map PyData.int is))] s₁ (.ok (.ret v)) s')
      (fun e s' => GoodWG PySem.Challenge.rw_no0502_01.row.claim (classAt s₀.heap) (ExcName.means s₀.heap) [ofPy (PyData.list (List.map PyData.int is))] s₁ (.error e) s') s₁ := by
  have C : Cx w s₁.heap := ⟨KX, ⟨mg, mb, TR⟩, Top.seer T (by decide +kernel)⟩
  have e : mg (Str.ofString "law") = some (.ref 280) := mg_of (K := KK w) KX T.g rfl
  rw [hmg] at e
  cases e
  refine wpAny_mono (law_enter AG hl C hL hI) (fun v s' q_u => ?_) fun _ _ x => x
  obtain ⟨hv, hk, ho, hgn⟩ := q_u
  subst hv
  refine ⟨.inl ⟨.bool true, .bool true, [], rfl, fun cls => rfl, .bool _, ?_, fun _ => ⟨List.nodup_nil, fun a ha => by cases ha⟩⟩, .of_keep hk, ho, .of_eq (hgn.trans hg)⟩
  refine' postW_of ?s ?v ?e
  case s => o_shape
  case v => wtm_val
  case e => w_fin
set_option maxHeartbeats 8000000 in
theorem top_holds (AG : AllG) : PySem.Challenge.rw_no0502_01.Holds := by
  w_on
  refine holds_law said1 fun said => ?_
  refine holds_open (q := view) (loose := [Str.ofString "fit"]) (Xt := fun s => xlAt view [] s && recOk (RowW.records PySem.Challenge.rw_no0502_01.row.toRowW) s) (XP := XL view []) (Yf := Hook.obs HK) (Ya := Hook.val HK) (YP := Hook.says HK) (N := 3506) left1 (Hook.of HK) (Hook.keeps HK) (fun s e => xl_of s (Bool.and_eq_true_iff.mp e).1) XL.keeps (by rfl) (by rfl) (by rfl) (fun s e => recFacts_of (Bool.and_eq_true_iff.mp e).2) (by rfl) (by first | assumption | decide +kernel) (by decide +kernel) ⟨rfl, rfl, rfl, rfl, rfl, by decide +kernel⟩ ?hw ?hc
  case hw => w_witness2
  case hc =>
    intro w s₀ s₁ mg mb G Y fa o pm cd doc dV kV ho hd hcd hD hmg hg args vals as hpre hlay hrd hwl hlo
    have KX := kIn_of Y
    have X := (Ground.X G).1
    have V := (Ground.X G).2
    refine Ground.open G ?_
    intro T B D TE TW
    wrow_args hpre hlay hrd hwl hlo
    clear hD
    have TR : TopRead view (looseW view [Str.ofString "fit"]) mg mb s₁.heap := topRead_of T
    exact top_close AG (by omega) T TR KX hmg (by assumption) (by assumption) hg
-- part G1
-- the weighted product
noncomputable def ip (g : Nat → Rat) (m : Nat) (u v : Nat → Rat) : Rat := Sm m fun k => g k * (u k * v k)
theorem ip_comm {g : Nat → Rat} {m : Nat} {u v : Nat → Rat} : ip g m u v = ip g m v u := Sm_congr fun k _ => by rw [Rat.mul_comm (u k)]
theorem ip_lin {g : Nat → Rat} {m : Nat} {u v x : Nat → Rat} {c : Rat} : ip g m (fun k => u k + c * v k) x = ip g m u x + c * ip g m v x := by
  unfold ip
  rw [← Sm_lin]
  exact Sm_congr fun k _ => by grind
theorem ip_congr {g : Nat → Rat} {m : Nat} {u u' v v' : Nat → Rat} (h : ∀ k, k < m → u k = u' k) (h' : ∀ k, k < m → v k = v' k) : ip g m u v = ip g m u' v' := Sm_congr fun k hk => by rw [h k hk, h' k hk]
theorem ip_sum {g : Nat → Rat} {m : Nat} {a : Nat → Rat} {b : Nat → Nat → Rat} {u x : Nat → Rat} {n : Nat} : ip g m (fun k => u k + Sm n fun j => a j * b j k) x = ip g m u x + Sm n fun j => a j * ip g m (b j) x := by
  induction n with
  | zero =>
    show ip g m (fun k => u k + 0) x = ip g m u x + 0
    rw [Rat.add_zero]
    exact ip_congr (fun k _ => Rat.add_zero _) fun _ _ => rfl
  | succ n ih =>
    show ip g m (fun k => u k + (Sm n (fun j => a j * b j k) + a n * b n k)) x = ip g m u x + (Sm n (fun j => a j * ip g m (b j) x) + a n * ip g m (b n) x)
    rw [← Rat.add_assoc, ← ih, ← ip_lin]
    exact ip_congr (fun k _ => by rw [Rat.add_assoc]) fun _ _ => rfl
theorem ent_out {u : List Rat} {k : Nat} (h : u.length ≤ k) : ent u k = 0 := by
  unfold ent; rw [List.getElem?_eq_none h]; rfl
theorem ext_ent {u v : List Rat} (hl : u.length = v.length) (h : ∀ k, ent u k = ent v k) : u = v := by
  apply List.ext_getElem? 
  intro k
  by_cases hk : k < u.length
  · rw [ent_get hk, ent_get (by omega), h k]
  · rw [List.getElem?_eq_none (by omega), List.getElem?_eq_none (by omega)]
theorem dot_Sm {u v : List Rat} {m : Nat} (hu : u.length = m) (hv : v.length = m) : dotR u v = Sm m fun k => ent u k * ent v k := by
  have : ∀ i, i ≤ m → dotR (u.take i) (v.take i) = Sm i fun k => ent u k * ent v k := by
    intro i
    induction i with
    | zero => intro _; simp [dotR, Sm]
    | succ i ih =>
      intro hi
      rw [dotR_take (ent_get (by omega)) (ent_get (by omega)), ih (by omega)]
      rfl
  have h := this m (Nat.le_refl _)
  rwa [List.take_of_length_le (by omega), List.take_of_length_le (by omega)] at h
theorem heavy_wt {u : List Rat} {w : Option (List Rat)} {m : Nat} (hu : u.length = m) (hw : wlen m w) : heavyR u (gvn m w) = wt u w := by
  cases w with
  | some w => rfl
  | none =>
    refine ext_ent (by simp [heavyR, gvn, wt, hu]) fun k => ?_
    unfold heavyR
    rw [ent_zip (by simp [gvn, hu]) (by rw [Rat.mul_zero])]
    show ent u k * ent (List.replicate m 1) k = ent u k
    by_cases hk : k < m
    · have : ent (List.replicate m (1 : Rat)) k = 1 := by unfold ent; simp [hk]
      rw [this, Rat.mul_one]
    · rw [ent_out (by omega), Rat.zero_mul]
theorem heavy_ip {u v : List Rat} {gv : List Rat} {m : Nat} (hu : u.length = m) (hv : v.length = m) (hg : gv.length = m) : dotR (heavyR u gv) v = ip (ent gv) m (ent u) (ent v) := by
  rw [dot_Sm (by simp [heavyR, hu, hg]) hv]
  refine Sm_congr fun k _ => ?_
  unfold heavyR
  rw [ent_zip (by rw [hu, hg]) (by rw [Rat.mul_zero])]
  grind
theorem wt_ip {u v : List Rat} {w : Option (List Rat)} {m : Nat} (hu : u.length = m) (hv : v.length = m) (hw : wlen m w) : dotR (wt u w) v = ip (ent (gvn m w)) m (ent u) (ent v) := by
  rw [← heavy_wt hu hw]
  refine heavy_ip hu hv ?_
  cases w with
  | none => simp [gvn]
  | some w => exact hw
theorem ent_less {u v : List Rat} {f : Rat} (h : u.length = v.length) (k : Nat) : ent (lessR u f v) k = ent u k + -f * ent v k := by
  unfold lessR
  split
  · rename_i h0
    rw [h0]; grind
  · rw [ent_zip h (by grind)]; grind
theorem ent_snoc_lt {f : List Rat} {c : Rat} {j : Nat} (h : j < f.length) : ent (f ++ [c]) j = ent f j := by
  unfold ent; rw [List.getElem?_append_left h]
theorem ent_snoc_eq {f : List Rat} {c : Rat} : ent (f ++ [c]) f.length = c := by
  unfold ent; rw [List.getElem?_append_right (Nat.le_refl _)]; simp
-- sums of what is not negative
theorem Sm_nonneg {f : Nat → Rat} : ∀ {n : Nat}, (∀ i, i < n → 0 ≤ f i) → 0 ≤ Sm n f
  | 0, _ => Rat.le_refl
  | n + 1, h => Rat.add_nonneg (Sm_nonneg fun i hi => h i (Nat.lt_succ_of_lt hi)) (h n (Nat.lt_succ_self n))
theorem Sm_zero_all {f : Nat → Rat} : ∀ {n : Nat}, (∀ i, i < n → 0 ≤ f i) → Sm n f = 0 → ∀ i, i < n → f i = 0
  | 0, _, _, i, hi => absurd hi (Nat.not_lt_zero _)
  | n + 1, h, e, i, hi => by
    have e' : Sm n f + f n = 0 := e
    have a := Sm_nonneg (n := n) fun i hi => h i (Nat.lt_succ_of_lt hi)
    have b := h n (Nat.lt_succ_self n)
    have fn : f n = 0 := by grind
    have sn : Sm n f = 0 := by grind
    by_cases hin : i = n
    · rw [hin]; exact fn
    · exact Sm_zero_all (fun i hi => h i (Nat.lt_succ_of_lt hi)) sn i (by omega)
theorem sq_nonneg (x : Rat) : 0 ≤ x * x := by
  rcases Rat.le_total (a := 0) (b := x) with h | h
  · exact Rat.mul_nonneg h h
  · have := Rat.mul_nonneg (show 0 ≤ -x by grind) (show 0 ≤ -x by grind)
    grind
theorem ip_self_zero {g r : Nat → Rat} {m : Nat} (hg : ∀ k, k < m → 0 ≤ g k) (h : ip g m r r = 0) : ∀ k, k < m → g k * r k = 0 := by
  intro k hk
  have := Sm_zero_all (f := fun k => g k * (r k * r k)) (fun i hi => Rat.mul_nonneg (hg i hi) (sq_nonneg _)) h k hk
  rcases Rat.mul_eq_zero.mp this with h1 | h1
  · rw [h1, Rat.zero_mul]
  · rcases Rat.mul_eq_zero.mp h1 with h2 | h2 <;> rw [h2, Rat.mul_zero]
-- part G2
noncomputable def bsAt (L : List Bs) (t : Nat) : Bs := L[t]?.getD ⟨0, [], 0, []⟩
noncomputable def bF (L : List Bs) (t : Nat) : Nat → Rat := ent (bsAt L t).ba
theorem bsAt_get {L : List Bs} {t : Nat} (h : t < L.length) : L[t]? = some (bsAt L t) := by
  unfold bsAt; rw [List.getElem?_eq_getElem h]; rfl
theorem bsAt_lt {L : List Bs} {b : Bs} {t : Nat} (h : t < L.length) : bsAt (L ++ [b]) t = bsAt L t := by
  unfold bsAt; rw [List.getElem?_append_left h]
theorem bsAt_eq {L : List Bs} {b : Bs} : bsAt (L ++ [b]) L.length = b := by
  unfold bsAt; rw [List.getElem?_append_right (Nat.le_refl _)]; simp
-- an orthogonal family
structure Ob (g : Nat → Rat) (m : Nat) (L : List Bs) : Prop where
  len : ∀ t, t < L.length → (bsAt L t).ba.length = m
  nrm : ∀ t, t < L.length → (bsAt L t).no = ip g m (bF L t) (bF L t) ∧ (bsAt L t).no ≠ 0
  orth : ∀ s t, s < L.length → t < L.length → s ≠ t → ip g m (bF L s) (bF L t) = 0
structure Red (g : Nat → Rat) (m : Nat) (L : List Bs) (i : Nat) (base : List Rat) (s : List Rat × List Rat) : Prop where
  len : s.1.length = m
  fl : s.2.length = i
  dec : ∀ k, ent base k = ent s.1 k + Sm i fun j => ent s.2 j * bF L j k
  orth : ∀ j, j < i → ip g m (ent s.1) (bF L j) = 0
theorem Red.step {m i : Nat} {w : Option (List Rat)} {L : List Bs} {base : List Rat} {s : List Rat × List Rat} (hw : wlen m w) (O : Ob (ent (gvn m w)) m L) (R : Red (ent (gvn m w)) m L i base s) (hi : i < L.length) : Red (ent (gvn m w)) m L (i + 1) base (rstep w s (bsAt L i)) := by
  have hl := O.len i hi
  obtain ⟨hn, hz⟩ := O.nrm i hi
  have hd : dotR (wt s.1 w) (bsAt L i).ba = ip (ent (gvn m w)) m (ent s.1) (bF L i) := wt_ip R.len hl hw
  generalize hc : dotR (wt s.1 w) (bsAt L i).ba / (bsAt L i).no = c
  have hcn : c * (bsAt L i).no = ip (ent (gvn m w)) m (ent s.1) (bF L i) := by
    rw [← hc, hd]; grind
  have hs : rstep w s (bsAt L i) = (lessR s.1 c (bsAt L i).ba, s.2 ++ [c]) := by unfold rstep; rw [hc]
  have hr : ∀ k, ent (lessR s.1 c (bsAt L i).ba) k = ent s.1 k + -c * bF L i k := ent_less (by rw [R.len, hl])
  have hip : ∀ v, ip (ent (gvn m w)) m (ent (lessR s.1 c (bsAt L i).ba)) v = ip (ent (gvn m w)) m (ent s.1) v + -c * ip (ent (gvn m w)) m (bF L i) v := fun v => by
    rw [← ip_lin]; exact ip_congr (fun k _ => hr k) fun _ _ => rfl
  rw [hs]
  refine ⟨by show (lessR _ _ _).length = m; rw [less_len (by rw [R.len, hl]), R.len], by simp [R.fl], fun k => ?_, fun j hj => ?_⟩
  · show ent base k = ent (lessR s.1 c (bsAt L i).ba) k + (Sm i (fun j => ent (s.2 ++ [c]) j * bF L j k) + ent (s.2 ++ [c]) i * bF L i k)
    have e1 : ent (s.2 ++ [c]) i = c := by rw [← R.fl]; exact ent_snoc_eq
    have e2 : (Sm i fun j => ent (s.2 ++ [c]) j * bF L j k) = Sm i fun j => ent s.2 j * bF L j k := Sm_congr fun j hj => by rw [ent_snoc_lt (by rw [R.fl]; exact hj)]
    rw [e1, e2, hr, R.dec k]; grind
  · show ip _ m (ent (lessR s.1 c (bsAt L i).ba)) (bF L j) = 0
    rw [hip]
    by_cases e : j = i
    · subst e
      rw [← hn, ← hcn]; grind
    · rw [R.orth j (by omega), O.orth i j hi (by omega) (fun h => e h.symm)]; grind
theorem red_all {m : Nat} {w : Option (List Rat)} {L : List Bs} {base : List Rat} (hw : wlen m w) (O : Ob (ent (gvn m w)) m L) (hb : base.length = m) : ∀ i, i ≤ L.length → Red (ent (gvn m w)) m L i base (redu w (L.take i) base)
  | 0, _ => ⟨hb, rfl, fun k => by show ent base k = ent base k + 0; rw [Rat.add_zero], fun j hj => absurd hj (Nat.not_lt_zero _)⟩
  | i + 1, h => by
    rw [redu_take (bsAt_get (by omega))]
    exact (red_all hw O hb i (by omega)).step hw O (by omega)
theorem red_full {m : Nat} {w : Option (List Rat)} {L : List Bs} {base : List Rat} (hw : wlen m w) (O : Ob (ent (gvn m w)) m L) (hb : base.length = m) : Red (ent (gvn m w)) m L L.length base (redu w L base) := by
  have := red_all hw O hb L.length (Nat.le_refl _)
  rwa [List.take_length] at this
structure OI (cs : List (List Rat)) (w : Option (List Rat)) (m i : Nat) (L : List Bs) : Prop where
  ob : Ob (ent (gvn m w)) m L
  pvlt : ∀ t, t < L.length → (bsAt L t).pv < i
  pvmono : ∀ s t, s < t → t < L.length → (bsAt L s).pv < (bsAt L t).pv
  dec : ∀ t, t < L.length → ∀ k, ent (rowAt cs (bsAt L t).pv) k = bF L t k + Sm t fun j => ent (bsAt L t).sh j * bF L j k
  cov : ∀ p, p < i → (∃ t, t < L.length ∧ (bsAt L t).pv = p) ∨ ((∀ t, t < L.length → (bsAt L t).pv ≠ p) ∧ ∃ (r : List Rat) (f : Nat → Rat), r.length = m ∧ (∀ k, k < m → ent (gvn m w) k * ent r k = 0) ∧ ∀ k, ent (rowAt cs p) k = ent r k + Sm L.length fun j => f j * bF L j k)
theorem OI.step {cs : List (List Rat)} {w : Option (List Rat)} {m i : Nat} {L : List Bs} (hw : wlen m w) (hg : ∀ k, k < m → 0 ≤ ent (gvn m w) k) (hc : ∀ c ∈ cs, c.length = m) (I : OI cs w m i L) (hi : i < cs.length) : OI cs w m (i + 1) (ostep w L i (rowAt cs i)) := by
  have hcl := hc _ (rowAt_mem hi)
  have R := red_full hw I.ob hcl
  have hn : normR w (redu w L (rowAt cs i)).1 = ip (ent (gvn m w)) m (ent (redu w L (rowAt cs i)).1) (ent (redu w L (rowAt cs i)).1) := wt_ip R.len R.len hw
  unfold ostep
  generalize redu w L (rowAt cs i) = s at R hn
  generalize normR w s.1 = no at hn
  by_cases h0 : no = 0
  · rw [if_pos h0]
    refine ⟨I.ob, fun t ht => by have := I.pvlt t ht; omega, I.pvmono, I.dec, fun p hp => ?_⟩
    by_cases e : p = i
    · subst e
      exact .inr ⟨fun t ht => by have := I.pvlt t ht; omega, s.1, ent s.2, R.len, ip_self_zero hg (by rw [← hn]; exact h0), R.dec⟩
    · exact I.cov p (by omega)
  · rw [if_neg h0]
    generalize hb : (⟨i, s.1, no, s.2⟩ : Bs) = b
    have hlen : (L ++ [b]).length = L.length + 1 := by simp
    have blt : ∀ t, t < L.length → bF (L ++ [b]) t = bF L t := fun t ht => by unfold bF; rw [bsAt_lt ht]
    have beq : bF (L ++ [b]) L.length = ent s.1 := by unfold bF; rw [bsAt_eq, ← hb]
    have sme : ∀ (n : Nat) (f : Nat → Rat) (k : Nat), n ≤ L.length → (Sm n fun j => f j * bF (L ++ [b]) j k) = Sm n fun j => f j * bF L j k := fun n f k hn => Sm_congr fun j hj => by rw [blt j (by omega)]
    refine ⟨⟨fun t ht => ?_, fun t ht => ?_, fun x t hx ht hxt => ?_⟩, fun t ht => ?_, fun x t hxt ht => ?_, fun t ht k => ?_, fun p hp => ?_⟩
    · rw [hlen] at ht
      by_cases e : t = L.length
      · subst e; rw [bsAt_eq, ← hb]; exact R.len
      · rw [bsAt_lt (by omega)]; exact I.ob.len t (by omega)
    · rw [hlen] at ht
      by_cases e : t = L.length
      · subst e; rw [beq, bsAt_eq, ← hb]; exact ⟨hn, h0⟩
      · rw [bsAt_lt (by omega), blt t (by omega)]; exact I.ob.nrm t (by omega)
    · rw [hlen] at hx ht
      by_cases e : t = L.length
      · subst e
        rw [beq, blt x (by omega), ip_comm]
        exact R.orth x (by omega)
      · by_cases e2 : x = L.length
        · subst e2
          rw [beq, blt t (by omega)]
          exact R.orth t (by omega)
        · rw [blt x (by omega), blt t (by omega)]
          exact I.ob.orth x t (by omega) (by omega) hxt
    · rw [hlen] at ht
      by_cases e : t = L.length
      · subst e; rw [bsAt_eq, ← hb]; exact Nat.lt_succ_self i
      · rw [bsAt_lt (by omega)]; have := I.pvlt t (by omega); omega
    · rw [hlen] at ht
      by_cases e : t = L.length
      · subst e
        rw [bsAt_eq, bsAt_lt hxt, ← hb]; exact I.pvlt x hxt
      · rw [bsAt_lt (by omega), bsAt_lt (by omega)]; exact I.pvmono x t hxt (by omega)
    · rw [hlen] at ht
      by_cases e : t = L.length
      · subst e
        rw [beq, bsAt_eq, sme _ _ _ (Nat.le_refl _), ← hb]
        exact R.dec k
      · rw [blt t (by omega), bsAt_lt (by omega), sme _ _ _ (by omega)]
        exact I.dec t (by omega) k
    · by_cases e : p = i
      · subst e
        exact .inl ⟨L.length, by rw [hlen]; exact Nat.lt_succ_self _, by rw [bsAt_eq, ← hb]⟩
      · rcases I.cov p (by omega) with ⟨t, ht, hp'⟩ | ⟨h1, r, f, h2, h3, h4⟩
        · exact .inl ⟨t, by rw [hlen]; omega, by rw [bsAt_lt ht]; exact hp'⟩
        · refine .inr ⟨fun t ht => ?_, r, fun j => if j < L.length then f j else 0, h2, h3, fun k => ?_⟩
          · rw [hlen] at ht
            by_cases e2 : t = L.length
            · subst e2; rw [bsAt_eq, ← hb]; exact fun h => e h.symm
            · rw [bsAt_lt (by omega)]; exact h1 t (by omega)
          · rw [hlen]
            show _ = ent r k + (Sm L.length (fun j => (if j < L.length then f j else 0) * bF (L ++ [b]) j k) + (if L.length < L.length then f L.length else 0) * bF (L ++ [b]) L.length k)
            have e3 : (Sm L.length fun j => (if j < L.length then f j else 0) * bF (L ++ [b]) j k) = Sm L.length fun j => f j * bF L j k := Sm_congr fun j hj => by rw [if_pos hj, blt j hj]
            rw [e3, if_neg (Nat.lt_irrefl _), Rat.zero_mul, Rat.add_zero]
            exact h4 k
theorem OI.all {cs : List (List Rat)} {w : Option (List Rat)} {m : Nat} (hw : wlen m w) (hg : ∀ k, k < m → 0 ≤ ent (gvn m w) k) (hc : ∀ c ∈ cs, c.length = m) : ∀ i, i ≤ cs.length → OI cs w m i (orthN w cs i)
  | 0, _ => ⟨⟨fun t ht => absurd ht (Nat.not_lt_zero _), fun t ht => absurd ht (Nat.not_lt_zero _), fun s t hs => absurd hs (Nat.not_lt_zero _)⟩, fun t ht => absurd ht (Nat.not_lt_zero _), fun s t _ ht => absurd ht (Nat.not_lt_zero _), fun t ht => absurd ht (Nat.not_lt_zero _), fun p hp => absurd hp (Nat.not_lt_zero _)⟩
  | i + 1, h => by
    have e : orthN w cs (i + 1) = ostep w (orthN w cs i) i (rowAt cs i) := by
      show (match cs[i]? with | some c => _ | none => _) = _
      rw [rowAt_get (by omega)]
    rw [e]
    exact (OI.all hw hg hc i (by omega)).step hw hg hc (by omega)
-- part G3
theorem Sp.sum {B : (Nat → Rat) → Prop} {u : Nat → Nat → Rat} {x : Nat → Rat} {a : Nat → Rat} (hx : Sp B x) : ∀ {n : Nat}, (∀ j, j < n → Sp B (u j)) → Sp B (fun k => x k + Sm n fun j => a j * u j k)
  | 0, _ => by
    have e : (fun k => x k + Sm 0 fun j => a j * u j k) = x := funext fun k => Rat.add_zero _
    rw [e]; exact hx
  | n + 1, h => by
    have e : (fun k => x k + Sm (n + 1) fun j => a j * u j k) = fun k => (x k + Sm n fun j => a j * u j k) + a n * u n k := funext fun k => by
      show x k + (Sm n (fun j => a j * u j k) + a n * u n k) = _
      rw [Rat.add_assoc]
    rw [e]
    exact .lin _ (Sp.sum hx fun j hj => h j (Nat.lt_succ_of_lt hj)) (h n (Nat.lt_succ_self n))
theorem Sm_mulr {f : Nat → Rat} {c : Rat} {n : Nat} : Sm n f * c = Sm n fun i => f i * c := by
  rw [Rat.mul_comm, ← Sm_mul]
  exact Sm_congr fun i _ => by rw [Rat.mul_comm]
theorem Sm_one {f : Nat → Rat} {p n : Nat} (hp : p < n) (h : ∀ i, i < n → i ≠ p → f i = 0) : Sm n f = f p := by
  have := Sm_upd (f := fun _ => 0) (g := f) hp h
  rw [Sm_zero (f := fun _ => 0) fun _ _ => rfl] at this
  grind
theorem zer_mul (g : Rat) : g * zer g = g := by
  unfold zer
  split
  · rename_i h; rw [h, Rat.zero_mul]
  · rw [Rat.mul_one]
theorem gv_nonneg {m : Nat} {cs : List (List Rat)} {y : List Rat} {w : Option (List Rat)} (I : In3 m cs y w) : ∀ k, k < m → 0 ≤ ent (gvn m w) k := by
  intro k hk
  cases w with
  | none =>
    have : ent (gvn m none) k = 1 := by unfold ent gvn; simp [hk]
    rw [this]; decide
  | some v =>
    have hl : v.length = m := I.wl
    exact Rat.num_nonneg.mp (I.wp v rfl _ (List.mem_of_getElem? (ent_get (by rw [hl]; exact hk))))
theorem In3.oi {m : Nat} {cs : List (List Rat)} {y : List Rat} {w : Option (List Rat)} (I : In3 m cs y w) : ∀ i, i ≤ cs.length → OI cs w m i (orthN w cs i) := OI.all I.wl (gv_nonneg I) fun c hc => (I.c c hc).1
theorem gvn_len {m : Nat} {w : Option (List Rat)} (h : wlen m w) : (gvn m w).length = m := by
  cases w with
  | none => simp [gvn]
  | some w => exact h
theorem seen_fam {cs : List (List Rat)} {gv : List Rat} {m i p : Nat} (hc : ∀ c ∈ cs, c.length = m) (hg : gv.length = m) (hp : p < i) (hi : i ≤ cs.length) : fam ((seenL gv cs).take i) p = fun k => ent (rowAt cs p) k * zer (ent gv k) := by
  have hpc : p < cs.length := by omega
  have e : rowAt ((seenL gv cs).take i) p = List.zipWith (fun q g => q * zer g) (rowAt cs p) gv := by
    have h1 : ((seenL gv cs).take i)[p]? = some (List.zipWith (fun q g => q * zer g) (rowAt cs p) gv) := by
      rw [List.getElem?_take_of_lt hp]
      unfold seenL
      rw [List.getElem?_map, rowAt_get hpc]; rfl
    unfold rowAt at h1 ⊢
    rw [h1]; rfl
  funext k
  unfold fam
  rw [e, ent_zip (by rw [hg, hc _ (rowAt_mem hpc)]) (by rw [Rat.zero_mul])]
theorem rank_take {m : Nat} {cs : List (List Rat)} {w : Option (List Rat)} (hw : wlen m w) (hc : ∀ c ∈ cs, c.length = m) {i : Nat} (hi : i ≤ cs.length) {L : List Bs} (O : OI cs w m i L) : lawRank ((seenL (gvn m w) cs).take i) = L.length := by
  have hgl := gvn_len hw
  generalize hgv : gvn m w = gv at O hgl ⊢
  have ob := O.ob
  rw [hgv] at ob
  have hlen : ((seenL gv cs).take i).length = i := by simp [seenL]; omega
  refine lawRank_eq (m := m) (u := fun j k => bF L j k * zer (ent gv k)) (fun v hv => ?_) (fun a ha l hl => ?_) ?_ ?_
  · have := List.mem_of_mem_take hv
    obtain ⟨c, h0, rfl⟩ := List.mem_map.mp this
    simp [hc c h0, hgl]
  · have h1 : Sm m (fun k => (ent gv k * bF L l k) * Sm L.length fun j => a j * (bF L j k * zer (ent gv k))) = 0 := Sm_zero fun k _ => by rw [ha k, Rat.mul_zero]
    have h2 : Sm m (fun k => (ent gv k * bF L l k) * Sm L.length fun j => a j * (bF L j k * zer (ent gv k))) = Sm L.length fun j => a j * ip (ent gv) m (bF L l) (bF L j) := by
      have : ∀ k, k < m → (ent gv k * bF L l k) * (Sm L.length fun j => a j * (bF L j k * zer (ent gv k))) = Sm L.length fun j => a j * (ent gv k * (bF L l k * bF L j k)) := fun k _ => by
        rw [← Sm_mul]
        refine Sm_congr fun j _ => ?_
        have z := zer_mul (ent gv k)
        grind
      rw [Sm_congr this, Sm_swap]
      exact Sm_congr fun j _ => by unfold ip; rw [Sm_mul]
    rw [h1] at h2
    rw [Sm_one hl fun j hj hjl => by rw [ob.orth l j hl hj (fun e => hjl e.symm), Rat.mul_zero]] at h2
    obtain ⟨n1, n2⟩ := ob.nrm l hl
    rw [← n1] at h2
    rcases Rat.mul_eq_zero.mp h2.symm with h | h
    · exact h
    · exact absurd h n2
  · rw [hlen]
    have : ∀ N j, j < N → j < L.length → Sp (FamP i (fam ((seenL gv cs).take i))) (fun k => bF L j k * zer (ent gv k)) := by
      intro N
      induction N with
      | zero => intro j hj; exact absurd hj (Nat.not_lt_zero _)
      | succ N ih =>
        intro j hj hjL
        have hp := O.pvlt j hjL
        have hd := O.dec j hjL
        have e : (fun k => bF L j k * zer (ent gv k)) = fun k => fam ((seenL gv cs).take i) (bsAt L j).pv k + Sm j fun l => -ent (bsAt L j).sh l * (bF L l k * zer (ent gv k)) := funext fun k => by
          rw [seen_fam hc hgl hp hi]
          have h1 := hd k
          have h2 : (Sm j fun l => -ent (bsAt L j).sh l * (bF L l k * zer (ent gv k))) = -1 * ((Sm j fun l => ent (bsAt L j).sh l * bF L l k) * zer (ent gv k)) := by
            rw [Sm_mulr, ← Sm_mul]
            exact Sm_congr fun l _ => by grind
          rw [h2]
          grind
        rw [e]
        exact Sp.sum (.mem ⟨_, hp, rfl⟩) fun l hl => ih l (by omega) (by omega)
    exact fun j hj => this (j + 1) j (Nat.lt_succ_self j) hj
  · rw [hlen]
    intro p hp
    rw [seen_fam hc hgl hp hi]
    rcases O.cov p hp with ⟨t, ht, hpv⟩ | ⟨_, r, f, hrl, hr, hd⟩
    · have hd := O.dec t ht
      rw [hpv] at hd
      have e : (fun k => ent (rowAt cs p) k * zer (ent gv k)) = fun k => bF L t k * zer (ent gv k) + Sm t fun l => ent (bsAt L t).sh l * (bF L l k * zer (ent gv k)) := funext fun k => by
        have h2 : (Sm t fun l => ent (bsAt L t).sh l * (bF L l k * zer (ent gv k))) = (Sm t fun l => ent (bsAt L t).sh l * bF L l k) * zer (ent gv k) := by
          rw [Sm_mulr]
          exact Sm_congr fun l _ => by grind
        rw [h2, hd k]; grind
      rw [e]
      exact Sp.sum (.mem ⟨t, ht, rfl⟩) fun l hl => .mem ⟨l, by omega, rfl⟩
    · rw [hgv] at hr
      have e : (fun k => ent (rowAt cs p) k * zer (ent gv k)) = fun k => (fun _ => (0 : Rat)) k + Sm L.length fun l => f l * (bF L l k * zer (ent gv k)) := funext fun k => by
        have h2 : (Sm L.length fun l => f l * (bF L l k * zer (ent gv k))) = (Sm L.length fun l => f l * bF L l k) * zer (ent gv k) := by
          rw [Sm_mulr]
          exact Sm_congr fun l _ => by grind
        have h3 : ent r k * zer (ent gv k) = 0 := by
          by_cases hk : k < m
          · unfold zer
            split
            · rw [Rat.mul_zero]
            · rename_i h0
              rcases Rat.mul_eq_zero.mp (hr k hk) with h | h
              · exact absurd h h0
              · rw [h, Rat.zero_mul]
          · rw [ent_out (by omega), Rat.zero_mul]
        rw [h2, hd k]
        grind
      rw [e]
      exact Sp.sum .zero fun l hl => .mem ⟨l, hl, rfl⟩
-- part G4
theorem orth_succ {cs : List (List Rat)} {w : Option (List Rat)} {i : Nat} (h : i < cs.length) : orthN w cs (i + 1) = ostep w (orthN w cs i) i (rowAt cs i) := by
  show (match cs[i]? with | some c => _ | none => _) = _
  rw [rowAt_get h]
theorem pivs_eq {m : Nat} {cs : List (List Rat)} {y : List Rat} {w : Option (List Rat)} (I : In3 m cs y w) : ∀ i, i ≤ cs.length → (orthN w cs i).map (·.pv) = pivN (seenL (gvn m w) cs) i
  | 0, _ => rfl
  | i + 1, h => by
    have ih := pivs_eq I i (by omega)
    have hc : ∀ c ∈ cs, c.length = m := fun c hc => (I.c c hc).1
    have r0 := rank_take I.wl hc (show i ≤ cs.length by omega) (I.oi i (by omega))
    have r1 := rank_take I.wl hc h (I.oi (i + 1) h)
    rw [piv_succ, r0, r1, ← ih, orth_succ (by omega)]
    unfold ostep
    split
    · rw [if_neg (by omega), List.append_nil]
    · rw [if_pos (by simp), List.map_append]; rfl
theorem pvs_get {cs : List (List Rat)} {w : Option (List Rat)} {t : Nat} (h : t < (fitL cs w).length) : (pvs cs w)[t]? = some (bsAt (fitL cs w) t).pv := by
  unfold pvs; rw [List.getElem?_map, bsAt_get h]; rfl
theorem mem_pvs {cs : List (List Rat)} {w : Option (List Rat)} {q : Nat} : q ∈ pvs cs w ↔ ∃ t, t < (fitL cs w).length ∧ (bsAt (fitL cs w) t).pv = q := by
  constructor
  · intro hq
    obtain ⟨t, ht, rfl⟩ := List.getElem_of_mem hq
    have hl : (pvs cs w).length = (fitL cs w).length := by unfold pvs; rw [List.length_map]
    have := pvs_get (cs := cs) (w := w) (t := t) (by omega)
    rw [List.getElem?_eq_getElem ht] at this
    exact ⟨t, by omega, (Option.some.inj this).symm⟩
  · rintro ⟨t, ht, rfl⟩
    exact List.mem_of_getElem? (pvs_get ht)
structure PvOk (p : Nat) (L : List Bs) : Prop where
  lt : ∀ t, t < L.length → (bsAt L t).pv < p
  ne : ∀ s t, s < L.length → t < L.length → s ≠ t → (bsAt L s).pv ≠ (bsAt L t).pv
theorem OI.pvok {cs : List (List Rat)} {w : Option (List Rat)} {m i : Nat} {L : List Bs} (O : OI cs w m i L) : PvOk i L :=
  ⟨O.pvlt, fun s t hs ht hst => by
    rcases Nat.lt_or_gt_of_ne hst with h | h
    · exact Nat.ne_of_lt (O.pvmono s t h ht)
    · exact Nat.ne_of_gt (O.pvmono t s h hs)⟩
theorem coef_inv {p : Nat} {L : List Bs} {vals : List Rat} (P : PvOk p L) (hv : vals.length = L.length) : ∀ j, j ≤ L.length → (∀ t, t < j → (coefN p L vals j)[(bsAt L t).pv]? = some (some (ent vals t))) ∧ ∀ q, q < p → (∀ t, t < j → (bsAt L t).pv ≠ q) → (coefN p L vals j)[q]? = some none
  | 0, _ => ⟨fun t ht => absurd ht (Nat.not_lt_zero _), fun q hq _ => by simp [coefN, hq]⟩
  | j + 1, h => by
    obtain ⟨h1, h2⟩ := coef_inv P hv j (by omega)
    have e : coefN p L vals (j + 1) = (coefN p L vals j).set (bsAt L j).pv (some (ent vals j)) := by
      show (match L[j]?, vals[j]? with | some b, some v => _ | _, _ => _) = _
      rw [bsAt_get (by omega), ent_get (r := vals) (s := j) (by omega)]
    have hl : (coefN p L vals j).length = p := coefN_len j
    rw [e]
    refine ⟨fun t ht => ?_, fun q hq hne => ?_⟩
    · rw [List.getElem?_set]
      by_cases et : t = j
      · subst et
        rw [if_pos rfl, if_pos (by rw [hl]; exact P.lt t (by omega))]
      · rw [if_neg (fun z => P.ne j t (by omega) (by omega) (fun z => et z.symm) z)]
        exact h1 t (by omega)
    · rw [List.getElem?_set, if_neg (hne j (Nat.lt_succ_self j))]
      exact h2 q hq fun t ht => hne t (by omega)
theorem coef_sum {p : Nat} {L : List Bs} {vals : List Rat} {F : Nat → Rat} (P : PvOk p L) (hv : vals.length = L.length) : ∀ j, j ≤ L.length → (Sm p fun q => coAt (coefN p L vals j) q * F q) = Sm j fun t => ent vals t * F (bsAt L t).pv
  | 0, _ => Sm_zero fun q hq => by
    have : coAt (coefN p L vals 0) q = 0 := by unfold coAt coefN; simp [hq]
    rw [this, Rat.zero_mul]
  | j + 1, h => by
    obtain ⟨h1, h2⟩ := coef_inv P hv j (by omega)
    obtain ⟨h3, h4⟩ := coef_inv P hv (j + 1) h
    have hp := P.lt j (by omega)
    have e : coefN p L vals (j + 1) = (coefN p L vals j).set (bsAt L j).pv (some (ent vals j)) := by
      show (match L[j]?, vals[j]? with | some b, some v => _ | _, _ => _) = _
      rw [bsAt_get (by omega), ent_get (r := vals) (s := j) (by omega)]
    rw [Sm_upd (f := fun q => coAt (coefN p L vals j) q * F q) hp fun q hq hne => by
      show coAt (coefN p L vals (j + 1)) q * F q = _
      unfold coAt
      rw [e, List.getElem?_set, if_neg (fun z => hne z.symm)]]
    have z : coAt (coefN p L vals j) (bsAt L j).pv = 0 := by
      unfold coAt
      rw [h2 _ hp fun t ht => P.ne t j (by omega) (by omega) (by omega)]; rfl
    have o : coAt (coefN p L vals (j + 1)) (bsAt L j).pv = ent vals j := by
      unfold coAt
      rw [h3 j (Nat.lt_succ_self j)]; rfl
    rw [coef_sum P hv j (by omega), z, o]
    show _ = Sm j _ + ent vals j * F (bsAt L j).pv
    grind
theorem comb_ent {cs : List (List Rat)} {co : List (Option Rat)} {m : Nat} (hc : ∀ c ∈ cs, c.length = m) (hco : co.length = cs.length) (k : Nat) : ∀ i, i ≤ cs.length → ent (combN cs co m i) k = Sm i fun p => coAt co p * ent (rowAt cs p) k
  | 0, _ => by
    show ent (List.replicate m 0) k = 0
    unfold ent
    by_cases h : k < m
    · simp [h]
    · simp [h]
  | i + 1, h => by
    have ih := comb_ent hc hco k i (by omega)
    have hi : i < cs.length := by omega
    have ho : co[i]? = some co[i] := List.getElem?_eq_getElem (by omega)
    show ent (match cs[i]?, co[i]? with | some c, some (some f) => _ | _, _ => _) k = Sm i _ + coAt co i * _
    have hco' : coAt co i = co[i].getD 0 := by unfold coAt; rw [ho]; rfl
    rw [rowAt_get hi, ho, hco']
    cases co[i] with
    | none =>
      show ent (combN cs co m i) k = _ + (0 : Rat) * _
      rw [ih, Rat.zero_mul, Rat.add_zero]
    | some f =>
      show ent (List.zipWith (fun t q => t + f * q) (combN cs co m i) (rowAt cs i)) k = _ + f * _
      rw [ent_zip (by rw [combN_len hc, hc _ (rowAt_mem hi)]) (by rw [Rat.mul_zero, Rat.add_zero]), ih]
theorem back_id {L : List Bs} {s : List Rat} {b c : Nat → Rat} (hs : s.length = L.length) (hl : L.length ≤ 3) (h : ∀ t, t < L.length → c t = b t + Sm t fun j => ent (bsAt L t).sh j * b j) : (Sm L.length fun t => ent (backR L s) t * c t) = Sm L.length fun t => ent s t * b t := by
  rcases small_cases hs hl with ⟨rfl, rfl⟩ | ⟨b0, s0, rfl, rfl⟩ | ⟨b0, b1, s0, s1, rfl, rfl⟩ | ⟨b0, b1, b2, s0, s1, s2, rfl, rfl⟩
  · rfl
  ·
    have h0 : c 0 = b 0 + 0 := h 0 (by simp)
    show (0 : Rat) + s0 * c 0 = 0 + s0 * b 0
    rw [h0]; grind
  ·
    have h0 : c 0 = b 0 + 0 := h 0 (by simp)
    have h1 : c 1 = b 1 + (0 + shq b1 0 * b 0) := h 1 (by simp)
    show (0 : Rat) + (s0 - shq b1 0 * s1) * c 0 + s1 * c 1 = 0 + s0 * b 0 + s1 * b 1
    rw [h0, h1]; grind
  ·
    have h0 : c 0 = b 0 + 0 := h 0 (by simp)
    have h1 : c 1 = b 1 + (0 + shq b1 0 * b 0) := h 1 (by simp)
    have h2 : c 2 = b 2 + (0 + shq b2 0 * b 0 + shq b2 1 * b 1) := h 2 (by simp)
    show (0 : Rat) + (s0 - shq b1 0 * (s1 - shq b2 1 * s2) - shq b2 0 * s2) * c 0 + (s1 - shq b2 1 * s2) * c 1 + s2 * c 2 = 0 + s0 * b 0 + s1 * b 1 + s2 * b 2
    rw [h0, h1, h2]; grind
-- part G5
section
variable {m : Nat} {cs : List (List Rat)} {y : List Rat} {w : Option (List Rat)}
theorem In3.o (I : In3 m cs y w) : OI cs w m cs.length (fitL cs w) := I.oi cs.length (Nat.le_refl _)
theorem In3.rd (I : In3 m cs y w) : Red (ent (gvn m w)) m (fitL cs w) (fitL cs w).length y (fitRest cs y w, fitSteps cs y w) := red_full I.wl I.o.ob I.yl
theorem fit_ent (I : In3 m cs y w) (k : Nat) : ent (fitFit cs y w) k = Sm (fitL cs w).length fun t => ent (fitSteps cs y w) t * bF (fitL cs w) t k := by
  unfold fitFit
  have hr := I.rd.len
  have hd : ent y k = ent (fitRest cs y w) k + Sm (fitL cs w).length fun t => ent (fitSteps cs y w) t * bF (fitL cs w) t k := I.rd.dec k
  rw [ent_zip (by rw [I.yl]; exact hr.symm) (by grind), hd]
  grind
theorem valsL (I : In3 m cs y w) : (backR (fitL cs w) (fitSteps cs y w)).length = (fitL cs w).length := by rw [back_len I.rd.fl I.L.le]; exact I.rd.fl
theorem val_sum (I : In3 m cs y w) (k : Nat) : (Sm (fitL cs w).length fun t => ent (backR (fitL cs w) (fitSteps cs y w)) t * ent (rowAt cs (bsAt (fitL cs w) t).pv) k) = ent (fitFit cs y w) k := by
  rw [fit_ent I k]
  exact back_id I.rd.fl I.L.le fun t ht => I.o.dec t ht k
theorem g_pred (I : In3 m cs y w) : combN cs (fitCo cs y w) m cs.length = fitFit cs y w := by
  have hc : ∀ c ∈ cs, c.length = m := fun c hc => (I.c c hc).1
  refine ext_ent (by rw [combN_len hc, I.fitLn]) fun k => ?_
  rw [comb_ent hc I.coL k _ (Nat.le_refl _), ← val_sum I k]
  exact coef_sum I.o.pvok (valsL I) _ (Nat.le_refl _)
theorem co_piv (I : In3 m cs y w) {t : Nat} (ht : t < (fitL cs w).length) : coAt (fitCo cs y w) (bsAt (fitL cs w) t).pv = ent (backR (fitL cs w) (fitSteps cs y w)) t := by
  have := (coef_inv I.o.pvok (valsL I) _ (Nat.le_refl _)).1 t ht
  unfold coAt fitCo
  rw [this]; rfl
theorem tot_ent (I : In3 m cs y w) (k : Nat) : ∀ i, i ≤ (fitL cs w).length → (totL cs (fitCo cs y w) m ((pvs cs w).take i)).length = m ∧ ent (totL cs (fitCo cs y w) m ((pvs cs w).take i)) k = Sm i fun t => ent (backR (fitL cs w) (fitSteps cs y w)) t * ent (rowAt cs (bsAt (fitL cs w) t).pv) k
  | 0, _ => by
    refine ⟨by simp [totL], ?_⟩
    show ent (List.replicate m 0) k = 0
    unfold ent
    by_cases h : k < m
    · simp [h]
    · simp [h]
  | i + 1, h => by
    obtain ⟨h1, h2⟩ := tot_ent I k i (by omega)
    have hi : i < (fitL cs w).length := by omega
    have hp := I.o.pvlt i hi
    have hr := (I.c _ (rowAt_mem hp)).1
    rw [totL_step (pvs_get hi)]
    refine ⟨by simp [h1, hr], ?_⟩
    rw [ent_zip (by rw [h1, hr]) (by rw [Rat.mul_zero, Rat.add_zero]), h2, co_piv I hi]
    rfl
theorem g_tot (I : In3 m cs y w) : totL cs (fitCo cs y w) m (pvs cs w) = fitFit cs y w := by
  have hl : (pvs cs w).length = (fitL cs w).length := by unfold pvs; rw [List.length_map]
  have ht : (pvs cs w).take (fitL cs w).length = pvs cs w := List.take_of_length_le (by omega)
  refine ext_ent ?_ fun k => ?_
  · have := (tot_ent I 0 _ (Nat.le_refl _)).1
    rw [ht] at this
    rw [this, I.fitLn]
  · have := (tot_ent I k _ (Nat.le_refl _)).2
    rw [ht] at this
    rw [this]; exact val_sum I k
theorem g_cn (I : In3 m cs y w) : ∀ i, i < cs.length → ∃ o, (fitCo cs y w)[i]? = some o ∧ o.isNone = decide (i ∉ pvs cs w) := by
  intro i hi
  obtain ⟨h1, h2⟩ := coef_inv I.o.pvok (valsL I) _ (Nat.le_refl _)
  by_cases hm : i ∈ pvs cs w
  · obtain ⟨t, ht, rfl⟩ := mem_pvs.mp hm
    exact ⟨_, h1 t ht, by simp [hm]⟩
  · refine ⟨_, h2 i hi fun t ht e => hm (mem_pvs.mpr ⟨t, ht, e⟩), by simp [hm]⟩
theorem g_sum (I : In3 m cs y w) : List.zipWith (fun a b => a + b) (fitFit cs y w) (fitRest cs y w) = y := by
  have hr : (fitRest cs y w).length = m := I.rd.len
  refine ext_ent (by simp [I.fitLn, hr, I.yl]) fun k => ?_
  rw [ent_zip (by rw [I.fitLn, hr]) (Rat.add_zero 0)]
  unfold fitFit
  rw [ent_zip (by rw [I.yl, hr]) (by grind)]
  grind
theorem g_orth (I : In3 m cs y w) : ∀ c ∈ cs, dotR (heavyR (fitRest cs y w) (gvn m w)) c = 0 := by
  intro c hc
  obtain ⟨p, hp, rfl⟩ := List.getElem_of_mem hc
  have e : cs[p] = rowAt cs p := by
    have := rowAt_get hp
    rw [List.getElem?_eq_getElem hp] at this
    exact Option.some.inj this
  rw [e]
  have hcl := (I.c _ (rowAt_mem hp)).1
  have R := I.rd
  have O := I.o
  rw [heavy_ip R.len hcl (gvn_len I.wl), ip_comm]
  have ho : ∀ j, j < (fitL cs w).length → ip (ent (gvn m w)) m (bF (fitL cs w) j) (ent (fitRest cs y w)) = 0 := fun j hj => by rw [ip_comm]; exact R.orth j hj
  rcases O.cov p hp with ⟨t, ht, hpv⟩ | ⟨_, r, f, hrl, hr, hd⟩
  · have hd := O.dec t ht
    rw [hpv] at hd
    rw [ip_congr (fun k _ => hd k) fun _ _ => rfl, ip_sum, ho t ht, Sm_zero fun j hj => by rw [ho j (by omega), Rat.mul_zero]]
    exact Rat.add_zero 0
  · rw [ip_congr (fun k _ => hd k) fun _ _ => rfl, ip_sum, Sm_zero fun j hj => by rw [ho j hj, Rat.mul_zero]]
    have : ip (ent (gvn m w)) m (ent r) (ent (fitRest cs y w)) = 0 := Sm_zero fun k hk => by
      have := hr k hk
      grind
    rw [this]; exact Rat.add_zero 0
theorem g_rss (I : In3 m cs y w) : normR w (fitRest cs y w) = dotR (heavyR (fitRest cs y w) (gvn m w)) (fitRest cs y w) := by
  rw [heavy_wt I.rd.len I.wl]; rfl
theorem g_df (I : In3 m cs y w) : usedN y.length w = ((gvn m w).filter fun q => q ≠ 0).length := by
  cases w with
  | some v => rfl
  | none =>
    show y.length = _
    have : (gvn m none).filter (fun q => decide (q ≠ 0)) = gvn m none := List.filter_eq_self.mpr fun q hq => by
      simp [gvn] at hq
      rw [hq.2]; decide
    rw [this, I.yl]; simp [gvn]
end
-- part G6
theorem nil_or_snoc {α : Type} (l : List α) : l = [] ∨ ∃ l' a, l = l' ++ [a] := by
  by_cases h : l = []
  · exact .inl h
  · exact .inr ⟨l.dropLast, l.getLast h, (List.dropLast_concat_getLast h).symm⟩
theorem fold_astep (rows : List Row) (t : Int) (q s0 : Rat) : (astep rows t q).foldl (fun a r => a + r.sq) s0 = rows.foldl (fun a r => a + r.sq) s0 + q := by
  rcases nil_or_snoc rows with rfl | ⟨l, r, rfl⟩
  · rfl
  · unfold astep
    simp only [List.getLast?_append, List.getLast?_singleton, Option.some_or]
    split
    · rw [List.dropLast_concat, List.foldl_append, List.foldl_append]
      show _ + (r.sq + q) = _ + r.sq + q
      rw [Rat.add_assoc]
    · rw [List.foldl_append]; rfl
theorem anova_fold {L : List Bs} {ss : List Rat} {ow : List Int} {s0 : Rat} (hs : ss.length = L.length) : ∀ k, k ≤ L.length → (anovaN L ss ow k).foldl (fun a r => a + r.sq) s0 = s0 + Sm k fun t => ent ss t * ent ss t * (bsAt L t).no
  | 0, _ => (Rat.add_zero _).symm
  | k + 1, h => by
    have e : anovaN L ss ow (k + 1) = astep (anovaN L ss ow k) (ow[(bsAt L k).pv]?.getD 0) (ent ss k * ent ss k * (bsAt L k).no) := by
      show (match L[k]?, ss[k]? with | some b, some s => _ | _, _ => _) = _
      rw [bsAt_get (by omega), ent_get (r := ss) (s := k) (by omega)]
    rw [e, fold_astep, anova_fold hs k (by omega)]
    show _ = s0 + (Sm k _ + _)
    rw [Rat.add_assoc]
theorem g_sq {m : Nat} {cs : List (List Rat)} {y : List Rat} {w : Option (List Rat)} (I : In3 m cs y w) (ow : List Nat) : (anovaF cs y w ow).foldl (fun a r => a + r.sq) (dotR (heavyR (fitRest cs y w) (gvn m w)) (fitRest cs y w)) = dotR (heavyR y (gvn m w)) y := by
  have R := I.rd
  have O := I.o
  have hgl := gvn_len I.wl
  unfold anovaF
  rw [anova_fold R.fl _ (Nat.le_refl _), heavy_ip R.len R.len hgl, heavy_ip I.yl I.yl hgl]
  have hd : ∀ k, ent y k = ent (fitRest cs y w) k + Sm (fitL cs w).length fun t => ent (fitSteps cs y w) t * bF (fitL cs w) t k := R.dec
  have ho : ∀ j, j < (fitL cs w).length → ip (ent (gvn m w)) m (ent (fitRest cs y w)) (bF (fitL cs w) j) = 0 := R.orth
  have expand : ∀ x, ip (ent (gvn m w)) m (ent y) x = ip (ent (gvn m w)) m (ent (fitRest cs y w)) x + Sm (fitL cs w).length fun t => ent (fitSteps cs y w) t * ip (ent (gvn m w)) m (bF (fitL cs w) t) x := fun x => by
    rw [ip_congr (fun k _ => hd k) fun _ _ => rfl, ip_sum]
  have e1 : ip (ent (gvn m w)) m (ent (fitRest cs y w)) (ent y) = ip (ent (gvn m w)) m (ent (fitRest cs y w)) (ent (fitRest cs y w)) := by
    rw [ip_comm, expand, Sm_zero fun j hj => by rw [ip_comm, ho j hj, Rat.mul_zero], Rat.add_zero]
  rw [expand (ent y), e1]
  congr 1
  refine Sm_congr fun t ht => ?_
  obtain ⟨n1, _⟩ := O.ob.nrm t ht
  have e2 : ip (ent (gvn m w)) m (bF (fitL cs w) t) (ent y) = ent (fitSteps cs y w) t * (bsAt (fitL cs w) t).no := by
    rw [ip_comm, expand, ho t ht, Rat.zero_add, Sm_one ht fun j hj hjt => by rw [O.ob.orth j t hj ht hjt, Rat.mul_zero], n1]
  rw [e2, Rat.mul_assoc]
-- runs
noncomputable def rst (acc : List (Int × Int)) (t : Int) : List (Int × Int) :=
  match acc.getLast? with
  | some r => if r.1 = t then acc.dropLast ++ [(t, r.2 + 1)] else acc ++ [(t, 1)]
  | none => acc ++ [(t, 1)]
noncomputable def RL (us : List Nat) : List (Int × Int) := us.foldl (fun acc (t : Nat) => rst acc (t : Int)) []
theorem pr_astep (rows : List Row) (t : Int) (q : Rat) : (astep rows t q).map (fun r => (r.te, r.co)) = rst (rows.map fun r => (r.te, r.co)) t := by
  rcases nil_or_snoc rows with rfl | ⟨l, r, rfl⟩
  · rfl
  · unfold astep rst
    simp only [List.map_append, List.map_cons, List.map_nil, List.getLast?_append, List.getLast?_singleton, Option.some_or, List.dropLast_concat]
    split <;> simp
theorem rle_ok : ∀ (n : Nat) (us : List Nat), us.length = n → us.Pairwise (· ≤ ·) → ∃ js : List Nat, js.Pairwise (· < ·) ∧ (∀ j, j ∈ js ↔ j ∈ us) ∧ js.getLast? = us.getLast? ∧ RL us = js.map fun t => (((t : Nat) : Int), ((us.count t : Nat) : Int)) := by
  intro n
  induction n with
  | zero =>
    intro us hn _
    obtain rfl := List.length_eq_zero_iff.mp hn
    exact ⟨[], List.Pairwise.nil, fun j => Iff.rfl, rfl, rfl⟩
  | succ n ih =>
    intro us hn hp
    rcases nil_or_snoc us with rfl | ⟨l, t, rfl⟩
    · simp at hn
    obtain ⟨hl, _, hle⟩ := List.pairwise_append.mp hp
    have hle' : ∀ x ∈ l, x ≤ t := fun x hx => hle x hx t (by simp)
    obtain ⟨js, j1, j2, j3, j4⟩ := ih l (by simpa using hn) hl
    have hR : RL (l ++ [t]) = rst (RL l) (t : Int) := by unfold RL; rw [List.foldl_append]; rfl
    have hcne : ∀ x, x ≠ t → (l ++ [t]).count x = l.count x := fun x hx => by
      rw [List.count_append]
      have : List.count x [t] = 0 := List.count_eq_zero.mpr (by simpa using hx)
      omega
    have hct : (l ++ [t]).count t = l.count t + 1 := by rw [List.count_append]; simp
    by_cases ht : t ∈ l
    · -- the last of l is t
      have hlast : l.getLast? = some t := by
        rcases nil_or_snoc l with rfl | ⟨l0, z, rfl⟩
        · simp at ht
        · have hz : z ≤ t := hle' z (by simp)
          have htz : t ≤ z := by
            rcases List.mem_append.mp ht with h | h
            · exact (List.pairwise_append.mp hl).2.2 t h z (by simp)
            · simp at h; omega
          simp; omega
      rw [hlast] at j3
      rcases nil_or_snoc js with rfl | ⟨js0, z, rfl⟩
      · simp at j3
      have hz : z = t := by simpa using j3
      subst hz
      obtain ⟨_, _, hlt⟩ := List.pairwise_append.mp j1
      refine ⟨js0 ++ [z], j1, fun j => ?_, by simp, ?_⟩
      · rw [j2 j]
        constructor
        · intro h; exact List.mem_append_left _ h
        · intro h
          rcases List.mem_append.mp h with h | h
          · exact h
          · simp at h; rw [h]; exact ht
      · rw [hR, j4]
        unfold rst
        simp only [List.map_append, List.map_cons, List.map_nil, List.getLast?_append, List.getLast?_singleton, Option.some_or, List.dropLast_concat, if_true]
        congr 1
        · refine List.map_congr_left fun x hx => ?_
          have := hlt x hx z (by simp)
          rw [hcne x (by omega)]
        · rw [hct]; rfl
    · refine ⟨js ++ [t], ?_, fun j => ?_, by simp, ?_⟩
      · refine List.pairwise_append.mpr ⟨j1, by simp, fun x hx z hz => ?_⟩
        simp at hz
        subst hz
        have hxl := (j2 x).mp hx
        have := hle' x hxl
        have hne : x ≠ z := fun e => ht (e ▸ hxl)
        omega
      · rw [List.mem_append, List.mem_append, j2 j]
      · rw [hR, j4]
        have hmap : js.map (fun x => (((x : Nat) : Int), ((l.count x : Nat) : Int))) = js.map fun x => (((x : Nat) : Int), (((l ++ [t]).count x : Nat) : Int)) := List.map_congr_left fun x hx => by
          have hne : x ≠ t := fun e => ht (e ▸ (j2 x).mp hx)
          rw [hcne x hne]
        have h0 : l.count t = 0 := List.count_eq_zero.mpr ht
        rw [List.map_append, ← hmap]
        have hone : [t].map (fun x => (((x : Nat) : Int), (((l ++ [t]).count x : Nat) : Int))) = [((t : Int), 1)] := by
          show [((t : Int), (((l ++ [t]).count t : Nat) : Int))] = _
          rw [hct, h0]; rfl
        rw [hone]
        unfold rst
        rcases nil_or_snoc js with rfl | ⟨js0, z, rfl⟩
        · rfl
        · simp only [List.map_append, List.map_cons, List.map_nil, List.getLast?_append, List.getLast?_singleton, Option.some_or]
          rw [if_neg]
          have hzl := (j2 z).mp (by simp)
          have hne : z ≠ t := fun e => ht (e ▸ hzl)
          omega
-- part G7
theorem nat_get (ow : List Nat) (p : Nat) : (natVs ow)[p]?.getD 0 = (((ow[p]?.getD 0 : Nat)) : Int) := by
  unfold natVs
  rw [List.getElem?_map]
  cases ow[p]? <;> rfl
theorem used_get {cs : List (List Rat)} {w : Option (List Rat)} {ow : List Nat} {k : Nat} (h : k < (fitL cs w).length) : (usedL ow (pvs cs w))[k]? = some (ow[(bsAt (fitL cs w) k).pv]?.getD 0) := by
  unfold usedL
  rw [List.getElem?_map, pvs_get h]; rfl
theorem anova_RL {cs : List (List Rat)} {w : Option (List Rat)} {ss : List Rat} {ow : List Nat} (hs : ss.length = (fitL cs w).length) : ∀ k, k ≤ (fitL cs w).length → (anovaN (fitL cs w) ss (natVs ow) k).map (fun r => (r.te, r.co)) = RL ((usedL ow (pvs cs w)).take k)
  | 0, _ => rfl
  | k + 1, h => by
    have e : anovaN (fitL cs w) ss (natVs ow) (k + 1) = astep (anovaN (fitL cs w) ss (natVs ow) k) ((natVs ow)[(bsAt (fitL cs w) k).pv]?.getD 0) (ent ss k * ent ss k * (bsAt (fitL cs w) k).no) := by
      show (match (fitL cs w)[k]?, ss[k]? with | some b, some s => _ | _, _ => _) = _
      rw [bsAt_get (by omega), ent_get (r := ss) (s := k) (by omega)]
    rw [e, pr_astep, anova_RL hs k (by omega), nat_get]
    have hu := used_get (ow := ow) (show k < (fitL cs w).length by omega)
    obtain ⟨h1, h2⟩ := List.getElem?_eq_some_iff.mp hu
    rw [List.take_succ_eq_append_getElem h1, h2]
    unfold RL
    rw [List.foldl_append]; rfl
theorem used_sorted {m : Nat} {cs : List (List Rat)} {y : List Rat} {w : Option (List Rat)} (I : In3 m cs y w) {ow : List Nat} (hl : ow.length = cs.length) (ho : ow.Pairwise (· ≤ ·)) : (usedL ow (pvs cs w)).Pairwise (· ≤ ·) := by
  rw [List.pairwise_iff_getElem]
  intro i j hi hj hij
  have hul : (usedL ow (pvs cs w)).length = (fitL cs w).length := by unfold usedL pvs; simp
  have gi := used_get (cs := cs) (w := w) (ow := ow) (k := i) (by omega)
  have gj := used_get (cs := cs) (w := w) (ow := ow) (k := j) (by omega)
  rw [List.getElem?_eq_getElem hi] at gi
  rw [List.getElem?_eq_getElem hj] at gj
  rw [Option.some.inj gi, Option.some.inj gj]
  have pi := I.o.pvlt i (by omega)
  have pj := I.o.pvlt j (by omega)
  have pij := I.o.pvmono i j hij (by omega)
  rw [List.getElem?_eq_getElem (by omega), List.getElem?_eq_getElem (by omega)]
  exact List.pairwise_iff_getElem.mp ho _ _ _ _ pij
theorem g_rows {m : Nat} {cs : List (List Rat)} {y : List Rat} {w : Option (List Rat)} (I : In3 m cs y w) (ow : List Nat) (hl : ow.length = cs.length) (ho : ow.Pairwise (· ≤ ·)) (js : List Nat) (j1 : js.Pairwise (· < ·)) (j2 : ∀ j, j ∈ js ↔ j ∈ usedL ow (pvs cs w)) :
    (anovaF cs y w ow).map (fun r => (r.te, r.co)) = js.map fun t => (((t : Nat) : Int), (((usedL ow (pvs cs w)).count t : Nat) : Int)) := by
  obtain ⟨js', k1, k2, _, k4⟩ := rle_ok _ (usedL ow (pvs cs w)) rfl (used_sorted I hl ho)
  obtain rfl := sorted_uniq j1 k1 fun j => (j2 j).trans (k2 j).symm
  unfold anovaF
  rw [anova_RL I.rd.fl _ (Nat.le_refl _), List.take_of_length_le (by unfold usedL pvs; simp), k4]
theorem allG : AllG := fun m cs y w I =>
  ⟨pivs_eq I cs.length (Nat.le_refl _), g_cn I, g_sum I, g_pred I, g_orth I, g_tot I, g_rss I, g_df I, g_rows I, g_sq I⟩

end Mine
theorem PySem.Challenge.cw_no0502_01_holds : PySem.Challenge.rw_no0502_01.Holds :=
  Mine.top_holds Mine.allG
