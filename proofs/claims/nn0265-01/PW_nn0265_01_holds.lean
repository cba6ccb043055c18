import PyProof.Rows.All
import Wide.All
import OpenK.AllK
import Wide.FinOn
import PySem.Challenge.RW_nn0265_01
open PySem PySem.W PyProof.Rows PySem.Calls
set_option Elab.async false
set_option maxRecDepth 100000
set_option maxHeartbeats 8000000
namespace Mine
/-! ### the part of the heap that the law reaches, as it stands behind the top -/
noncomputable def topAt (i : Nat) : Stmt := (PySem.Challenge.pw_nn0265_01.main.body[i]?).getD (.Pass default)
noncomputable def initAt : Stmt := match topAt 1 with
  | .ClassDef _ _ _ (st :: _) _ _ _ _ _ _ _ => st
  | st => st
noncomputable def fnO (q : Str) (st : Stmt) (mod : Str) (mt : Tok) (c : Addr) : Obj := match st with
  | .FunctionDef n args body _ _ _ scope _ _ _ => { cls := .type "function", data := .func { name := n, qualname := q, params := args, body := .stmts body, scope := scope, globals := 3, closure := [], defaults := .none, kwdefaults := .none, pyModule := .str mod mt, code := .ref c } }
  | _ => default
noncomputable def hd.heap_39 : Params → Frag := fun P => [
  (3, { cls := .type "dict", data := Data.dict #[{ hash := PyData.keyHash P "__name__", key := .str "__name__" 165, val := .str "law_nn0265_01" 446 }, { hash := PyData.keyHash P "__doc__", key := .str "__doc__" 166, val := .none }, { hash := PyData.keyHash P "__package__", key := .str "__package__" 167, val := .none }, { hash := PyData.keyHash P "__loader__", key := .str "__loader__" 168, val := .builtin "__main__.__loader__#opaque" }, { hash := PyData.keyHash P "__spec__", key := .str "__spec__" 169, val := .none }, { hash := PyData.keyHash P "__annotations__", key := .str "__annotations__" 170, val := .ref 6 }, { hash := PyData.keyHash P "__builtins__", key := .str "__builtins__" 171, val := .ref 4 }, { hash := PyData.keyHash P "__file__", key := .str "__file__" 173, val := .str "/claim/cut.py" 172 }, { hash := PyData.keyHash P "__cached__", key := .str "__cached__" 174, val := .none }, { hash := PyData.keyHash P "CasFail", key := .str "CasFail" 219, val := .ref 31 }, { hash := PyData.keyHash P "gcd", key := .str "gcd" 229, val := .ref 41 }, { hash := PyData.keyHash P "R0", key := .str "R0" 234, val := .ref 42 }, { hash := PyData.keyHash P "R1", key := .str "R1" 237, val := .ref 43 }, { hash := PyData.keyHash P "rat", key := .str "rat" 246, val := .ref 50 }, { hash := PyData.keyHash P "radd", key := .str "radd" 254, val := .ref 57 }, { hash := PyData.keyHash P "rsub", key := .str "rsub" 262, val := .ref 64 }, { hash := PyData.keyHash P "rmul", key := .str "rmul" 270, val := .ref 71 }, { hash := PyData.keyHash P "rdiv", key := .str "rdiv" 278, val := .ref 78 }, { hash := PyData.keyHash P "rcompare", key := .str "rcompare" 287, val := .ref 85 }, { hash := PyData.keyHash P "cut", key := .str "cut" 297, val := .ref 92 }, { hash := PyData.keyHash P "mixed", key := .str "mixed" 308, val := .ref 99 }, { hash := PyData.keyHash P "smul", key := .str "smul" 314, val := .ref 104 }, { hash := PyData.keyHash P "sinverse", key := .str "sinverse" 325, val := .ref 111 }, { hash := PyData.keyHash P "sderive", key := .str "sderive" 331, val := .ref 116 }, { hash := PyData.keyHash P "sintegrate", key := .str "sintegrate" 337, val := .ref 121 }, { hash := PyData.keyHash P "need_begin", key := .str "need_begin" 345, val := .ref 128 }, { hash := PyData.keyHash P "scompose", key := .str "scompose" 356, val := .ref 135 }, { hash := PyData.keyHash P "sreverse", key := .str "sreverse" 367, val := .ref 142 }, { hash := PyData.keyHash P "sexp", key := .str "sexp" 378, val := .ref 149 }, { hash := PyData.keyHash P "slog", key := .str "slog" 385, val := .ref 156 }, { hash := PyData.keyHash P "ssin_cos", key := .str "ssin_cos" 399, val := .ref 163 }, { hash := PyData.keyHash P "ssin", key := .str "ssin" 406, val := .ref 170 }, { hash := PyData.keyHash P "scos", key := .str "scos" 413, val := .ref 177 }, { hash := PyData.keyHash P "satan", key := .str "satan" 421, val := .ref 184 }, { hash := PyData.keyHash P "spower", key := .str "spower" 434, val := .ref 191 }, { hash := PyData.keyHash P "swhole_power", key := .str "swhole_power" 445, val := .ref 198 }, { hash := PyData.keyHash P "_law_take", key := .str "_law_take" 455, val := .ref 205 }, { hash := PyData.keyHash P "_law_box", key := .str "_law_box" 461, val := .ref 210 }, { hash := PyData.keyHash P "_law_low", key := .str "_law_low" 471, val := .ref 217 }, { hash := PyData.keyHash P "_law_plus", key := .str "_law_plus" 477, val := .ref 222 }, { hash := PyData.keyHash P "_law_times", key := .str "_law_times" 491, val := .ref 229 }, { hash := PyData.keyHash P "_law_refused", key := .str "_law_refused" 500, val := .ref 236 }, { hash := PyData.keyHash P "law", key := .str "law" 506, val := .ref 241 }] 43 }),
  (27, { cls := .type "code", data := Data.fields #[.str "__init__" 201, .str "CasFail.__init__" 202, .str "/claim/cut.py" 203, .int 4 0, .int 3 0, .int 0 0, .int 0 0, .int 3 0, .ref 22, .bool true, .int 181 0, .ref 23, .none, .ref 24, .ref 25, .ref 26, .int 207 0, .int 4 0, .str "/claim/cut.py" 208] }),
  (28, fnO "CasFail.__init__" (initAt) "cas.errors" 187 27),
  (30, { cls := .type "dict", data := Data.dict #[{ hash := PyData.keyHash P "__module__", key := .str "__module__" 196, val := .str "cas.errors" 187 }, { hash := PyData.keyHash P "__firstlineno__", key := .str "__firstlineno__" 200, val := .int 2 199 }, { hash := PyData.keyHash P "__init__", key := .str "__init__" 209, val := .ref 28 }, { hash := PyData.keyHash P "__static_attributes__", key := .str "__static_attributes__" 212, val := .ref 29 }, { hash := PyData.keyHash P "__weakref__", key := .str "__weakref__" 214, val := .ref 32 }, { hash := PyData.keyHash P "__doc__", key := .str "__doc__" 215, val := .none }] 3 }),
  (31, { cls := .type "type", data := Data.cls { name := "CasFail", bases := [.type "Exception"], mro := [.ref 31, .type "Exception", .type "BaseException", .type "object"], ns := 30, qualname := "CasFail" }, slots := #[some (.ref 15), none, some (.str "CasFail" 189), some (.str "CasFail" 197), some (.builtin "Exception.__new__"), some (.bool true)] }),
  (40, { cls := .type "code", data := Data.fields #[.str "gcd" 222, .str "gcd" 223, .str "/claim/cut.py" 224, .int 9 0, .int 2 0, .int 0 0, .int 0 0, .int 3 0, .ref 35, .bool true, .int 181 0, .ref 36, .none, .ref 37, .ref 38, .ref 39, .int 227 0, .int 9 0, .str "/claim/cut.py" 228] }),
  (41, fnO "gcd" (topAt 3) "cas.ints" 220 40),
  (42, { cls := .type "tuple", data := Data.seq #[.int 0 232, .int 1 233] }),
  (43, { cls := .type "tuple", data := Data.seq #[.int 1 235, .int 1 236] }),
  (49, { cls := .type "code", data := Data.fields #[.str "rat" 238, .str "rat" 239, .str "/claim/cut.py" 240, .int 17 0, .int 2 0, .int 0 0, .int 0 0, .int 3 0, .ref 44, .bool true, .int 181 0, .ref 45, .none, .ref 46, .ref 47, .ref 48, .int 244 0, .int 17 0, .str "/claim/cut.py" 245] }),
  (50, fnO "rat" (topAt 7) "cas.rats" 230 49),
  (56, { cls := .type "code", data := Data.fields #[.str "radd" 247, .str "radd" 248, .str "/claim/cut.py" 249, .int 22 0, .int 2 0, .int 0 0, .int 0 0, .int 3 0, .ref 51, .bool true, .int 181 0, .ref 52, .none, .ref 53, .ref 54, .ref 55, .int 252 0, .int 22 0, .str "/claim/cut.py" 253] }),
  (57, fnO "radd" (topAt 8) "cas.rats" 230 56),
  (63, { cls := .type "code", data := Data.fields #[.str "rsub" 255, .str "rsub" 256, .str "/claim/cut.py" 257, .int 24 0, .int 2 0, .int 0 0, .int 0 0, .int 3 0, .ref 58, .bool true, .int 181 0, .ref 59, .none, .ref 60, .ref 61, .ref 62, .int 260 0, .int 24 0, .str "/claim/cut.py" 261] }),
  (64, fnO "rsub" (topAt 9) "cas.rats" 230 63),
  (70, { cls := .type "code", data := Data.fields #[.str "rmul" 263, .str "rmul" 264, .str "/claim/cut.py" 265, .int 26 0, .int 2 0, .int 0 0, .int 0 0, .int 3 0, .ref 65, .bool true, .int 181 0, .ref 66, .none, .ref 67, .ref 68, .ref 69, .int 268 0, .int 26 0, .str "/claim/cut.py" 269] }),
  (71, fnO "rmul" (topAt 10) "cas.rats" 230 70),
  (77, { cls := .type "code", data := Data.fields #[.str "rdiv" 271, .str "rdiv" 272, .str "/claim/cut.py" 273, .int 28 0, .int 2 0, .int 0 0, .int 0 0, .int 3 0, .ref 72, .bool true, .int 181 0, .ref 73, .none, .ref 74, .ref 75, .ref 76, .int 276 0, .int 28 0, .str "/claim/cut.py" 277] }),
  (78, fnO "rdiv" (topAt 11) "cas.rats" 230 77),
  (84, { cls := .type "code", data := Data.fields #[.str "rcompare" 279, .str "rcompare" 280, .str "/claim/cut.py" 281, .int 30 0, .int 2 0, .int 0 0, .int 0 0, .int 3 0, .ref 79, .bool true, .int 181 0, .ref 80, .none, .ref 81, .ref 82, .ref 83, .int 285 0, .int 30 0, .str "/claim/cut.py" 286] }),
  (85, fnO "rcompare" (topAt 12) "cas.rats" 230 84),
  (91, { cls := .type "code", data := Data.fields #[.str "cut" 290, .str "cut" 291, .str "/claim/cut.py" 292, .int 34 0, .int 2 0, .int 0 0, .int 0 0, .int 3 0, .ref 86, .bool true, .int 181 0, .ref 87, .none, .ref 88, .ref 89, .ref 90, .int 295 0, .int 34 0, .str "/claim/cut.py" 296] }),
  (92, fnO "cut" (topAt 14) "cas.series" 288 91),
  (98, { cls := .type "code", data := Data.fields #[.str "mixed" 298, .str "mixed" 299, .str "/claim/cut.py" 300, .int 36 0, .int 3 0, .int 0 0, .int 0 0, .int 3 0, .ref 93, .bool true, .int 181 0, .ref 94, .none, .ref 95, .ref 96, .ref 97, .int 306 0, .int 36 0, .str "/claim/cut.py" 307] }),
  (99, fnO "mixed" (topAt 15) "cas.series" 288 98),
  (103, { cls := .type "code", data := Data.fields #[.str "smul" 309, .str "smul" 310, .str "/claim/cut.py" 311, .int 42 0, .int 2 0, .int 0 0, .int 0 0, .int 3 0, .ref 100, .bool true, .int 181 0, .ref 101, .none, .none, .none, .ref 102, .int 312 0, .int 42 0, .str "/claim/cut.py" 313] }),
  (104, fnO "smul" (topAt 16) "cas.series" 288 103),
  (110, { cls := .type "code", data := Data.fields #[.str "sinverse" 315, .str "sinverse" 316, .str "/claim/cut.py" 317, .int 44 0, .int 1 0, .int 0 0, .int 0 0, .int 3 0, .ref 105, .bool true, .int 181 0, .ref 106, .none, .ref 107, .ref 108, .ref 109, .int 323 0, .int 44 0, .str "/claim/cut.py" 324] }),
  (111, fnO "sinverse" (topAt 17) "cas.series" 288 110),
  (115, { cls := .type "code", data := Data.fields #[.str "sderive" 326, .str "sderive" 327, .str "/claim/cut.py" 328, .int 54 0, .int 1 0, .int 0 0, .int 0 0, .int 3 0, .ref 112, .bool true, .int 181 0, .ref 113, .none, .none, .none, .ref 114, .int 329 0, .int 54 0, .str "/claim/cut.py" 330] }),
  (116, fnO "sderive" (topAt 18) "cas.series" 288 115),
  (120, { cls := .type "code", data := Data.fields #[.str "sintegrate" 332, .str "sintegrate" 333, .str "/claim/cut.py" 334, .int 56 0, .int 1 0, .int 0 0, .int 0 0, .int 3 0, .ref 117, .bool true, .int 181 0, .ref 118, .none, .none, .none, .ref 119, .int 335 0, .int 56 0, .str "/claim/cut.py" 336] }),
  (121, fnO "sintegrate" (topAt 19) "cas.series" 288 120),
  (127, { cls := .type "code", data := Data.fields #[.str "need_begin" 338, .str "need_begin" 339, .str "/claim/cut.py" 340, .int 58 0, .int 2 0, .int 0 0, .int 0 0, .int 3 0, .ref 122, .bool true, .int 181 0, .ref 123, .none, .ref 124, .ref 125, .ref 126, .int 343 0, .int 58 0, .str "/claim/cut.py" 344] }),
  (128, fnO "need_begin" (topAt 20) "cas.series" 288 127),
  (134, { cls := .type "code", data := Data.fields #[.str "scompose" 346, .str "scompose" 347, .str "/claim/cut.py" 348, .int 61 0, .int 2 0, .int 0 0, .int 0 0, .int 3 0, .ref 129, .bool true, .int 181 0, .ref 130, .none, .ref 131, .ref 132, .ref 133, .int 354 0, .int 61 0, .str "/claim/cut.py" 355] }),
  (135, fnO "scompose" (topAt 21) "cas.series" 288 134),
  (141, { cls := .type "code", data := Data.fields #[.str "sreverse" 357, .str "sreverse" 358, .str "/claim/cut.py" 359, .int 69 0, .int 1 0, .int 0 0, .int 0 0, .int 3 0, .ref 136, .bool true, .int 181 0, .ref 137, .none, .ref 138, .ref 139, .ref 140, .int 365 0, .int 69 0, .str "/claim/cut.py" 366] }),
  (142, fnO "sreverse" (topAt 22) "cas.series" 288 141),
  (148, { cls := .type "code", data := Data.fields #[.str "sexp" 368, .str "sexp" 369, .str "/claim/cut.py" 370, .int 79 0, .int 1 0, .int 0 0, .int 0 0, .int 3 0, .ref 143, .bool true, .int 181 0, .ref 144, .none, .ref 145, .ref 146, .ref 147, .int 376 0, .int 79 0, .str "/claim/cut.py" 377] }),
  (149, fnO "sexp" (topAt 23) "cas.series" 288 148),
  (155, { cls := .type "code", data := Data.fields #[.str "slog" 379, .str "slog" 380, .str "/claim/cut.py" 381, .int 88 0, .int 1 0, .int 0 0, .int 0 0, .int 3 0, .ref 150, .bool true, .int 181 0, .ref 151, .none, .ref 152, .ref 153, .ref 154, .int 383 0, .int 88 0, .str "/claim/cut.py" 384] }),
  (156, fnO "slog" (topAt 24) "cas.series" 288 155),
  (162, { cls := .type "code", data := Data.fields #[.str "ssin_cos" 386, .str "ssin_cos" 387, .str "/claim/cut.py" 388, .int 93 0, .int 1 0, .int 0 0, .int 0 0, .int 3 0, .ref 157, .bool true, .int 181 0, .ref 158, .none, .ref 159, .ref 160, .ref 161, .int 397 0, .int 93 0, .str "/claim/cut.py" 398] }),
  (163, fnO "ssin_cos" (topAt 25) "cas.series" 288 162),
  (169, { cls := .type "code", data := Data.fields #[.str "ssin" 400, .str "ssin" 401, .str "/claim/cut.py" 402, .int 105 0, .int 1 0, .int 0 0, .int 0 0, .int 3 0, .ref 164, .bool true, .int 181 0, .ref 165, .none, .ref 166, .ref 167, .ref 168, .int 404 0, .int 105 0, .str "/claim/cut.py" 405] }),
  (170, fnO "ssin" (topAt 26) "cas.series" 288 169),
  (176, { cls := .type "code", data := Data.fields #[.str "scos" 407, .str "scos" 408, .str "/claim/cut.py" 409, .int 107 0, .int 1 0, .int 0 0, .int 0 0, .int 3 0, .ref 171, .bool true, .int 181 0, .ref 172, .none, .ref 173, .ref 174, .ref 175, .int 411 0, .int 107 0, .str "/claim/cut.py" 412] }),
  (177, fnO "scos" (topAt 27) "cas.series" 288 176),
  (183, { cls := .type "code", data := Data.fields #[.str "satan" 414, .str "satan" 415, .str "/claim/cut.py" 416, .int 109 0, .int 1 0, .int 0 0, .int 0 0, .int 3 0, .ref 178, .bool true, .int 181 0, .ref 179, .none, .ref 180, .ref 181, .ref 182, .int 419 0, .int 109 0, .str "/claim/cut.py" 420] }),
  (184, fnO "satan" (topAt 28) "cas.series" 288 183),
  (190, { cls := .type "code", data := Data.fields #[.str "spower" 422, .str "spower" 423, .str "/claim/cut.py" 424, .int 116 0, .int 2 0, .int 0 0, .int 0 0, .int 3 0, .ref 185, .bool true, .int 181 0, .ref 186, .none, .ref 187, .ref 188, .ref 189, .int 432 0, .int 116 0, .str "/claim/cut.py" 433] }),
  (191, fnO "spower" (topAt 29) "cas.series" 288 190),
  (197, { cls := .type "code", data := Data.fields #[.str "swhole_power" 435, .str "swhole_power" 436, .str "/claim/cut.py" 437, .int 126 0, .int 2 0, .int 0 0, .int 0 0, .int 3 0, .ref 192, .bool true, .int 181 0, .ref 193, .none, .ref 194, .ref 195, .ref 196, .int 443 0, .int 126 0, .str "/claim/cut.py" 444] }),
  (198, fnO "swhole_power" (topAt 30) "cas.series" 288 197),
  (204, { cls := .type "code", data := Data.fields #[.str "_law_take" 448, .str "_law_take" 449, .str "/claim/cut.py" 450, .int 136 0, .int 2 0, .int 0 0, .int 0 0, .int 3 0, .ref 199, .bool true, .int 181 0, .ref 200, .none, .ref 201, .ref 202, .ref 203, .int 453 0, .int 136 0, .str "/claim/cut.py" 454] }),
  (205, fnO "_law_take" (topAt 32) "law_nn0265_01" 446 204),
  (209, { cls := .type "code", data := Data.fields #[.str "_law_box" 456, .str "_law_box" 457, .str "/claim/cut.py" 458, .int 141 0, .int 1 0, .int 0 0, .int 0 0, .int 3 0, .ref 206, .bool true, .int 181 0, .ref 207, .none, .none, .none, .ref 208, .int 459 0, .int 141 0, .str "/claim/cut.py" 460] }),
  (210, fnO "_law_box" (topAt 33) "law_nn0265_01" 446 209),
  (216, { cls := .type "code", data := Data.fields #[.str "_law_low" 462, .str "_law_low" 463, .str "/claim/cut.py" 464, .int 144 0, .int 2 0, .int 0 0, .int 0 0, .int 3 0, .ref 211, .bool true, .int 181 0, .ref 212, .none, .ref 213, .ref 214, .ref 215, .int 469 0, .int 144 0, .str "/claim/cut.py" 470] }),
  (217, fnO "_law_low" (topAt 34) "law_nn0265_01" 446 216),
  (221, { cls := .type "code", data := Data.fields #[.str "_law_plus" 472, .str "_law_plus" 473, .str "/claim/cut.py" 474, .int 149 0, .int 2 0, .int 0 0, .int 0 0, .int 3 0, .ref 218, .bool true, .int 181 0, .ref 219, .none, .none, .none, .ref 220, .int 475 0, .int 149 0, .str "/claim/cut.py" 476] }),
  (222, fnO "_law_plus" (topAt 35) "law_nn0265_01" 446 221),
  (228, { cls := .type "code", data := Data.fields #[.str "_law_times" 478, .str "_law_times" 479, .str "/claim/cut.py" 480, .int 151 0, .int 2 0, .int 0 0, .int 0 0, .int 3 0, .ref 223, .bool true, .int 181 0, .ref 224, .none, .ref 225, .ref 226, .ref 227, .int 489 0, .int 151 0, .str "/claim/cut.py" 490] }),
  (229, fnO "_law_times" (topAt 36) "law_nn0265_01" 446 228),
  (235, { cls := .type "code", data := Data.fields #[.str "_law_refused" 492, .str "_law_refused" 493, .str "/claim/cut.py" 494, .int 160 0, .int 2 0, .int 0 0, .int 0 0, .int 3 0, .ref 230, .bool true, .int 181 0, .ref 231, .none, .ref 232, .ref 233, .ref 234, .int 498 0, .int 160 0, .str "/claim/cut.py" 499] }),
  (236, fnO "_law_refused" (topAt 37) "law_nn0265_01" 446 235),
  (240, { cls := .type "code", data := Data.fields #[.str "law" 501, .str "law" 502, .str "/claim/cut.py" 503, .int 166 0, .int 1 0, .int 0 0, .int 0 0, .int 3 0, .ref 237, .bool true, .int 181 0, .ref 238, .none, .none, .none, .ref 239, .int 504 0, .int 166 0, .str "/claim/cut.py" 505] }),
  (241, fnO "law" (topAt 38) "law_nn0265_01" 446 240)]
noncomputable def hd.adr : List Addr := [3, 27, 28, 30, 31, 40, 41, 42, 43, 49, 50, 56, 57, 63, 64, 70, 71, 77, 78, 84, 85, 91, 92, 98, 99, 103, 104, 110, 111, 115, 116, 120, 121, 127, 128, 134, 135, 141, 142, 148, 149, 155, 156, 162, 163, 169, 170, 176, 177, 183, 184, 190, 191, 197, 198, 204, 205, 209, 210, 216, 217, 221, 222, 228, 229, 235, 236, 240, 241]
noncomputable def hd.lo : List Str := [Str.ofString "CasFail", Str.ofString "gcd", Str.ofString "R0", Str.ofString "R1", Str.ofString "rat", Str.ofString "radd", Str.ofString "rsub", Str.ofString "rmul", Str.ofString "rdiv", Str.ofString "rcompare", Str.ofString "cut", Str.ofString "mixed", Str.ofString "smul", Str.ofString "sinverse", Str.ofString "sderive", Str.ofString "sintegrate", Str.ofString "need_begin", Str.ofString "scompose", Str.ofString "sreverse", Str.ofString "sexp", Str.ofString "slog", Str.ofString "ssin_cos", Str.ofString "ssin", Str.ofString "scos", Str.ofString "satan", Str.ofString "spower", Str.ofString "swhole_power", Str.ofString "_law_take", Str.ofString "_law_box", Str.ofString "_law_low", Str.ofString "_law_plus", Str.ofString "_law_times", Str.ofString "_law_refused"]
end Mine
namespace Mine
/-! ## pure values and how a heap bears them -/
inductive D where
  | none
  | bool (b : Bool)
  | int (i : Int)
  | str (x : Str)
  | fn (a : Addr)
  | tup (ds : List D)
  | lst (ds : List D)
noncomputable abbrev View := Addr → Option Obj
noncomputable def tupO (vs : List Value) (n : Nat) : Obj := { cls := .type "tuple", dict := Option.none, data := .seq vs.toArray n, slots := #[] }
noncomputable def lstO (vs : List Value) (n : Nat) : Obj := { cls := .type "list", dict := Option.none, data := .seq vs.toArray n, slots := #[] }
mutual
inductive Rep (V : View) : Value → D → Prop
  | none : Rep V Value.none D.none
  | bool (b : Bool) : Rep V (Value.bool b) (D.bool b)
  | int (i : Int) (t : Tok) : Rep V (Value.int i t) (D.int i)
  | str (x : Str) (t : Tok) : Rep V (Value.str x t) (D.str x)
  | fn (a : Addr) : Rep V (Value.ref a) (D.fn a)
  | tup {a : Addr} {vs : List Value} {n : Nat} {ds : List D} : V a = some (tupO vs n) → Reps V vs ds → Rep V (Value.ref a) (D.tup ds)
  | lst {a : Addr} {vs : List Value} {n : Nat} {ds : List D} : V a = some (lstO vs n) → Reps V vs ds → Rep V (Value.ref a) (D.lst ds)
inductive Reps (V : View) : List Value → List D → Prop
  | nil : Reps V [] []
  | cons {v : Value} {vs : List Value} {d : D} {ds : List D} : Rep V v d → Reps V vs ds → Reps V (v :: vs) (d :: ds)
end
noncomputable def isSeq (o : Obj) : Prop := ∃ T vs n, o = { cls := .type T, dict := Option.none, data := .seq vs n, slots := #[] }
theorem isSeq_tup {vs n} : isSeq (tupO vs n) := ⟨_, _, _, rfl⟩
theorem isSeq_lst {vs n} : isSeq (lstO vs n) := ⟨_, _, _, rfl⟩
/-- what a view shows of lists and tuples, another shows too -/
noncomputable def Sub (V V' : View) : Prop := ∀ a o, isSeq o → V a = some o → V' a = some o
theorem Sub.refl (V : View) : Sub V V := fun _ _ _ e => e
theorem Sub.trans {V₁ V₂ V₃ : View} (h : Sub V₁ V₂) (k : Sub V₂ V₃) : Sub V₁ V₃ := fun a o s e => k a o s (h a o s e)
mutual
theorem Rep.mono {V V' : View} (s : Sub V V') : ∀ {v : Value} {d : D}, Rep V v d → Rep V' v d
  | _, _, .none => .none
  | _, _, .bool b => .bool b
  | _, _, .int i t => .int i t
  | _, _, .str x t => .str x t
  | _, _, .fn a => .fn a
  | _, _, .tup h r => .tup (s _ _ isSeq_tup h) (Reps.mono s r)
  | _, _, .lst h r => .lst (s _ _ isSeq_lst h) (Reps.mono s r)
theorem Reps.mono {V V' : View} (s : Sub V V') : ∀ {vs : List Value} {ds : List D}, Reps V vs ds → Reps V' vs ds
  | _, _, .nil => .nil
  | _, _, .cons h r => .cons (Rep.mono s h) (Reps.mono s r)
end
theorem Reps.length {V : View} {vs : List Value} : ∀ {ds : List D}, Reps V vs ds → vs.length = ds.length := by
  induction vs with
  | nil => intro ds h; cases h; rfl
  | cons v vs ih => intro ds h; cases h with | cons _ r => simp [ih r]
theorem Reps.get {V : View} {vs : List Value} : ∀ {ds : List D} {k : Nat} {d : D}, Reps V vs ds → ds[k]? = some d → ∃ v, vs[k]? = some v ∧ Rep V v d := by
  induction vs with
  | nil => intro ds k d h e; cases h; simp at e
  | cons v vs ih =>
    intro ds k d h e
    cases h with
    | cons h r =>
      cases k with
      | zero => exact ⟨v, rfl, by simp at e; subst e; exact h⟩
      | succ k => exact ih r (by simpa using e)
theorem Reps.append {V : View} {vs ws : List Value} : ∀ {ds es : List D}, Reps V vs ds → Reps V ws es → Reps V (vs ++ ws) (ds ++ es) := by
  induction vs with
  | nil => intro ds es h k; cases h; exact k
  | cons v vs ih => intro ds es h k; cases h with | cons h r => exact .cons h (ih r k)
theorem Reps.take {V : View} {vs : List Value} : ∀ {ds : List D} (k : Nat), Reps V vs ds → Reps V (vs.take k) (ds.take k) := by
  induction vs with
  | nil => intro ds k h; cases h; simp; exact .nil
  | cons v vs ih =>
    intro ds k h
    cases h with
    | cons h r =>
      cases k with
      | zero => exact .nil
      | succ k => exact .cons h (ih k r)
theorem Reps.drop {V : View} {vs : List Value} : ∀ {ds : List D} (k : Nat), Reps V vs ds → Reps V (vs.drop k) (ds.drop k) := by
  induction vs with
  | nil => intro ds k h; cases h; simp; exact .nil
  | cons v vs ih =>
    intro ds k h
    cases h with
    | cons h r =>
      cases k with
      | zero => exact .cons h r
      | succ k => exact ih k r
theorem Reps.set {V : View} {vs : List Value} {v : Value} {d : D} (hv : Rep V v d) : ∀ {ds : List D} (k : Nat), Reps V vs ds → Reps V (vs.set k v) (ds.set k d) := by
  induction vs with
  | nil => intro ds k h; cases h; exact .nil
  | cons u vs ih =>
    intro ds k h
    cases h with
    | cons h r =>
      cases k with
      | zero => exact .cons hv r
      | succ k => exact .cons h (ih k r)
theorem Reps.one {V : View} {v : Value} {d : D} (h : Rep V v d) : Reps V [v] [d] := .cons h .nil
/-- the heap without the lists that a frame still owns -/
noncomputable def hid (h : Heap) (O : List Addr) : View := fun a => if a ∈ O then Option.none else h.get? a
theorem hid_of {h : Heap} {O : List Addr} {a : Addr} {o : Obj} (e : hid h O a = some o) : h.get? a = some o ∧ a ∉ O := by
  unfold hid at e
  split at e
  · cases e
  · rename_i q; exact ⟨e, q⟩
theorem hid_mk {h : Heap} {O : List Addr} {a : Addr} {o : Obj} (e : h.get? a = some o) (q : a ∉ O) : hid h O a = some o := by
  unfold hid; rw [if_neg q]; exact e
noncomputable def Keep (h h' : Heap) : Prop := ∀ b o, h.get? b = some o → h'.get? b = some o
theorem Keep.refl (h : Heap) : Keep h h := fun _ _ e => e
theorem Keep.trans {h₁ h₂ h₃ : Heap} (a : Keep h₁ h₂) (b : Keep h₂ h₃) : Keep h₁ h₃ := fun x o e => b x o (a x o e)
theorem Keep.push {h : Heap} (o : Obj) : Keep h (h.push o) := fun _ _ e => Heap.get?_push_of_some _ e
theorem hid_keep {h h' : Heap} {O : List Addr} (k : Keep h h') : Sub (hid h O) (hid h' O) := fun a o _ e => hid_mk (k _ _ (hid_of e).1) (hid_of e).2
theorem hid_fewer {h : Heap} {O O' : List Addr} (k : ∀ a ∈ O', a ∈ O) : Sub (hid h O) (hid h O') := fun a o _ e => hid_mk (hid_of e).1 fun m => (hid_of e).2 (k a m)
/-- hiding an address that the old heap did not have -/
theorem hid_more {h h' : Heap} {O : List Addr} {a : Addr} (k : Keep h h') (n : h.get? a = Option.none) : Sub (hid h O) (hid h' (a :: O)) := fun b o _ e =>
  hid_mk (k _ _ (hid_of e).1) fun m => by
    rcases List.mem_cons.mp m with rfl | m
    · rw [(hid_of e).1] at n; cases n
    · exact (hid_of e).2 m
theorem hid_sameBut {h h' : Heap} {O : List Addr} {a : Addr} (s : Heap.SameBut a h h') (m : a ∈ O) : Sub (hid h O) (hid h' O) := fun b o _ e =>
  hid_mk ((s.2 b fun q => (hid_of e).2 (q ▸ m)).trans (hid_of e).1) (hid_of e).2
/-- a frame's dict, a cell: no list or tuple -/
theorem hid_sameNs {h h' : Heap} {O : List Addr} {L : Addr} {m : Str → Option Value} (n : h.Ns L m) (s : Heap.SameBut L h h') : Sub (hid h O) (hid h' O) := fun b o q e => by
  refine hid_mk ((s.2 b fun x => ?_).trans (hid_of e).1) (hid_of e).2
  subst x
  obtain ⟨o', es, ep, ho, hd, _⟩ := n
  rw [(hid_of e).1] at ho
  obtain ⟨T, vs, n, rfl⟩ := q
  cases ho; cases hd
theorem hid_sameCell {h h' : Heap} {O : List Addr} {c : Addr} {v : Option Value} (n : h.IsCell c v) (s : Heap.SameBut c h h') : Sub (hid h O) (hid h' O) := fun b o q e => by
  refine hid_mk ((s.2 b fun x => ?_).trans (hid_of e).1) (hid_of e).2
  subst x
  obtain ⟨o', ho, hd⟩ := n
  rw [(hid_of e).1] at ho
  obtain ⟨T, vs, n, rfl⟩ := q
  cases ho; cases hd
/-! ## equality of pure values as the interpreter tells it -/
mutual
noncomputable def toP : D → Option PyData
  | .none => some .none
  | .int i => some (.int i)
  | .tup ds => (toPs ds).map .tuple
  | .lst ds => (toPs ds).map .list
  | _ => Option.none
noncomputable def toPs : List D → Option (List PyData)
  | [] => some []
  | d :: ds => match toP d, toPs ds with
    | some x, some xs => some (x :: xs)
    | _, _ => Option.none
end
mutual
theorem Rep.reads {h : Heap} : ∀ {v : Value} {d : D} {x : PyData}, Rep h.get? v d → toP d = some x → ∃ as, Reads h v x as
  | _, _, _, .none, e => by rw [toP] at e; cases e; exact ⟨_, .none⟩
  | _, _, _, .bool b, e => by rw [toP] at e <;> first | cases e | (intros; contradiction)
  | _, _, _, .int i t, e => by rw [toP] at e; cases e; exact ⟨_, .int i t⟩
  | _, _, _, .str x t, e => by rw [toP] at e <;> first | cases e | (intros; contradiction)
  | _, _, _, .fn a, e => by rw [toP] at e <;> first | cases e | (intros; contradiction)
  | _, _, _, .tup hm r, e => by
    rw [toP] at e
    obtain ⟨xs, hx, rfl⟩ := Option.map_eq_some_iff.mp e
    obtain ⟨as, q⟩ := Reps.reads r hx
    exact ⟨_, reads_tuple_at hm rfl rfl (by simpa using q)⟩
  | _, _, _, .lst hm r, e => by
    rw [toP] at e
    obtain ⟨xs, hx, rfl⟩ := Option.map_eq_some_iff.mp e
    obtain ⟨as, q⟩ := Reps.reads r hx
    exact ⟨_, reads_list_at hm rfl rfl (by simpa using q)⟩
theorem Reps.reads {h : Heap} : ∀ {vs : List Value} {ds : List D} {xs : List PyData}, Reps h.get? vs ds → toPs ds = some xs → ∃ as, ReadsAll h vs xs as
  | _, _, _, .nil, e => by rw [toPs] at e; cases e; exact ⟨_, .nil⟩
  | _, _, _, .cons hd r, e => by
    rw [toPs] at e
    split at e
    · rename_i x xs h1 h2
      cases e
      obtain ⟨as, q⟩ := Rep.reads hd h1
      obtain ⟨bs, p⟩ := Reps.reads r h2
      exact ⟨_, .cons q p⟩
    · cases e
end
noncomputable def eqD (a b : D) : Option Bool := match toP a, toP b with
  | some x, some y => if SeqAt.shaped x && SeqAt.shaped y then some (x.eqv y) else Option.none
  | _, _ => Option.none
end Mine
namespace Mine
noncomputable def small (i : Int) : Bool := decide (i.natAbs < 2 ^ 60)
noncomputable def okLen (n : Nat) : Bool := decide (n ≤ 1000)
noncomputable def binD : Operator → D → D → Option D
  | .Add, .int a, .int b => some (.int (a + b))
  | .Sub, .int a, .int b => some (.int (a - b))
  | .Mult, .int a, .int b => if small a || small b then some (.int (a * b)) else Option.none
  | .FloorDiv, .int a, .int b => if small b && decide (b ≠ 0) then some (.int (a.fdiv b)) else Option.none
  | .Mod, .int a, .int b => if decide (b ≠ 0) then some (.int (a.fmod b)) else Option.none
  | .Sub, .bool a, .bool b => some (.int (b2i a - b2i b))
  | .Add, .lst a, .lst b => if okLen (a.length + b.length) then some (.lst (a ++ b)) else Option.none
  | .Mult, .lst [d], .int k => if small k && okLen k.toNat then some (.lst (List.replicate k.toNat d)) else Option.none
  | _, _, _ => Option.none
noncomputable def cmpD : CmpOp → D → D → Option Bool
  | .Eq, .int a, .int b => some (a == b)
  | .NotEq, .int a, .int b => some (a != b)
  | .Lt, .int a, .int b => some (decide (a < b))
  | .Gt, .int a, .int b => some (decide (b < a))
  | .LtE, .int a, .int b => some (decide (a ≤ b))
  | .Eq, .tup a, .tup b => eqD (.tup a) (.tup b)
  | .Eq, .lst a, .lst b => eqD (.lst a) (.lst b)
  | .NotEq, .tup a, .tup b => (eqD (.tup a) (.tup b)).map (!·)
  | .NotEq, .lst a, .lst b => (eqD (.lst a) (.lst b)).map (!·)
  | _, _, _ => Option.none
noncomputable def itemD : List D → D → Option D
  | ds, .int k => if decide (0 ≤ k) && small k then ds[k.toNat]? else Option.none
  | _, _ => Option.none
inductive Bi where
  | abs | len | min | list
noncomputable def bName : Bi → Str
  | .abs => "abs" | .len => "len" | .min => "min" | .list => "list"
noncomputable def bVal : Bi → Value
  | .abs => .builtin "abs" | .len => .builtin "len" | .min => .builtin "min" | .list => .type "list"
noncomputable def bOf (x : Str) : Option Bi :=
  if x = bName .abs then some .abs else if x = bName .len then some .len else if x = bName .min then some .min else if x = bName .list then some .list else Option.none
theorem bOf_name {x : Str} {b : Bi} (h : bOf x = some b) : x = bName b := by
  unfold bOf at h
  repeat (split at h; · rename_i q; cases h; exact q)
  cases h
noncomputable def bCall : Bi → List D → Option D
  | .abs, [.int a] => some (.int (if a < 0 then -a else a))
  | .len, [.lst ds] => if okLen ds.length then some (.int ds.length) else Option.none
  | .min, [.int a, .int b] => some (.int (if b < a then b else a))
  | .list, [.lst ds] => if okLen ds.length then some (.lst ds) else Option.none
  | _, _ => Option.none
section
variable {prog : Program} {w : World} {A : Around} {E : Value → Shared → Prop} {s : Shared}
theorem okLen_line {n : Nat} (h : okLen n = true) : n ≤ sizeLine := by
  have := of_decide_eq_true h
  rw [sizeLine_eq]; omega
theorem small_lt {i : Int} (h : small i = true) : -(2 ^ 60) < i ∧ i < 2 ^ 60 := by
  have := of_decide_eq_true h
  omega
theorem small_bits {i : Int} (h : small i = true) : Builtin.Int.intBits i ≤ 64 := by
  have := small_lt h
  exact intBits_le_64 (by omega) (by omega)
theorem small_py {x y : Int} (h : small y = true) : Builtin.divisionGoesByPylong x y = false := by
  refine PyProof.noPylong_of_log2 ?_
  have h := of_decide_eq_true h
  by_cases h0 : y.natAbs = 0
  · rw [h0]; decide +kernel
  · have h30 : y.natAbs.log2 < 60 := (Nat.log2_lt h0).mpr h
    omega
theorem mulK {l : Addr} {items : Array Value} {k : Nat} {x : Int} {u : Tok} {Q : Value → Shared → Prop}
    (hl : s.heap.get? l = some { cls := .type "list", dict := Option.none, data := .seq items k, slots := #[] })
    (hlo : -(2 ^ 63 : Int) ≤ x) (hhi : x < 2 ^ 63) (hsz : items.size * x.toNat ≤ 2 ^ 24)
    (h : Q (.ref s.heap.objs.size) { s with heap := s.heap.push { cls := .type "list", data := .seq (List.foldl (fun x1 x2 => x1 ++ x2) #[] (List.replicate (if items.isEmpty = true then 0 else x.toNat) items)) } }) :
    wpAny (model prog w) A (binaryOp .Mult (.ref l) (.int x u)) Q E s :=
  wpAny_binaryOp_repeat_ref (T := "list") (U := "int") (by decide) ⟨_, hl, rfl⟩ (fun s' => typeIs_int s' x u) noFill_list_mul F.fills_int_mul F.slot_int_rmul repeat_list F.slot_int_index.lookup
    (call_meets F.slot_int_rmul (typeIs_int s x u) F.entry_int_rmul (F.args_int_rmul_2 _ _) (int___rmul___int_list x u l items k)
      ⟨hl, rfl, ⟨_, hl, rfl⟩, call_meets F.slot_list_mul ⟨_, hl, rfl⟩ F.entry_list_mul (F.args_list_mul_2 _ _)
        (AutoListH.list___mul___list_int_3 l items k x u (by simp [Builtin.List.listFitsIndex]; omega) (by omega) (by simp [Builtin.List.listTooLong, sizeLine]; omega))
        ⟨hl, h⟩⟩)
theorem rep_fold (v : Value) : ∀ (k : Nat) (acc : List Value), (List.replicate k #[v]).foldl (fun x1 x2 => x1 ++ x2) acc.toArray = (acc ++ List.replicate k v).toArray
  | 0, acc => by simp
  | k + 1, acc => by
    have e : acc.toArray ++ #[v] = (acc ++ [v]).toArray := by simp
    rw [List.replicate_succ, List.foldl_cons, e, rep_fold v k (acc ++ [v])]
    simp [List.replicate_succ]
theorem rep_mul (v : Value) (k : Nat) : List.foldl (fun x1 x2 => x1 ++ x2) #[] (List.replicate (if [v].toArray.isEmpty = true then 0 else k) [v].toArray) = (List.replicate k v).toArray := by
  rw [if_neg (by simp)]
  simpa using rep_fold v k []
theorem size_int {V : View} {vs : List Value} {ds : List D} (r : Reps V vs ds) : (vs.toArray.size : Int) = (ds.length : Int) := by
  rw [List.size_toArray, r.length]
theorem Rep.new_lst {h : Heap} {O : List Addr} {vs : List Value} {ds : List D} (hO : ∀ a ∈ O, a < h.objs.size) (r : Reps (hid h O) vs ds) :
    Rep (hid (h.push { cls := .type "list", data := .seq vs.toArray }) O) (.ref h.objs.size) (.lst ds) :=
  .lst (n := 0) (hid_mk (Heap.get?_push_size _ rfl) fun m => Nat.lt_irrefl _ (hO _ m)) (r.mono (hid_keep (Keep.push _)))
theorem Rep.new_tup {h : Heap} {O : List Addr} {vs : List Value} {ds : List D} (hO : ∀ a ∈ O, a < h.objs.size) (r : Reps (hid h O) vs ds) :
    Rep (hid (h.push { cls := .type "tuple", data := .seq vs.toArray }) O) (.ref h.objs.size) (.tup ds) :=
  .tup (n := 0) (hid_mk (Heap.get?_push_size _ rfl) fun m => Nat.lt_irrefl _ (hO _ m)) (r.mono (hid_keep (Keep.push _)))
/-- what an expression's continuation is handed -/
noncomputable abbrev Ret (s : Shared) (O : List Addr) (d : D) (Q : Value → Shared → Prop) : Prop :=
  ∀ v h' tk', Keep s.heap h' → Rep (hid h' O) v d → Q v { s with heap := h', toks := tk' }
theorem Reps.rep {V : View} {v : Value} {d : D} (h : Rep V v d) : ∀ k : Nat, Reps V (List.replicate k v) (List.replicate k d)
  | 0 => .nil
  | k + 1 => .cons h (Reps.rep h k)
theorem sound_bin {O : List Addr} {op : Operator} {a b d : D} {va vb : Value} {Q : Value → Shared → Prop} (hO : ∀ a ∈ O, a < s.heap.objs.size)
    (e : binD op a b = some d) (ra : Rep (hid s.heap O) va a) (rb : Rep (hid s.heap O) vb b) (h : Ret s O d Q) : wpAny (model prog w) A (binaryOp op va vb) Q E s := by
  unfold binD at e
  split at e
  · cases e; cases ra; cases rb
    exact PyProof.Rows.add_int (h _ _ _ (Keep.refl _) (.int _ _))
  · cases e; cases ra; cases rb
    exact PyProof.Rows.sub_int (h _ _ _ (Keep.refl _) (.int _ _))
  · split at e
    · rename_i hs
      cases e; cases ra; cases rb
      refine PyProof.Rows.mul_int (h _ _ _ (Keep.refl _) (.int _ _)) ?_
      rcases Bool.or_eq_true_iff.mp hs with q | q
      · exact IntMulOk.of_left (small_bits q)
      · exact IntMulOk.of_right (small_bits q)
    · cases e
  · split at e
    · rename_i hs
      cases e; cases ra; cases rb
      have hs := Bool.and_eq_true_iff.mp hs
      have hb := small_lt hs.1
      exact floordiv_int (of_decide_eq_true hs.2) (h _ _ _ (Keep.refl _) (.int _ _)) (Or.inl (small_py hs.1))
    · cases e
  · split at e
    · rename_i hs
      cases e; cases ra; cases rb
      exact mod_int' (of_decide_eq_true hs) (h _ _ _ (Keep.refl _) (.int _ _))
    · cases e
  · cases e; cases ra; cases rb
    exact sub_bool (h _ _ _ (Keep.refl _) (.int _ _))
  · split at e
    · rename_i hs
      cases e
      cases ra with
      | lst ga ra =>
        cases rb with
        | lst gb rb =>
          have hl := okLen_line hs
          have la := ra.length
          have lb := rb.length
          refine P.add_list (hid_of ga).1 (hid_of gb).1 ?_ (by simp only [List.size_toArray]; omega)
          have e1 : ∀ x y : List Value, x.toArray ++ y.toArray = (x ++ y).toArray := by simp
          rw [e1]
          exact h _ _ _ (Keep.push _) (Rep.new_lst hO (ra.append rb))
    · cases e
  · split at e
    · rename_i hs
      cases e
      have hs := Bool.and_eq_true_iff.mp hs
      have hk := small_lt hs.1
      have hn : _ ≤ 1000 := of_decide_eq_true hs.2
      cases rb
      cases ra with
      | lst ga ra =>
        cases ra with
        | cons r1 r2 =>
          cases r2
          refine mulK (hid_of ga).1 (by omega) (by omega) (by simp only [List.size_toArray, List.length_cons, List.length_nil]; omega) ?_
          rw [rep_mul]
          exact h _ _ _ (Keep.push _) (Rep.new_lst hO (Reps.rep r1 _))
    · cases e
  · cases e
theorem hid_get {h : Heap} {O : List Addr} : Sub (hid h O) h.get? := fun _ _ _ e => (hid_of e).1
theorem sound_eqD {O : List Addr} {a b : D} {x : Bool} {va vb : Value} {Q : Value → Shared → Prop} (hu : A.units + 64 < cLine)
    (e : eqD a b = some x) (ra : Rep (hid s.heap O) va a) (rb : Rep (hid s.heap O) vb b) (h : Q (.bool x) s) : wpAny (model prog w) A (compareOp .Eq va vb) Q E s := by
  unfold eqD at e
  split at e
  · rename_i p q h1 h2
    split at e
    · rename_i hs
      cases e
      have hs := Bool.and_eq_true_iff.mp hs
      obtain ⟨_, r1⟩ := (ra.mono hid_get).reads h1
      obtain ⟨_, r2⟩ := (rb.mono hid_get).reads h2
      exact eq_dataH r1 r2 hs.1 hs.2 hu h
    · cases e
  · cases e
theorem sound_neD {O : List Addr} {a b : D} {x : Bool} {va vb : Value} {Q : Value → Shared → Prop} (hu : A.units + 64 < cLine)
    (e : eqD a b = some x) (ra : Rep (hid s.heap O) va a) (rb : Rep (hid s.heap O) vb b) (h : Q (.bool !x) s) : wpAny (model prog w) A (compareOp .NotEq va vb) Q E s := by
  unfold eqD at e
  split at e
  · rename_i p q h1 h2
    split at e
    · rename_i hs
      cases e
      have hs := Bool.and_eq_true_iff.mp hs
      obtain ⟨_, r1⟩ := (ra.mono hid_get).reads h1
      obtain ⟨_, r2⟩ := (rb.mono hid_get).reads h2
      exact ne_dataH r1 r2 hs.1 hs.2 hu h
    · cases e
  · cases e
theorem sound_cmp {O : List Addr} {op : CmpOp} {a b : D} {x : Bool} {va vb : Value} {Q : Value → Shared → Prop} (hu : A.units + 64 < cLine)
    (e : cmpD op a b = some x) (ra : Rep (hid s.heap O) va a) (rb : Rep (hid s.heap O) vb b) (h : Q (.bool x) s) : wpAny (model prog w) A (compareOp op va vb) Q E s := by
  unfold cmpD at e
  split at e
  · cases e; cases ra; cases rb; exact eq_int h
  · cases e; cases ra; cases rb; exact ne_int h
  · cases e; cases ra; cases rb; exact lt_int h
  · cases e; cases ra; cases rb; exact gt_int h
  · cases e; cases ra; cases rb; exact le_int h
  · exact sound_eqD hu e ra rb h
  · exact sound_eqD hu e ra rb h
  · obtain ⟨y, hy, rfl⟩ := Option.map_eq_some_iff.mp e
    exact sound_neD hu hy ra rb h
  · obtain ⟨y, hy, rfl⟩ := Option.map_eq_some_iff.mp e
    exact sound_neD hu hy ra rb h
  · cases e
theorem getElem_arr {vs : List Value} {k : Nat} : vs.toArray[k]? = vs[k]? := by simp
theorem sound_item_lst {O : List Addr} {value slice : Expr} {a : Addr} {vs : List Value} {n : Nat} {ds : List D} {k d : D} {vk : Value} {Q : Value → Shared → Prop}
    (hs : ∀ t k, subscripted slice false (.ref a) (.int k t) = operate [.ref a, .int k t] (getItem (.ref a) (.int k t)))
    (g : s.heap.get? a = some (lstO vs n)) (r : Reps (hid s.heap O) vs ds) (e : itemD ds k = some d) (rk : Rep (hid s.heap O) vk k) (h : ∀ v, Rep (hid s.heap O) v d → Q v s) :
    wpAny (model prog w) A (subscriptTail value slice (.ref a) vk) Q E s := by
  unfold itemD at e
  split at e
  · split at e
    · rename_i q
      have q := Bool.and_eq_true_iff.mp q
      have h1 := small_lt q.2
      obtain ⟨v, hv, rv⟩ := r.get e
      cases rk
      have hl : s.heap.IsList a vs.toArray := ⟨_, g, rfl, n, rfl⟩
      exact tail_any hl.typeIs slot_list_getitem.lookup (wpAny_getItem_list hl (of_decide_eq_true q.1) (by omega) (by rw [getElem_arr]; exact hv) (h v rv)) (hs _ _)
    · cases e
  · cases e
theorem sound_item_tup {O : List Addr} {value slice : Expr} {a : Addr} {vs : List Value} {n : Nat} {ds : List D} {k d : D} {vk : Value} {Q : Value → Shared → Prop}
    (hs : ∀ t k, subscripted slice false (.ref a) (.int k t) = operate [.ref a, .int k t] (getItem (.ref a) (.int k t)))
    (g : s.heap.get? a = some (tupO vs n)) (r : Reps (hid s.heap O) vs ds) (e : itemD ds k = some d) (rk : Rep (hid s.heap O) vk k) (h : ∀ v, Rep (hid s.heap O) v d → Q v s) :
    wpAny (model prog w) A (subscriptTail value slice (.ref a) vk) Q E s := by
  unfold itemD at e
  split at e
  · split at e
    · rename_i q
      have q := Bool.and_eq_true_iff.mp q
      have h1 := small_lt q.2
      have h0 := of_decide_eq_true q.1
      obtain ⟨v, hv, rv⟩ := r.get e
      cases rk
      have ht : IsTup s.heap a vs.toArray := ⟨_, g, rfl, n, rfl⟩
      have hlt : _ < vs.length := (List.getElem?_eq_some_iff.mp hv).1
      exact item_tupleT ht (by omega) (by omega) (by unfold seqIndex?; simp; omega) hv (h v rv) (hs _ _)
    · cases e
  · cases e
theorem sound_bi {O : List Addr} {b : Bi} {ds : List D} {d : D} {vs : List Value} {Q : Value → Shared → Prop} (hh : A.handled = Option.none) (hO : ∀ a ∈ O, a < s.heap.objs.size)
    (e : bCall b ds = some d) (r : Reps (hid s.heap O) vs ds) (h : Ret s O d Q) : wpAny (model prog w) A (call (bVal b) vs) Q E s := by
  unfold bCall at e
  split at e
  · cases e
    cases r with
    | cons r1 r2 =>
      cases r2; cases r1
      exact PyProof.Rows.call_abs_int fun u tk => h _ _ _ (Keep.refl _) (.int _ _)
  · split at e
    · rename_i hl
      cases e
      cases r with
      | cons r1 r2 =>
        cases r2
        cases r1 with
        | lst g r =>
          have hn := of_decide_eq_true hl
          have hl := r.length
          refine call_len_list ⟨_, (hid_of g).1, rfl, _, rfl⟩ (by simp only [List.size_toArray]; omega) ?_
          rw [size_int r]
          exact h _ _ _ (Keep.refl _) (.int _ _)
    · cases e
  · cases e
    cases r with
    | cons r1 r2 =>
      cases r2 with
      | cons r2 r3 =>
        cases r3; cases r1; cases r2
        refine min_two_ints hh fun h' tk k => ?_
        have q := fun t => h (.int (if _ < _ then _ else _) t) h' tk k (.int _ _)
        split
        · rename_i c; have q := q; simp only [if_pos c] at q; exact q _
        · rename_i c; have q := q; simp only [if_neg c] at q; exact q _
  · split at e
    · rename_i hl
      cases e
      cases r with
      | cons r1 r2 =>
        cases r2
        cases r1 with
        | lst g r =>
          have hn := okLen_line hl
          have hl := r.length
          refine call_list_seq _ (.inl rfl) (hid_of g).1 rfl rfl (fun h' c' k g' => ?_) (by simp only [List.size_toArray]; omega)
          exact h _ _ _ k (.lst (hid_mk g' fun m => Nat.lt_irrefl _ (hO _ m)) (r.mono (hid_keep k)))
    · cases e
  · cases e
end
end Mine
namespace Mine
/-! ## names -/
noncomputable abbrev Rho := List (Str × D)
noncomputable abbrev Sig := List (Str × List D)
noncomputable def get {α : Type} (x : Str) : List (Str × α) → Option α
  | [] => Option.none
  | (y, d) :: r => if x = y then some d else get x r
noncomputable def put {α : Type} (x : Str) (d : α) : List (Str × α) → List (Str × α)
  | [] => [(x, d)]
  | (y, e) :: r => if x = y then (x, d) :: r else (y, e) :: put x d r
noncomputable def del {α : Type} (x : Str) : List (Str × α) → List (Str × α)
  | [] => []
  | (y, e) :: r => if x = y then del x r else (y, e) :: del x r
theorem get_put {α : Type} (x y : Str) (d : α) : ∀ l : List (Str × α), get y (put x d l) = if y = x then some d else get y l
  | [] => by simp only [put, get]
  | (z, e) :: r => by
    have ih := get_put x y d r
    simp only [put, get]
    by_cases h : x = z
    · subst h
      simp only [if_true, get]
      by_cases q : y = x <;> simp [q]
    · rw [if_neg h]
      simp only [get, ih]
      by_cases q : y = z
      · subst q
        rw [if_pos rfl, if_neg (fun e => h e.symm), if_pos rfl]
      · rw [if_neg q, if_neg q]
theorem get_del {α : Type} (x y : Str) : ∀ l : List (Str × α), get y (del x l) = if y = x then Option.none else get y l
  | [] => by simp [del, get]
  | (z, e) :: r => by
    have ih := get_del x y r
    simp only [del, get]
    by_cases h : x = z
    · subst h
      rw [if_pos rfl, ih]
      by_cases q : y = x <;> simp [q]
    · rw [if_neg h]
      simp only [get, ih]
      by_cases q : y = z
      · subst q
        rw [if_pos rfl, if_neg (fun e => h e.symm), if_pos rfl]
      · rw [if_neg q, if_neg q]
noncomputable def okName (x : Str) : Bool := !(x == ("__debug__" : Str)) && !(x == ("__classdict__" : Str))
/-- the table of what the top holds -/
structure Tb where
  glob : Str → Option D
  call : Addr → List D → Option D
  fr : Addr → Bool
noncomputable def isSlice : Expr → Bool
  | .Slice .. => true
  | _ => false
noncomputable def notStar : Expr → Bool
  | .Starred .. => false
  | _ => true
noncomputable def consO (x : Option D) (xs : Option (List D)) : Option (List D) := match x with
  | some d => (match xs with
    | some ds => some (d :: ds)
    | Option.none => Option.none)
  | Option.none => Option.none
theorem consO_eq {x : Option D} {xs : Option (List D)} {l : List D} (h : consO x xs = some l) : ∃ d ds, x = some d ∧ xs = some ds ∧ l = d :: ds := by
  unfold consO at h
  split at h
  · split at h
    · cases h; exact ⟨_, _, rfl, rfl, rfl⟩
    · cases h
  · cases h
noncomputable def evs (f : Expr → Option D) : List Expr → Option (List D)
  | [] => some []
  | e :: r => consO (f e) (evs f r)
noncomputable def op2 {α β γ : Type} (f : α → β → Option γ) (x : Option α) (y : Option β) : Option γ := match x with
  | some a => (match y with
    | some b => f a b
    | Option.none => Option.none)
  | Option.none => Option.none
theorem op2_eq {α β γ : Type} {f : α → β → Option γ} {x : Option α} {y : Option β} {c : γ} (h : op2 f x y = some c) : ∃ a b, x = some a ∧ y = some b ∧ f a b = some c := by
  unfold op2 at h
  split at h
  · split at h
    · exact ⟨_, _, rfl, rfl, h⟩
    · cases h
  · cases h
noncomputable def op1 {α γ : Type} (f : α → Option γ) (x : Option α) : Option γ := match x with
  | some a => f a
  | Option.none => Option.none
theorem op1_eq {α γ : Type} {f : α → Option γ} {x : Option α} {c : γ} (h : op1 f x = some c) : ∃ a, x = some a ∧ f a = some c := by
  unfold op1 at h
  split at h
  · exact ⟨_, rfl, h⟩
  · cases h
noncomputable def ite2 {γ : Type} (c : Option Bool) (a b : Option γ) : Option γ := op1 (fun c => if c = true then a else b) c
noncomputable def negD : D → Option D
  | .int a => some (.int (-a))
  | _ => Option.none
noncomputable def boolD : D → Option Bool
  | .bool b => some b
  | _ => Option.none
theorem boolD_eq {d : D} {b : Bool} (h : boolD d = some b) : d = .bool b := by
  unfold boolD at h
  split at h
  · cases h; rfl
  · cases h
noncomputable def evName (T : Tb) (sc : Scope) (ρ : Rho) (x : Str) : Option D :=
  if okName x then
    match get x ρ with
    | some d => some d
    | Option.none => if sc.names.lookup x = some .globalImplicit then T.glob x else Option.none
  else Option.none
/-- the callee of a call by name: a def, or a built-in -/
noncomputable def callee (T : Tb) (sc : Scope) (ρ : Rho) (x : Str) : Option (Addr ⊕ Bi) :=
  match evName T sc ρ x with
  | some (.fn a) => some (.inl a)
  | some _ => Option.none
  | Option.none => if okName x && decide (sc.names.lookup x = some .globalImplicit) then (bOf x).map .inr else Option.none
noncomputable def callC (T : Tb) : Addr ⊕ Bi → List D → Option D
  | .inl a, ds => T.call a ds
  | .inr b, ds => bCall b ds
noncomputable def frC (T : Tb) : Addr ⊕ Bi → Bool
  | .inl a => T.fr a
  | .inr _ => false
noncomputable def frG (T : Tb) (x : Str) : Bool := match T.glob x with
  | some (.fn a) => T.fr a
  | _ => false
noncomputable def freshE (T : Tb) : Expr → Bool
  | .List .. => true
  | .ListComp .. => true
  | .Call (.Name x _) _ _ _ => frG T x
  | _ => false
structure Ev where
  E : Scope → Rho → Sig → Expr → Option D
  T : Scope → Rho → Sig → Expr → Option Bool
noncomputable def capt (sc : Scope) (ρ : Rho) : List (Str × NameKind) → Option Rho
  | [] => some []
  | (y, k) :: r => match capt sc ρ r with
    | Option.none => Option.none
    | some c => if k = .free then (if sc.names.lookup y = some .cell then (match get y ρ with | some d => some ((y, d) :: c) | Option.none => Option.none) else Option.none) else some c
noncomputable def compOk (csc : Scope) : Bool :=
  decide (csc.kind = .function) && csc.names.all (fun y => decide (y.2 ≠ .cell)) && csc.names.all (fun y => decide (y.2 = .local → csc.names.lookup y.1 = some .local)) &&
    csc.names.all (fun y => decide (y.2 = .free → csc.names.lookup y.1 = some .free))
noncomputable def rangeL (a b c : Int) : List Int := (List.range (Builtin.Range.rangeSize a b c).toNat).map fun i : Nat => a + (i : Int) * c
noncomputable def rangeD : List D → Option (List D)
  | [.int n] => if small n && Builtin.Range.small 0 n 1 then some ((rangeL 0 n 1).map .int) else Option.none
  | [.int a, .int b] => if small a && small b && Builtin.Range.small a b 1 then some ((rangeL a b 1).map .int) else Option.none
  | [.int a, .int b, .int c] => if small a && small b && small c && decide (c ≠ 0) && Builtin.Range.small a b c then some ((rangeL a b c).map .int) else Option.none
  | _ => Option.none
noncomputable def isRangeCall (T : Tb) (sc : Scope) (ρ : Rho) : Expr → Option (List Expr)
  | .Call (.Name x _) args [] _ => if x = "range" ∧ (get x ρ).isNone ∧ T.glob x = Option.none ∧ sc.names.lookup x = some .globalImplicit ∧ args.all notStar ∧ args ≠ [] then some args else Option.none
  | _ => Option.none
noncomputable def isSet : Expr → Bool
  | .Set .. => true
  | _ => false
/-- the values that a for or a comprehension goes over -/
noncomputable def iterD (T : Tb) (f : Expr → Option D) (sc : Scope) (ρ : Rho) (e : Expr) : Option (List D) :=
  match isRangeCall T sc ρ e with
  | some args => op1 rangeD (evs f args)
  | Option.none => if isSet e then Option.none else op1 (fun d => match d with
    | .lst ds => if okLen ds.length then some ds else Option.none
    | .tup ds => if okLen ds.length then some ds else Option.none
    | _ => Option.none) (f e)
noncomputable def mapD (f : D → Option D) : List D → Option (List D)
  | [] => some []
  | d :: r => consO (f d) (mapD f r)
/-- a base of a subscript: a value, or a list of the frame's own -/
noncomputable def baseD (f : Expr → Option D) (σ : Sig) : Expr → Option D
  | .Name x p => match get x σ with
    | some ds => if okName x then some (.lst ds) else Option.none
    | Option.none => f (.Name x p)
  | e => f e
noncomputable def itemOf : D → D → Option D
  | .lst ds, k => itemD ds k
  | .tup ds, k => itemD ds k
  | _, _ => Option.none
noncomputable def sliceD : D → Option D → Option D → Option D
  | .lst ds, Option.none, some (.int k) => if decide (0 ≤ k) && okLen ds.length then some (.lst (ds.take k.toNat)) else Option.none
  | .lst ds, some (.int k), Option.none => if decide (0 ≤ k) && okLen ds.length then some (.lst (ds.drop k.toNat)) else Option.none
  | _, _, _ => Option.none
/-- pairs -/
noncomputable def zipD : D → D → Option (List D)
  | .lst a, .lst b => if okLen a.length && okLen b.length then some (List.zipWith (fun x y => D.tup [x, y]) a b) else Option.none
  | _, _ => Option.none
noncomputable def isZipCall (T : Tb) (sc : Scope) (ρ : Rho) : Expr → Option (Expr × Expr)
  | .Call (.Name x _) [a, b] [] _ => if x = "zip" ∧ (get x ρ).isNone ∧ T.glob x = Option.none ∧ sc.names.lookup x = some .globalImplicit ∧ [a, b].all notStar then some (a, b) else Option.none
  | _ => Option.none
noncomputable def lstD : D → Option (List D)
  | .lst ds => if okLen ds.length then some ds else Option.none
  | _ => Option.none
noncomputable def iterZ (T : Tb) (f : Expr → Option D) (sc : Scope) (ρ : Rho) (e : Expr) : Option (List D) :=
  match isZipCall T sc ρ e with
  | some ab => op2 zipD (f ab.1) (f ab.2)
  | Option.none => if isSet e then Option.none else op1 lstD (f e)
noncomputable def tup2 (f : D → D → Option D) : D → Option D
  | .tup [a, b] => f a b
  | _ => Option.none
noncomputable def stepE (T : Tb) (ev : Ev) (sc : Scope) (ρ : Rho) (σ : Sig) : Expr → Option D
  | .Constant (.int i) _ _ => some (.int i)
  | .Constant (.bool b) _ _ => some (.bool b)
  | .Constant .none _ _ => some .none
  | .Constant (.str x) _ _ => some (.str x)
  | .Name x _ => evName T sc ρ x
  | .BinOp l op r _ => op2 (binD op) (ev.E sc ρ σ l) (ev.E sc ρ σ r)
  | .UnaryOp .USub x _ => op1 negD (ev.E sc ρ σ x)
  | .Compare l [op] [r] _ => if behindInMarks op r then Option.none else op1 (fun b => some (.bool b)) (op2 (cmpD op) (ev.E sc ρ σ l) (ev.E sc ρ σ r))
  | .IfExp t b o _ => ite2 (ev.T sc ρ σ t) (ev.E sc ρ σ b) (ev.E sc ρ σ o)
  | .Tuple es _ _ => if okLen es.length && es.all notStar then op1 (fun ds => some (.tup ds)) (evs (ev.E sc ρ σ) es) else Option.none
  | .List es _ => if okLen es.length && es.all notStar then op1 (fun ds => some (.lst ds)) (evs (ev.E sc ρ σ) es) else Option.none
  | .Subscript (.Name x p) (.Slice Option.none (some k) Option.none _) _ => op2 (fun a b => sliceD a Option.none (some b)) (ev.E sc ρ σ (.Name x p)) (ev.E sc ρ σ k)
  | .Subscript (.Name x p) (.Slice (some k) Option.none Option.none _) _ => op2 (fun a b => sliceD a (some b) Option.none) (ev.E sc ρ σ (.Name x p)) (ev.E sc ρ σ k)
  | .Subscript v i _ => if isSlice i then Option.none else op2 itemOf (baseD (ev.E sc ρ σ) σ v) (ev.E sc ρ σ i)
  | .Call (.Name x _) args [] _ => if args.all notStar && decide (args ≠ []) && okLen (29 * args.length) then op2 (fun c ds => if !(frG T x) || frC T c then callC T c ds else Option.none) (callee T sc ρ x) (evs (ev.E sc ρ σ) args) else Option.none
  | .ListComp elt [⟨.Name x _, iter, [], 0⟩] csc _ => if compOk csc && decide (csc.names.lookup x = some .local) then
      op2 (fun ds c => op1 (fun ds => if okLen ds.length then some (.lst ds) else Option.none) (mapD (fun d => ev.E csc (put x d c) [] elt) ds)) (iterD T (ev.E sc ρ σ) sc ρ iter) (capt sc ρ csc.names)
    else Option.none
  | .ListComp elt [⟨.Tuple [.Name x _, .Name y _] _ _, iter, [], 0⟩] csc _ => if compOk csc && decide (csc.names.lookup x = some .local) && decide (csc.names.lookup y = some .local) && decide (x ≠ y) then
      op2 (fun ds c => op1 (fun ds => if okLen ds.length then some (.lst ds) else Option.none) (mapD (tup2 fun a b => ev.E csc (put y b (put x a c)) [] elt) ds)) (iterZ T (ev.E sc ρ σ) sc ρ iter) (capt sc ρ csc.names)
    else Option.none
  | _ => Option.none
noncomputable def allT (f : Expr → Option Bool) (op : BoolOp) : List Expr → Option Bool
  | [] => some (op == .And)
  | e :: r => op1 (fun b => if b = (op == .Or) then some b else allT f op r) (f e)
noncomputable def stepT (ev : Ev) (sc : Scope) (ρ : Rho) (σ : Sig) : Expr → Option Bool
  | .UnaryOp .Not x _ => op1 (fun b => some (!b)) (ev.T sc ρ σ x)
  | .BoolOp op vs _ => allT (ev.T sc ρ σ) op vs
  | .Compare l [op] [r] _ => if behindInMarks op r then Option.none else op2 (cmpD op) (ev.E sc ρ σ l) (ev.E sc ρ σ r)
  | .Call f args [] p => op1 boolD (ev.E sc ρ σ (.Call f args [] p))
  | _ => Option.none
noncomputable def ev (T : Tb) : Nat → Ev
  | 0 => ⟨fun _ _ _ _ => Option.none, fun _ _ _ _ => Option.none⟩
  | n + 1 => ⟨stepE T (ev T n), stepT (ev T n)⟩
/-! ## what holds of a heap and a frame -/
noncomputable def Look (env : Env) (h : Heap) (x : Str) (v : Value) : Prop :=
  (env.kindOf x = some .local ∧ ∃ m, h.Ns env.locals m ∧ m x = some v) ∨
  ((env.kindOf x = some .cell ∨ env.kindOf x = some .free) ∧ ∃ c, env.cells.lookup x = some c ∧ h.IsCell c (some v))
theorem Look.keep {env : Env} {h h' : Heap} {x : Str} {v : Value} (l : Look env h x v) (k : Keep h h') : Look env h' x v := by
  rcases l with ⟨hk, m, hn, hm⟩ | ⟨hk, c, hc, hv⟩
  · exact .inl ⟨hk, m, hn.keeps k, hm⟩
  · exact .inr ⟨hk, c, hc, hv.keeps k⟩
theorem Look.load {M : Model} {A : Around} {E : Value → Shared → Prop} {s : Shared} {env : Env} {x : Str} {v : Value} {Q : Value → Shared → Prop} (hk : env.scope.kind = .function) (l : Look env s.heap x v)
    (ok : okName x = true) (h : Q v s) : wpAny M A (loadName env x) Q E s := by
  have ok := Bool.and_eq_true_iff.mp ok
  rcases l with ⟨hl, m, hn, hm⟩ | ⟨hl | hl, c, hc, hv⟩
  · exact wpAny_loadName_local hk hl hn hm h
  · exact wpAny_loadName_cell hk hl hc hv h
  · exact wpAny_loadName_free hk hl hc hv h (by simpa using ok.2)
structure Good (hb : Heap) (env : Env) (h : Heap) (Own Oc : List Addr) (ρ : Rho) (σ : Sig) : Prop where
  kind : env.scope.kind = .function
  gl : env.globals = mainGlobals
  bl : env.builtins = builtinsNs
  keep : Keep hb h
  hidB : ∀ a ∈ Own ++ Oc, hb.get? a = Option.none
  hidS : ∀ a ∈ Own ++ Oc, ∃ o, h.get? a = some o
  val : ∀ x d, get x ρ = some d → ∃ v, Look env h x v ∧ Rep (hid h (Own ++ Oc)) v d
  own : ∀ x ds, get x σ = some ds → ∃ a vs n, Look env h x (.ref a) ∧ a ∈ Own ∧ h.get? a = some (lstO vs n) ∧ Reps (hid h (Own ++ Oc)) vs ds
theorem Good.lt {hb h : Heap} {env : Env} {Own Oc : List Addr} {ρ : Rho} {σ : Sig} (g : Good hb env h Own Oc ρ σ) : ∀ a ∈ Own ++ Oc, a < h.objs.size := fun a m => let ⟨_, e⟩ := g.hidS a m; Heap.lt_size e
theorem Good.on {hb h h' : Heap} {env : Env} {Own Oc : List Addr} {ρ : Rho} {σ : Sig} (g : Good hb env h Own Oc ρ σ) (k : Keep h h') : Good hb env h' Own Oc ρ σ where
  kind := g.kind
  gl := g.gl
  bl := g.bl
  keep := g.keep.trans k
  hidB := g.hidB
  hidS := fun a m => let ⟨o, e⟩ := g.hidS a m; ⟨o, k a o e⟩
  val := fun x d e => let ⟨v, l, r⟩ := g.val x d e; ⟨v, l.keep k, r.mono (hid_keep k)⟩
  own := fun x ds e => let ⟨a, vs, n, l, m, e, r⟩ := g.own x ds e; ⟨a, vs, n, l.keep k, m, k _ _ e, r.mono (hid_keep k)⟩
noncomputable def Fresh (h h' : Heap) (O : List Addr) (v : Value) (d : D) : Prop := ∃ a vs n ds, v = .ref a ∧ d = .lst ds ∧ h.get? a = Option.none ∧ h'.get? a = some (lstO vs n) ∧ Reps (hid h' (a :: O)) vs ds
noncomputable abbrev RetF (s : Shared) (O : List Addr) (d : D) (fr : Bool) (Q : Value → Shared → Prop) : Prop :=
  ∀ v h' tk', Keep s.heap h' → Rep (hid h' O) v d → (fr = true → Fresh s.heap h' O v d) → Q v { s with heap := h', toks := tk' }
theorem Fresh.later {h₀ h h' : Heap} {O : List Addr} {v : Value} {d : D} (k : Keep h₀ h) (f : Fresh h h' O v d) : Fresh h₀ h' O v d := by
  obtain ⟨a, vs, n, ds, rfl, rfl, e, g, r⟩ := f
  refine ⟨a, vs, n, ds, rfl, rfl, ?_, g, r⟩
  cases q : h₀.get? a with
  | none => rfl
  | some o => rw [k a o q] at e; cases e
structure AOk (A : Around) (dep : Nat) : Prop where
  handled : A.handled = Option.none
  depth : A.depth + dep < recursionLimit
  units : A.units + 4 * dep + 100 < cLine
noncomputable def CallOK (prog : Program) (w : World) (hb : Heap) (dep : Nat) (a : Addr) (ds : List D) (d : D) (fr : Bool) : Prop :=
  ∀ (A : Around) (E Q : Value → Shared → Prop) (s : Shared) (O : List Addr) (vs : List Value), AOk A dep → Keep hb s.heap → (∀ a ∈ O, hb.get? a = Option.none) → (∀ a ∈ O, ∃ o, s.heap.get? a = some o) →
    Reps (hid s.heap O) vs ds → RetF s O d fr Q → wpAny (model prog w) A (call (.ref a) vs) Q E s
structure TbOk (prog : Program) (w : World) (T : Tb) (hb : Heap) (mg mb : Str → Option Value) (dep : Nat) : Prop where
  g : hb.Ns mainGlobals mg
  b : hb.Ns builtinsNs mb
  glob : ∀ x d, T.glob x = some d → ∃ v, mg x = some v ∧ Rep hb.get? v d
  bi : ∀ b : Bi, mg (bName b) = Option.none ∧ mb (bName b) = some (bVal b)
  rng : mg "range" = Option.none ∧ mb "range" = some (.type "range")
  zp : mg "zip" = Option.none ∧ mb "zip" = some (.type "zip")
  fn : ∀ a ds d, T.call a ds = some d → ∃ o fd, hb.get? a = some o ∧ o.data = .func fd
  call : ∀ a ds d, T.call a ds = some d → CallOK prog w hb dep a ds d (T.fr a)
structure ScOk (sc : Scope) (env : Env) : Prop where
  glob : ∀ x, sc.names.lookup x = some .globalImplicit → env.kindOf x = some .globalImplicit
  cell : ∀ x, sc.names.lookup x = some .cell → env.kindOf x = some .cell
  loc : ∀ x, sc.names.lookup x = some .local → env.kindOf x = some .local
noncomputable def SoundE (prog : Program) (w : World) (T : Tb) (hb : Heap) (dep : Nat) (f : Scope → Rho → Sig → Expr → Option D) : Prop :=
  ∀ (A : Around) (E Q : Value → Shared → Prop) (s : Shared) (env : Env) (sc : Scope) (Own Oc : List Addr) (ρ : Rho) (σ : Sig) (e : Expr) (d : D),
    AOk A dep → ScOk sc env → Good hb env s.heap Own Oc ρ σ → f sc ρ σ e = some d → RetF s (Own ++ Oc) d (freshE T e) Q → wpAny (model prog w) A (eval e env) Q E s
noncomputable def SoundT (prog : Program) (w : World) (hb : Heap) (dep : Nat) (f : Scope → Rho → Sig → Expr → Option Bool) : Prop :=
  ∀ (A : Around) (E : Value → Shared → Prop) (Q : Bool → Shared → Prop) (s : Shared) (env : Env) (sc : Scope) (Own Oc : List Addr) (ρ : Rho) (σ : Sig) (e : Expr) (b : Bool),
    AOk A dep → ScOk sc env → Good hb env s.heap Own Oc ρ σ → f sc ρ σ e = some b → (∀ h' tk', Keep s.heap h' → Q b { s with heap := h', toks := tk' }) → wpAny (model prog w) A (isTrue e env (eval e env)) Q E s
end Mine
namespace Mine
section
variable {prog : Program} {w : World} {T : Tb} {hb : Heap} {mg mb : Str → Option Value} {dep : Nat}
variable {A : Around} {E Q : Value → Shared → Prop} {s : Shared} {env : Env} {sc : Scope} {Own Oc : List Addr} {ρ : Rho} {σ : Sig}
theorem starEach_cons {e : Expr} {r : List Expr} (h : notStar e = true) : starEach (e :: r) env = (false, eval e env) :: starEach r env := by
  cases e <;> first | rfl | cases h
theorem sound_name {x : Str} {pos : Pos} {d : D} (K : TbOk prog w T hb mg mb dep) (hs : ScOk sc env) (g : Good hb env s.heap Own Oc ρ σ) (e : evName T sc ρ x = some d)
    (h : ∀ v, Rep (hid s.heap (Own ++ Oc)) v d → Q v s) : wpAny (model prog w) A (eval (.Name x pos) env) Q E s := by
  unfold evName at e
  split at e
  · rename_i ok
    have ok' := Bool.and_eq_true_iff.mp ok
    have hd : (x == ("__debug__" : Str)) = false := by simpa using ok'.1
    split at e
    · rename_i d' hd'
      cases e
      obtain ⟨v, l, r⟩ := g.val _ _ hd'
      exact wpAny_Name (l.load g.kind ok (h v r)) hd
    · split at e
      · rename_i hg
        obtain ⟨v, hv, r⟩ := K.glob _ _ e
        have hn : s.heap.Ns env.globals mg := by rw [g.gl]; exact K.g.keeps g.keep
        refine Name_function_global g.kind (hs.glob _ hg) (loadGlobal_global hn hv (h v (r.mono fun a o _ q => ?_))) hd
        exact hid_mk (g.keep _ _ q) fun m => by rw [g.hidB a m] at q; cases q
      · cases e
  · cases e
/-- several expressions, one behind the other -/
theorem sound_list {f : Expr → Option D} (pos : Pos) (ok : ∀ (E Q : Value → Shared → Prop) (s : Shared) (e : Expr) (d : D), Good hb env s.heap Own Oc ρ σ → f e = some d →
      (∀ v h' tk', Keep s.heap h' → Rep (hid h' (Own ++ Oc)) v d → Q v { s with heap := h', toks := tk' }) → wpAny (model prog w) A (eval e env) Q E s) :
    ∀ (es : List Expr) (ds : List D) (s : Shared) (Q : List Value → Shared → Prop), Good hb env s.heap Own Oc ρ σ → es.all notStar = true → evs f es = some ds →
      (∀ vs h' tk', Keep s.heap h' → Reps (hid h' (Own ++ Oc)) vs ds → Q vs { s with heap := h', toks := tk' }) → wpAny (model prog w) A (spliced (backTo pos (starEach es env))) Q E s
  | [], ds, s, Q, _, _, e, h => by
    rw [evs] at e
    cases e
    exact args_nil (h _ _ _ (Keep.refl _) .nil)
  | e :: r, ds, s, Q, g, hst, q, h => by
    have hst := Bool.and_eq_true_iff.mp hst
    rw [evs] at q
    obtain ⟨d, ds', h1, h2, rfl⟩ := consO_eq q
    refine args_cons (ok _ _ _ _ _ g h1 fun v h₁ tk₁ k₁ r₁ => ?_) (starEach_cons hst.1)
    refine sound_list pos ok r ds' _ _ (g.on k₁) hst.2 h2 fun vs h₂ tk₂ k₂ r₂ => ?_
    exact h _ _ _ (k₁.trans k₂) (.cons (r₁.mono (hid_keep k₂)) r₂)
theorem callWith_args {pos : Pos} {v : Value} {args : List Expr} (hne : args ≠ []) (hst : args.all notStar = true)
    (hv : (∃ a o fd, v = .ref a ∧ hb.get? a = some o ∧ o.data = .func fd) ∨ (∃ id, v = .builtin id) ∨ ∃ id, v = .type id)
    (h : wpAny (model prog w) A (spliced (backTo pos (starEach args env))) (fun vs s₁ => Keep hb s₁.heap ∧ wpAny (model prog w) A (call v vs) Q E s₁) E s) :
    wpAny (model prog w) A (callWith pos v [] (backTo pos (starEach args env)) []) Q E s := by
  cases args with
  | nil => exact absurd rfl hne
  | cons e r =>
    have hst := Bool.and_eq_true_iff.mp hst
    have he := starEach_cons (env := env) (r := r) hst.1
    have hp : ∀ r : List Expr, r.all notStar = true → ((backTo pos (starEach r env)).any (·.1)) = false := by
      intro r
      induction r with
      | nil => intro _; rfl
      | cons e r ih =>
        intro h
        have h := Bool.and_eq_true_iff.mp h
        rw [starEach_cons h.1]
        show (false || (backTo pos (starEach r env)).any (·.1)) = false
        rw [ih h.2]; rfl
    rcases hv with ⟨a, o, fd, rfl, hg, hd⟩ | ⟨id, rfl⟩ | ⟨id, rfl⟩
    · exact callWith_def hd (wpAny_mono h (fun vs s₁ h₁ => ⟨h₁.1 _ _ hg, h₁.2⟩) fun _ _ x => x) he
    · exact PyProof.Rows.callWith_builtin1 (wpAny_mono h (fun vs s₁ h₁ => h₁.2) fun _ _ x => x) he (hp r hst.2)
    · exact PyProof.Rows.callWith_type1 (wpAny_mono h (fun vs s₁ h₁ => h₁.2) fun _ _ x => x) he (hp r hst.2)
theorem load_bi {x : Str} {pos : Pos} {v : Value} (K : TbOk prog w T hb mg mb dep) (hs : ScOk sc env) (g : Good hb env s.heap Own Oc ρ σ) (hx : sc.names.lookup x = some .globalImplicit)
    (h1 : mg x = Option.none) (h2 : mb x = some v) (ok : okName x = true) (h : Q v s) : wpAny (model prog w) A (eval (.Name x pos) env) Q E s := by
  have ok' := Bool.and_eq_true_iff.mp ok
  have hd : (x == ("__debug__" : Str)) = false := by simpa using ok'.1
  have hn : s.heap.Ns env.globals mg := by rw [g.gl]; exact K.g.keeps g.keep
  have hb : s.heap.Ns env.builtins mb := by rw [g.bl]; exact K.b.keeps g.keep
  exact Name_function_global g.kind (hs.glob _ hx) (loadGlobal_builtin hn h1 hb h2 h) hd
theorem bVal_is (b : Bi) : (∃ id, bVal b = .builtin id) ∨ ∃ id, bVal b = .type id := by
  cases b
  · exact .inl ⟨_, rfl⟩
  · exact .inl ⟨_, rfl⟩
  · exact .inl ⟨_, rfl⟩
  · exact .inr ⟨_, rfl⟩
theorem sound_call {f : Expr → Option D} {x : Str} {p pos : Pos} {args : List Expr} {c : Addr ⊕ Bi} {ds : List D} {d : D} (K : TbOk prog w T hb mg mb dep) (ha : AOk A dep) (hs : ScOk sc env) (g : Good hb env s.heap Own Oc ρ σ)
    (ok : ∀ (E Q : Value → Shared → Prop) (s : Shared) (e : Expr) (d : D), Good hb env s.heap Own Oc ρ σ → f e = some d →
      (∀ v h' tk', Keep s.heap h' → Rep (hid h' (Own ++ Oc)) v d → Q v { s with heap := h', toks := tk' }) → wpAny (model prog w) A (eval e env) Q E s)
    (hne : args ≠ []) (hst : args.all notStar = true) (hc : callee T sc ρ x = some c) (hd : evs f args = some ds) (e : callC T c ds = some d)
    (h : RetF s (Own ++ Oc) d (frC T c) Q) : wpAny (model prog w) A (eval (.Call (.Name x p) args [] pos) env) Q E s := by
  refine Call_ ?_
  unfold callee at hc
  split at hc
  · rename_i a hn
    cases hc
    refine sound_name K hs g hn fun v rv => ?_
    cases rv
    obtain ⟨o, fd, ho, hfd⟩ := K.fn _ _ _ e
    refine callWith_args hne hst (.inl ⟨a, o, fd, rfl, ho, hfd⟩) (sound_list pos ok args ds s _ g hst hd fun vs h₁ tk₁ k₁ r₁ => ⟨g.keep.trans k₁, ?_⟩)
    refine K.call _ _ _ e A E Q _ (Own ++ Oc) vs ha (g.keep.trans k₁) g.hidB (g.on k₁).hidS r₁ fun v h₂ tk₂ k₂ r₂ f₂ => ?_
    exact h v h₂ tk₂ (k₁.trans k₂) r₂ fun q => (f₂ q).later k₁
  · cases hc
  · rename_i hn
    split at hc
    · rename_i q
      have q := Bool.and_eq_true_iff.mp q
      obtain ⟨b, hb', rfl⟩ := Option.map_eq_some_iff.mp hc
      have hx := bOf_name hb'
      subst hx
      refine load_bi K hs g (of_decide_eq_true q.2) (K.bi b).1 (K.bi b).2 q.1 ?_
      refine callWith_args hne hst (.inr (bVal_is b)) (sound_list pos ok args ds s _ g hst hd fun vs h₁ tk₁ k₁ r₁ => ⟨g.keep.trans k₁, ?_⟩)
      refine sound_bi ha.handled (g.on k₁).lt e r₁ fun v h₂ tk₂ k₂ r₂ => ?_
      exact h v h₂ tk₂ (k₁.trans k₂) r₂ fun q => by cases q
    · cases hc
theorem hs_of {i : Expr} (h : isSlice i = false) (o : Value) (k : Value) : subscripted i false o k = operate [o, k] (getItem o k) := by
  cases i <;> first | rfl | cases h
theorem sound_T_step {ev₁ : Ev} (_K : TbOk prog w T hb mg mb dep) (IE : SoundE prog w T hb dep ev₁.E) (IT : SoundT prog w hb dep ev₁.T) : SoundT prog w hb dep (stepT ev₁) := by
  intro A E Q s env sc Own Oc ρ σ e b ha hs g q h
  unfold stepT at q
  split at q
  · -- not
    obtain ⟨c, hc, q⟩ := op1_eq q
    cases q
    exact wpAny_isTrue_Not (IT A E _ s env sc Own Oc ρ σ _ _ ha hs g hc h)
  · -- and, or
    rename_i op vs _
    refine wpAny_isTrue_BoolOp ?_
    have all : ∀ (vs : List Expr) (s : Shared) (b : Bool) (Q : Bool → Shared → Prop), Good hb env s.heap Own Oc ρ σ → allT (ev₁.T sc ρ σ) op vs = some b → (∀ h' tk', Keep s.heap h' → Q b { s with heap := h', toks := tk' }) →
        wpAny (model prog w) A (allTrue op vs env) Q E s := by
      intro vs
      induction vs with
      | nil =>
        intro s b Q _ q h
        rw [allT] at q
        cases q
        cases op
        · exact wpAny_allTrue_And_nil (h _ _ (Keep.refl _))
        · exact wpAny_allTrue_Or_nil (h _ _ (Keep.refl _))
      | cons x r ih =>
        intro s b Q g q h
        rw [allT] at q
        obtain ⟨c, hx, q⟩ := op1_eq q
        cases op with
        | And =>
          refine wpAny_allTrue_And_cons (IT A E _ s env sc Own Oc ρ σ _ _ ha hs g hx fun h' tk' k => ?_)
          cases c with
          | false => rw [if_pos (by rfl)] at q; cases q; exact h _ _ k
          | true => rw [if_neg (by decide)] at q; exact ih _ _ _ (g.on k) q fun h₂ tk₂ k₂ => h _ _ (k.trans k₂)
        | Or =>
          refine wpAny_allTrue_Or_cons (IT A E _ s env sc Own Oc ρ σ _ _ ha hs g hx fun h' tk' k => ?_)
          cases c with
          | true => rw [if_pos (by rfl)] at q; cases q; exact h _ _ k
          | false => rw [if_neg (by decide)] at q; exact ih _ _ _ (g.on k) q fun h₂ tk₂ k₂ => h _ _ (k.trans k₂)
    exact all vs s b Q g q h
  · -- a comparison
    split at q
    · cases q
    · rename_i hm
      obtain ⟨a, b', h1, h2, q⟩ := op2_eq q
      refine wpAny_isTrue_Compare1 (IE A E _ s env sc Own Oc ρ σ _ _ ha hs g h1 fun va h₁ tk₁ k₁ r₁ _ => IE A E _ _ env sc Own Oc ρ σ _ _ ha hs (g.on k₁) h2 fun vb h₂ tk₂ k₂ r₂ _ => ?_) (by simpa using hm)
      exact sound_cmp (by have := ha.units; omega) q (r₁.mono (hid_keep k₂)) r₂ (wpAny_truthy_bool (h _ _ (k₁.trans k₂)))
  · -- a call
    obtain ⟨d, hc, q⟩ := op1_eq q
    have q := boolD_eq q
    subst q
    refine wpAny_isTrue_value (IE A E _ s env sc Own Oc ρ σ _ _ ha hs g hc fun v h' tk' k r _ => ?_)
    cases r
    exact wpAny_truthy_bool (h _ _ k)
  · cases q
end
end Mine
namespace Mine
theorem folded {e : Expr} {env : Env} (h : isSet e = false) (x : Value) : foldedSetIterable e env x = pure x := by
  cases e <;> first | rfl | cases h
/-- what an iterator hands on -/
structure Feed (prog : Program) (w : World) (A : Around) (h₀ : Heap) (O : List Addr) (ds : List D) (it : Value) (h₂ : Heap) (I : Addr) (fp wr : List Addr) (n : Nat) (P : Nat → Value → Prop) (St : Nat → Heap → Prop) : Prop where
  isIt : it = .ref I
  walks : Walks prog w A I fp wr n P St
  len : n = ds.length
  st : St 0 h₂
  item : ∀ i v d, P i v → ds[i]? = some d → Rep (hid h₂ O) v d
  keep : Keep h₀ h₂
  isNew : ∀ b ∈ wr, h₀.get? b = Option.none
  reads : ∀ b ∈ fp, h₀.get? b = Option.none ∨ ∃ o, isSeq o ∧ h₀.get? b = some o ∧ b ∉ O
  has : ∀ b ∈ fp, ∃ o, h₂.get? b = some o
  noseq : ∀ i h, St i h → ∀ b ∈ wr, ∀ o, h.get? b = some o → ¬ isSeq o
  alive : ∀ i h, St i h → ∀ b ∈ wr, ∃ o, h.get? b = some o
section
variable {prog : Program} {w : World} {T : Tb} {hb : Heap} {mg mb : Str → Option Value} {dep : Nat}
variable {A : Around} {E : Value → Shared → Prop} {s : Shared} {env : Env} {sc : Scope} {Own Oc : List Addr} {ρ : Rho} {σ : Sig}
theorem none_size (h : Heap) : h.get? h.objs.size = Option.none := by
  cases e : h.get? h.objs.size with
  | none => rfl
  | some o => exact absurd (Heap.lt_size e) (Nat.lt_irrefl _)
theorem none_ge {h : Heap} {a : Addr} (q : h.objs.size ≤ a) : h.get? a = Option.none := by
  cases e : h.get? a with
  | none => rfl
  | some o => exact absurd (Heap.lt_size e) (Nat.not_lt.mpr q)
theorem feed_list {O : List Addr} {ds : List D} {a : Addr} {vs : List Value} {n : Nat} {Q : Value → Shared → Prop} (hh : A.handled = Option.none)
    (ga : hid s.heap O a = some (lstO vs n)) (r : Reps (hid s.heap O) vs ds)
    (h : ∀ it s₂ I fp wr n P St, (∃ h₂ tk₂, s₂ = { s with heap := h₂, toks := tk₂ }) → Feed prog w A s.heap O ds it s₂.heap I fp wr n P St → Q it s₂) :
    wpAny (model prog w) A (pyIter (.ref a)) Q E s := by
  have hl : s.heap.IsList a vs.toArray := ⟨_, (hid_of ga).1, rfl, n, rfl⟩
  have hne : a ≠ s.heap.objs.size := Nat.ne_of_lt (Heap.lt_size (hid_of ga).1)
  refine wpAny_pyIter_list hl (h _ _ s.heap.objs.size _ _ _ _ _ ⟨_, _, rfl⟩ ⟨rfl, Walks.list hh s.heap.objs.size a hne vs.toArray, by rw [List.size_toArray, r.length], ⟨⟨_, Heap.get?_push_size _ rfl, rfl, rfl⟩, hl.at fun o e => Heap.get?_push_of_some _ e⟩, ?_, Keep.push _, ?_, ?_, ?_, ?_, ?_⟩)
  · intro i v d hv hd
    rw [getElem_arr] at hv
    obtain ⟨u, hu, ru⟩ := r.get hd
    rw [hv] at hu; cases hu
    exact ru.mono (hid_keep (Keep.push _))
  · intro b hb'
    rw [List.mem_singleton.mp hb']
    exact none_size _
  · intro b hb'
    rcases List.mem_cons.mp hb' with rfl | hb'
    · exact .inl (none_size _)
    · rw [List.mem_singleton.mp hb']
      exact .inr ⟨_, isSeq_lst, (hid_of ga).1, (hid_of ga).2⟩
  · intro b hb'
    rcases List.mem_cons.mp hb' with rfl | hb'
    · exact ⟨_, Heap.get?_push_size _ rfl⟩
    · rw [List.mem_singleton.mp hb']
      exact ⟨_, Heap.get?_push_of_some _ (hid_of ga).1⟩
  · rintro i h ⟨⟨o', e1, _, e2⟩, _⟩ b hb' o e ⟨T, xs, m, rfl⟩
    rw [List.mem_singleton.mp hb', e1] at e
    cases e; cases e2
  · rintro i h ⟨⟨o', e1, _, e2⟩, _⟩ b hb'
    rw [List.mem_singleton.mp hb']
    exact ⟨_, e1⟩
theorem feed_tup {O : List Addr} {ds : List D} {a : Addr} {vs : List Value} {n : Nat} {Q : Value → Shared → Prop} (hh : A.handled = Option.none)
    (ga : hid s.heap O a = some (tupO vs n)) (r : Reps (hid s.heap O) vs ds)
    (h : ∀ it s₂ I fp wr n P St, (∃ h₂ tk₂, s₂ = { s with heap := h₂, toks := tk₂ }) → Feed prog w A s.heap O ds it s₂.heap I fp wr n P St → Q it s₂) :
    wpAny (model prog w) A (pyIter (.ref a)) Q E s := by
  have hl : s.heap.IsTuple a vs.toArray := ⟨_, (hid_of ga).1, rfl, n, rfl⟩
  have hne : a ≠ s.heap.objs.size := Nat.ne_of_lt (Heap.lt_size (hid_of ga).1)
  refine wpAny_pyIter_tuple hl (h _ _ s.heap.objs.size _ _ _ _ _ ⟨_, _, rfl⟩ ⟨rfl, Walks.tuple hh s.heap.objs.size a hne vs.toArray, by rw [List.size_toArray, r.length], ⟨⟨_, Heap.get?_push_size _ rfl, rfl, rfl⟩, ⟨_, Heap.get?_push_of_some _ (hid_of ga).1, rfl, n, rfl⟩⟩, ?_, Keep.push _, ?_, ?_, ?_, ?_, ?_⟩)
  · intro i v d hv hd
    rw [getElem_arr] at hv
    obtain ⟨u, hu, ru⟩ := r.get hd
    rw [hv] at hu; cases hu
    exact ru.mono (hid_keep (Keep.push _))
  · intro b hb'
    rw [List.mem_singleton.mp hb']
    exact none_size _
  · intro b hb'
    rcases List.mem_cons.mp hb' with rfl | hb'
    · exact .inl (none_size _)
    · rw [List.mem_singleton.mp hb']
      exact .inr ⟨_, isSeq_tup, (hid_of ga).1, (hid_of ga).2⟩
  · intro b hb'
    rcases List.mem_cons.mp hb' with rfl | hb'
    · exact ⟨_, Heap.get?_push_size _ rfl⟩
    · rw [List.mem_singleton.mp hb']
      exact ⟨_, Heap.get?_push_of_some _ (hid_of ga).1⟩
  · rintro i h ⟨⟨o', e1, _, e2⟩, _⟩ b hb' o e ⟨T, xs, m, rfl⟩
    rw [List.mem_singleton.mp hb', e1] at e
    cases e; cases e2
  · rintro i h ⟨⟨o', e1, _, e2⟩, _⟩ b hb'
    rw [List.mem_singleton.mp hb']
    exact ⟨_, e1⟩
theorem rangeSize_nonneg {a b c : Int} (hc : c ≠ 0) : 0 ≤ Builtin.Range.rangeSize a b c := by
  unfold Builtin.Range.rangeSize
  split
  · split
    · have := Int.ediv_nonneg (a := b - a - 1) (b := c) (by omega) (by omega); omega
    · exact Int.le_refl _
  · split
    · have := Int.ediv_nonneg (a := a - b - 1) (b := -c) (by omega) (by omega); omega
    · exact Int.le_refl _
/-- a range of ints made just now (at the heap's end, all else kept) -/
theorem feed_range {O : List Addr} {a b c : Int} {t u v : Tok} {r : Addr} {h₀ : Heap} {Q : Value → Shared → Prop} (hh : A.handled = Option.none) (hc : c ≠ 0) (hsm : Builtin.Range.small a b c = true)
    (hr : IsRange s.heap r a b c t u v) (k : Keep h₀ s.heap) (hsz : h₀.objs.size ≤ s.heap.objs.size)
    (h : ∀ it s₂ I fp wr n P St, (∃ h₂ tk₂, s₂ = { s with heap := h₂, toks := tk₂ }) → Feed prog w A h₀ O ((rangeL a b c).map D.int) it s₂.heap I fp wr n P St → Q it s₂) :
    wpAny (model prog w) A (pyIter (.ref r)) Q E s := by
  have hn : ((Builtin.Range.rangeSize a b c).toNat : Int) = Builtin.Range.rangeSize a b c := Int.toNat_of_nonneg (rangeSize_nonneg hc)
  refine wpAny_pyIter_range hr hsm (h _ _ s.heap.objs.size _ _ (Builtin.Range.rangeSize a b c).toNat _ _ ⟨_, _, rfl⟩ ⟨rfl, Walks.range hh s.heap.objs.size a c _, ?_, ?_, ?_, k.trans (Keep.push _), ?_, ?_, ?_, ?_, ?_⟩)
  · simp [rangeL]
  · show IsRangeIter _ _ _ _ _
    rw [hn]
    simpa using Heap.get?_push_size (o := { cls := .type "range_iterator", data := .fields #[rawInt a, rawInt (Builtin.Range.rangeSize a b c), rawInt c] }) s.heap rfl
  · rintro i v d ⟨t, rfl⟩ hd
    rw [List.getElem?_map] at hd
    obtain ⟨z, hz, rfl⟩ := Option.map_eq_some_iff.mp hd
    unfold rangeL at hz
    rw [List.getElem?_map] at hz
    obtain ⟨j, hj, rfl⟩ := Option.map_eq_some_iff.mp hz
    obtain ⟨_, rfl⟩ := List.getElem?_eq_some_iff.mp hj
    rw [List.getElem_range]
    exact .int _ _
  · intro b hb'
    rw [List.mem_singleton.mp hb']
    exact none_ge hsz
  · intro b hb'
    rw [List.mem_singleton.mp hb']
    exact .inl (none_ge hsz)
  · intro b hb'
    rw [List.mem_singleton.mp hb']
    exact ⟨_, Heap.get?_push_size _ rfl⟩
  · intro i h st b hb' o e q
    obtain ⟨T, xs, m, rfl⟩ := q
    have st : h.get? s.heap.objs.size = some _ := st
    rw [List.mem_singleton.mp hb', st] at e
    cases e
  · intro i h st b hb'
    rw [List.mem_singleton.mp hb']
    exact ⟨_, st⟩
theorem push_size (h : Heap) (o : Obj) : h.objs.size ≤ (h.push o).objs.size := by rw [Heap.size_push]; exact Nat.le_succ _
/-- the heap's size never falls along Keep: not told by Keep itself, so the last object is asked for -/
theorem sound_iter {f : Expr → Option D} {e : Expr} {ds : List D} {Q : Value → Shared → Prop} (K : TbOk prog w T hb mg mb dep) (ha : AOk A dep) (hs : ScOk sc env) (g : Good hb env s.heap Own Oc ρ σ)
    (ok : ∀ (E Q : Value → Shared → Prop) (s : Shared) (e : Expr) (d : D), Good hb env s.heap Own Oc ρ σ → f e = some d →
      (∀ v h' tk', Keep s.heap h' → Rep (hid h' (Own ++ Oc)) v d → Q v { s with heap := h', toks := tk' }) → wpAny (model prog w) A (eval e env) Q E s)
    (q : iterD T f sc ρ e = some ds)
    (h : ∀ it s₂ h₁ I fp wr n P St, (∃ h₂ tk₂, s₂ = { s with heap := h₂, toks := tk₂ }) → Keep s.heap h₁ → Feed prog w A h₁ (Own ++ Oc) ds it s₂.heap I fp wr n P St → Q it s₂) :
    wpAny (model prog w) A (eval e env) (fun x s₁ => wpAny (model prog w) A (pyIter x) Q E s₁) E s := by
  unfold iterD at q
  split at q
  · rename_i args hr
    obtain ⟨ds', hd, q⟩ := op1_eq q
    unfold isRangeCall at hr
    split at hr
    · rename_i x p args' pos
      split at hr
      · rename_i c
        cases hr
        obtain ⟨rfl, h1, h2, h3, h4, h5⟩ := c
        refine Call_ (load_bi K hs g h3 K.rng.1 K.rng.2 (by decide) ?_)
        refine callWith_args h5 h4 (.inr (.inr ⟨_, rfl⟩)) (sound_list pos ok args ds' s _ g h4 hd fun vs h₁ tk₁ k₁ r₁ => ⟨g.keep.trans k₁, ?_⟩)
        unfold rangeD at q
        split at q
        · split at q
          · rename_i c
            have c := Bool.and_eq_true_iff.mp c
            cases q
            cases r₁ with
            | cons r1 r2 =>
              cases r2; cases r1
              refine call_range_1 ?_
              refine feed_range (O := Own ++ Oc) (h₀ := h₁) ha.handled (by decide) c.2 (IsRange.new ..) (Keep.push _) (push_size _ _) fun it s₂ I fp wr n P St e F => ?_
              obtain ⟨h₂, tk₂, rfl⟩ := e
              exact h _ _ _ _ _ _ _ _ _ ⟨_, _, rfl⟩ k₁ F
          · cases q
        · split at q
          · rename_i c
            have c := Bool.and_eq_true_iff.mp c
            cases q
            cases r₁ with
            | cons r1 r2 =>
              cases r2 with
              | cons r2 r3 =>
                cases r3; cases r1; cases r2
                refine call_range_2 ?_
                refine feed_range (O := Own ++ Oc) (h₀ := h₁) ha.handled (by decide) c.2 (IsRange.new ..) (Keep.push _) (push_size _ _) fun it s₂ I fp wr n P St e F => ?_
                obtain ⟨h₂, tk₂, rfl⟩ := e
                exact h _ _ _ _ _ _ _ _ _ ⟨_, _, rfl⟩ k₁ F
          · cases q
        · split at q
          · rename_i c
            have c := Bool.and_eq_true_iff.mp c
            have c1 := Bool.and_eq_true_iff.mp c.1
            have c2 := Bool.and_eq_true_iff.mp c1.1
            have cs := small_lt c2.2
            have c0 := of_decide_eq_true c1.2
            cases q
            cases r₁ with
            | cons r1 r2 =>
              cases r2 with
              | cons r2 r3 =>
                cases r3 with
                | cons r3 r4 =>
                  cases r4; cases r1; cases r2; cases r3
                  refine call_range_3 c0 ?_ (Or.inl (small_py c2.2))
                  refine feed_range (O := Own ++ Oc) (h₀ := h₁) ha.handled c0 c.2 (IsRange.new ..) (Keep.push _) (push_size _ _) fun it s₂ I fp wr n P St e F => ?_
                  obtain ⟨h₂, tk₂, rfl⟩ := e
                  exact h _ _ _ _ _ _ _ _ _ ⟨_, _, rfl⟩ k₁ F
          · cases q
        · cases q
      · cases hr
    · cases hr
  · split at q
    · cases q
    · obtain ⟨d, hd, q⟩ := op1_eq q
      split at q
      · split at q
        · cases q
          refine ok _ _ _ _ _ g hd fun v h₁ tk₁ k₁ r₁ => ?_
          cases r₁ with
          | lst ga r =>
            refine feed_list ha.handled ga r fun it s₂ I fp wr n P St e F => ?_
            obtain ⟨h₂, tk₂, rfl⟩ := e
            exact h _ _ _ _ _ _ _ _ _ ⟨_, _, rfl⟩ k₁ F
        · cases q
      · split at q
        · cases q
          refine ok _ _ _ _ _ g hd fun v h₁ tk₁ k₁ r₁ => ?_
          cases r₁ with
          | tup ga r =>
            refine feed_tup ha.handled ga r fun it s₂ I fp wr n P St e F => ?_
            obtain ⟨h₂, tk₂, rfl⟩ := e
            exact h _ _ _ _ _ _ _ _ _ ⟨_, _, rfl⟩ k₁ F
        · cases q
      · cases q
theorem iter_noSet {f : Expr → Option D} {e : Expr} {ds : List D} (q : iterD T f sc ρ e = some ds) : isSet e = false := by
  unfold iterD at q
  split at q
  · rename_i args hr
    unfold isRangeCall at hr
    split at hr
    · rfl
    · cases hr
  · split at q
    · cases q
    · rename_i c; simpa using c
end
end Mine
namespace Mine
/-! ## the cells that a comprehension closes over -/
noncomputable def clF (env : Env) : List (Str × NameKind) → List (Str × Addr) → List (Str × Addr)
  | [], acc => acc
  | (n, k) :: r, acc => clF env r (if k == .free then (n, (env.cells.lookup n).getD 0) :: acc else acc)
theorem closure_of {scope : Scope} {env : Env} (h : ∀ y ∈ scope.names, y.2 = .free → (env.cells.lookup y.1).isSome = true) : closureFor scope env = pure (clF env scope.names []) := by
  have all : ∀ (names : List (Str × NameKind)) (acc : List (Str × Addr)), (∀ y ∈ names, y.2 = .free → (env.cells.lookup y.1).isSome = true) →
      (forIn names acc (fun (x : Str × NameKind) (cs : List (Str × Addr)) => match x with
        | (name, kind) => if (kind == .free) = true then (do let a ← cellOf env name; pure (ForInStep.yield ((name, a) :: cs))) else pure (ForInStep.yield cs)) : Sem (List (Str × Addr))) = pure (clF env names acc) := by
    intro names
    induction names with
    | nil => intro acc _; rfl
    | cons x r ih =>
      intro acc hx
      obtain ⟨n, k⟩ := x
      rw [List.forIn_cons, clF]
      by_cases hk : k = .free
      · subst hk
        obtain ⟨c, hc⟩ := Option.isSome_iff_exists.mp (hx (n, .free) List.mem_cons_self rfl)
        have e : cellOf env n = pure c := by unfold cellOf; rw [hc]
        simp only [beq_self_eq_true, if_true, e, pure_bind, hc, Option.getD_some]
        exact ih _ fun y hy => hx y (List.mem_cons_of_mem _ hy)
      · have hb : (k == NameKind.free) = false := by simpa using hk
        simp only [hb, Bool.false_eq_true, if_false, pure_bind]
        exact ih _ fun y hy => hx y (List.mem_cons_of_mem _ hy)
  have e := all scope.names [] h
  simp only [closureFor]
  first
    | (rw [e]; rfl)
    | exact (congrArg (fun m : Sem (List (Str × Addr)) => (m >>= fun r => pure r)) e).trans rfl
    | (simp only [bind_pure]; exact e)
theorem clF_acc {env : Env} {y : Str} {c : Addr} (hc : env.cells.lookup y = some c) : ∀ (names : List (Str × NameKind)) (acc : List (Str × Addr)), acc.lookup y = some c ∨ ((y, NameKind.free) ∈ names ∧ (acc.lookup y = Option.none)) → (clF env names acc).lookup y = some c
  | [], acc, h => by
    rw [clF]
    rcases h with h | ⟨h, _⟩
    · exact h
    · cases h
  | (n, k) :: r, acc, h => by
    rw [clF]
    by_cases hk : k = .free
    · subst hk
      simp only [beq_self_eq_true, if_true]
      by_cases hn : y = n
      · subst hn
        refine clF_acc hc r _ (.inl ?_)
        rw [List.lookup_cons, beq_self_eq_true]; simp [hc]
      · have hb : (y == n) = false := by simpa using hn
        refine clF_acc hc r _ ?_
        rw [List.lookup_cons, hb]
        rcases h with h | ⟨h, q⟩
        · exact .inl h
        · refine .inr ⟨?_, q⟩
          rcases List.mem_cons.mp h with e | h
          · cases e; exact absurd rfl hn
          · exact h
    · have hb : (k == NameKind.free) = false := by simpa using hk
      simp only [hb, Bool.false_eq_true, if_false]
      refine clF_acc hc r _ ?_
      rcases h with h | ⟨h, q⟩
      · exact .inl h
      · refine .inr ⟨?_, q⟩
        rcases List.mem_cons.mp h with e | h
        · cases e; exact absurd rfl hk
        · exact h
theorem relabel_free {env : Env} {y : Str} (hf : env.scope.kind = .function) (hc : env.kindOf y = some .cell) : ∀ {names : List (Str × NameKind)}, names.lookup y = some .free →
    (names.map fun (n, k) => if (k == NameKind.free && env.scope.kind == .function && env.kindOf n == some .cell) then (n, NameKind.cell) else (n, k)).lookup y = some .cell
  | [], h => by simp at h
  | (n, k) :: r, h => by
    have ih := @relabel_free env y hf hc r
    show List.lookup y ((if (k == NameKind.free && env.scope.kind == .function && env.kindOf n == some .cell) = true then (n, NameKind.cell) else (n, k)) :: _) = _
    cases hx : y == n with
    | true =>
      simp only [List.lookup_cons, hx] at h
      cases h
      have : y = n := beq_iff_eq.mp hx
      subst this
      simp [List.lookup_cons, hf, hc]
    | false =>
      simp only [List.lookup_cons, hx] at h
      by_cases q : (k == NameKind.free && env.scope.kind == .function && env.kindOf n == some .cell) = true
      · rw [if_pos q]; simp only [List.lookup_cons, hx]; exact ih h
      · rw [if_neg q]; simp only [List.lookup_cons, hx]; exact ih h
theorem relabel_glob {env : Env} {y : Str} : ∀ {names : List (Str × NameKind)}, names.lookup y = some .globalImplicit →
    (names.map fun (n, k) => if (k == NameKind.free && env.scope.kind == .function && env.kindOf n == some .cell) then (n, NameKind.cell) else (n, k)).lookup y = some .globalImplicit
  | [], h => by simp at h
  | (n, k) :: r, h => by
    have ih := @relabel_glob env y r
    show List.lookup y ((if (k == NameKind.free && env.scope.kind == .function && env.kindOf n == some .cell) = true then (n, NameKind.cell) else (n, k)) :: _) = _
    cases hx : y == n with
    | true =>
      simp only [List.lookup_cons, hx] at h
      cases h
      simp [List.lookup_cons, hx]
    | false =>
      simp only [List.lookup_cons, hx] at h
      by_cases q : (k == NameKind.free && env.scope.kind == .function && env.kindOf n == some .cell) = true
      · rw [if_pos q]; simp only [List.lookup_cons, hx]; exact ih h
      · rw [if_neg q]; simp only [List.lookup_cons, hx]; exact ih h
/-- what capt hands over -/
theorem capt_mem {sc : Scope} {ρ : Rho} {y : Str} {d : D} : ∀ {names : List (Str × NameKind)} {c : Rho}, capt sc ρ names = some c → get y c = some d → (y, NameKind.free) ∈ names ∧ sc.names.lookup y = some .cell ∧ get y ρ = some d
  | [], c, h, e => by rw [capt] at h; cases h; cases e
  | (n, k) :: r, c, h, e => by
    rw [capt] at h
    split at h
    · cases h
    · rename_i c' hc
      split at h
      · rename_i hk
        subst hk
        split at h
        · rename_i hs
          split at h
          · rename_i d' hd
            cases h
            rw [get] at e
            by_cases q : y = n
            · subst q
              rw [if_pos rfl] at e
              cases e
              exact ⟨List.mem_cons_self, hs, hd⟩
            · rw [if_neg q] at e
              have := capt_mem hc e
              exact ⟨List.mem_cons_of_mem _ this.1, this.2⟩
          · cases h
        · cases h
      · cases h
        have := capt_mem hc e
        exact ⟨List.mem_cons_of_mem _ this.1, this.2⟩
theorem capt_all {sc : Scope} {ρ : Rho} {y : Str} : ∀ {names : List (Str × NameKind)} {c : Rho}, capt sc ρ names = some c → (y, NameKind.free) ∈ names → sc.names.lookup y = some .cell ∧ ∃ d, get y ρ = some d
  | [], c, h, e => by cases e
  | (n, k) :: r, c, h, e => by
    rw [capt] at h
    split at h
    · cases h
    · rename_i c' hc
      rcases List.mem_cons.mp e with q | e
      · cases q
        rw [if_pos rfl] at h
        split at h
        · rename_i hs
          split at h
          · rename_i d' hd
            exact ⟨hs, d', hd⟩
          · cases h
        · cases h
      · exact capt_all hc e
theorem hid_wr {h h' : Heap} {O wr : List Addr} (q : ∀ b ∈ wr, ∀ o, h.get? b = some o → ¬ isSeq o) (k : ∀ b o, b ∉ wr → h.get? b = some o → h'.get? b = some o) : Sub (hid h O) (hid h' O) := fun b o s e =>
  hid_mk (k b o (fun m => q b m o (hid_of e).1 s) (hid_of e).1) (hid_of e).2
theorem hid_wr_more {h h' : Heap} {O wr : List Addr} {a : Addr} (q : ∀ b ∈ wr, ∀ o, h.get? b = some o → ¬ isSeq o) (k : ∀ b o, b ∉ wr → h.get? b = some o → h'.get? b = some o) (n : h.get? a = Option.none) : Sub (hid h O) (hid h' (a :: O)) := fun b o s e =>
  hid_mk (k b o (fun m => q b m o (hid_of e).1 s) (hid_of e).1) fun m => by
    rcases List.mem_cons.mp m with rfl | m
    · rw [(hid_of e).1] at n; cases n
    · exact (hid_of e).2 m
theorem mapD_len {f : D → Option D} : ∀ {ds rs : List D}, mapD f ds = some rs → rs.length = ds.length
  | [], rs, h => by rw [mapD] at h; cases h; rfl
  | d :: r, rs, h => by
    rw [mapD] at h
    obtain ⟨x, xs, h1, h2, rfl⟩ := consO_eq h
    simp [mapD_len h2]
theorem mapD_get {f : D → Option D} : ∀ {ds rs : List D} {i : Nat} {d : D}, mapD f ds = some rs → ds[i]? = some d → ∃ x, rs[i]? = some x ∧ f d = some x
  | [], rs, i, d, h, e => by simp at e
  | d' :: r, rs, i, d, h, e => by
    rw [mapD] at h
    obtain ⟨x, xs, h1, h2, rfl⟩ := consO_eq h
    cases i with
    | zero => simp at e; subst e; exact ⟨x, rfl, h1⟩
    | succ i =>
      obtain ⟨y, hy, hf⟩ := mapD_get h2 (i := i) (d := d) (by simpa using e)
      exact ⟨y, by simpa using hy, hf⟩
section
variable {prog : Program} {w : World} {T : Tb} {hb : Heap} {mg mb : Str → Option Value} {dep : Nat}
variable {A : Around} {E Q : Value → Shared → Prop} {s : Shared} {env : Env} {sc : Scope} {Own Oc : List Addr} {ρ : Rho} {σ : Sig}
theorem lookup_free {csc : Scope} {y : Str} (h : csc.names.all (fun y => decide (y.2 = .free → csc.names.lookup y.1 = some .free)) = true) (m : (y, NameKind.free) ∈ csc.names) : csc.names.lookup y = some .free := by
  have := of_decide_eq_true (List.all_eq_true.mp h _ m)
  exact this rfl
/-- the frame of one turn of a comprehension -/
theorem good_turn {csc : Scope} {x : Str} {c : Rho} {h h₀ : Heap} {C acc : Addr} {mC : Str → Option Value} {v : Value} {d : D} (hs : ScOk sc env) (g : Good hb env h₀ Own Oc ρ σ) (k : Keep h₀ h)
    (hck : csc.kind = .function) (hfree : csc.names.all (fun y => decide (y.2 = .free → csc.names.lookup y.1 = some .free)) = true)
    (hx : csc.names.lookup x = some .local) (hc : capt sc ρ csc.names = some c) (hn : h.Ns C mC) (hm : mC x = some v) (rv : Rep (hid h (acc :: Own ++ Oc)) v d)
    (hacc : h₀.get? acc = Option.none) (hacc' : ∃ o, h.get? acc = some o) :
    Good hb (compEnvC csc (clF env csc.names []) C env) h (acc :: Own) Oc (put x d c) [] where
  kind := hck
  gl := g.gl
  bl := g.bl
  keep := g.keep.trans k
  hidB := fun a m => by
    rcases List.mem_cons.mp m with rfl | m
    · cases q : hb.get? a with
      | none => rfl
      | some o => rw [g.keep _ _ q] at hacc; cases hacc
    · exact g.hidB a m
  hidS := fun a m => by
    rcases List.mem_cons.mp m with rfl | m
    · exact hacc'
    · obtain ⟨o, e⟩ := g.hidS a m
      exact ⟨o, k _ _ e⟩
  val := fun y e q => by
    rw [get_put] at q
    by_cases hy : y = x
    · subst hy
      rw [if_pos rfl] at q
      cases q
      exact ⟨v, .inl ⟨lookup_relabel_local hx, mC, hn, hm⟩, rv⟩
    · rw [if_neg hy] at q
      obtain ⟨m, hsc, hd⟩ := capt_mem hc q
      obtain ⟨v', l, r⟩ := g.val _ _ hd
      have hcell := hs.cell _ hsc
      rcases l with ⟨hl, _⟩ | ⟨_, a, ha, hv⟩
      · rw [hcell] at hl; cases hl
      · refine ⟨v', .inr ⟨.inl (relabel_free g.kind hcell (lookup_free hfree m)), a, clF_acc ha _ _ (.inr ⟨m, rfl⟩), hv.keeps k⟩, r.mono ?_⟩
        exact hid_more k hacc
  own := fun y ds q => by cases q
theorem sound_comp {f : Expr → Option D} {ft : D → Option D} {elt iter : Expr} {x : Str} {px pos : Pos} {csc : Scope} {c : Rho} {ds rs : List D} (K : TbOk prog w T hb mg mb dep) (ha : AOk A dep) (hs : ScOk sc env) (g : Good hb env s.heap Own Oc ρ σ)
    (ok : ∀ (E Q : Value → Shared → Prop) (s : Shared) (e : Expr) (d : D), Good hb env s.heap Own Oc ρ σ → f e = some d →
      (∀ v h' tk', Keep s.heap h' → Rep (hid h' (Own ++ Oc)) v d → Q v { s with heap := h', toks := tk' }) → wpAny (model prog w) A (eval e env) Q E s)
    (okT : ∀ (E Q : Value → Shared → Prop) (s : Shared) (C acc : Addr) (d r : D), Good hb (compEnvC csc (clF env csc.names []) C env) s.heap (acc :: Own) Oc (put x d c) [] → ft d = some r →
      (∀ v h' tk', Keep s.heap h' → Rep (hid h' (acc :: Own ++ Oc)) v r → Q v { s with heap := h', toks := tk' }) → wpAny (model prog w) A (eval elt (compEnvC csc (clF env csc.names []) C env)) Q E s)
    (hok : compOk csc = true) (hx : csc.names.lookup x = some .local) (hd : iterD T f sc ρ iter = some ds) (hc : capt sc ρ csc.names = some c) (hr : mapD ft ds = some rs) (hl : okLen rs.length = true)
    (h : RetF s (Own ++ Oc) (.lst rs) true Q) : wpAny (model prog w) A (eval (.ListComp elt [⟨.Name x px, iter, [], 0⟩] csc pos) env) Q E s := by
  unfold compOk at hok
  have o1 := Bool.and_eq_true_iff.mp hok
  have o2 := Bool.and_eq_true_iff.mp o1.1
  have o3 := Bool.and_eq_true_iff.mp o2.1
  have hck : csc.kind = .function := of_decide_eq_true o3.1
  have hcell : ∀ y ∈ csc.names, y.2 ≠ .cell := fun y hy => of_decide_eq_true (List.all_eq_true.mp o3.2 y hy)
  have hnames : ∀ y ∈ csc.names, y.2 = .local → csc.names.lookup y.1 = some .local := fun y hy => of_decide_eq_true (List.all_eq_true.mp o2.2 y hy)
  rw [eval_ListComp]
  refine wpAny_comprehension_free (use := Option.none) rfl (folded (iter_noSet hd)) (closure_of fun y hy q => ?_) hck hnames ?_
  · obtain ⟨n, k⟩ := y
    dsimp only at q
    subst q
    obtain ⟨hsc, d, hd'⟩ := capt_all hc hy
    obtain ⟨v, l, _⟩ := g.val _ _ hd'
    rcases l with ⟨hl', _⟩ | ⟨_, a, ha', _⟩
    · rw [hs.cell _ hsc] at hl'; cases hl'
    · rw [ha']; rfl
  refine sound_iter K ha hs g ok hd fun it s₂ h₁ I fp wr n P St e k₁ F => ?_
  obtain ⟨h₂, tk₂, rfl⟩ := e
  have hit := F.isIt
  subst hit
  have k₂ : Keep s.heap h₂ := k₁.trans F.keep
  refine wpAny_newObj_type (wpAny_newFunctionEnv hcell (by intro y hy; simp at hy) (fun h₃ hns₃ hsb₃ => ?_) hck)
  dsimp only at hns₃ hsb₃ ⊢
  generalize hH : h₂.push { cls := .type "list", dict := Option.none, data := .seq ([] : List Value).toArray } = H at hns₃ hsb₃ ⊢
  have hC : H.objs.size = h₂.objs.size + 1 := by rw [← hH, Heap.size_push]
  have hDC : h₂.objs.size ≠ H.objs.size := by rw [hC]; exact Nat.ne_of_lt (Nat.lt_succ_self _)
  have k₃ : Keep h₂ h₃ := fun b o e => hsb₃.extBut b o (by rw [hC]; exact Nat.ne_of_lt (Nat.lt_succ_of_lt (Heap.lt_size e))) (Heap.get?_push_of_some _ (hH ▸ Heap.get?_push_of_some _ e))
  have hacc : h₃.get? h₂.objs.size = some (lstO [] 0) := hsb₃.extBut _ _ hDC (Heap.get?_push_of_some _ (hH ▸ Heap.get?_push_size _ rfl))
  have nD : h₂.get? h₂.objs.size = Option.none := none_size _
  have nC : h₂.get? H.objs.size = Option.none := none_ge (by rw [hC]; exact Nat.le_succ _)
  generalize h₂.objs.size = L at *
  generalize H.objs.size = C at *
  have old : ∀ {b : Addr} {o : Obj}, h₂.get? b = some o → b ≠ L ∧ b ≠ C := fun {b o} e => ⟨fun q => (by rw [q, nD] at e; cases e), fun q => (by rw [q, nC] at e; cases e)⟩
  have fpo : ∀ b ∈ fp, b ≠ L ∧ b ≠ C := fun b hb' => let ⟨_, e⟩ := F.has b hb'; old e
  have hlen := mapD_len hr
  have hn := F.len
  have loop : ∀ tk, codeAny (model prog w) A (.compLoop (.ListComp elt [⟨.Name x px, iter, [], 0⟩] csc pos) 0 (.ref I) (.ref L) (compEnvC csc (clF env csc.names []) C env))
      (compPost (model prog w) A E Option.none Q (.ref L) C) { s with heap := h₃, toks := tk } := by
    intro tk
    refine codeAny_compLoop_list (fun k s' => ∃ i vs n' m' h' tk', s' = { s with heap := h', toks := tk' } ∧ i ≤ n ∧ k = n + 1 - i ∧ St i h' ∧ h'.Ns C m' ∧ h'.get? L = some (lstO vs n') ∧ Reps (hid h' (L :: Own ++ Oc)) vs (rs.take i) ∧
        ∀ b o, b ∉ wr → h₂.get? b = some o → h'.get? b = some o) ?_ (n + 1) ⟨0, [], 0, _, h₃, tk, rfl, Nat.zero_le _, rfl, F.walks.frame _ _ _ F.st fun b _ o e => k₃ b o e, hns₃, hacc, by simpa using Reps.nil, fun b o _ e => k₃ b o e⟩
    rintro k s' ⟨i, vs, n', m', h', tk', rfl, hi, rfl, hst, hns, hL, hR, hk⟩
    have kk : Keep h₁ h' := fun b o e => hk b o (fun m => by rw [F.isNew b m] at e; cases e) (F.keep b o e)
    have hLw : L ∉ wr := fun m => (fpo L (F.walks.sub _ m)).1 rfl
    have hCw : C ∉ wr := fun m => (fpo C (F.walks.sub _ m)).2 rfl
    have nL₀ : s.heap.get? L = Option.none := by
      cases q : s.heap.get? L with
      | none => rfl
      | some o => rw [k₂ _ _ q] at nD; cases nD
    have nC₀ : s.heap.get? C = Option.none := by
      cases q : s.heap.get? C with
      | none => rfl
      | some o => rw [k₂ _ _ q] at nC; cases nC
    have hvl := hR.length
    have hrl : (rs.take i).length ≤ rs.length := by rw [List.length_take]; exact Nat.min_le_right _ _
    have hll : rs.length ≤ 1000 := of_decide_eq_true hl
    by_cases hlt : i < n
    · refine F.walks.item i _ _ _ hlt hst fun v h₄ tk₄ hP hst₄ hk₄ => ?_
      have hdi : i < ds.length := by omega
      have hdg : ds[i]? = some ds[i] := List.getElem?_eq_getElem hdi
      obtain ⟨r, hrg, hft⟩ := mapD_get hr hdg
      have rv := F.item i v _ hP hdg
      have hns₄ : h₄.Ns C m' := hns.at' fun o e => hk₄ _ o hCw e
      refine wpAny_assign_Name (wpAny_storeName_local (env := compEnvC csc (clF env csc.names []) C env) (lookup_relabel_local hx) hns₄ (fun h₅ hn₅ hs₅ => ?_) (by simp [compEnvC, relabel, hck]))
      have up : ∀ b o, b ∉ wr → b ≠ C → h'.get? b = some o → h₅.get? b = some o := fun b o hbw hbC e => hs₅.extBut b o hbC (hk₄ b o hbw e)
      have k₅ : Keep h₁ h₅ := fun b o e => up b o (fun m => by rw [F.isNew b m] at e; cases e) (old (F.keep b o e)).2 (kk b o e)
      have hL₅ : h₅.get? L = some (lstO vs n') := up L _ hLw hDC hL
      have q₅ : ∀ O, Sub (hid h' O) (hid h₅ O) := fun O => (hid_wr (F.noseq i h' hst) hk₄).trans (hid_sameNs hns₄ hs₅)
      have rv₅ : Rep (hid h₅ (L :: Own ++ Oc)) v ds[i] := rv.mono ((hid_wr_more (F.noseq 0 h₂ F.st) hk nD).trans (q₅ _))
      have gT : Good hb (compEnvC csc (clF env csc.names []) C env) h₅ (L :: Own) Oc (put x ds[i] c) [] :=
        good_turn hs g (k₁.trans k₅) hck o1.2 hx hc hn₅ (by simp) rv₅ nL₀ ⟨_, hL₅⟩
      refine okT _ _ _ C L _ _ gT hft fun y h₆ tk₆ k₆ r₆ => ?_
      refine wpAny_list_append_plain ⟨n', k₆ _ _ hL₅⟩ (fun h₇ hp₇ hs₇ => ?_) (by rw [List.size_toArray, sizeLine_eq]; omega)
      obtain ⟨n₇, hL₇⟩ := hp₇
      have e7 : vs.toArray.push y = (vs ++ [y]).toArray := by simp
      rw [e7] at hL₇
      have up₇ : ∀ b o, b ∉ wr → b ≠ C → b ≠ L → h'.get? b = some o → h₇.get? b = some o := fun b o hbw hbC hbL e => hs₇.extBut b o hbL (k₆ b o (up b o hbw hbC e))
      refine ⟨n + 1 - (i + 1), by omega, i + 1, vs ++ [y], n₇, _, h₇, tk₆, rfl, hlt, rfl, ?_, (hn₅.keeps k₆).sameBut hs₇ hDC.symm, hL₇, ?_, fun b o hbw e => up₇ b o hbw (old e).2 (old e).1 (hk b o hbw e)⟩
      · exact F.walks.frame _ _ _ hst₄ fun b hbf o e => hs₇.extBut b o (fpo b hbf).1 (k₆ b o (hs₅.extBut b o (fpo b hbf).2 e))
      · have e8 : rs.take (i + 1) = rs.take i ++ [r] := by rw [List.take_add_one, hrg]; rfl
        rw [e8]
        have s₇ : Sub (hid h₆ (L :: Own ++ Oc)) (hid h₇ (L :: Own ++ Oc)) := hid_sameBut hs₇ (List.mem_append_left _ List.mem_cons_self)
        exact (hR.mono ((q₅ _).trans ((hid_keep k₆).trans s₇))).append (Reps.one (r₆.mono s₇))
    · have hin : i = n := by omega
      subst hin
      refine F.walks.done _ _ _ hst fun h₄ tk₄ hk₄ => ?_
      have hns₄ : h₄.Ns C m' := hns.at' fun o e => hk₄ _ o hCw e
      refine ⟨m', hns₄, fun h₅ hs₅ => ?_⟩
      have up : ∀ b o, b ∉ wr → b ≠ C → h'.get? b = some o → h₅.get? b = some o := fun b o hbw hbC e => hs₅.extBut b o hbC (hk₄ b o hbw e)
      have k₅ : Keep h₁ h₅ := fun b o e => up b o (fun m => by rw [F.isNew b m] at e; cases e) (old (F.keep b o e)).2 (kk b o e)
      have hL₅ : h₅.get? L = some (lstO vs n') := up L _ hLw hDC hL
      have e8 : rs.take i = rs := List.take_of_length_le (by omega)
      rw [e8] at hR
      have r₅ : Reps (hid h₅ (L :: (Own ++ Oc))) vs rs := hR.mono ((hid_wr (F.noseq i h' hst) hk₄).trans (hid_sameNs hns₄ hs₅))
      refine h (.ref L) h₅ tk₄ (k₁.trans k₅) (.lst (hid_mk hL₅ fun m => ?_) (r₅.mono (hid_fewer fun a m => List.mem_cons_of_mem _ m))) fun _ => ⟨L, vs, n', rs, rfl, rfl, nL₀, hL₅, r₅⟩
      obtain ⟨o, e⟩ := g.hidS L m
      rw [nL₀] at e; cases e
  exact codeAny_compStart_list (loop _) (F.walks.self 0 _ _ _ (F.walks.frame _ _ _ F.st fun b _ o e => k₃ b o e) (loop _))
end
end Mine
namespace Mine
/-! ## comprehensions over pairs -/
structure Feed2 (prog : Program) (w : World) (A : Around) (h₀ : Heap) (O : List Addr) (ds : List D) (it : Value) (h₂ : Heap) (I : Addr) (fp wr : List Addr) (n : Nat) (Pt : Nat → Array Value → Prop) (St : Nat → Heap → Prop) (Mid : Nat → Addr → Heap → Prop) : Prop where
  isIt : it = .ref I
  walks : WalksU prog w A I fp wr n Pt St Mid
  len : n = ds.length
  st : St 0 h₂
  item : ∀ i vals d, Pt i vals → ds[i]? = some d → ∃ v1 v2 d1 d2, vals = #[v1, v2] ∧ d = .tup [d1, d2] ∧ Rep (hid h₀ O) v1 d1 ∧ Rep (hid h₀ O) v2 d2
  keep : Keep h₀ h₂
  isNew : ∀ b ∈ wr, h₀.get? b = Option.none
  has : ∀ b ∈ fp, ∃ o, h₂.get? b = some o
  alive : ∀ i h, St i h → ∀ b ∈ wr, ∃ o, h.get? b = some o
section
variable {prog : Program} {w : World} {T : Tb} {hb : Heap} {mg mb : Str → Option Value} {dep : Nat}
variable {A : Around} {E : Value → Shared → Prop} {s : Shared} {env : Env} {sc : Scope} {Own Oc : List Addr} {ρ : Rho} {σ : Sig}
noncomputable def addrAt (vs : List Value) (j : Nat) : Addr := match vs[j]? with
  | some (.ref t) => t
  | _ => 0
noncomputable def valsAt (h : Heap) (t : Addr) : Array Value := match h.get? t with
  | some o => (match o.data with
    | .seq xs _ => xs
    | _ => #[])
  | Option.none => #[]
theorem pair_rep {V : View} {v : Value} {d1 d2 : D} (r : Rep V v (.tup [d1, d2])) : ∃ t v1 v2 k, v = .ref t ∧ V t = some (tupO [v1, v2] k) ∧ Rep V v1 d1 ∧ Rep V v2 d2 := by
  cases r with
  | tup h r =>
    cases r with
    | cons r1 r2 =>
      cases r2 with
      | cons r2 r3 =>
        cases r3
        exact ⟨_, _, _, _, rfl, h, r1, r2⟩
theorem feed2_list {O : List Addr} {ds : List D} {a : Addr} {vs : List Value} {n : Nat} {Q : Value → Shared → Prop} (hh : A.handled = Option.none)
    (ga : hid s.heap O a = some (lstO vs n)) (r : Reps (hid s.heap O) vs ds) (hp : ∀ d ∈ ds, ∃ d1 d2, d = .tup [d1, d2])
    (h : ∀ it s₂ I fp wr n Pt St Mid, (∃ h₂ tk₂, s₂ = { s with heap := h₂, toks := tk₂ }) → Feed2 prog w A s.heap O ds it s₂.heap I fp wr n Pt St Mid → Q it s₂) :
    wpAny (model prog w) A (pyIter (.ref a)) Q E s := by
  have hl : s.heap.IsList a vs.toArray := ⟨_, (hid_of ga).1, rfl, n, rfl⟩
  have hne : a ≠ s.heap.objs.size := Nat.ne_of_lt (Heap.lt_size (hid_of ga).1)
  have hlen := r.length
  have key : ∀ j, j < vs.length → ∃ t v1 v2 k d1 d2, vs[j]? = some (.ref t) ∧ ds[j]? = some (.tup [d1, d2]) ∧ hid s.heap O t = some (tupO [v1, v2] k) ∧ Rep (hid s.heap O) v1 d1 ∧ Rep (hid s.heap O) v2 d2 := fun j hj => by
    have hd : ds[j]? = some ds[j] := List.getElem?_eq_getElem (by omega)
    obtain ⟨v, hv, rv⟩ := r.get hd
    obtain ⟨d1, d2, e⟩ := hp _ (List.getElem_mem (l := ds) (n := j) (by omega))
    rw [e] at rv
    obtain ⟨t, v1, v2, k, rfl, ht, r1, r2⟩ := pair_rep rv
    exact ⟨t, v1, v2, k, d1, d2, hv, by rw [hd, e], ht, r1, r2⟩
  have tat : ∀ j t, vs[j]? = some (.ref t) → addrAt vs j = t := fun j t e => by unfold addrAt; rw [e]
  have vat : ∀ t v1 v2 k, hid s.heap O t = some (tupO [v1, v2] k) → valsAt s.heap t = #[v1, v2] := fun t v1 v2 k e => by unfold valsAt; rw [(hid_of e).1]; rfl
  have tup : ∀ k, k < vs.length → s.heap.IsTuple (addrAt vs k) (valsAt s.heap (addrAt vs k)) := fun k hk => by
    obtain ⟨t, v1, v2, j, d1, d2, e1, e2, e3, _⟩ := key k hk
    rw [tat k t e1, vat t v1 v2 j e3]
    exact ⟨_, (hid_of e3).1, rfl, j, rfl⟩
  have kp : Keep s.heap (s.heap.push { cls := .type "list_iterator", data := .fields #[.ref a, .int 0 0] }) := Keep.push _
  refine wpAny_pyIter_list hl (h _ _ s.heap.objs.size _ _ _ _ _ _ ⟨_, _, rfl⟩ ⟨rfl, WalksU.listOfTuples hh s.heap.objs.size a hne vs.toArray (addrAt vs) (fun j => valsAt s.heap (addrAt vs j)) ?_ ?_, by rw [List.size_toArray, hlen],
    ⟨⟨_, Heap.get?_push_size _ rfl, rfl, rfl⟩, hl.at fun o e => Heap.get?_push_of_some _ e, ?_⟩, ?_, Keep.push _, ?_, ?_, ?_⟩)
  · intro j hj
    obtain ⟨t, v1, v2, k, d1, d2, e1, _⟩ := key j (by simpa using hj)
    rw [tat j t e1]
    simpa using e1
  · intro j hj q
    obtain ⟨t, v1, v2, k, d1, d2, e1, e2, e3, _⟩ := key j (by simpa using hj)
    rw [tat j t e1] at q
    exact Nat.ne_of_lt (Heap.lt_size (hid_of e3).1) q
  · intro k hk
    exact (tup k (by simpa using hk)).at fun o e => kp _ _ e
  · intro i vals d hP hd
    have hP : vals = valsAt s.heap (addrAt vs i) := hP
    have hi : i < vs.length := by rw [hlen]; exact (List.getElem?_eq_some_iff.mp hd).1
    obtain ⟨t, v1, v2, k, d1, d2, e1, e2, e3, r1, r2⟩ := key i hi
    rw [e2] at hd
    cases hd
    exact ⟨v1, v2, d1, d2, by rw [hP, tat i t e1, vat t v1 v2 k e3], rfl, r1, r2⟩
  · intro b hb'
    rw [List.mem_singleton.mp hb']
    exact none_size _
  · intro b hb'
    rcases List.mem_cons.mp hb' with rfl | hb'
    · exact ⟨_, Heap.get?_push_size _ rfl⟩
    · rcases List.mem_cons.mp hb' with rfl | hb'
      · exact ⟨_, Heap.get?_push_of_some _ (hid_of ga).1⟩
      · obtain ⟨j, hj, rfl⟩ := List.mem_map.mp hb'
        obtain ⟨o, e, _⟩ := tup j (by simpa using hj)
        exact ⟨o, kp _ _ e⟩
  · rintro i h ⟨⟨o', e1, _⟩, _⟩ b hb'
    rw [List.mem_singleton.mp hb']
    exact ⟨_, e1⟩
theorem feed2_zip {O : List Addr} {da db : List D} {a b : Addr} {va vb : List Value} {na nb : Nat} {Q : Value → Shared → Prop} (hh : A.handled = Option.none)
    (ga : hid s.heap O a = some (lstO va na)) (gb : hid s.heap O b = some (lstO vb nb)) (ra : Reps (hid s.heap O) va da) (rb : Reps (hid s.heap O) vb db)
    (h : ∀ it s₂ I fp wr n Pt St Mid, (∃ h₂ tk₂, s₂ = { s with heap := h₂, toks := tk₂ }) → Feed2 prog w A s.heap O (List.zipWith (fun x y => D.tup [x, y]) da db) it s₂.heap I fp wr n Pt St Mid → Q it s₂) :
    wpAny (model prog w) A (call (.type "zip") [.ref a, .ref b]) (fun x s₁ => wpAny (model prog w) A (pyIter x) Q E s₁) E s := by
  have hl1 : s.heap.IsList a va.toArray := ⟨_, (hid_of ga).1, rfl, na, rfl⟩
  have hl2 : s.heap.IsList b vb.toArray := ⟨_, (hid_of gb).1, rfl, nb, rfl⟩
  have hla := ra.length
  have hlb := rb.length
  have D0 := zipApart_new (Heap.lt_size (hid_of ga).1) (Heap.lt_size (hid_of gb).1)
  refine call_zip_2 hl1 hl2 fun h' hz hTI hTO hi1 hi2 hsz hk => ?_
  have kp : Keep s.heap h' := fun b o e => hk b o e
  refine wpAny_pyIter_zip hz (h _ _ (s.heap.objs.size + 4) _ _ _ _ _ _ ⟨_, _, rfl⟩ ⟨rfl, (WalksT.zip2 hh _ _ _ _ _ _ _ D0 va.toArray vb.toArray).toU, ?_, ⟨hz, hTI, ⟨_, _, hTO⟩, hi1, hi2, hl1.at fun o e => hk _ o e, hl2.at fun o e => hk _ o e⟩, ?_, kp, ?_, ?_, ?_⟩)
  · simp [hla, hlb]
  · rintro i vals d ⟨x, y, hx, hy, rfl⟩ hd
    rw [List.getElem?_zipWith] at hd
    have hx : va[i]? = some x := by simpa using hx
    have hy : vb[i]? = some y := by simpa using hy
    cases e1 : da[i]? with
    | none => rw [e1] at hd; cases hd
    | some d1 =>
      cases e2 : db[i]? with
      | none => rw [e1, e2] at hd; cases hd
      | some d2 =>
        rw [e1, e2] at hd
        cases hd
        obtain ⟨v1, h1, r1⟩ := ra.get e1
        obtain ⟨v2, h2, r2⟩ := rb.get e2
        rw [hx] at h1; cases h1
        rw [hy] at h2; cases h2
        exact ⟨_, _, _, _, rfl, rfl, r1, r2⟩
  · intro c hc
    have hb' : c = s.heap.objs.size + 4 ∨ c = s.heap.objs.size + 3 ∨ c = s.heap.objs.size ∨ c = s.heap.objs.size + 1 := by simpa using hc
    rcases hb' with rfl | rfl | rfl | rfl
    · exact none_ge (Nat.le_add_right _ _)
    · exact none_ge (Nat.le_add_right _ _)
    · exact none_size _
    · exact none_ge (Nat.le_add_right _ _)
  · intro c hc
    have hb' : c = s.heap.objs.size + 4 ∨ c = s.heap.objs.size + 2 ∨ c = s.heap.objs.size + 3 ∨ c = s.heap.objs.size ∨ c = s.heap.objs.size + 1 ∨ c = a ∨ c = b := by simpa using hc
    rcases hb' with rfl | rfl | rfl | rfl | rfl | rfl | rfl
    · exact ⟨_, hz⟩
    · exact ⟨_, hTI⟩
    · exact ⟨_, hTO⟩
    · obtain ⟨o, e, _⟩ := hi1; exact ⟨o, e⟩
    · obtain ⟨o, e, _⟩ := hi2; exact ⟨o, e⟩
    · exact ⟨_, kp _ _ (hid_of ga).1⟩
    · exact ⟨_, kp _ _ (hid_of gb).1⟩
  · rintro i h₁ ⟨hz, hTI, ⟨x, y, hTO⟩, ⟨o1, ho1, _⟩, ⟨o2, ho2, _⟩, _⟩ c hc
    have hb' : c = s.heap.objs.size + 4 ∨ c = s.heap.objs.size + 3 ∨ c = s.heap.objs.size ∨ c = s.heap.objs.size + 1 := by simpa using hc
    rcases hb' with rfl | rfl | rfl | rfl
    · exact ⟨_, hz⟩
    · exact ⟨_, hTO⟩
    · exact ⟨_, ho1⟩
    · exact ⟨_, ho2⟩
theorem sound_iterZ {f : Expr → Option D} {e : Expr} {ds : List D} {Q : Value → Shared → Prop} (K : TbOk prog w T hb mg mb dep) (ha : AOk A dep) (hs : ScOk sc env) (g : Good hb env s.heap Own Oc ρ σ)
    (ok : ∀ (E Q : Value → Shared → Prop) (s : Shared) (e : Expr) (d : D), Good hb env s.heap Own Oc ρ σ → f e = some d →
      (∀ v h' tk', Keep s.heap h' → Rep (hid h' (Own ++ Oc)) v d → Q v { s with heap := h', toks := tk' }) → wpAny (model prog w) A (eval e env) Q E s)
    (q : iterZ T f sc ρ e = some ds) (hp : ∀ d ∈ ds, ∃ d1 d2, d = .tup [d1, d2])
    (h : ∀ it s₂ h₁ I fp wr n Pt St Mid, (∃ h₂ tk₂, s₂ = { s with heap := h₂, toks := tk₂ }) → Keep s.heap h₁ → Feed2 prog w A h₁ (Own ++ Oc) ds it s₂.heap I fp wr n Pt St Mid → Q it s₂) :
    wpAny (model prog w) A (eval e env) (fun x s₁ => wpAny (model prog w) A (pyIter x) Q E s₁) E s := by
  unfold iterZ at q
  split at q
  · rename_i ab hr
    obtain ⟨d1, d2, h1, h2, hz⟩ := op2_eq q
    clear q
    unfold isZipCall at hr
    split at hr
    · rename_i x p a b pos
      split at hr
      · rename_i c
        cases hr
        obtain ⟨rfl, _, _, h3, h4⟩ := c
        have hd : evs f [a, b] = some [d1, d2] := by
          have h1 : f a = some d1 := h1
          have h2 : f b = some d2 := h2
          simp only [evs, h1, h2, consO]
        refine Call_ (load_bi K hs g h3 K.zp.1 K.zp.2 (by decide) ?_)
        refine callWith_args (by simp) h4 (.inr (.inr ⟨_, rfl⟩)) (sound_list pos ok [a, b] [d1, d2] s _ g h4 hd fun vs h₁ tk₁ k₁ r₁ => ⟨g.keep.trans k₁, ?_⟩)
        unfold zipD at hz
        split at hz
        · split at hz
          · cases hz
            cases r₁ with
            | cons r1 r2 =>
              cases r2 with
              | cons r2 r3 =>
                cases r3
                cases r1 with
                | lst ga ra =>
                  cases r2 with
                  | lst gb rb =>
                    refine feed2_zip ha.handled ga gb ra rb fun it s₂ I fp wr n Pt St Mid e F => ?_
                    obtain ⟨h₂, tk₂, rfl⟩ := e
                    exact h _ _ _ _ _ _ _ _ _ _ ⟨_, _, rfl⟩ k₁ F
          · cases hz
        · cases hz
      · cases hr
    · cases hr
  · split at q
    · cases q
    · obtain ⟨d, hd, hz⟩ := op1_eq q
      clear q
      unfold lstD at hz
      split at hz
      · split at hz
        · cases hz
          refine ok _ _ _ _ _ g hd fun v h₁ tk₁ k₁ r₁ => ?_
          cases r₁ with
          | lst ga r =>
            refine feed2_list ha.handled ga r hp fun it s₂ I fp wr n Pt St Mid e F => ?_
            obtain ⟨h₂, tk₂, rfl⟩ := e
            exact h _ _ _ _ _ _ _ _ _ _ ⟨_, _, rfl⟩ k₁ F
        · cases hz
      · cases hz
theorem iterZ_noSet {f : Expr → Option D} {e : Expr} {ds : List D} (q : iterZ T f sc ρ e = some ds) : isSet e = false := by
  unfold iterZ at q
  split at q
  · rename_i args hr
    unfold isZipCall at hr
    split at hr
    · rfl
    · cases hr
  · split at q
    · cases q
    · rename_i c; simpa using c
theorem tup2_all {f : D → D → Option D} : ∀ {ds rs : List D}, mapD (tup2 f) ds = some rs → ∀ d ∈ ds, ∃ d1 d2, d = .tup [d1, d2]
  | [], rs, h, d, m => by cases m
  | x :: r, rs, h, d, m => by
    rw [mapD] at h
    obtain ⟨y, ys, h1, h2, _⟩ := consO_eq h
    rcases List.mem_cons.mp m with rfl | m
    · unfold tup2 at h1
      split at h1
      · exact ⟨_, _, rfl⟩
      · cases h1
    · exact tup2_all h2 d m
theorem not_dict0 {h : Heap} {L : Addr} {m : Str → Option Value} {o : Obj} (n : h.Ns L m) (q : isSeq o) : h.get? L ≠ some o := by
  intro e
  obtain ⟨o', es, ep, ho, hd, _⟩ := n
  rw [e] at ho
  obtain ⟨T, vs, n, rfl⟩ := q
  cases ho; cases hd
theorem Keep.none_back {h h' : Heap} (k : Keep h h') {a : Addr} (n : h'.get? a = Option.none) : h.get? a = Option.none := by
  cases q : h.get? a with
  | none => rfl
  | some o => rw [k _ _ q] at n; cases n
theorem good_turn2 {csc : Scope} {x y : Str} {c : Rho} {h h₀ : Heap} {C : Addr} {H : List Addr} {mC : Str → Option Value} {v u : Value} {d e : D} (hs : ScOk sc env) (g : Good hb env h₀ Own Oc ρ σ) (k : Keep h₀ h)
    (hck : csc.kind = .function) (hfree : csc.names.all (fun y => decide (y.2 = .free → csc.names.lookup y.1 = some .free)) = true)
    (hx : csc.names.lookup x = some .local) (hy : csc.names.lookup y = some .local) (hc : capt sc ρ csc.names = some c) (hn : h.Ns C mC) (hm : x ≠ y → mC x = some v) (hm2 : mC y = some u)
    (rv : Rep (hid h (H ++ Own ++ Oc)) v d) (ru : Rep (hid h (H ++ Own ++ Oc)) u e) (hxy : x ≠ y)
    (hnew : ∀ a ∈ H, h₀.get? a = Option.none) (hlive : ∀ a ∈ H, ∃ o, h.get? a = some o) :
    Good hb (compEnvC csc (clF env csc.names []) C env) h (H ++ Own) Oc (put y e (put x d c)) [] where
  kind := hck
  gl := g.gl
  bl := g.bl
  keep := g.keep.trans k
  hidB := fun a m => by
    rw [List.append_assoc] at m
    rcases List.mem_append.mp m with m | m
    · exact g.keep.none_back (hnew a m)
    · exact g.hidB a m
  hidS := fun a m => by
    rw [List.append_assoc] at m
    rcases List.mem_append.mp m with m | m
    · exact hlive a m
    · obtain ⟨o, e⟩ := g.hidS a m
      exact ⟨o, k _ _ e⟩
  val := fun z q' q => by
    rw [get_put] at q
    by_cases hz : z = y
    · subst hz
      rw [if_pos rfl] at q
      cases q
      exact ⟨u, .inl ⟨lookup_relabel_local hy, mC, hn, hm2⟩, ru⟩
    · rw [if_neg hz, get_put] at q
      by_cases hz2 : z = x
      · subst hz2
        rw [if_pos rfl] at q
        cases q
        exact ⟨v, .inl ⟨lookup_relabel_local hx, mC, hn, hm hxy⟩, rv⟩
      · rw [if_neg hz2] at q
        obtain ⟨m, hsc, hd⟩ := capt_mem hc q
        obtain ⟨v', l, r⟩ := g.val _ _ hd
        have hcell := hs.cell _ hsc
        rcases l with ⟨hl, _⟩ | ⟨_, a, ha, hv⟩
        · rw [hcell] at hl; cases hl
        · refine ⟨v', .inr ⟨.inl (relabel_free g.kind hcell (lookup_free hfree m)), a, clF_acc ha _ _ (.inr ⟨m, rfl⟩), hv.keeps k⟩, r.mono fun b o _ e => ?_⟩
          refine hid_mk (k _ _ (hid_of e).1) fun mm => ?_
          rw [List.append_assoc] at mm
          rcases List.mem_append.mp mm with mm | mm
          · have := hnew b mm
            rw [(hid_of e).1] at this; cases this
          · exact (hid_of e).2 mm
  own := fun y ds q => by cases q
theorem sound_comp2 {f : Expr → Option D} {ft : D → D → Option D} {elt iter : Expr} {x y : Str} {px py tp pos : Pos} {kk : Nat} {csc : Scope} {c : Rho} {ds rs : List D} {Q : Value → Shared → Prop} (K : TbOk prog w T hb mg mb dep) (ha : AOk A dep) (hs : ScOk sc env) (g : Good hb env s.heap Own Oc ρ σ)
    (ok : ∀ (E Q : Value → Shared → Prop) (s : Shared) (e : Expr) (d : D), Good hb env s.heap Own Oc ρ σ → f e = some d →
      (∀ v h' tk', Keep s.heap h' → Rep (hid h' (Own ++ Oc)) v d → Q v { s with heap := h', toks := tk' }) → wpAny (model prog w) A (eval e env) Q E s)
    (okT : ∀ (E Q : Value → Shared → Prop) (s : Shared) (C : Addr) (Own' : List Addr) (a b r : D), Good hb (compEnvC csc (clF env csc.names []) C env) s.heap Own' Oc (put y b (put x a c)) [] → ft a b = some r →
      (∀ v h' tk', Keep s.heap h' → Rep (hid h' (Own' ++ Oc)) v r → Q v { s with heap := h', toks := tk' }) → wpAny (model prog w) A (eval elt (compEnvC csc (clF env csc.names []) C env)) Q E s)
    (hok : compOk csc = true) (hx : csc.names.lookup x = some .local) (hy : csc.names.lookup y = some .local) (hxy : x ≠ y) (hd : iterZ T f sc ρ iter = some ds) (hc : capt sc ρ csc.names = some c) (hr : mapD (tup2 ft) ds = some rs) (hl : okLen rs.length = true)
    (h : RetF s (Own ++ Oc) (.lst rs) true Q) : wpAny (model prog w) A (eval (.ListComp elt [⟨.Tuple [.Name x px, .Name y py] kk tp, iter, [], 0⟩] csc pos) env) Q E s := by
  unfold compOk at hok
  have o1 := Bool.and_eq_true_iff.mp hok
  have o2 := Bool.and_eq_true_iff.mp o1.1
  have o3 := Bool.and_eq_true_iff.mp o2.1
  have hck : csc.kind = .function := of_decide_eq_true o3.1
  have hcell : ∀ y ∈ csc.names, y.2 ≠ .cell := fun y hy => of_decide_eq_true (List.all_eq_true.mp o3.2 y hy)
  have hnames : ∀ y ∈ csc.names, y.2 = .local → csc.names.lookup y.1 = some .local := fun y hy => of_decide_eq_true (List.all_eq_true.mp o2.2 y hy)
  rw [eval_ListComp]
  refine wpAny_comprehension_free (use := Option.none) rfl (folded (iterZ_noSet hd)) (closure_of fun y hy q => ?_) hck hnames ?_
  · obtain ⟨n, k⟩ := y
    dsimp only at q
    subst q
    obtain ⟨hsc, d, hd'⟩ := capt_all hc hy
    obtain ⟨v, l, _⟩ := g.val _ _ hd'
    rcases l with ⟨hl', _⟩ | ⟨_, a, ha', _⟩
    · rw [hs.cell _ hsc] at hl'; cases hl'
    · rw [ha']; rfl
  refine sound_iterZ K ha hs g ok hd (tup2_all hr) fun it s₂ h₁ I fp wr n Pt St Mid e k₁ F => ?_
  obtain ⟨h₂, tk₂, rfl⟩ := e
  have hit := F.isIt
  subst hit
  have k₂ : Keep s.heap h₂ := k₁.trans F.keep
  refine wpAny_newObj_type (wpAny_newFunctionEnv hcell (by intro y hy; simp at hy) (fun h₃ hns₃ hsb₃ => ?_) hck)
  dsimp only at hns₃ hsb₃ ⊢
  generalize hH : h₂.push { cls := .type "list", dict := Option.none, data := .seq ([] : List Value).toArray } = H at hns₃ hsb₃ ⊢
  have hC : H.objs.size = h₂.objs.size + 1 := by rw [← hH, Heap.size_push]
  have hDC : h₂.objs.size ≠ H.objs.size := by rw [hC]; exact Nat.ne_of_lt (Nat.lt_succ_self _)
  have k₃ : Keep h₂ h₃ := fun b o e => hsb₃.extBut b o (by rw [hC]; exact Nat.ne_of_lt (Nat.lt_succ_of_lt (Heap.lt_size e))) (Heap.get?_push_of_some _ (hH ▸ Heap.get?_push_of_some _ e))
  have hacc : h₃.get? h₂.objs.size = some (lstO [] 0) := hsb₃.extBut _ _ hDC (Heap.get?_push_of_some _ (hH ▸ Heap.get?_push_size _ rfl))
  have nD : h₂.get? h₂.objs.size = Option.none := none_size _
  have nC : h₂.get? H.objs.size = Option.none := none_ge (by rw [hC]; exact Nat.le_succ _)
  generalize h₂.objs.size = L at *
  generalize H.objs.size = C at *
  have old : ∀ {b : Addr} {o : Obj}, h₂.get? b = some o → b ≠ L ∧ b ≠ C := fun {b o} e => ⟨fun q => (by rw [q, nD] at e; cases e), fun q => (by rw [q, nC] at e; cases e)⟩
  have fpo : ∀ b ∈ fp, b ≠ L ∧ b ≠ C := fun b hb' => let ⟨_, e⟩ := F.has b hb'; old e
  have hlen := mapD_len hr
  have hn := F.len
  have nL₁ : h₁.get? L = Option.none := F.keep.none_back nD
  have nL₀ : s.heap.get? L = Option.none := k₁.none_back nL₁
  have hLw : L ∉ wr := fun m => (fpo L (F.walks.sub _ m)).1 rfl
  have hCw : C ∉ wr := fun m => (fpo C (F.walks.sub _ m)).2 rfl
  -- what stays hidden within a turn
  have sub₁ : ∀ (hA hB : Heap) (W : List Addr), (∀ b o, b ∉ W → b ≠ L → hA.get? b = some o → hB.get? b = some o) → Sub (hid hA (L :: W ++ (Own ++ Oc))) (hid hB (L :: W ++ (Own ++ Oc))) := fun hA hB W q b o _ e =>
    hid_mk (q b o (fun m => (hid_of e).2 (List.mem_append_left _ (List.mem_cons_of_mem _ m))) (fun m => (hid_of e).2 (List.mem_append_left _ (by rw [m]; exact List.mem_cons_self))) (hid_of e).1) (hid_of e).2
  have loop : ∀ tk, codeAny (model prog w) A (.compLoop (.ListComp elt [⟨.Tuple [.Name x px, .Name y py] kk tp, iter, [], 0⟩] csc pos) 0 (.ref I) (.ref L) (compEnvC csc (clF env csc.names []) C env))
      (compPost (model prog w) A E Option.none Q (.ref L) C) { s with heap := h₃, toks := tk } := by
    intro tk
    refine kcp_loop (fun k s' => ∃ i vs n' m' h' tk', s' = { s with heap := h', toks := tk' } ∧ i ≤ n ∧ k = n + 1 - i ∧ St i h' ∧ h'.Ns C m' ∧ h'.get? L = some (lstO vs n') ∧ Reps (hid h' (L :: wr ++ (Own ++ Oc))) vs (rs.take i) ∧
        ∀ b o, b ∉ wr → h₂.get? b = some o → h'.get? b = some o) ?_ (n + 1) ⟨0, [], 0, _, h₃, tk, rfl, Nat.zero_le _, rfl, F.walks.frame _ _ _ F.st fun b _ o e => k₃ b o e, hns₃, hacc, by simpa using Reps.nil, fun b o _ e => k₃ b o e⟩
    rintro k s' ⟨i, vs, n', m', h', tk', rfl, hi, rfl, hst, hns, hL, hR, hk⟩
    have kk' : Keep h₁ h' := fun b o e => hk b o (fun m => by rw [F.isNew b m] at e; cases e) (F.keep b o e)
    have hvl := hR.length
    have hrl : (rs.take i).length ≤ rs.length := by rw [List.length_take]; exact Nat.min_le_right _ _
    have hll : rs.length ≤ 1000 := of_decide_eq_true hl
    by_cases hlt : i < n
    · refine F.walks.item i _ _ _ hlt hst fun Tt vals h₄ tk₄ hP hT₄ hM₄ hk₄ => ?_
      refine F.walks.go _ _ _ i Tt _ _ _ hM₄ fun h₅ hst₅ hk₅ => ?_
      have hdi : i < ds.length := by omega
      have hdg : ds[i]? = some ds[i] := List.getElem?_eq_getElem hdi
      obtain ⟨r, hrg, hft⟩ := mapD_get hr hdg
      obtain ⟨v1, v2, d1, d2, rfl, hdd, r1, r2⟩ := F.item i vals _ hP hdg
      rw [hdd] at hft
      have hft : ft d1 d2 = some r := hft
      have up₅ : ∀ b o, b ∉ wr → h'.get? b = some o → h₅.get? b = some o := fun b o m e => hk₅ b o m (hk₄ b o m e)
      have hT₅ : h₅.IsTuple Tt #[v1, v2] := hT₄.at fun o e => hk₅ _ o (F.walks.apart i Tt _ hM₄) e
      have hns₅ : h₅.Ns C m' := hns.at' fun o e => up₅ _ o hCw e
      refine kcp_assign (env := compEnvC csc (clF env csc.names []) C env) ha.handled hT₅ (lookup_relabel_local hx) (lookup_relabel_local hy) (by simp [compEnvC, relabel, hck]) hns₅ fun h₆ tk₆ hn₆ hk₆ => ?_
      have hk₆ : ∀ b o, b ≠ C → h₅.get? b = some o → h₆.get? b = some o := fun b o q e => hk₆ b o q e
      have up₆ : ∀ b o, b ∉ wr → b ≠ C → h'.get? b = some o → h₆.get? b = some o := fun b o m q e => hk₆ b o q (up₅ b o m e)
      have k₆ : Keep h₁ h₆ := fun b o e => up₆ b o (fun m => by rw [F.isNew b m] at e; cases e) (old (F.keep b o e)).2 (kk' b o e)
      have hL₆ : h₆.get? L = some (lstO vs n') := up₆ L _ hLw hDC hL
      have s1 : Sub (hid h₁ (Own ++ Oc)) (hid h₆ (L :: wr ++ (Own ++ Oc))) := fun b o _ e => hid_mk (k₆ b o (hid_of e).1) fun m => by
        rcases List.mem_append.mp m with m | m
        · rcases List.mem_cons.mp m with rfl | m
          · rw [(hid_of e).1] at nL₁; cases nL₁
          · have := F.isNew b m
            rw [(hid_of e).1] at this; cases this
        · exact (hid_of e).2 m
      have live : ∀ a ∈ L :: wr, ∃ o, h₆.get? a = some o := fun a m => by
        rcases List.mem_cons.mp m with rfl | m
        · exact ⟨_, hL₆⟩
        · obtain ⟨o, e⟩ := F.alive _ _ hst₅ a m
          exact ⟨o, hk₆ _ _ (fun z => hCw (z ▸ m)) e⟩
      have gT : Good hb (compEnvC csc (clF env csc.names []) C env) h₆ (L :: wr ++ Own) Oc (put y d2 (put x d1 c)) [] :=
        good_turn2 (H := L :: wr) (v := v1) (u := v2) (mC := fun z => if z = y then some v2 else if z = x then some v1 else m' z) hs g (k₁.trans k₆) hck o1.2 hx hy hc hn₆ (fun _ => by simp [hxy]) (by simp) (by rw [List.append_assoc]; exact r1.mono s1) (by rw [List.append_assoc]; exact r2.mono s1) hxy (fun a m => by
          rcases List.mem_cons.mp m with rfl | m
          · exact nL₀
          · exact k₁.none_back (F.isNew a m)) live
      refine okT _ _ _ C (L :: wr ++ Own) _ _ _ gT hft fun z h₇ tk₇ k₇ r₇ => ?_
      rw [List.append_assoc] at r₇
      refine wpAny_list_append_plain ⟨n', k₇ _ _ hL₆⟩ (fun h₈ hp₈ hs₈ => ?_) (by rw [List.size_toArray, sizeLine_eq]; omega)
      obtain ⟨n₈, hL₈⟩ := hp₈
      have e7 : vs.toArray.push z = (vs ++ [z]).toArray := by simp
      rw [e7] at hL₈
      have up₈ : ∀ b o, b ∉ wr → b ≠ C → b ≠ L → h'.get? b = some o → h₈.get? b = some o := fun b o hbw hbC hbL e => hs₈.extBut b o hbL (k₇ b o (up₆ b o hbw hbC e))
      refine ⟨n + 1 - (i + 1), by omega, i + 1, vs ++ [z], n₈, _, h₈, tk₇, rfl, hlt, rfl, ?_, (hn₆.keeps k₇).sameBut hs₈ hDC.symm, hL₈, ?_, fun b o hbw e => up₈ b o hbw (old e).2 (old e).1 (hk b o hbw e)⟩
      · exact F.walks.frame _ _ _ hst₅ fun b hbf o e => hs₈.extBut b o (fpo b hbf).1 (k₇ b o (hk₆ b o (fpo b hbf).2 e))
      · have e8 : rs.take (i + 1) = rs.take i ++ [r] := by rw [List.take_add_one, hrg]; rfl
        rw [e8]
        have s₈ : Sub (hid h₇ (L :: wr ++ (Own ++ Oc))) (hid h₈ (L :: wr ++ (Own ++ Oc))) := hid_sameBut hs₈ (List.mem_append_left _ List.mem_cons_self)
        have sC : Sub (hid h' (L :: wr ++ (Own ++ Oc))) (hid h₆ (L :: wr ++ (Own ++ Oc))) := fun b o q e => hid_mk (up₆ b o (fun m => (hid_of e).2 (List.mem_append_left _ (List.mem_cons_of_mem _ m))) (fun z => not_dict0 hns q (z ▸ (hid_of e).1)) (hid_of e).1) (hid_of e).2
        exact (hR.mono (sC.trans ((hid_keep k₇).trans s₈))).append (Reps.one (r₇.mono s₈))
    · have hin : i = n := by omega
      subst hin
      refine F.walks.done _ _ _ hst fun h₄ tk₄ hk₄ => ?_
      have hns₄ : h₄.Ns C m' := hns.at' fun o e => hk₄ _ o hCw e
      refine ⟨m', hns₄, fun h₅ hs₅ => ?_⟩
      have up : ∀ b o, b ∉ wr → b ≠ C → h'.get? b = some o → h₅.get? b = some o := fun b o hbw hbC e => hs₅.extBut b o hbC (hk₄ b o hbw e)
      have k₅ : Keep h₁ h₅ := fun b o e => up b o (fun m => by rw [F.isNew b m] at e; cases e) (old (F.keep b o e)).2 (kk' b o e)
      have hL₅ : h₅.get? L = some (lstO vs n') := up L _ hLw hDC hL
      have e8 : rs.take i = rs := List.take_of_length_le (by omega)
      rw [e8] at hR
      have sC : Sub (hid h' (L :: wr ++ (Own ++ Oc))) (hid h₅ (L :: (Own ++ Oc))) := fun b o q e => hid_mk (up b o (fun m => (hid_of e).2 (List.mem_append_left _ (List.mem_cons_of_mem _ m))) (fun z => not_dict0 hns q (z ▸ (hid_of e).1)) (hid_of e).1) fun m => (hid_of e).2 (by
        rcases List.mem_cons.mp m with rfl | m
        · exact List.mem_append_left _ List.mem_cons_self
        · exact List.mem_append_right _ m)
      have r₅ : Reps (hid h₅ (L :: (Own ++ Oc))) vs rs := hR.mono sC
      refine h (.ref L) h₅ tk₄ (k₁.trans k₅) (.lst (hid_mk hL₅ fun m => ?_) (r₅.mono (hid_fewer fun a m => List.mem_cons_of_mem _ m))) fun _ => ⟨L, vs, n', rs, rfl, rfl, nL₀, hL₅, r₅⟩
      obtain ⟨o, e⟩ := g.hidS L m
      rw [nL₀] at e; cases e
  exact codeAny_compStart_list (loop _) (F.walks.self 0 _ _ _ (F.walks.frame _ _ _ F.st fun b _ o e => k₃ b o e) (loop _))
end
end Mine
namespace Mine
section
variable {prog : Program} {w : World} {T : Tb} {hb : Heap} {mg mb : Str → Option Value} {dep : Nat}
theorem evPart_none {env : Env} : evalPart Option.none env = pure Value.none := rfl
theorem evPart_some {env : Env} {e : Expr} : evalPart (some e) env = eval e env := rfl
theorem toArray_take (vs : List Value) (k : Nat) : (vs.toArray.toList.take k).toArray = (vs.take k).toArray := by simp
theorem toArray_drop (vs : List Value) (k : Nat) : (vs.toArray.toList.drop k).toArray = (vs.drop k).toArray := by simp
theorem evs_len {f : Expr → Option D} : ∀ {es : List Expr} {ds : List D}, evs f es = some ds → ds.length = es.length
  | [], ds, h => by rw [evs] at h; cases h; rfl
  | e :: r, ds, h => by
    rw [evs] at h
    obtain ⟨x, xs, h1, h2, rfl⟩ := consO_eq h
    simp [evs_len h2]
theorem pick_take {vs : List Value} {k : Int} (hk : 0 ≤ k) : slicePick vs.toArray Option.none (some k) Option.none = (vs.take k.toNat).toArray := by
  obtain ⟨n, rfl⟩ := Int.eq_ofNat_of_zero_le hk
  rw [slicePick_upto']; simp
theorem pick_drop {vs : List Value} {k : Int} (hk : 0 ≤ k) : slicePick vs.toArray (some k) Option.none Option.none = (vs.drop k.toNat).toArray := by
  obtain ⟨n, rfl⟩ := Int.eq_ofNat_of_zero_le hk
  rw [slicePick_from']; simp
theorem slice_new {h : Heap} {O : List Addr} {vs : List Value} {ds : List D} (o : Obj) (hO : ∀ a ∈ O, ∃ o, h.get? a = some o) (r : Reps (hid h O) vs ds) :
    Rep (hid ((h.push o).push { cls := .type "list", data := .seq vs.toArray }) O) (.ref (h.objs.size + 1)) (.lst ds) := by
  have := Rep.new_lst (h := h.push o) (O := O) (vs := vs) (ds := ds) (fun a m => by obtain ⟨o', e⟩ := hO a m; rw [Heap.size_push]; exact Nat.lt_succ_of_lt (Heap.lt_size e)) (r.mono (hid_keep (Keep.push _)))
  rwa [Heap.size_push] at this
theorem sliceD_hi {a b d : D} (q : sliceD a Option.none (some b) = some d) : ∃ ds k, a = .lst ds ∧ b = .int k ∧ 0 ≤ k ∧ okLen ds.length = true ∧ d = .lst (ds.take k.toNat) := by
  unfold sliceD at q
  split at q
  · split at q
    · rename_i h1 h2 h3 c
      have c := Bool.and_eq_true_iff.mp c
      cases q; cases h3
      exact ⟨_, _, rfl, rfl, of_decide_eq_true c.1, c.2, rfl⟩
    · cases q
  · rename_i h1 h2 h3; cases h2
  · cases q
theorem sliceD_lo {a b d : D} (q : sliceD a (some b) Option.none = some d) : ∃ ds k, a = .lst ds ∧ b = .int k ∧ 0 ≤ k ∧ okLen ds.length = true ∧ d = .lst (ds.drop k.toNat) := by
  unfold sliceD at q
  split at q
  · rename_i h1 h2 h3; cases h2
  · split at q
    · rename_i h1 h2 h3 c
      have c := Bool.and_eq_true_iff.mp c
      cases q; cases h2
      exact ⟨_, _, rfl, rfl, of_decide_eq_true c.1, c.2, rfl⟩
    · cases q
  · cases q
theorem sound_base {A : Around} {E Q : Value → Shared → Prop} {s : Shared} {env : Env} {Own Oc : List Addr} {ρ : Rho} {σ : Sig} {f : Expr → Option D} {v i : Expr} {a b d : D} (g : Good hb env s.heap Own Oc ρ σ)
    (ok : ∀ (E Q : Value → Shared → Prop) (s : Shared) (e : Expr) (d : D), Good hb env s.heap Own Oc ρ σ → f e = some d →
      (∀ v h' tk', Keep s.heap h' → Rep (hid h' (Own ++ Oc)) v d → Q v { s with heap := h', toks := tk' }) → wpAny (model prog w) A (eval e env) Q E s)
    (hi : isSlice i = false) (h1 : baseD f σ v = some a) (h2 : f i = some b) (h3 : itemOf a b = some d)
    (h : ∀ v h' tk', Keep s.heap h' → Rep (hid h' (Own ++ Oc)) v d → Q v { s with heap := h', toks := tk' }) : wpAny (model prog w) A (eval (.Subscript v i pos) env) Q E s := by
  refine Subscript_ ?_
  have fin : ∀ {s₁ : Shared} {vb : Value}, (∃ h₁ tk₁, s₁ = { s with heap := h₁, toks := tk₁ }) → Keep s.heap s₁.heap → Rep (hid s₁.heap (Own ++ Oc)) vb a → wpAny (model prog w) A (eval i env) (fun iv s₂ => wpAny (model prog w) A (subscriptTail v i vb iv) Q E s₂) E s₁ := by
    intro s₁ vb e k₁ r₁
    obtain ⟨h₁, tk₁, rfl⟩ := e
    refine ok _ _ _ _ _ (g.on k₁) h2 fun iv h₂ tk₂ k₂ r₂ => ?_
    have r₁ := r₁.mono (hid_keep k₂)
    unfold itemOf at h3
    split at h3
    · cases r₁ with
      | lst ga r => exact sound_item_lst (fun t k => hs_of hi _ _) (hid_of ga).1 r h3 r₂ fun u ru => h u _ _ (k₁.trans k₂) ru
    · cases r₁ with
      | tup ga r => exact sound_item_tup (fun t k => hs_of hi _ _) (hid_of ga).1 r h3 r₂ fun u ru => h u _ _ (k₁.trans k₂) ru
    · cases h3
  unfold baseD at h1
  split at h1
  · rename_i x p
    split at h1
    · rename_i ds hd
      split at h1
      · rename_i okx
        cases h1
        obtain ⟨ad, vs, n, l, m, e, r⟩ := g.own _ _ hd
        have okx' := Bool.and_eq_true_iff.mp okx
        refine wpAny_Name (l.load g.kind okx ?_) (by simpa using okx'.1)
        -- the own list is not visible: read it in place
        refine ok _ _ _ _ _ g h2 fun iv h₂ tk₂ k₂ r₂ => ?_
        unfold itemOf at h3
        exact sound_item_lst (fun t k => hs_of hi _ _) (k₂ _ _ e) (r.mono (hid_keep k₂)) h3 r₂ fun u ru => h u _ _ k₂ ru
      · cases h1
    · exact ok _ _ _ _ _ g h1 fun vb h₁ tk₁ k₁ r₁ => fin ⟨_, _, rfl⟩ k₁ r₁
  · exact ok _ _ _ _ _ g h1 fun vb h₁ tk₁ k₁ r₁ => fin ⟨_, _, rfl⟩ k₁ r₁
theorem sound_E_step {ev₁ : Ev} (K : TbOk prog w T hb mg mb dep) (IE : SoundE prog w T hb dep ev₁.E) (IT : SoundT prog w hb dep ev₁.T) : SoundE prog w T hb dep (stepE T ev₁) := by
  intro A E Q s env sc Own Oc ρ σ e d ha hs g q h
  have ok : ∀ (E Q : Value → Shared → Prop) (s : Shared) (e : Expr) (d : D), Good hb env s.heap Own Oc ρ σ → ev₁.E sc ρ σ e = some d →
      (∀ v h' tk', Keep s.heap h' → Rep (hid h' (Own ++ Oc)) v d → Q v { s with heap := h', toks := tk' }) → wpAny (model prog w) A (eval e env) Q E s :=
    fun E Q s e d g q h => IE A E Q s env sc Own Oc ρ σ e d ha hs g q fun v h' tk' k r _ => h v h' tk' k r
  have no : ∀ {e : Expr}, freshE T e = false → (∀ v h' tk', Keep s.heap h' → Rep (hid h' (Own ++ Oc)) v d → (freshE T e = true → Fresh s.heap h' (Own ++ Oc) v d) → Q v { s with heap := h', toks := tk' }) →
      ∀ v h' tk', Keep s.heap h' → Rep (hid h' (Own ++ Oc)) v d → Q v { s with heap := h', toks := tk' } := fun hf h v h' tk' k r => h v h' tk' k r fun z => by rw [hf] at z; cases z
  unfold stepE at q
  split at q
  · cases q; exact wpAny_Constant_int (h _ _ _ (Keep.refl _) (.int _ _) fun z => by cases z)
  · cases q; exact wpAny_Constant_bool (h _ _ _ (Keep.refl _) (.bool _) fun z => by cases z)
  · cases q; exact wpAny_Constant_none (h _ _ _ (Keep.refl _) .none fun z => by cases z)
  · cases q; exact wpAny_Constant_str (h _ _ _ (Keep.refl _) (.str _ _) fun z => by cases z)
  · exact sound_name K hs g q fun v r => no rfl h v _ _ (Keep.refl _) r
  · -- BinOp
    obtain ⟨a, b, h1, h2, q⟩ := op2_eq q
    refine wpAny_BinOp (ok _ _ _ _ _ g h1 fun va h₁ tk₁ k₁ r₁ => ok _ _ _ _ _ (g.on k₁) h2 fun vb h₂ tk₂ k₂ r₂ => ?_)
    exact sound_bin ((g.on k₁).on k₂).lt q (r₁.mono (hid_keep k₂)) r₂ fun v h₃ tk₃ k₃ r₃ => no rfl h v _ _ (k₁.trans (k₂.trans k₃)) r₃
  · -- minus
    obtain ⟨a, h1, q⟩ := op1_eq q
    unfold negD at q
    split at q
    · cases q
      refine wpAny_UnaryOp (ok _ _ _ _ _ g h1 fun va h₁ tk₁ k₁ r₁ => ?_)
      cases r₁
      exact neg_int (no rfl h _ _ _ k₁ (.int _ _))
    · cases q
  · -- Compare
    split at q
    · cases q
    · rename_i hm
      obtain ⟨x, hx, q⟩ := op1_eq q
      obtain ⟨a, b, h1, h2, hx⟩ := op2_eq hx
      cases q
      refine wpAny_Compare1 (ok _ _ _ _ _ g h1 fun va h₁ tk₁ k₁ r₁ => ok _ _ _ _ _ (g.on k₁) h2 fun vb h₂ tk₂ k₂ r₂ => ?_) (by simpa using hm)
      exact sound_cmp (by have := ha.units; omega) hx (r₁.mono (hid_keep k₂)) r₂ (no rfl h _ _ _ (k₁.trans k₂) (.bool _))
  · -- IfExp
    obtain ⟨b, ht, q⟩ := op1_eq q
    cases b with
    | true =>
      rw [if_pos rfl] at q
      refine wpAny_IfExp (IT A E _ s env sc Own Oc ρ σ _ _ ha hs g ht fun h₁ tk₁ k₁ => ?_)
      rw [if_pos rfl]
      exact ok _ _ _ _ _ (g.on k₁) q fun v h₂ tk₂ k₂ r₂ => no rfl h _ _ _ (k₁.trans k₂) r₂
    | false =>
      rw [if_neg (by decide)] at q
      refine wpAny_IfExp (IT A E _ s env sc Own Oc ρ σ _ _ ha hs g ht fun h₁ tk₁ k₁ => ?_)
      rw [if_neg (by decide)]
      exact ok _ _ _ _ _ (g.on k₁) q fun v h₂ tk₂ k₂ r₂ => no rfl h _ _ _ (k₁.trans k₂) r₂
  · -- Tuple
    split at q
    · rename_i c
      have c := Bool.and_eq_true_iff.mp c
      obtain ⟨ds, hd, q⟩ := op1_eq q
      cases q
      refine wpAny_Tuple (sound_list _ ok _ ds s _ g c.2 hd fun vs h₁ tk₁ k₁ r₁ => ?_)
      have hl : vs.length = _ := r₁.length
      have hl2 := evs_len hd
      refine ⟨by rw [hl, hl2]; exact okLen_line c.1, ?_⟩
      exact no rfl h _ _ _ (k₁.trans (Keep.push _)) (Rep.new_tup (g.on k₁).lt r₁)
    · cases q
  · -- List
    split at q
    · rename_i c
      have c := Bool.and_eq_true_iff.mp c
      obtain ⟨ds, hd, q⟩ := op1_eq q
      cases q
      refine wpAny_List (sound_list _ ok _ ds s _ g c.2 hd fun vs h₁ tk₁ k₁ r₁ => ?_)
      have hl : vs.length = _ := r₁.length
      have hl2 := evs_len hd
      refine ⟨by rw [hl, hl2]; exact okLen_line c.1, ?_⟩
      refine h _ _ _ (k₁.trans (Keep.push _)) (Rep.new_lst (g.on k₁).lt r₁) fun _ => ⟨_, vs, 0, ds, rfl, rfl, ?_, Heap.get?_push_size _ rfl, r₁.mono (hid_more (Keep.push _) (none_size _))⟩
      cases z : s.heap.get? h₁.objs.size with
      | none => rfl
      | some o => exact absurd (Heap.lt_size (k₁ _ _ z)) (Nat.lt_irrefl _)
    · cases q
  · -- x[:k]
    obtain ⟨a, b, h1, h2, q⟩ := op2_eq q
    refine wpAny_Subscript_list_slice ?_
    rw [evPart_none, evPart_some]
    refine ok _ _ _ _ _ g h1 fun va h₁ tk₁ k₁ r₁ => wpAny_pure (ok _ _ _ _ _ (g.on k₁) h2 fun vb h₂ tk₂ k₂ r₂ => ?_)
    obtain ⟨ds, k, rfl, rfl, hk, hl, rfl⟩ := sliceD_hi q
    cases r₂
    cases r₁.mono (hid_keep k₂) with
    | lst ga r =>
      have hn := okLen_line hl
      have hl := r.length
      refine ⟨_, _, Option.none, _, rfl, ⟨_, (hid_of ga).1, rfl, _, rfl⟩, by rw [List.size_toArray]; omega, .none, .int _ _, ?_⟩
      rw [pick_take hk]
      exact no rfl h _ _ _ (k₁.trans (k₂.trans ((Keep.push _).trans (Keep.push _)))) (slice_new _ ((g.on k₁).on k₂).hidS (r.take _))
  · -- x[k:]
    obtain ⟨a, b, h1, h2, q⟩ := op2_eq q
    refine wpAny_Subscript_list_slice ?_
    rw [evPart_none, evPart_some]
    refine ok _ _ _ _ _ g h1 fun va h₁ tk₁ k₁ r₁ => ok _ _ _ _ _ (g.on k₁) h2 fun vb h₂ tk₂ k₂ r₂ => wpAny_pure ?_
    obtain ⟨ds, k, rfl, rfl, hk, hl, rfl⟩ := sliceD_lo q
    cases r₂
    cases r₁.mono (hid_keep k₂) with
    | lst ga r =>
      have hn := okLen_line hl
      have hl := r.length
      refine ⟨_, _, _, Option.none, rfl, ⟨_, (hid_of ga).1, rfl, _, rfl⟩, by rw [List.size_toArray]; omega, .int _ _, .none, ?_⟩
      rw [pick_drop hk]
      exact no rfl h _ _ _ (k₁.trans (k₂.trans ((Keep.push _).trans (Keep.push _)))) (slice_new _ ((g.on k₁).on k₂).hidS (r.drop _))
  · -- an item
    split at q
    · cases q
    · rename_i hi
      obtain ⟨a, b, h1, h2, q⟩ := op2_eq q
      exact sound_base g ok (by simpa using hi) h1 h2 q fun v h' tk' k r => no rfl h v h' tk' k r
  · -- a call
    split at q
    · rename_i c
      have c := Bool.and_eq_true_iff.mp c
      have c1 := Bool.and_eq_true_iff.mp c.1
      obtain ⟨cc, ds, hc, hd, q⟩ := op2_eq q
      split at q
      · rename_i hf
        refine sound_call K ha hs g ok (of_decide_eq_true c1.2) c1.1 hc hd q fun v h' tk' k r f => h v h' tk' k r fun z => f ?_
        have z : frG T _ = true := z
        rw [z] at hf
        simpa using hf
      · cases q
    · cases q
  · -- a comprehension
    split at q
    · rename_i c
      have c := Bool.and_eq_true_iff.mp c
      obtain ⟨ds, cρ, hd, hc, q⟩ := op2_eq q
      obtain ⟨rs, hr, q⟩ := op1_eq q
      split at q
      · rename_i hl
        cases q
        refine sound_comp (ft := fun d => ev₁.E _ (put _ d cρ) [] _) K ha hs g ok (fun E Q s C acc d r gT hft h => ?_) c.1 (of_decide_eq_true c.2) hd hc hr hl fun v h' tk' k r f => h v h' tk' k r fun _ => f rfl
        refine IE A E Q s _ _ (acc :: Own) Oc _ _ _ _ ha ⟨fun x hx => relabel_glob hx, fun x hx => ?_, fun x hx => lookup_relabel_local hx⟩ gT hft fun v h' tk' k r _ => h v h' tk' k r
        have o1 := Bool.and_eq_true_iff.mp c.1
        have o2 := Bool.and_eq_true_iff.mp o1.1
        have o3 := Bool.and_eq_true_iff.mp o2.1
        exact absurd rfl (of_decide_eq_true (List.all_eq_true.mp o3.2 _ (mem_of_lookup hx)))
      · cases q
    · cases q
  · -- a comprehension over pairs
    split at q
    · rename_i c
      have c := Bool.and_eq_true_iff.mp c
      have cc := Bool.and_eq_true_iff.mp c.1
      have c1 := Bool.and_eq_true_iff.mp cc.1
      obtain ⟨ds, cρ, hd, hc, q⟩ := op2_eq q
      obtain ⟨rs, hr, q⟩ := op1_eq q
      split at q
      · rename_i hl
        cases q
        refine sound_comp2 (ft := fun a b => ev₁.E _ (put _ b (put _ a cρ)) [] _) K ha hs g ok (fun E Q s C Own' a b r gT hft h => ?_) c1.1 (of_decide_eq_true c1.2) (of_decide_eq_true cc.2) (of_decide_eq_true c.2) hd hc hr hl fun v h' tk' k r f => h v h' tk' k r fun _ => f rfl
        refine IE A E Q s _ _ Own' Oc _ _ _ _ ha ⟨fun x hx => relabel_glob hx, fun x hx => ?_, fun x hx => lookup_relabel_local hx⟩ gT hft fun v h' tk' k r _ => h v h' tk' k r
        have o1 := Bool.and_eq_true_iff.mp c1.1
        have o2 := Bool.and_eq_true_iff.mp o1.1
        have o3 := Bool.and_eq_true_iff.mp o2.1
        exact absurd rfl (of_decide_eq_true (List.all_eq_true.mp o3.2 _ (mem_of_lookup hx)))
      · cases q
    · cases q
  · cases q
theorem sound_ev (K : TbOk prog w T hb mg mb dep) : ∀ n, SoundE prog w T hb dep (ev T n).E ∧ SoundT prog w hb dep (ev T n).T
  | 0 => ⟨fun A E Q s env sc Own Oc ρ σ e d _ _ _ q _ => (by cases q), fun A E Q s env sc Own Oc ρ σ e d _ _ _ q _ => (by cases q)⟩
  | n + 1 => ⟨sound_E_step K (sound_ev K n).1 (sound_ev K n).2, sound_T_step K (sound_ev K n).1 (sound_ev K n).2⟩
end
end Mine
namespace Mine
/-! ## a frame between two statements -/
structure Inv (hb : Heap) (s₀ : Shared) (env : Env) (Own Oc : List Addr) (ρ : Rho) (σ : Sig) (s : Shared) : Prop where
  same : ∃ h tk, s = { s₀ with heap := h, toks := tk }
  good : Good hb env s.heap Own Oc ρ σ
  loc : ∃ m, s.heap.Ns env.locals m
  loc0 : s₀.heap.get? env.locals = Option.none
  cells : ∀ x c, env.cells.lookup x = some c → ∃ v, s.heap.IsCell c v
  keep0 : Keep s₀.heap s.heap
  base0 : Keep hb s₀.heap
  own0 : ∀ a ∈ Own, s₀.heap.get? a = Option.none
  oc0 : ∀ a ∈ Oc, ∃ o, s₀.heap.get? a = some o
  apart : ∀ x y ds es a, get x σ = some ds → get y σ = some es → Look env s.heap x (.ref a) → Look env s.heap y (.ref a) → x = y
/-- what a stretch of statements leaves as it was -/
structure Stp (env : Env) (wr Own Own' : List Addr) (h h' : Heap) : Prop where
  kb : ∀ b o, h.get? b = some o → b ∉ Own → b ≠ env.locals → b ∉ wr → h'.get? b = some o
  ex : ∀ b o, h.get? b = some o → ∃ o', h'.get? b = some o'
  new : ∀ a ∈ Own', a ∈ Own ∨ h.get? a = Option.none
theorem Stp.refl {env : Env} {wr Own : List Addr} {h : Heap} : Stp env wr Own Own h h := ⟨fun _ _ e _ _ _ => e, fun _ o e => ⟨o, e⟩, fun _ m => .inl m⟩
theorem Stp.trans {env : Env} {wr Own Own' Own'' : List Addr} {h h' h'' : Heap} (x : Stp env wr Own Own' h h') (y : Stp env wr Own' Own'' h' h'') : Stp env wr Own Own'' h h'' where
  kb := fun b o e h1 h2 h3 => y.kb b o (x.kb b o e h1 h2 h3) (fun m => by
    rcases x.new b m with q | q
    · exact h1 q
    · rw [e] at q; cases q) h2 h3
  ex := fun b o e => let ⟨_, e'⟩ := x.ex b o e; y.ex b _ e'
  new := fun a m => by
    rcases y.new a m with q | q
    · exact x.new a q
    · cases e : h.get? a with
      | none => exact .inr rfl
      | some o =>
        obtain ⟨o', e'⟩ := x.ex a o e
        rw [e'] at q; cases q
theorem Stp.keep {env : Env} {wr Own : List Addr} {h h' : Heap} (k : Keep h h') : Stp env wr Own Own h h' := ⟨fun b o e _ _ _ => k b o e, fun b o e => ⟨o, k b o e⟩, fun _ m => .inl m⟩
theorem Stp.fewer {env : Env} {wr Own Own₁ Own' : List Addr} {h h' : Heap} (x : Stp env wr Own₁ Own' h h') (q : ∀ a ∈ Own₁, a ∈ Own) : Stp env wr Own Own' h h' :=
  ⟨fun b o e h1 h2 h3 => x.kb b o e (fun m => h1 (q b m)) h2 h3, x.ex, fun a m => (x.new a m).imp (q a) id⟩
theorem Stp.wr {env : Env} {wr wr' Own Own' : List Addr} {h h' : Heap} (x : Stp env wr Own Own' h h') (q : ∀ b ∈ wr, b ∉ wr' → h.get? b = Option.none) : Stp env wr' Own Own' h h' :=
  ⟨fun b o e h1 h2 h3 => x.kb b o e h1 h2 fun m => (by rw [q b m h3] at e; cases e), x.ex, x.new⟩
theorem not_dict {h : Heap} {L : Addr} {m : Str → Option Value} {o : Obj} (n : h.Ns L m) (q : isSeq o) : h.get? L ≠ some o := by
  intro e
  obtain ⟨o', es, ep, ho, hd, _⟩ := n
  rw [e] at ho
  obtain ⟨T, vs, n, rfl⟩ := q
  cases ho; cases hd
theorem not_cell {h : Heap} {c : Addr} {v : Option Value} {o : Obj} (n : h.IsCell c v) (q : isSeq o) : h.get? c ≠ some o := by
  intro e
  obtain ⟨o', ho, hd⟩ := n
  rw [e] at ho
  obtain ⟨T, vs, n, rfl⟩ := q
  cases ho; cases hd
theorem cell_not_dict {h : Heap} {c L : Addr} {v : Option Value} {m : Str → Option Value} (n : h.IsCell c v) (d : h.Ns L m) : c ≠ L := by
  rintro rfl
  obtain ⟨o', ho, hd⟩ := n
  obtain ⟨o'', es, ep, ho', hd', _⟩ := d
  rw [ho] at ho'; cases ho'
  rw [hd] at hd'; cases hd'
theorem Stp.sub {env : Env} {wr Own Own' Oc : List Addr} {h h' : Heap} {m : Str → Option Value} (x : Stp env wr Own Own' h h') (n : h.Ns env.locals m) (hw : ∀ b ∈ wr, ∀ o, h.get? b = some o → ¬ isSeq o) :
    Sub (hid h (Own ++ Oc)) (hid h' (Own' ++ Oc)) := fun b o q e => by
  have e1 := hid_of e
  have n1 : b ∉ Own := fun z => e1.2 (List.mem_append_left _ z)
  refine hid_mk (x.kb b o e1.1 n1 (fun z => not_dict n q (z ▸ e1.1)) fun z => hw b z o e1.1 q) fun z => ?_
  rcases List.mem_append.mp z with z | z
  · rcases x.new b z with z | z
    · exact n1 z
    · rw [e1.1] at z; cases z
  · exact e1.2 (List.mem_append_right _ z)
theorem Look.uniq {env : Env} {h : Heap} {x : Str} {v v' : Value} (l : Look env h x v) (l' : Look env h x v') : v = v' := by
  rcases l with ⟨k, m, n, e⟩ | ⟨k, c, hc, hv⟩ <;> rcases l' with ⟨k', m', n', e'⟩ | ⟨k', c', hc', hv'⟩
  · have := n.agree n' x
    rw [e, e'] at this
    exact Option.some.inj this
  · rw [k] at k'; rcases k' with z | z <;> cases z
  · rw [k'] at k; rcases k with z | z <;> cases z
  · rw [hc] at hc'; cases hc'
    obtain ⟨o, ho, hd⟩ := hv
    obtain ⟨o', ho', hd'⟩ := hv'
    rw [ho] at ho'; cases ho'
    rw [hd] at hd'; cases hd'
    rfl
/-- a name after a store of another, or of the same -/
theorem Look.store {env : Env} {h h' : Heap} {m : Str → Option Value} {x y : Str} {u v : Value} (n : h.Ns env.locals m) (n' : h'.Ns env.locals (fun z => if z = y then some u else m z)) (s : Heap.SameBut env.locals h h')
    (l : Look env h x v) (hxy : x ≠ y) : Look env h' x v := by
  rcases l with ⟨k, m₁, n₁, e⟩ | ⟨k, c, hc, hv⟩
  · refine .inl ⟨k, _, n', ?_⟩
    rw [if_neg hxy, ← n₁.agree n x, e]
  · exact .inr ⟨k, c, hc, hv.sameBut s (cell_not_dict hv n)⟩
/-- a name after the change of a list -/
theorem Look.list {env : Env} {h h' : Heap} {a : Addr} {o : Obj} {x : Str} {v : Value} (s : Heap.SameBut a h h') (e : h.get? a = some o) (q : isSeq o) (l : Look env h x v) : Look env h' x v := by
  rcases l with ⟨k, m₁, n₁, r⟩ | ⟨k, c, hc, hv⟩
  · exact .inl ⟨k, m₁, n₁.sameBut s fun z => not_dict n₁ q (z ▸ e), r⟩
  · exact .inr ⟨k, c, hc, hv.sameBut s fun z => not_cell hv q (z ▸ e)⟩
theorem Look.back {env : Env} {h h' : Heap} {a : Addr} {o : Obj} {m : Str → Option Value} {x : Str} {v : Value} (s : Heap.SameBut a h h') (e : h.get? a = some o) (q : isSeq o) (hm : h.Ns env.locals m)
    (hc : ∀ x c, env.cells.lookup x = some c → ∃ v, h.IsCell c v) (l : Look env h' x v) : Look env h x v := by
  rcases l with ⟨k, m₁, n₁, r⟩ | ⟨k, c, hc', hv⟩
  · refine .inl ⟨k, m₁, ?_, r⟩
    have n₂ := hm.sameBut s fun z => not_dict hm q (z ▸ e)
    have : m₁ = m := funext fun y => n₁.agree n₂ y
    rw [this]; exact hm
  · obtain ⟨w, hw⟩ := hc _ _ hc'
    have := hw.sameBut s fun z => not_cell hw q (z ▸ e)
    obtain ⟨o1, h1, d1⟩ := this
    obtain ⟨o2, h2, d2⟩ := hv
    rw [h1] at h2; cases h2
    rw [d1] at d2; cases d2
    exact .inr ⟨k, c, hc', hw⟩
section
variable {hb : Heap} {s₀ s : Shared} {env : Env} {Own Oc : List Addr} {ρ : Rho} {σ : Sig}
theorem look_back_keep {h h' : Heap} {m : Str → Option Value} {x : Str} {v : Value} (k : Keep h h') (hm : h.Ns env.locals m) (hc : ∀ x c, env.cells.lookup x = some c → ∃ v, h.IsCell c v) (l : Look env h' x v) : Look env h x v := by
  rcases l with ⟨q, m₁, n₁, r⟩ | ⟨q, c, hc', hv⟩
  · refine .inl ⟨q, m, hm, ?_⟩
    rw [(hm.keeps k).agree n₁ x, r]
  · obtain ⟨w, hw⟩ := hc _ _ hc'
    obtain ⟨o1, h1, d1⟩ := hw.keeps k
    obtain ⟨o2, h2, d2⟩ := hv
    rw [h1] at h2; cases h2
    rw [d1] at d2; cases d2
    exact .inr ⟨q, c, hc', hw⟩
theorem Inv.on {h' : Heap} {tk : Nat} (I : Inv hb s₀ env Own Oc ρ σ s) (k : Keep s.heap h') : Inv hb s₀ env Own Oc ρ σ { s with heap := h', toks := tk } where
  same := let ⟨h, t, e⟩ := I.same; ⟨h', tk, by rw [e]⟩
  good := I.good.on k
  loc := let ⟨m, n⟩ := I.loc; ⟨m, n.keeps k⟩
  loc0 := I.loc0
  cells := fun x c e => let ⟨v, q⟩ := I.cells x c e; ⟨v, q.keeps k⟩
  keep0 := I.keep0.trans k
  base0 := I.base0
  own0 := I.own0
  oc0 := I.oc0
  apart := fun x y ds es a hx hy lx ly => by
    obtain ⟨m, n⟩ := I.loc
    exact I.apart x y ds es a hx hy (look_back_keep k n I.cells lx) (look_back_keep k n I.cells ly)
/-- a list that is new becomes the frame's own, for now under no name -/
theorem Inv.hide {h' : Heap} {tk : Nat} {a : Addr} {o : Obj} (I : Inv hb s₀ env Own Oc ρ σ s) (k : Keep s.heap h') (n : s.heap.get? a = Option.none) (e : h'.get? a = some o) :
    Inv hb s₀ env (a :: Own) Oc ρ σ { s with heap := h', toks := tk } := by
  have J := I.on (tk := tk) k
  have n0 : s₀.heap.get? a = Option.none := by
    cases q : s₀.heap.get? a with
    | none => rfl
    | some o => rw [I.keep0 _ _ q] at n; cases n
  have nb : hb.get? a = Option.none := by
    cases q : hb.get? a with
    | none => rfl
    | some o => rw [I.base0 _ _ q] at n0; cases n0
  refine ⟨J.same, ⟨J.good.kind, J.good.gl, J.good.bl, J.good.keep, fun b m => ?_, fun b m => ?_, fun x d q => ?_, fun x ds q => ?_⟩, J.loc, J.loc0, J.cells, J.keep0, J.base0, fun b m => ?_, J.oc0, J.apart⟩
  · rcases List.mem_cons.mp m with rfl | m
    · exact nb
    · exact J.good.hidB b m
  · rcases List.mem_cons.mp m with rfl | m
    · exact ⟨o, e⟩
    · exact J.good.hidS b m
  · obtain ⟨v, l, r⟩ := I.good.val x d q
    exact ⟨v, l.keep k, r.mono (hid_more k n)⟩
  · obtain ⟨b, vs, n', l, m, e', r⟩ := I.good.own x ds q
    exact ⟨b, vs, n', l.keep k, List.mem_cons_of_mem _ m, k _ _ e', r.mono (hid_more k n)⟩
  · rcases List.mem_cons.mp m with rfl | m
    · exact n0
    · exact I.own0 b m
/-- a value is stored under a name -/
theorem Inv.putV {h' : Heap} {tk : Nat} {m : Str → Option Value} {x : Str} {v : Value} {d : D} (I : Inv hb s₀ env Own Oc ρ σ s) (n : s.heap.Ns env.locals m) (hx : env.kindOf x = some .local)
    (rv : Rep (hid s.heap (Own ++ Oc)) v d) (n' : h'.Ns env.locals (fun z => if z = x then some v else m z)) (sb : Heap.SameBut env.locals s.heap h') :
    Inv hb s₀ env Own Oc (put x d ρ) (del x σ) { s with heap := h', toks := tk } := by
  have su : ∀ O, Sub (hid s.heap O) (hid h' O) := fun O => hid_sameNs n sb
  have ne : ∀ {b o}, s.heap.get? b = some o → b ≠ env.locals → h'.get? b = some o := fun {b o} e q => (sb.2 b q).trans e
  have n0 : ∀ {b o}, s₀.heap.get? b = some o → b ≠ env.locals := fun {b o} e z => by rw [z, I.loc0] at e; cases e
  have ex : ∀ {b}, (∃ o, s.heap.get? b = some o) → ∃ o, h'.get? b = some o := fun {b} ⟨o, e⟩ => by
    by_cases q : b = env.locals
    · subst q
      obtain ⟨o', _, _, e', _⟩ := n'
      exact ⟨o', e'⟩
    · exact ⟨o, ne e q⟩
  have lk : ∀ {y u}, y ≠ x → Look env h' y u → Look env s.heap y u := fun {y u} hy l => by
    rcases l with ⟨k, m₁, n₁, r⟩ | ⟨k, c, hc', hv⟩
    · refine .inl ⟨k, m, n, ?_⟩
      have := n₁.agree n' y
      rw [if_neg hy, r] at this
      exact this.symm
    · obtain ⟨w, hw⟩ := I.cells _ _ hc'
      obtain ⟨o1, h1, d1⟩ := hw.sameBut sb (cell_not_dict hw n)
      obtain ⟨o2, h2, d2⟩ := hv
      rw [h1] at h2; cases h2
      rw [d1] at d2; cases d2
      exact .inr ⟨k, c, hc', hw⟩
  refine ⟨let ⟨_, _, e⟩ := I.same; ⟨h', tk, by rw [e]⟩, ⟨I.good.kind, I.good.gl, I.good.bl, fun b o e => ne (I.good.keep b o e) (n0 (I.base0 b o e)), I.good.hidB, fun b mm => ex (I.good.hidS b mm), fun y e q => ?_, fun y ds q => ?_⟩, ⟨_, n'⟩, I.loc0,
    fun y c e => ?_, fun b o e => ne (I.keep0 b o e) (n0 e), I.base0, I.own0, I.oc0, fun y z ds es a hy hz ly lz => ?_⟩
  · rw [get_put] at q
    by_cases hy : y = x
    · subst hy
      rw [if_pos rfl] at q
      cases q
      exact ⟨v, .inl ⟨hx, _, n', by simp⟩, rv.mono (su _)⟩
    · rw [if_neg hy] at q
      obtain ⟨u, l, r⟩ := I.good.val _ _ q
      exact ⟨u, l.store n n' sb hy, r.mono (su _)⟩
  · rw [get_del] at q
    by_cases hy : y = x
    · rw [if_pos hy] at q; cases q
    · rw [if_neg hy] at q
      obtain ⟨a, vs, k, l, mm, e, r⟩ := I.good.own _ _ q
      exact ⟨a, vs, k, l.store n n' sb hy, mm, ne e (fun z => not_dict n isSeq_lst (z ▸ e)), r.mono (su _)⟩
  · obtain ⟨w, hw⟩ := I.cells _ _ e
    exact ⟨w, hw.sameBut sb (cell_not_dict hw n)⟩
  · rw [get_del] at hy hz
    by_cases h1 : y = x
    · rw [if_pos h1] at hy; cases hy
    · by_cases h2 : z = x
      · rw [if_pos h2] at hz; cases hz
      · rw [if_neg h1] at hy
        rw [if_neg h2] at hz
        exact I.apart y z ds es a hy hz (lk h1 ly) (lk h2 lz)
/-- a list of the frame's own is stored under a name -/
theorem Inv.putO {h' : Heap} {tk : Nat} {m : Str → Option Value} {x : Str} {a : Addr} {vs : List Value} {k : Nat} {ds : List D} (I : Inv hb s₀ env Own Oc ρ σ s) (n : s.heap.Ns env.locals m) (hx : env.kindOf x = some .local)
    (ha : a ∈ Own) (e : s.heap.get? a = some (lstO vs k)) (r : Reps (hid s.heap (Own ++ Oc)) vs ds) (no : ∀ y es, get y σ = some es → ¬ Look env s.heap y (.ref a))
    (n' : h'.Ns env.locals (fun z => if z = x then some (.ref a) else m z)) (sb : Heap.SameBut env.locals s.heap h') :
    Inv hb s₀ env Own Oc (del x ρ) (put x ds σ) { s with heap := h', toks := tk } := by
  have su : ∀ O, Sub (hid s.heap O) (hid h' O) := fun O => hid_sameNs n sb
  have ne : ∀ {b o}, s.heap.get? b = some o → b ≠ env.locals → h'.get? b = some o := fun {b o} e q => (sb.2 b q).trans e
  have n0 : ∀ {b o}, s₀.heap.get? b = some o → b ≠ env.locals := fun {b o} e z => by rw [z, I.loc0] at e; cases e
  have ex : ∀ {b}, (∃ o, s.heap.get? b = some o) → ∃ o, h'.get? b = some o := fun {b} ⟨o, e⟩ => by
    by_cases q : b = env.locals
    · subst q
      obtain ⟨o', _, _, e', _⟩ := n'
      exact ⟨o', e'⟩
    · exact ⟨o, ne e q⟩
  have lk : ∀ {y u}, y ≠ x → Look env h' y u → Look env s.heap y u := fun {y u} hy l => by
    rcases l with ⟨k, m₁, n₁, r⟩ | ⟨k, c, hc', hv⟩
    · refine .inl ⟨k, m, n, ?_⟩
      have := n₁.agree n' y
      rw [if_neg hy, r] at this
      exact this.symm
    · obtain ⟨w, hw⟩ := I.cells _ _ hc'
      obtain ⟨o1, h1, d1⟩ := hw.sameBut sb (cell_not_dict hw n)
      obtain ⟨o2, h2, d2⟩ := hv
      rw [h1] at h2; cases h2
      rw [d1] at d2; cases d2
      exact .inr ⟨k, c, hc', hw⟩
  have lx : Look env h' x (.ref a) := .inl ⟨hx, _, n', by simp⟩
  refine ⟨let ⟨_, _, e⟩ := I.same; ⟨h', tk, by rw [e]⟩, ⟨I.good.kind, I.good.gl, I.good.bl, fun b o e => ne (I.good.keep b o e) (n0 (I.base0 b o e)), I.good.hidB, fun b mm => ex (I.good.hidS b mm), fun y d q => ?_, fun y es q => ?_⟩, ⟨_, n'⟩, I.loc0,
    fun y c e => ?_, fun b o e => ne (I.keep0 b o e) (n0 e), I.base0, I.own0, I.oc0, fun y z ds es b hy hz ly lz => ?_⟩
  · rw [get_del] at q
    by_cases hy : y = x
    · rw [if_pos hy] at q; cases q
    · rw [if_neg hy] at q
      obtain ⟨u, l, r⟩ := I.good.val _ _ q
      exact ⟨u, l.store n n' sb hy, r.mono (su _)⟩
  · rw [get_put] at q
    by_cases hy : y = x
    · subst hy
      rw [if_pos rfl] at q
      cases q
      exact ⟨a, vs, k, lx, ha, ne e (fun z => not_dict n isSeq_lst (z ▸ e)), r.mono (su _)⟩
    · rw [if_neg hy] at q
      obtain ⟨b, ws, j, l, mm, e', r'⟩ := I.good.own _ _ q
      exact ⟨b, ws, j, l.store n n' sb hy, mm, ne e' (fun z => not_dict n isSeq_lst (z ▸ e')), r'.mono (su _)⟩
  · obtain ⟨w, hw⟩ := I.cells _ _ e
    exact ⟨w, hw.sameBut sb (cell_not_dict hw n)⟩
  · rw [get_put] at hy hz
    by_cases h1 : y = x
    · by_cases h2 : z = x
      · rw [h1, h2]
      · subst h1
        rw [if_neg h2] at hz
        have := lx.uniq ly
        cases this
        exact absurd (lk h2 lz) (no z es hz)
    · rw [if_neg h1] at hy
      by_cases h2 : z = x
      · subst h2
        have := lx.uniq lz
        cases this
        exact absurd (lk h1 ly) (no y ds hy)
      · rw [if_neg h2] at hz
        exact I.apart y z ds es b hy hz (lk h1 ly) (lk h2 lz)
/-- the items of a list of the frame's own change -/
theorem Inv.alter {h' : Heap} {tk : Nat} {x : Str} {a : Addr} {vs vs' : List Value} {k k' : Nat} {ds ds' : List D} (I : Inv hb s₀ env Own Oc ρ σ s) (hx : get x σ = some ds) (l : Look env s.heap x (.ref a))
    (ha : a ∈ Own) (e : s.heap.get? a = some (lstO vs k)) (e' : h'.get? a = some (lstO vs' k')) (sb : Heap.SameBut a s.heap h') (r : Reps (hid s.heap (Own ++ Oc)) vs' ds') :
    Inv hb s₀ env Own Oc ρ (put x ds' σ) { s with heap := h', toks := tk } := by
  have su : ∀ O, Sub (hid s.heap (Own ++ O)) (hid h' (Own ++ O)) := fun O => hid_sameBut sb (List.mem_append_left _ ha)
  have ne : ∀ {b o}, s.heap.get? b = some o → b ≠ a → h'.get? b = some o := fun {b o} e q => (sb.2 b q).trans e
  have n0 : ∀ {b o}, s₀.heap.get? b = some o → b ≠ a := fun {b o} e z => by rw [z, I.own0 a ha] at e; cases e
  have ex : ∀ {b}, (∃ o, s.heap.get? b = some o) → ∃ o, h'.get? b = some o := fun {b} ⟨o, e⟩ => by
    by_cases q : b = a
    · subst q; exact ⟨_, e'⟩
    · exact ⟨o, ne e q⟩
  obtain ⟨m, hm⟩ := I.loc
  have bk : ∀ {y u}, Look env h' y u → Look env s.heap y u := fun {y u} q => q.back sb e isSeq_lst hm I.cells
  refine ⟨let ⟨_, _, e⟩ := I.same; ⟨h', tk, by rw [e]⟩, ⟨I.good.kind, I.good.gl, I.good.bl, fun b o e => ne (I.good.keep b o e) (n0 (I.base0 b o e)), I.good.hidB, fun b mm => ex (I.good.hidS b mm), fun y d q => ?_, fun y es q => ?_⟩, ⟨m, hm.sameBut sb fun z => not_dict hm isSeq_lst (z ▸ e)⟩, I.loc0,
    fun y c q => ?_, fun b o e => ne (I.keep0 b o e) (n0 e), I.base0, I.own0, I.oc0, fun y z ds₁ es b hy hz ly lz => ?_⟩
  · obtain ⟨u, lu, ru⟩ := I.good.val _ _ q
    exact ⟨u, lu.list sb e isSeq_lst, ru.mono (su _)⟩
  · rw [get_put] at q
    by_cases hy : y = x
    · subst hy
      rw [if_pos rfl] at q
      cases q
      exact ⟨a, vs', k', l.list sb e isSeq_lst, ha, e', r.mono (su _)⟩
    · rw [if_neg hy] at q
      obtain ⟨b, ws, j, lb, mm, eb, rb⟩ := I.good.own _ _ q
      refine ⟨b, ws, j, lb.list sb e isSeq_lst, mm, ne eb fun z => ?_, rb.mono (su _)⟩
      subst z
      exact hy (I.apart y x _ _ _ q hx lb l)
  · obtain ⟨w, hw⟩ := I.cells _ _ q
    exact ⟨w, hw.sameBut sb fun z => not_cell hw isSeq_lst (z ▸ e)⟩
  · have gx : ∀ {y ds}, get y (put x ds' σ) = some ds → ∃ es, get y σ = some es := fun {y ds} q => by
      rw [get_put] at q
      by_cases h1 : y = x
      · exact ⟨_, h1 ▸ hx⟩
      · rw [if_neg h1] at q; exact ⟨_, q⟩
    obtain ⟨_, g1⟩ := gx hy
    obtain ⟨_, g2⟩ := gx hz
    exact I.apart y z _ _ b g1 g2 (bk ly) (bk lz)
/-- one name's list becomes a value like another -/
theorem Inv.freeze {x : Str} {ds : List D} (I : Inv hb s₀ env Own Oc ρ σ s) (hx : get x σ = some ds) :
    ∃ Own', Inv hb s₀ env Own' Oc (put x (.lst ds) ρ) (del x σ) s ∧ ∀ a ∈ Own', a ∈ Own := by
  obtain ⟨a, vs, n, l, ha, e, r⟩ := I.good.own _ _ hx
  refine ⟨Own.filter (fun b => decide (b ≠ a)), ?_, fun b m => (List.mem_filter.mp m).1⟩
  have fe : ∀ b ∈ Own.filter (fun b => decide (b ≠ a)) ++ Oc, b ∈ Own ++ Oc := fun b m => by
    rcases List.mem_append.mp m with m | m
    · exact List.mem_append_left _ (List.mem_filter.mp m).1
    · exact List.mem_append_right _ m
  have su : Sub (hid s.heap (Own ++ Oc)) (hid s.heap (Own.filter (fun b => decide (b ≠ a)) ++ Oc)) := hid_fewer fe
  have na : a ∉ Own.filter (fun b => decide (b ≠ a)) ++ Oc := fun m => by
    rcases List.mem_append.mp m with m | m
    · exact (of_decide_eq_true (List.mem_filter.mp m).2) rfl
    · obtain ⟨o, q⟩ := I.oc0 a m
      rw [I.own0 a ha] at q; cases q
  refine ⟨I.same, ⟨I.good.kind, I.good.gl, I.good.bl, I.good.keep, fun b m => I.good.hidB b (fe b m), fun b m => I.good.hidS b (fe b m), fun y d q => ?_, fun y es q => ?_⟩, I.loc, I.loc0, I.cells, I.keep0, I.base0,
    fun b m => I.own0 b (List.mem_filter.mp m).1, I.oc0, fun y z ds es b hy hz ly lz => ?_⟩
  · rw [get_put] at q
    by_cases hy : y = x
    · subst hy
      rw [if_pos rfl] at q
      cases q
      exact ⟨_, l, .lst (hid_mk e na) (r.mono su)⟩
    · rw [if_neg hy] at q
      obtain ⟨u, lu, ru⟩ := I.good.val _ _ q
      exact ⟨u, lu, ru.mono su⟩
  · rw [get_del] at q
    by_cases hy : y = x
    · rw [if_pos hy] at q; cases q
    · rw [if_neg hy] at q
      obtain ⟨b, ws, j, lb, mm, eb, rb⟩ := I.good.own _ _ q
      refine ⟨b, ws, j, lb, List.mem_filter.mpr ⟨mm, decide_eq_true fun z => ?_⟩, eb, rb.mono su⟩
      subst z
      exact hy (I.apart y x _ _ _ q hx lb l)
  · rw [get_del] at hy hz
    by_cases h1 : y = x
    · rw [if_pos h1] at hy; cases hy
    · by_cases h2 : z = x
      · rw [if_pos h2] at hz; cases hz
      · rw [if_neg h1] at hy
        rw [if_neg h2] at hz
        exact I.apart y z ds es b hy hz ly lz
/-- all lists become values -/
noncomputable def frz : Sig → Rho → Rho
  | [], ρ => ρ
  | (x, ds) :: r, ρ => (x, .lst ds) :: frz r ρ
theorem get_frz (x : Str) (ρ : Rho) : ∀ σ : Sig, get x (frz σ ρ) = match get x σ with | some ds => some (.lst ds) | Option.none => get x ρ
  | [] => rfl
  | (y, ds) :: r => by
    simp only [frz, get]
    by_cases h : x = y
    · simp [h]
    · rw [if_neg h, if_neg h]; exact get_frz x ρ r
theorem Inv.freezeAll (I : Inv hb s₀ env Own Oc ρ σ s) : Good hb env s.heap [] Oc (frz σ ρ) [] := by
  have fe : ∀ b ∈ ([] : List Addr) ++ Oc, b ∈ Own ++ Oc := fun b m => List.mem_append_right _ (by simpa using m)
  have su : Sub (hid s.heap (Own ++ Oc)) (hid s.heap ([] ++ Oc)) := hid_fewer fe
  refine ⟨I.good.kind, I.good.gl, I.good.bl, I.good.keep, fun b m => I.good.hidB b (fe b m), fun b m => I.good.hidS b (fe b m), fun y d q => ?_, fun y es q => by cases q⟩
  rw [get_frz] at q
  split at q
  · rename_i ds hx
    cases q
    obtain ⟨a, vs, n, l, ha, e, r⟩ := I.good.own _ _ hx
    refine ⟨_, l, .lst (hid_mk e fun m => ?_) (r.mono su)⟩
    obtain ⟨o, q⟩ := I.oc0 a (by simpa using m)
    rw [I.own0 a ha] at q; cases q
  · obtain ⟨u, lu, ru⟩ := I.good.val _ _ q
    exact ⟨u, lu, ru.mono su⟩
end
end Mine
namespace Mine
inductive Out where
  | next (ρ : Rho) (σ : Sig)
  | ret (d : D) (fr : Bool)
noncomputable def outK (k : Rho → Sig → Option Out) : Out → Option Out
  | .next ρ σ => k ρ σ
  | .ret d fr => some (.ret d fr)
noncomputable def seqO (x : Option Out) (k : Rho → Sig → Option Out) : Option Out := op1 (outK k) x
theorem seqO_eq {x : Option Out} {k : Rho → Sig → Option Out} {o : Out} (h : seqO x k = some o) : (∃ ρ σ, x = some (.next ρ σ) ∧ k ρ σ = some o) ∨ (∃ d fr, x = some (.ret d fr) ∧ o = .ret d fr) := by
  obtain ⟨a, h1, h2⟩ := op1_eq h
  cases a with
  | next ρ σ => exact .inl ⟨ρ, σ, h1, h2⟩
  | ret d fr => cases h2; exact .inr ⟨d, fr, h1, rfl⟩
noncomputable def retS (fr : Bool) (x : Option D) : Option Out := op1 (fun d => some (.ret d fr)) x
noncomputable def isComp : Expr → Bool
  | .ListComp .. => true
  | .SetComp .. => true
  | .DictComp .. => true
  | _ => false
noncomputable def asg (mt : List Str) (fr : Bool) (x : Str) (d : D) (ρ : Rho) (σ : Sig) : Rho × Sig :=
  match d with
  | .lst ds => if fr && mt.contains x then (del x ρ, put x ds σ) else (put x (.lst ds) ρ, del x σ)
  | d => (put x d ρ, del x σ)
noncomputable def asgAll (mt : List Str) : List (Str × D × Bool) → Rho → Sig → Rho × Sig
  | [], ρ, σ => (ρ, σ)
  | (x, d, fr) :: r, ρ, σ => asgAll mt r (asg mt fr x d ρ σ).1 (asg mt fr x d ρ σ).2
noncomputable def swapLine (ts : List Expr) : Nat := (ts.head?.map (·.pos.line)).getD 0
noncomputable def swapN (sc : Scope) (ts : List Expr) : List Str := ts.filterMap fun
  | .Name id pos => if sc.names.lookup id == some .local && pos.line == swapLine ts then some id else Option.none
  | _ => Option.none
noncomputable def swapB (sc : Scope) (ts vs : List Expr) : Bool :=
  (ts.length == 2 || ts.length == 3) && vs.length == ts.length && !(vs.any fun | .Starred .. => true | _ => false) && (swapN sc ts).length == ts.length && (swapN sc ts).eraseDups.length == (swapN sc ts).length &&
    !(vs.all (foldedForSure 8)) && !(vs.all (constantsAlone 8))
/-- the names that stood before a loop; what a turn first names, the next turn names anew -/
noncomputable def keepK {α : Type} (ks : List Str) : List (Str × α) → List (Str × α)
  | [] => []
  | (y, d) :: r => if ks.contains y then (y, d) :: keepK ks r else keepK ks r
theorem get_keepK {α : Type} {ks : List Str} {x : Str} {d : α} : ∀ {l : List (Str × α)}, get x (keepK ks l) = some d → get x l = some d
  | [], h => h
  | (y, e) :: r, h => by
    rw [keepK] at h
    rw [get]
    split at h
    · rw [get] at h
      split at h
      · rename_i c; rw [if_pos c]; exact h
      · rename_i c; rw [if_neg c]; exact get_keepK h
    · rename_i c
      by_cases q : x = y
      · subst q
        have := keepK_no (l := r) (α := α) c
        rw [this] at h; cases h
      · rw [if_neg q]; exact get_keepK h
where keepK_no {α : Type} {ks : List Str} {x : Str} (c : ¬ ks.contains x = true) : ∀ {l : List (Str × α)}, get x (keepK ks l) = Option.none
  | [] => rfl
  | (y, e) :: r => by
    rw [keepK]
    split
    · rename_i c'
      rw [get]
      split
      · rename_i q; subst q; exact absurd c' c
      · exact keepK_no c
    · exact keepK_no c
noncomputable def forD (ks : List Str) (body : Rho → Sig → Option Out) (x : Str) : List D → Rho → Sig → Option Out
  | [], ρ, σ => some (.next (keepK ks ρ) (keepK ks σ))
  | d :: r, ρ, σ => seqO (body (put x d ρ) (del x σ)) (fun ρ' σ' => forD ks body x r (keepK ks ρ') (keepK ks σ'))
noncomputable def keysOf {α : Type} : List (Str × α) → List Str
  | [] => []
  | (y, _) :: r => y :: keysOf r
noncomputable def whileD (tt : Rho → Sig → Option Bool) (body : Rho → Sig → Option Out) : Nat → Rho → Sig → Option Out
  | 0, _, _ => Option.none
  | k + 1, ρ, σ => ite2 (tt ρ σ) (seqO (body ρ σ) (whileD tt body k)) (some (.next ρ σ))
noncomputable def wF : Nat := 2 ^ 62
noncomputable def frz1 (x : Str) (ρ : Rho) (σ : Sig) : Rho × Sig := match get x σ with
  | some ds => (put x (.lst ds) ρ, del x σ)
  | Option.none => (ρ, σ)
noncomputable def asgS (mt : List Str) (fr : Bool) (x : Str) (ρ : Rho) (σ : Sig) (d : D) : Option Out := some (.next (asg mt fr x d ρ σ).1 (asg mt fr x d ρ σ).2)
noncomputable def asgT (mt : List Str) (names : List Str) (frs : List Bool) (ρ : Rho) (σ : Sig) (ds : List D) : Option Out :=
  some (.next (asgAll mt (names.zip (ds.zip frs)).reverse ρ σ).1 (asgAll mt (names.zip (ds.zip frs)).reverse ρ σ).2)
noncomputable def setS (x : Str) (ρ : Rho) (σ : Sig) (ds : List D) (d : D) : D → Option Out
  | .int k => if decide (0 ≤ k) && small k && decide (k.toNat < ds.length) then some (.next ρ (put x (ds.set k.toNat d) σ)) else Option.none
  | _ => Option.none
noncomputable def appS (x : Str) (ρ : Rho) (σ : Sig) (ds : List D) (d : D) : Option Out := if okLen ds.length then some (.next ρ (put x (ds ++ [d]) σ)) else Option.none
noncomputable def noneS (ρ : Rho) (σ : Sig) : D → Option Out
  | .none => some (.next ρ σ)
  | _ => Option.none
noncomputable def stX (T : Tb) (mt : List Str) (e : Ev) (xs : Scope → Rho → Sig → List Stmt → Option Out) (sc : Scope) (ρ : Rho) (σ : Sig) : Stmt → Option Out
  | .Assign [.Name x _] v _ => if isComp v || !decide (sc.names.lookup x = some .local) then Option.none else
      op1 (asgS mt (freshE T v) x (frz1 x ρ σ).1 (frz1 x ρ σ).2) (e.E sc (frz1 x ρ σ).1 (frz1 x ρ σ).2 v)
  | .Assign [.Tuple ts _ _] (.Tuple vs _ _) _ => if swapB sc ts vs && vs.all notStar && okLen vs.length then
      op1 (asgT mt (swapN sc ts) (vs.map (freshE T)) ρ σ) (evs (e.E sc ρ σ) vs)
    else Option.none
  | .Assign [.Subscript (.Name x _) i _] v _ => if isComp v || !okName x then Option.none else op1 (fun ds => op2 (setS x ρ σ ds) (e.E sc ρ σ v) (e.E sc ρ σ i)) (get x σ)
  | .Expr (.Call (.Attribute (.Name x _) a apos) [v] [] cpos) _ => if decide (a = "append") && okName x && (apos.endLine == cpos.line) && notStar v then op1 (fun ds => op1 (appS x ρ σ ds) (e.E sc ρ σ v)) (get x σ) else Option.none
  | .Expr (.Call (.Name f p) args [] q) _ => op1 (noneS ρ σ) (e.E sc ρ σ (.Call (.Name f p) args [] q))
  | .If t b o _ => ite2 (e.T sc ρ σ t) (xs sc ρ σ b) (xs sc ρ σ o)
  | .For (.Name x _) iter body [] _ => if decide (sc.names.lookup x = some .local) then op1 (fun ds => forD (keysOf ρ ++ keysOf σ) (fun ρ σ => xs sc ρ σ body) x ds ρ σ) (iterD T (e.E sc ρ σ) sc ρ iter) else Option.none
  | .While t body [] _ => whileD (fun ρ σ => e.T sc ρ σ t) (fun ρ σ => xs sc ρ σ body) wF ρ σ
  | .Return (some v) _ => retS (freshE T v) (e.E sc (frz σ ρ) [] v)
  | _ => Option.none
noncomputable def xs (T : Tb) (mt : List Str) : Nat → Scope → Rho → Sig → List Stmt → Option Out
  | 0, _, _, _, _ => Option.none
  | _ + 1, _, ρ, σ, [] => some (.next ρ σ)
  | n + 1, sc, ρ, σ, st :: rest => seqO (stX T mt (ev T n) (xs T mt n) sc ρ σ st) (fun ρ' σ' => xs T mt n sc ρ' σ' rest)
noncomputable abbrev PostX (hb : Heap) (s₀ : Shared) (env : Env) (Own Oc : List Addr) (h : Heap) (o : Out) (Q : Flow → Shared → Prop) : Prop :=
  match o with
  | .next ρ σ => ∀ Own' s', Inv hb s₀ env Own' Oc ρ σ s' → Stp env [] Own Own' h s'.heap → Q .next s'
  | .ret d fr => ∀ v s', (∃ h' tk, s' = { s₀ with heap := h', toks := tk }) → Keep s₀.heap s'.heap → Rep (hid s'.heap Oc) v d → (fr = true → Fresh s₀.heap s'.heap Oc v d) → Q (.ret v) s'
theorem PostX.step {hb : Heap} {s₀ : Shared} {env : Env} {Own Own₁ Oc : List Addr} {h h₁ : Heap} {o : Out} {Q : Flow → Shared → Prop} (p : PostX hb s₀ env Own Oc h o Q) (x : Stp env [] Own Own₁ h h₁) : PostX hb s₀ env Own₁ Oc h₁ o Q := by
  cases o with
  | next ρ σ => exact fun Own' s' I y => p Own' s' I (x.trans y)
  | ret d fr => exact p
noncomputable def SoundS (prog : Program) (w : World) (hb : Heap) (dep : Nat) (f : Scope → Rho → Sig → Stmt → Option Out) : Prop :=
  ∀ (A : Around) (E : Value → Shared → Prop) (Q : Flow → Shared → Prop) (s s₀ : Shared) (env : Env) (Own Oc : List Addr) (ρ : Rho) (σ : Sig) (st : Stmt) (o : Out),
    AOk A dep → Inv hb s₀ env Own Oc ρ σ s → f env.scope ρ σ st = some o → PostX hb s₀ env Own Oc s.heap o Q → wpAny (model prog w) A (exec st env) Q E s
noncomputable def SoundX (prog : Program) (w : World) (hb : Heap) (dep : Nat) (f : Scope → Rho → Sig → List Stmt → Option Out) : Prop :=
  ∀ (A : Around) (E : Value → Shared → Prop) (Q : Flow → Shared → Prop) (s s₀ : Shared) (env : Env) (Own Oc : List Addr) (ρ : Rho) (σ : Sig) (st : List Stmt) (o : Out),
    AOk A dep → Inv hb s₀ env Own Oc ρ σ s → f env.scope ρ σ st = some o → PostX hb s₀ env Own Oc s.heap o Q → wpAny (model prog w) A (execs st env) Q E s
section
variable {prog : Program} {w : World} {T : Tb} {hb : Heap} {mg mb : Str → Option Value} {dep : Nat} {mt : List Str}
variable {A : Around} {E : Value → Shared → Prop} {s s₀ : Shared} {env : Env} {Own Oc : List Addr} {ρ : Rho} {σ : Sig}
theorem scOk_self : ScOk env.scope env := ⟨fun _ h => h, fun _ h => h, fun _ h => h⟩
theorem notCls (g : env.scope.kind = .function) : (env.scope.kind == .class || (env.scope.kind == .module && env.locals != env.globals)) = false := by rw [g]; rfl
theorem swapsNo {v : Expr} {t : Option Expr} {n : Nat} (h : isComp v = false) : swapsWith v t n env = pure false := by
  cases v <;> first | rfl | cases h
noncomputable def isOwn (mt : List Str) (x : Str) (d : D) (fr : Bool) : Bool := match d with
  | .lst _ => fr && mt.contains x
  | _ => false
theorem asg_own {x : Str} {d : D} {fr : Bool} (h : isOwn mt x d fr = true) : ∃ ds, d = .lst ds ∧ asg mt fr x d ρ σ = (del x ρ, put x ds σ) := by
  unfold isOwn at h
  split at h
  · rename_i ds
    refine ⟨ds, rfl, ?_⟩
    simp only [asg]
    rw [if_pos h]
  · cases h
theorem asg_val {x : Str} {d : D} {fr : Bool} (h : isOwn mt x d fr = false) : asg mt fr x d ρ σ = (put x d ρ, del x σ) := by
  cases d with
  | lst ds =>
    simp only [isOwn] at h
    simp only [asg]
    rw [if_neg (by rw [h]; decide)]
  | _ => rfl
/-- a value about to be stored -/
noncomputable def PRel (mt : List Str) (env : Env) (Own Oc : List Addr) (σ : Sig) (h : Heap) (x : Str) (d : D) (fr : Bool) (v : Value) : Prop :=
  (isOwn mt x d fr = true ∧ ∃ a vs n ds, v = .ref a ∧ d = .lst ds ∧ a ∈ Own ∧ h.get? a = some (lstO vs n) ∧ Reps (hid h (Own ++ Oc)) vs ds ∧ ∀ y es, get y σ = some es → ¬ Look env h y (.ref a)) ∨
  (isOwn mt x d fr = false ∧ Rep (hid h (Own ++ Oc)) v d)
theorem Stp.local {h h' : Heap} {m : Str → Option Value} (n' : h'.Ns env.locals m) (sb : Heap.SameBut env.locals h h') : Stp env [] Own Own h h' :=
  ⟨fun b o e _ h2 _ => (sb.2 b h2).trans e, fun b o e => by
    by_cases z : b = env.locals
    · subst z; obtain ⟨o', _, _, e', _⟩ := n'; exact ⟨o', e'⟩
    · exact ⟨o, (sb.2 b z).trans e⟩, fun _ m => .inl m⟩
theorem sound_put {x : Str} {v : Value} {d : D} {fr : Bool} {Q : Unit → Shared → Prop} (I : Inv hb s₀ env Own Oc ρ σ s) (hx : env.kindOf x = some .local) (p : PRel mt env Own Oc σ s.heap x d fr v)
    (h : ∀ h' tk' m, s.heap.Ns env.locals m → h'.Ns env.locals (fun z => if z = x then some v else m z) → Heap.SameBut env.locals s.heap h' →
      Inv hb s₀ env Own Oc (asg mt fr x d ρ σ).1 (asg mt fr x d ρ σ).2 { s with heap := h', toks := tk' } → Q () { s with heap := h', toks := tk' }) :
    wpAny (model prog w) A (storeName env x v) Q E s := by
  obtain ⟨m, hm⟩ := I.loc
  refine wpAny_storeName_local hx hm (fun h' n' sb => h h' _ m hm n' sb ?_) (notCls I.good.kind)
  rcases p with ⟨ho, a, vs, n, ds, rfl, rfl, ha, e, r, no⟩ | ⟨ho, r⟩
  · obtain ⟨ds', e1, e2⟩ := asg_own (ρ := ρ) (σ := σ) ho
    cases e1
    rw [e2]
    exact I.putO hm hx ha e r no n' sb
  · rw [asg_val (ρ := ρ) (σ := σ) ho]
    exact I.putV hm hx r n' sb
theorem sound_puts : ∀ (L : List ((Str × D × Bool) × Value)) (ρ : Rho) (σ : Sig) (s : Shared) (Q : Unit → Shared → Prop), Inv hb s₀ env Own Oc ρ σ s → (∀ p ∈ L, env.kindOf p.1.1 = some .local) →
    (∀ p ∈ L, PRel mt env Own Oc σ s.heap p.1.1 p.1.2.1 p.1.2.2 p.2) → L.Pairwise (fun p q => isOwn mt p.1.1 p.1.2.1 p.1.2.2 = true → isOwn mt q.1.1 q.1.2.1 q.1.2.2 = true → p.2 ≠ q.2) →
    (∀ h' tk', Inv hb s₀ env Own Oc (asgAll mt (L.map (·.1)) ρ σ).1 (asgAll mt (L.map (·.1)) ρ σ).2 { s with heap := h', toks := tk' } → Stp env [] Own Own s.heap h' → Q () { s with heap := h', toks := tk' }) →
    wpAny (model prog w) A (assignInOrder (L.map fun p => bindName env p.1.1) (L.map (·.2))) Q E s
  | [], ρ, σ, s, Q, I, _, _, _, h => wpAny_pure (h s.heap s.toks (by simpa [asgAll] using I) Stp.refl)
  | ((x, d, fr), v) :: L, ρ, σ, s, Q, I, hk, hp, hw, h => by
    show wpAny (model prog w) A (do holding (L.map (·.2)) (bindName env x v); assignInOrder (L.map fun p => bindName env p.1.1) (L.map (·.2))) Q E s
    refine wpAny_bind (wpAny_holding (wpAny_bindName (sound_put (mt := mt) I (hk _ List.mem_cons_self) (hp _ List.mem_cons_self) fun h₁ tk₁ m hm n₁ sb₁ I₁ => ?_)))
    have hw' := List.pairwise_cons.mp hw
    refine sound_puts L _ _ _ _ I₁ (fun p m => hk p (List.mem_cons_of_mem _ m)) (fun p mm => ?_) hw'.2 fun h₂ tk₂ I₂ st₂ => h h₂ tk₂ I₂ ((Stp.local n₁ sb₁).trans st₂)
    rcases hp p (List.mem_cons_of_mem _ mm) with ⟨ho, a, vs, n, ds, e1, e2, ha, e, r, no⟩ | ⟨ho, r⟩
    · refine .inl ⟨ho, a, vs, n, ds, e1, e2, ha, (sb₁.2 a fun z => not_dict hm isSeq_lst (z ▸ e)).trans e, r.mono (hid_sameNs hm sb₁), fun y es q l => ?_⟩
      by_cases hy : y = x
      · subst hy
        rcases hp _ List.mem_cons_self with ⟨ho', a', vs', n', ds', e1', _⟩ | ⟨ho', _⟩
        · have lx : Look env h₁ y v := .inl ⟨hk _ List.mem_cons_self, _, n₁, by simp⟩
          have := lx.uniq l
          exact hw'.1 p mm ho' ho (by rw [e1]; exact this)
        · rw [asg_val (ρ := ρ) (σ := σ) ho'] at q
          rw [get_del, if_pos rfl] at q
          cases q
      · refine no y es ?_ (by
          rcases l with ⟨k, m₁, n₂, r⟩ | ⟨k, c, hc', hv⟩
          · refine .inl ⟨k, m, hm, ?_⟩
            have := n₂.agree n₁ y
            rw [if_neg hy, r] at this
            exact this.symm
          · obtain ⟨w', hw'⟩ := I.cells _ _ hc'
            obtain ⟨o1, h1, d1⟩ := hw'.sameBut sb₁ (cell_not_dict hw' hm)
            obtain ⟨o2, h2, d2⟩ := hv
            rw [h1] at h2; cases h2
            rw [d1] at d2; cases d2
            exact .inr ⟨k, c, hc', hw'⟩)
        cases ho' : isOwn mt x d fr with
        | true =>
          obtain ⟨ds', _, e3⟩ := asg_own (ρ := ρ) (σ := σ) ho'
          rw [e3] at q
          rwa [get_put, if_neg hy] at q
        | false =>
          rw [asg_val (ρ := ρ) (σ := σ) ho'] at q
          rwa [get_del, if_neg hy] at q
    · exact .inr ⟨ho, r.mono (hid_sameNs hm sb₁)⟩
/-- a value just made, before it is stored: a new list of the frame's own is hidden from now on -/
theorem Inv.piece {h₁ : Heap} {tk₁ : Nat} {x : Str} {d : D} {fr : Bool} {v : Value} (I : Inv hb s₀ env Own Oc ρ σ s) (k : Keep s.heap h₁) (r : Rep (hid h₁ (Own ++ Oc)) v d) (f : fr = true → Fresh s.heap h₁ (Own ++ Oc) v d) :
    ∃ Own', Inv hb s₀ env Own' Oc ρ σ { s with heap := h₁, toks := tk₁ } ∧ PRel mt env Own' Oc σ h₁ x d fr v ∧ (∀ a ∈ Own', a ∈ Own ∨ (s.heap.get? a = Option.none ∧ v = .ref a ∧ isOwn mt x d fr = true)) ∧ (∀ a ∈ Own, a ∈ Own') ∧
      (isOwn mt x d fr = true → ∃ a, v = .ref a ∧ s.heap.get? a = Option.none ∧ ∃ o, h₁.get? a = some o) := by
  cases ho : isOwn mt x d fr with
  | false => exact ⟨Own, I.on k, .inr ⟨ho, r⟩, fun a m => .inl m, fun a m => m, fun q => by cases q⟩
  | true =>
    have hfr : fr = true := by
      unfold isOwn at ho
      split at ho
      · exact (Bool.and_eq_true_iff.mp ho).1
      · cases ho
    obtain ⟨a, vs, n, ds, rfl, rfl, e1, e2, r'⟩ := f hfr
    refine ⟨a :: Own, I.hide k e1 e2, .inl ⟨ho, a, vs, n, ds, rfl, rfl, List.mem_cons_self, e2, r', fun y es q l => ?_⟩, fun b m => ?_, fun b m => List.mem_cons_of_mem _ m, fun _ => ⟨a, rfl, e1, _, e2⟩⟩
    · obtain ⟨b, ws, j, lb, mm, eb, _⟩ := I.good.own _ _ q
      have := (lb.keep k).uniq l
      cases this
      rw [e1] at eb; cases eb
    · rcases List.mem_cons.mp m with rfl | m
      · exact .inr ⟨e1, rfl, rfl⟩
      · exact .inl m
/-- the same value, later -/
theorem PRel.later {h₁ h₂ : Heap} {Own₁ Own₂ : List Addr} {x : Str} {d : D} {fr : Bool} {v : Value} {m : Str → Option Value} (p : PRel mt env Own₁ Oc σ h₁ x d fr v) (k : Keep h₁ h₂) (hm : h₁.Ns env.locals m)
    (hc : ∀ x c, env.cells.lookup x = some c → ∃ v, h₁.IsCell c v) (q : ∀ a ∈ Own₁, a ∈ Own₂) (n : ∀ a ∈ Own₂, a ∈ Own₁ ∨ h₁.get? a = Option.none) : PRel mt env Own₂ Oc σ h₂ x d fr v := by
  have su : Sub (hid h₁ (Own₁ ++ Oc)) (hid h₂ (Own₂ ++ Oc)) := fun b o _ e => hid_mk (k _ _ (hid_of e).1) fun z => by
    rcases List.mem_append.mp z with z | z
    · rcases n b z with z | z
      · exact (hid_of e).2 (List.mem_append_left _ z)
      · rw [(hid_of e).1] at z; cases z
    · exact (hid_of e).2 (List.mem_append_right _ z)
  rcases p with ⟨ho, a, vs, j, ds, e1, e2, ha, e, r, no⟩ | ⟨ho, r⟩
  · exact .inl ⟨ho, a, vs, j, ds, e1, e2, q a ha, k _ _ e, r.mono su, fun y es g l => no y es g (look_back_keep k hm hc l)⟩
  · exact .inr ⟨ho, r.mono su⟩
theorem sound_pieces {f : Expr → Option D} (pos : Pos)
    (ok : ∀ (E Q : Value → Shared → Prop) (s : Shared) (Own : List Addr) (e : Expr) (d : D), Good hb env s.heap Own Oc ρ σ → f e = some d → RetF s (Own ++ Oc) d (freshE T e) Q → wpAny (model prog w) A (eval e env) Q E s) :
    ∀ (es : List Expr) (xs : List Str) (ds : List D) (s : Shared) (Own : List Addr) (Q : List Value → Shared → Prop), xs.length = es.length → Inv hb s₀ env Own Oc ρ σ s → es.all notStar = true → evs f es = some ds →
      (∀ vs Own' h' tk', Keep s.heap h' → Inv hb s₀ env Own' Oc ρ σ { s with heap := h', toks := tk' } → (∀ a ∈ Own', a ∈ Own ∨ s.heap.get? a = Option.none) → (∀ a ∈ Own, a ∈ Own') → vs.length = es.length →
        (∀ p ∈ (xs.zip (ds.zip (es.map (freshE T)))).zip vs, PRel mt env Own' Oc σ h' p.1.1 p.1.2.1 p.1.2.2 p.2) →
        (∀ p ∈ (xs.zip (ds.zip (es.map (freshE T)))).zip vs, isOwn mt p.1.1 p.1.2.1 p.1.2.2 = true → ∃ a, p.2 = .ref a ∧ s.heap.get? a = Option.none) →
        ((xs.zip (ds.zip (es.map (freshE T)))).zip vs).Pairwise (fun p q => isOwn mt p.1.1 p.1.2.1 p.1.2.2 = true → isOwn mt q.1.1 q.1.2.1 q.1.2.2 = true → p.2 ≠ q.2) → Q vs { s with heap := h', toks := tk' }) →
      wpAny (model prog w) A (spliced (backTo pos (starEach es env))) Q E s
  | [], xs, ds, s, Own, Q, hl, I, _, e, h => by
    rw [evs] at e
    cases e
    refine args_nil (h [] Own s.heap s.toks (Keep.refl _) I (fun a m => .inl m) (fun a m => m) rfl ?_ ?_ ?_)
    · intro p m; simp at m
    · intro p m; simp at m
    · simp
  | e :: r, [], ds, s, Own, Q, hl, I, hst, q, h => by cases hl
  | e :: r, x :: xs, ds, s, Own, Q, hl, I, hst, q, h => by
    have hst := Bool.and_eq_true_iff.mp hst
    rw [evs] at q
    obtain ⟨d, ds', h1, h2, rfl⟩ := consO_eq q
    refine args_cons (ok _ _ _ Own _ _ I.good h1 fun v h₁ tk₁ k₁ r₁ f₁ => ?_) (starEach_cons hst.1)
    obtain ⟨Own₁, I₁, p₁, n₁, m₁, f₁⟩ := I.piece (mt := mt) (x := x) (tk₁ := tk₁) k₁ r₁ f₁
    obtain ⟨ml, hml⟩ := I₁.loc
    refine sound_pieces pos ok r xs ds' _ Own₁ _ (by simpa using hl) I₁ hst.2 h2 fun vs Own₂ h₂ tk₂ k₂ I₂ n₂ m₂ hlen p₂ f₂ w₂ => ?_
    refine h (v :: vs) Own₂ h₂ tk₂ (k₁.trans k₂) I₂ (fun a m => ?_) (fun a m => m₂ a (m₁ a m)) (by simp [hlen]) ?_ ?_ ?_
    · rcases n₂ a m with z | z
      · exact (n₁ a z).imp id fun y => y.1
      · right
        cases q : s.heap.get? a with
        | none => rfl
        | some o => rw [k₁ _ _ q] at z; cases z
    · intro p m
      simp only [List.map_cons, List.zip_cons_cons] at m
      rcases List.mem_cons.mp m with rfl | m
      · exact p₁.later k₂ hml I₁.cells m₂ n₂
      · exact p₂ p m
    · intro p m
      simp only [List.map_cons, List.zip_cons_cons] at m
      rcases List.mem_cons.mp m with rfl | m
      · intro ho
        obtain ⟨a, e1, e2, _⟩ := f₁ ho
        exact ⟨a, e1, e2⟩
      · intro ho
        obtain ⟨a, e1, e2⟩ := f₂ p m ho
        refine ⟨a, e1, ?_⟩
        cases q : s.heap.get? a with
        | none => rfl
        | some o => rw [k₁ _ _ q] at e2; cases e2
    · simp only [List.map_cons, List.zip_cons_cons]
      refine List.pairwise_cons.mpr ⟨fun p m ho hq => ?_, w₂⟩
      obtain ⟨a, e1, _, o, e2⟩ := f₁ ho
      obtain ⟨b, e3, e4⟩ := f₂ p m hq
      intro z
      dsimp only at z
      rw [e1, e3] at z
      cases z
      rw [e2] at e4; cases e4
end
end Mine
namespace Mine
section
variable {prog : Program} {w : World} {T : Tb} {hb : Heap} {mg mb : Str → Option Value} {dep : Nat} {mt : List Str}
variable {A : Around} {E : Value → Shared → Prop} {s s₀ : Shared} {env : Env} {Own Oc : List Addr} {ρ : Rho} {σ : Sig}
theorem swapped_of {ts vs : List Expr} {k k2 : Nat} {p p2 : Pos} (h : swapB env.scope ts vs = true) (g : env.scope.kind = .function) :
    swappedStores [.Tuple ts k p] (.Tuple vs k2 p2) env = pure (some (swapN env.scope ts)) := by
  unfold swapB at h
  simp only [Bool.and_eq_true, Bool.or_eq_true, Bool.not_eq_true', beq_iff_eq] at h
  obtain ⟨⟨⟨⟨⟨⟨h1, h2⟩, h3⟩, h4⟩, h5⟩, h6⟩, h7⟩ := h
  have hb : env.blockKind = .function := by unfold Env.blockKind; rw [g]; rfl
  unfold swappedStores
  dsimp only
  have c1 : (!(ts.length == 2 || ts.length == 3) || vs.length != ts.length || env.blockKind != .function) = false := by
    rw [hb]
    rcases h1 with h1 | h1 <;> simp [h1, h2]
  rw [c1]
  simp only [Bool.false_eq_true, if_false, h6, h7]
  change (if (vs.any fun | .Starred .. => true | _ => false) = true then (pure Option.none : Sem (Option (List Str))) else
    if ((swapN env.scope ts).length != ts.length || (swapN env.scope ts).eraseDups.length != (swapN env.scope ts).length) = true then pure Option.none else pure (some (swapN env.scope ts))) = _
  have c2 : ((swapN env.scope ts).length != ts.length || (swapN env.scope ts).eraseDups.length != (swapN env.scope ts).length) = false := by simp [h4, h5]
  rw [c2]
  exact (if_neg (show ¬ (_ = true) from fun z => Bool.false_ne_true (h3.symm.trans z))).trans (if_neg Bool.false_ne_true)
theorem swapN_local {ts : List Expr} : ∀ x ∈ swapN env.scope ts, env.kindOf x = some .local := by
  intro x m
  unfold swapN at m
  obtain ⟨t, _, e⟩ := List.mem_filterMap.mp m
  split at e
  · split at e
    · rename_i c
      cases e
      exact beq_iff_eq.mp (Bool.and_eq_true_iff.mp c).1
    · cases e
  · cases e
theorem setK {l : Addr} {vs : List Value} {n : Nat} {k : Int} {t : Tok} {v : Value} {Q : Unit → Shared → Prop} (ho : s.heap.get? l = some (lstO vs n))
    (h0 : 0 ≤ k) (hfit : k < 2 ^ 63) (hn : k.toNat < vs.length)
    (hQ : ∀ h' n', h'.get? l = some (lstO (vs.set k.toNat v) n') → Heap.SameBut l s.heap h' → Q () { s with heap := h' }) :
    wpAny (model prog w) A (setItem (.ref l) (.int k t) v) Q E s := by
  have hl : s.heap.IsList l vs.toArray := ⟨_, ho, rfl, n, rfl⟩
  unfold setItem
  try with_reducible refine wpAny_holding ?_
  first | refine wpAny_bind (wpAny_pure ?_) | skip
  refine wpAny_bind (wpAny_sequenceKey hl.typeIs (by decide) ?_)
  refine wpAny_bind (wpAny_callSpecial?_slot (name := Str.ofString "__setitem__") hl.typeIs slot_list_setitem
    (wpAny_call_entry slot_list_setitem hl.typeIs entry_list_setitem ?_ (args_list_setitem _ _ _)))
  show wpAny _ _ (Builtin.List.listSubscript? (.int k t) >>= _) _ _ s
  refine wpAny_bind (wpAny_listSubscript_int (fitsIndex_of h0 hfit) ?_)
  clear hfit
  obtain ⟨j, rfl⟩ := Int.eq_ofNat_of_zero_le h0
  have hj : j < vs.toArray.size := by simpa using hn
  have hx' : vs.toArray[j]? = some vs.toArray[j] := Array.getElem?_eq_getElem hj
  show wpAny _ _ ((seqItemAt l j >>= fun r => pure (r.map (j, ·))) >>= _) _ _ s
  refine wpAny_bind (wpAny_bind (wpAny_seqItemAt ho rfl (wpAny_pure ?_)))
  rw [hx']
  show wpAny _ _ (setSeqItemAt l j v >>= _) _ _ s
  have e1 : vs.toArray.setIfInBounds j v = (vs.set j v).toArray := by simp
  have fin : (s.heap.update l (Obj.mapSeq (·.setIfInBounds j v))).get? l = some (lstO (vs.set j v) n) := by
    rw [Heap.get?_update_self _ ho (by simp [lstO, Obj.mapSeq, Obj.isFreed])]
    simp [lstO, Obj.mapSeq]
  refine wpAny_bind (wpAny_setSeqItemAt ho rfl ?_)
  first
    | exact wpAny_bind (wpAny_pure (wpAny_pure ⟨.none, rfl, wpAny_pure (hQ _ _ fin (Heap.SameBut.update ..))⟩))
    | exact wpAny_pure ⟨.none, rfl, wpAny_pure (hQ _ _ fin (Heap.SameBut.update ..))⟩
theorem interactive_no (g : env.scope.kind = .function) : interactive env = false := by unfold interactive; rw [g]; rfl
theorem Stp.list {h h' : Heap} {a : Addr} {o : Obj} (ha : a ∈ Own) (e' : h'.get? a = some o) (sb : Heap.SameBut a h h') : Stp env [] Own Own h h' :=
  ⟨fun b o e h1 _ _ => (sb.2 b fun z => h1 (z ▸ ha)).trans e, fun b o e => by
    by_cases z : b = a
    · subst z; exact ⟨_, e'⟩
    · exact ⟨o, (sb.2 b z).trans e⟩, fun _ m => .inl m⟩
end
end Mine
namespace Mine
section
variable {prog : Program} {w : World} {T : Tb} {hb : Heap} {mg mb : Str → Option Value} {dep : Nat} {mt : List Str}
theorem zip_fst {α β : Type} : ∀ {l : List α} {r : List β}, l.length = r.length → (l.zip r).map (·.1) = l
  | [], [], _ => rfl
  | a :: l, b :: r, h => by simp [zip_fst (l := l) (r := r) (by simpa using h)]
  | [], _ :: _, h => by cases h
  | _ :: _, [], h => by cases h
theorem zip_snd {α β : Type} : ∀ {l : List α} {r : List β}, l.length = r.length → (l.zip r).map (·.2) = r
  | [], [], _ => rfl
  | a :: l, b :: r, h => by simp [zip_snd (l := l) (r := r) (by simpa using h)]
  | [], _ :: _, h => by cases h
  | _ :: _, [], h => by cases h
theorem Inv.wr {s s₀ : Shared} {env : Env} {Own Oc wr : List Addr} {ρ : Rho} {σ : Sig} {h' : Heap} {tk : Nat} (I : Inv hb s₀ env Own Oc ρ σ s) (hk : ∀ b o, b ∉ wr → s.heap.get? b = some o → h'.get? b = some o)
    (wL : env.locals ∉ wr) (wC : ∀ x c, env.cells.lookup x = some c → c ∉ wr) (w0 : ∀ b ∈ wr, s₀.heap.get? b = Option.none) (wO : ∀ b ∈ wr, b ∉ Own ++ Oc) (nos : ∀ b ∈ wr, ∀ o, s.heap.get? b = some o → ¬ isSeq o) :
    Inv hb s₀ env Own Oc ρ σ { s with heap := h', toks := tk } := by
  have su : ∀ O, Sub (hid s.heap O) (hid h' O) := fun O => hid_wr nos hk
  obtain ⟨m, hm⟩ := I.loc
  have hm' : h'.Ns env.locals m := hm.at' fun o e => hk _ o wL e
  have lk : ∀ {y u}, Look env s.heap y u → Look env h' y u := fun {y u} l => by
    rcases l with ⟨k, m₁, n₁, r⟩ | ⟨k, c, hc', ov, ho, hd⟩
    · exact .inl ⟨k, m₁, n₁.at' fun o e => hk _ o wL e, r⟩
    · exact .inr ⟨k, c, hc', ov, hk _ _ (wC _ _ hc') ho, hd⟩
  have bk : ∀ {y u}, Look env h' y u → Look env s.heap y u := fun {y u} l => by
    rcases l with ⟨k, m₁, n₁, r⟩ | ⟨k, c, hc', hv⟩
    · exact .inl ⟨k, m, hm, by rw [hm'.agree n₁ y, r]⟩
    · obtain ⟨w, hw⟩ := I.cells _ _ hc'
      obtain ⟨o1, h1, d1⟩ := id hw
      obtain ⟨o2, h2, d2⟩ := hv
      rw [hk _ _ (wC _ _ hc') h1] at h2; cases h2
      rw [d1] at d2; cases d2
      exact .inr ⟨k, c, hc', hw⟩
  have n0 : ∀ {b o}, s₀.heap.get? b = some o → b ∉ wr := fun {b o} e z => by rw [w0 b z] at e; cases e
  refine ⟨let ⟨_, _, e⟩ := I.same; ⟨h', tk, by rw [e]⟩, ⟨I.good.kind, I.good.gl, I.good.bl, fun b o e => hk b o (n0 (I.base0 b o e)) (I.good.keep b o e), I.good.hidB, fun b mm => ?_, fun y d q => ?_, fun y es q => ?_⟩, ⟨m, hm'⟩, I.loc0,
    fun y c q => ?_, fun b o e => hk b o (n0 e) (I.keep0 b o e), I.base0, I.own0, I.oc0, fun y z ds₁ es b hy hz ly lz => I.apart y z ds₁ es b hy hz (bk ly) (bk lz)⟩
  · obtain ⟨o, e⟩ := I.good.hidS b mm
    exact ⟨o, hk _ _ (fun z => wO b z mm) e⟩
  · obtain ⟨u, lu, ru⟩ := I.good.val _ _ q
    exact ⟨u, lk lu, ru.mono (su _)⟩
  · obtain ⟨b, ws, j, lb, mm, eb, rb⟩ := I.good.own _ _ q
    exact ⟨b, ws, j, lk lb, mm, hk _ _ (fun z => wO b z (List.mem_append_left _ mm)) eb, rb.mono (su _)⟩
  · obtain ⟨w, o1, h1, d1⟩ := I.cells _ _ q
    exact ⟨w, o1, hk _ _ (wC _ _ q) h1, d1⟩
theorem Inv.fewer {s s₀ : Shared} {env : Env} {Own Oc : List Addr} {ρ ρ' : Rho} {σ σ' : Sig} (I : Inv hb s₀ env Own Oc ρ σ s) (h1 : ∀ x d, get x ρ' = some d → get x ρ = some d) (h2 : ∀ x d, get x σ' = some d → get x σ = some d) :
    Inv hb s₀ env Own Oc ρ' σ' s :=
  ⟨I.same, ⟨I.good.kind, I.good.gl, I.good.bl, I.good.keep, I.good.hidB, I.good.hidS, fun x d q => I.good.val x d (h1 x d q), fun x d q => I.good.own x d (h2 x d q)⟩, I.loc, I.loc0, I.cells, I.keep0, I.base0, I.own0, I.oc0,
    fun x y ds es a hx hy lx ly => I.apart x y ds es a (h2 x ds hx) (h2 y es hy) lx ly⟩
theorem sound_for {ks : List Str} {A : Around} {E : Value → Shared → Prop} {Q : Flow → Shared → Prop} {s s₀ : Shared} {env : Env} {Own Oc : List Addr} {ρ : Rho} {σ : Sig} {x : Str} {px pos : Pos} {iter : Expr} {body : List Stmt} {f : Expr → Option D} {fb : Rho → Sig → Option Out}
    {ds : List D} {o : Out} (K : TbOk prog w T hb mg mb dep) (ha : AOk A dep) (I : Inv hb s₀ env Own Oc ρ σ s) (hx : env.kindOf x = some .local)
    (ok : ∀ (E Q : Value → Shared → Prop) (s : Shared) (e : Expr) (d : D), Good hb env s.heap Own Oc ρ σ → f e = some d →
      (∀ v h' tk', Keep s.heap h' → Rep (hid h' (Own ++ Oc)) v d → Q v { s with heap := h', toks := tk' }) → wpAny (model prog w) A (eval e env) Q E s)
    (okB : ∀ (E : Value → Shared → Prop) (Q : Flow → Shared → Prop) (s : Shared) (Own : List Addr) (ρ : Rho) (σ : Sig) (o : Out), Inv hb s₀ env Own Oc ρ σ s → fb ρ σ = some o → PostX hb s₀ env Own Oc s.heap o Q → wpAny (model prog w) A (execs body env) Q E s)
    (hd : iterD T f env.scope ρ iter = some ds) (q : forD ks fb x ds ρ σ = some o) (h : PostX hb s₀ env Own Oc s.heap o Q) :
    wpAny (model prog w) A (exec (.For (.Name x px) iter body [] pos) env) Q E s := by
  refine wpAny_For (sound_iter K ha scOk_self I.good ok hd fun it s₂ h₁ II fp wr n P St e k₁ F => ?_) (folded (iter_noSet hd))
  obtain ⟨h₂, tk₂, rfl⟩ := e
  have hit := F.isIt
  subst hit
  have k₂ : Keep s.heap h₂ := k₁.trans F.keep
  have I₂ : Inv hb s₀ env Own Oc ρ σ { s with heap := h₂, toks := tk₂ } := I.on k₂
  obtain ⟨mL, hmL⟩ := I.loc
  have hmL₁ := hmL.keeps k₁
  have hmL₂ := hmL.keeps k₂
  have hasL : ∃ o, h₁.get? env.locals = some o := let ⟨o, _, _, e, _⟩ := hmL₁; ⟨o, e⟩
  -- addresses that the iterator writes are no one's
  have wL : env.locals ∉ wr := fun m => by obtain ⟨o, e⟩ := hasL; rw [F.isNew _ m] at e; cases e
  have fL : env.locals ∉ fp := fun m => by
    rcases F.reads _ m with z | ⟨o, q, e, _⟩
    · obtain ⟨o, e⟩ := hasL; rw [z] at e; cases e
    · exact not_dict hmL₁ q e
  have fO : ∀ b ∈ fp, b ∉ Own := fun b m z => by
    obtain ⟨o, e⟩ := I.good.hidS b (List.mem_append_left _ z)
    rcases F.reads _ m with y | ⟨o', q, e', y⟩
    · rw [k₁ _ _ e] at y; cases y
    · exact y (List.mem_append_left _ z)
  have hn := F.len
  have nos : ∀ i h, St i h → ∀ b ∈ wr, ∀ o, h.get? b = some o → ¬ isSeq o := F.noseq
  refine codeAny_forLoop (fun k s' => ∃ i Own' ρ' σ', Inv hb s₀ env Own' Oc ρ' σ' s' ∧ St i s'.heap ∧ i ≤ n ∧ k = n + 1 - i ∧ Stp env wr Own Own' h₂ s'.heap ∧ forD ks fb x (ds.drop i) ρ' σ' = some o) ?_ (n + 1)
    ⟨0, Own, ρ, σ, I₂, F.st, Nat.zero_le _, rfl, Stp.refl, by simpa using q⟩
  rintro k s' ⟨i, Own', ρ', σ', I', hst, hi, rfl, stp, hq⟩
  have nO' : ∀ b ∈ fp, b ∉ Own' := fun b m z => by
    rcases stp.new b z with z | z
    · exact fO b m z
    · obtain ⟨o, e⟩ := F.has b m; rw [e] at z; cases z
  have wO' : ∀ b ∈ wr, b ∉ Own' ++ Oc := fun b m z => by
    rcases List.mem_append.mp z with z | z
    · exact nO' b (F.walks.sub _ m) z
    · obtain ⟨o, e⟩ := I.oc0 b z
      have e := k₁ _ _ (I.keep0 _ _ e)
      rw [F.isNew b m] at e; cases e
  have wC : ∀ x c, env.cells.lookup x = some c → c ∉ wr := fun x c hc m => by
    obtain ⟨v, o, e, _⟩ := I.cells x c hc
    have e := k₁ _ _ e
    rw [F.isNew c m] at e; cases e
  have w0 : ∀ b ∈ wr, s₀.heap.get? b = Option.none := fun b m => by
    cases e : s₀.heap.get? b with
    | none => rfl
    | some o =>
      have e := k₁ _ _ (I.keep0 _ _ e)
      rw [F.isNew b m] at e; cases e
  -- the iterator's step changes nothing of the frame's
  have s3 : ∀ {h₃ : Heap}, (∀ b ∈ wr, ∃ o, h₃.get? b = some o) → (∀ b o, b ∉ wr → s'.heap.get? b = some o → h₃.get? b = some o) → Stp env wr Own' Own' s'.heap h₃ := fun {h₃} hal hk₃ => ⟨fun b o e _ _ hw => hk₃ b o hw e, fun b o e => by
    by_cases hw : b ∈ wr
    · exact hal b hw
    · exact ⟨o, hk₃ b o hw e⟩, fun _ m => .inl m⟩
  by_cases hlt : i < n
  · refine F.walks.item i _ _ _ hlt hst fun v h₃ tk₃ hP hst₃ hk₃ => ?_
    have hdi : i < ds.length := by omega
    have hdr : ds.drop i = ds[i] :: ds.drop (i + 1) := List.drop_eq_getElem_cons hdi
    rw [hdr, forD] at hq
    have rv : Rep (hid h₂ (Own ++ Oc)) v ds[i] := F.item i v _ hP (List.getElem?_eq_getElem hdi)
    have I₃ : Inv hb s₀ env Own' Oc ρ' σ' { s' with heap := h₃, toks := tk₃ } := I'.wr hk₃ wL wC w0 wO' (nos i _ hst)
    have rv₃ : Rep (hid h₃ (Own' ++ Oc)) v ds[i] := rv.mono ((stp.sub hmL₂ (nos 0 _ F.st)).trans (hid_wr (nos i _ hst) hk₃))
    have io : isOwn [] x ds[i] false = false := by cases ds[i] <;> rfl
    refine wpAny_assign_Name (sound_put (mt := []) (fr := false) I₃ hx (.inr ⟨io, rv₃⟩) fun h₄ tk₄ m₄ n₄ n₄' sb₄ I₄ => ?_)
    rw [asg_val io] at I₄
    have st₄ : Stp env wr Own' Own' h₃ h₄ := (Stp.local n₄' sb₄).wr fun b m => by cases m
    rcases seqO_eq hq with ⟨ρ'', σ'', hf, hq⟩ | ⟨d, fr, hf, rfl⟩
    · refine okB _ _ _ Own' _ _ _ I₄ hf ?_
      · intro Own'' s'' I'' st''
        refine ⟨n + 1 - (i + 1), by omega, i + 1, Own'', _, _, I''.fewer (fun _ _ => get_keepK) (fun _ _ => get_keepK), ?_, hlt, rfl, (((stp.trans (s3 (F.alive _ _ hst₃) hk₃)).trans st₄).trans (st''.wr fun b m => by cases m)), hq⟩
        exact F.walks.frame _ _ _ hst₃ fun b hbf o e => st''.kb b o ((sb₄.2 b fun z => fL (z ▸ hbf)).trans e) (nO' b hbf) (fun z => fL (z ▸ hbf)) (by simp)
    · exact okB _ _ _ Own' _ _ _ I₄ hf h
  · have hin : i = n := by omega
    subst hin
    have hdr : ds.drop i = [] := List.drop_of_length_le (by omega)
    rw [hdr, forD] at hq
    cases hq
    refine F.walks.done _ _ _ hst fun h₃ tk₃ hk₃ => wpAny_execs_nil ?_
    have sw : ∀ {b o}, s.heap.get? b = some o → b ∉ wr := fun {b o} e m => by
      have e := k₁ _ _ e
      rw [F.isNew b m] at e; cases e
    refine h Own' _ ((I'.wr hk₃ wL wC w0 wO' (nos i _ hst)).fewer (fun _ _ => get_keepK) (fun _ _ => get_keepK)) ⟨fun b o e h1 h2 _ => hk₃ b o (sw e) (stp.kb b o (k₂ _ _ e) h1 h2 (sw e)), fun b o e => ?_, fun a m => ?_⟩
    · obtain ⟨o', e'⟩ := stp.ex b o (k₂ _ _ e)
      exact ⟨o', hk₃ _ _ (sw e) e'⟩
    · refine (stp.new a m).imp id fun z => ?_
      cases e : s.heap.get? a with
      | none => rfl
      | some o => rw [k₂ _ _ e] at z; cases z
end
end Mine
namespace Mine
section
variable {prog : Program} {w : World} {T : Tb} {hb : Heap} {mg mb : Str → Option Value} {dep : Nat} {mt : List Str}
theorem sound_while {A : Around} {E : Value → Shared → Prop} {Q : Flow → Shared → Prop} {s s₀ : Shared} {env : Env} {Own Oc : List Addr} {ρ : Rho} {σ : Sig} {pos : Pos} {t : Expr} {body : List Stmt} {tt : Rho → Sig → Option Bool} {fb : Rho → Sig → Option Out}
    {N : Nat} {o : Out} (I : Inv hb s₀ env Own Oc ρ σ s)
    (okT : ∀ (E : Value → Shared → Prop) (Q : Bool → Shared → Prop) (s : Shared) (Own : List Addr) (ρ : Rho) (σ : Sig) (b : Bool), Good hb env s.heap Own Oc ρ σ → tt ρ σ = some b →
      (∀ h' tk', Keep s.heap h' → Q b { s with heap := h', toks := tk' }) → wpAny (model prog w) A (isTrue t env (eval t env)) Q E s)
    (okB : ∀ (E : Value → Shared → Prop) (Q : Flow → Shared → Prop) (s : Shared) (Own : List Addr) (ρ : Rho) (σ : Sig) (o : Out), Inv hb s₀ env Own Oc ρ σ s → fb ρ σ = some o → PostX hb s₀ env Own Oc s.heap o Q → wpAny (model prog w) A (execs body env) Q E s)
    (q : whileD tt fb N ρ σ = some o) (h : PostX hb s₀ env Own Oc s.heap o Q) :
    wpAny (model prog w) A (exec (.While t body [] pos) env) Q E s := by
  refine wpAny_While (codeAny_whileLoop (fun k s' => ∃ Own' ρ' σ', Inv hb s₀ env Own' Oc ρ' σ' s' ∧ Stp env [] Own Own' s.heap s'.heap ∧ whileD tt fb k ρ' σ' = some o) ?_ N ⟨Own, ρ, σ, I, Stp.refl, q⟩)
  rintro k s' ⟨Own', ρ', σ', I', stp, hq⟩
  cases k with
  | zero => rw [whileD] at hq; cases hq
  | succ k =>
    rw [whileD] at hq
    obtain ⟨b, ht, hq⟩ := op1_eq hq
    refine okT _ _ _ Own' _ _ b I'.good ht fun h₁ tk₁ k₁ => ?_
    have I₁ := I'.on (tk := tk₁) k₁
    have st₁ : Stp env [] Own Own' s.heap h₁ := stp.trans (Stp.keep k₁)
    cases b with
    | true =>
      rw [if_pos rfl]
      rw [if_pos rfl] at hq
      rcases seqO_eq hq with ⟨ρ'', σ'', hf, hq⟩ | ⟨d, fr, hf, rfl⟩
      · exact okB _ _ _ Own' _ _ _ I₁ hf fun Own'' s'' I'' st'' => ⟨k, Nat.lt_succ_self _, Own'', ρ'', σ'', I'', st₁.trans st'', hq⟩
      · exact okB _ _ _ Own' _ _ _ I₁ hf h
    | false =>
      rw [if_neg (by decide)]
      rw [if_neg (by decide)] at hq
      cases hq
      exact wpAny_execs_nil (h Own' _ I₁ st₁)
theorem sound_S {e₁ : Ev} {xs₁ : Scope → Rho → Sig → List Stmt → Option Out} (K : TbOk prog w T hb mg mb dep) (IE : SoundE prog w T hb dep e₁.E) (IT : SoundT prog w hb dep e₁.T) (IX : SoundX prog w hb dep xs₁) :
    SoundS prog w hb dep (stX T mt e₁ xs₁) := by
  intro A E Q s s₀ env Own Oc ρ σ st o ha I q h
  have ok : ∀ (E Q : Value → Shared → Prop) (s : Shared) (Own : List Addr) (ρ : Rho) (σ : Sig) (e : Expr) (d : D), Good hb env s.heap Own Oc ρ σ → e₁.E env.scope ρ σ e = some d → RetF s (Own ++ Oc) d (freshE T e) Q → wpAny (model prog w) A (eval e env) Q E s :=
    fun E Q s Own ρ σ e d g q h => IE A E Q s env env.scope Own Oc ρ σ e d ha scOk_self g q h
  have okP : ∀ (E Q : Value → Shared → Prop) (s : Shared) (Own : List Addr) (ρ : Rho) (σ : Sig) (e : Expr) (d : D), Good hb env s.heap Own Oc ρ σ → e₁.E env.scope ρ σ e = some d →
      (∀ v h' tk', Keep s.heap h' → Rep (hid h' (Own ++ Oc)) v d → Q v { s with heap := h', toks := tk' }) → wpAny (model prog w) A (eval e env) Q E s :=
    fun E Q s Own ρ σ e d g q h => ok E Q s Own ρ σ e d g q fun v h' tk' k r _ => h v h' tk' k r
  unfold stX at q
  split at q
  · -- x = e
    rename_i x px v pos
    split at q
    · cases q
    · rename_i c
      simp only [Bool.or_eq_true, Bool.not_eq_true', not_or, Bool.not_eq_true, decide_eq_false_iff_not, Decidable.not_not] at c
      obtain ⟨c1, c2⟩ := c
      obtain ⟨d, hd, q⟩ := op1_eq q
      · cases q
        -- the name's own list, if any, becomes a value
        have fz : ∃ Own₁, Inv hb s₀ env Own₁ Oc (frz1 x ρ σ).1 (frz1 x ρ σ).2 s ∧ ∀ a ∈ Own₁, a ∈ Own := by
          unfold frz1
          split
          · rename_i ds hx; exact I.freeze hx
          · exact ⟨Own, I, fun _ m => m⟩
        obtain ⟨Own₁, I₁, hO⟩ := fz
        refine wpAny_Assign_Name (ok _ _ _ Own₁ _ _ _ _ I₁.good hd fun u h₁ tk₁ k₁ r₁ f₁ => ?_) (swapsNo c1)
        obtain ⟨Own₂, I₂, p₂, n₂, m₂, _⟩ := I₁.piece (mt := mt) (x := x) (tk₁ := tk₁) k₁ r₁ f₁
        refine sound_put (mt := mt) I₂ c2 p₂ fun h₂ tk₂ m hm n' sb I₃ => ?_
        refine h Own₂ _ I₃ (Stp.fewer ?_ hO)
        refine Stp.trans (Own' := Own₂) (h' := h₁) ⟨fun b o e _ _ _ => k₁ b o e, fun b o e => ⟨o, k₁ b o e⟩, fun a m => (n₂ a m).imp id fun z => z.1⟩ (Stp.local n' sb)
  · -- x, y = e, f
    rename_i ts tk tp vs vk vp pos
    split at q
    · rename_i c
      have c := Bool.and_eq_true_iff.mp c
      have c1 := Bool.and_eq_true_iff.mp c.1
      obtain ⟨ds, hd, q⟩ := op1_eq q
      · cases q
        have hsw := c1.1
        have hlen : (swapN env.scope ts).length = vs.length := by
          unfold swapB at hsw
          simp only [Bool.and_eq_true, beq_iff_eq] at hsw
          omega
        have hdl := evs_len hd
        refine Assign_Tuple_swapped ?_ (by rfl) (swapped_of hsw I.good.kind)
        refine wpAny_Tuple (sound_pieces (mt := mt) _ (fun E Q s Own e d g q h => ok E Q s Own ρ σ e d g q h) vs (swapN env.scope ts) ds s Own _ hlen I c1.2 hd fun us Own' h₁ tk₁ k₁ I₁ n₁ m₁ hul p₁ f₁ w₁ => ?_)
        refine ⟨by rw [hul]; exact okLen_line c.2, ?_⟩
        have hul' : us.toArray.size = (swapN env.scope ts).length := by rw [List.size_toArray]; omega
        rw [← hul']
        refine wpAny_unpackItems_tuple ha.handled ⟨_, Heap.get?_push_size _ rfl, rfl, 0, rfl⟩ fun h₂ e₂ => ?_
        have k₂ : Keep h₁ h₂ := fun b o e => e₂ b o (Nat.ne_of_lt (Nat.lt_of_lt_of_le (Heap.lt_size e) (push_size _ _))) (Heap.get?_push_of_some _ e)
        have I₂ : Inv hb s₀ env Own' Oc ρ σ { s with heap := h₂, toks := tk₁ } := I₁.on k₂
        obtain ⟨ml, hml⟩ := I₁.loc
        generalize hL : ((swapN env.scope ts).zip (ds.zip (vs.map (freshE T)))).zip us = L at p₁ f₁ w₁
        have zl : (ds.zip (vs.map (freshE T))).length = vs.length := by simp [hdl]
        have zl2 : ((swapN env.scope ts).zip (ds.zip (vs.map (freshE T)))).length = us.length := by rw [List.length_zip, zl, hlen]; omega
        have e1 : L.map (·.1) = (swapN env.scope ts).zip (ds.zip (vs.map (freshE T))) := by rw [← hL]; exact zip_fst zl2
        have e2 : L.map (·.2) = us := by rw [← hL]; exact zip_snd zl2
        have e3 : L.map (fun p => p.1.1) = swapN env.scope ts := by
          have : L.map (fun p => p.1.1) = (L.map (·.1)).map (·.1) := by simp
          rw [this, e1]
          exact zip_fst (by rw [zl, hlen])
        have fin := sound_puts (prog := prog) (w := w) (A := A) (E := E) (mt := mt) L.reverse ρ σ _ (fun _ => Q .next) I₂ (fun p m => ?_) (fun p m => ?_) ?_ fun h₃ tk₃ I₃ st₃ => ?_
        · rw [List.map_reverse, List.map_reverse, e2] at fin
          have e4 : L.map (fun p => bindName env p.1.1) = (swapN env.scope ts).map fun n => bindName env n := by rw [← e3]; simp
          rw [e4] at fin
          simpa [List.map_reverse] using fin
        · have : p.1.1 ∈ swapN env.scope ts := by rw [← e3]; exact List.mem_map_of_mem (List.mem_reverse.mp m)
          exact swapN_local _ this
        · exact (p₁ p (List.mem_reverse.mp m)).later k₂ hml I₁.cells (fun a m => m) (fun a m => .inl m)
        · rw [List.pairwise_reverse]
          exact w₁.imp fun h a b z => h b a z.symm
        · rw [List.map_reverse, e1] at I₃
          refine h Own' _ I₃ (Stp.trans (Own' := Own') (h' := h₂) ⟨fun b o e _ _ _ => k₂ _ _ (k₁ b o e), fun b o e => ⟨o, k₂ _ _ (k₁ b o e)⟩, n₁⟩ st₃)
    · cases q
  · -- x[i] = e
    rename_i x xp i sp v pos
    split at q
    · cases q
    · rename_i c
      simp only [Bool.or_eq_true, Bool.not_eq_true', not_or, Bool.not_eq_true, Bool.not_eq_false] at c
      obtain ⟨ds, hx, q⟩ := op1_eq q
      obtain ⟨d, dk, hd, hk, q⟩ := op2_eq q
      unfold setS at q
      split at q
      · split at q
        · rename_i k c2
          have c2 := Bool.and_eq_true_iff.mp c2
          have c3 := Bool.and_eq_true_iff.mp c2.1
          have sm := small_lt c3.2
          cases q
          refine wpAny_Assign_Subscript (okP _ _ _ Own _ _ _ _ I.good hd fun u h₁ tk₁ k₁ r₁ => ?_) (swapsNo c.1)
          have I₁ := I.on (tk := tk₁) k₁
          obtain ⟨a, ws, n, l, ma, e, r⟩ := I₁.good.own _ _ hx
          have cn := Bool.and_eq_true_iff.mp c.2
          refine wpAny_Name (l.load I.good.kind c.2 ?_) (by simpa using cn.1)
          refine okP _ _ _ Own _ _ _ _ I₁.good hk fun iv h₂ tk₂ k₂ r₂ => ?_
          cases r₂
          have I₂ := I₁.on (tk := tk₂) k₂
          have hl := r.length
          refine setK (k₂ _ _ e) (of_decide_eq_true c3.1) (by omega) (by rw [hl]; exact of_decide_eq_true c2.2) fun h₃ n₃ e₃ sb => ?_
          refine h Own _ (I₂.alter hx (l.keep k₂) ma (k₂ _ _ e) e₃ sb ((r.mono (hid_keep k₂)).set (r₁.mono (hid_keep k₂)) _)) ?_
          exact (Stp.keep (k₁.trans k₂)).trans (Stp.list ma e₃ sb)
        · cases q
      · cases q
  · -- x.append(e)
    rename_i x xp a apos v cpos pos
    split at q
    · rename_i c
      have c := Bool.and_eq_true_iff.mp c
      have c1 := Bool.and_eq_true_iff.mp c.1
      have c2 := Bool.and_eq_true_iff.mp c1.1
      have ea : a = "append" := of_decide_eq_true c2.1
      subst ea
      obtain ⟨ds, hx, q⟩ := op1_eq q
      obtain ⟨d, hd, q⟩ := op1_eq q
      unfold appS at q
      · split at q
        · rename_i hl
          cases q
          obtain ⟨ad, ws, n, l, ma, e, r⟩ := I.good.own _ _ hx
          have cn := Bool.and_eq_true_iff.mp c2.2
          have hst : starEach [v] env = [(false, eval v env)] := starEach_cons c.2
          have htr : backTo cpos (starEach [v] env) = [(false, eval v env)] := by rw [hst]; rfl
          refine wpAny_Expr (wpAny_Call_append rfl (by rw [htr]; rfl) c1.2 htr (wpAny_Name (l.load I.good.kind c2.2 ⟨ad, ws.toArray, rfl, ⟨_, n, e, rfl, rfl, rfl⟩, ?_⟩) (by simpa using cn.1))) (interactive_no I.good.kind) rfl
          refine okP _ _ _ Own _ _ _ _ I.good hd fun u h₁ tk₁ k₁ r₁ => ?_
          have I₁ := I.on (tk := tk₁) k₁
          have hlen := r.length
          refine wpAny_list_append_plain ⟨n, k₁ _ _ e⟩ (fun h₂ hp sb => ?_) (by rw [List.size_toArray, hlen]; exact okLen_line hl)
          obtain ⟨n₂, e₂⟩ := hp
          have e7 : ws.toArray.push u = (ws ++ [u]).toArray := by simp
          rw [e7] at e₂
          refine h Own _ (I₁.alter hx (l.keep k₁) ma (k₁ _ _ e) e₂ sb ((r.mono (hid_keep k₁)).append (Reps.one r₁))) ?_
          exact (Stp.keep k₁).trans (Stp.list ma e₂ sb)
        · cases q
    · cases q
  · -- a call for its effect
    obtain ⟨d, hd, q⟩ := op1_eq q
    unfold noneS at q
    split at q
    · cases q
      refine wpAny_Expr (okP _ _ _ Own _ _ _ _ I.good hd fun u h₁ tk₁ k₁ r₁ => ?_) (interactive_no I.good.kind) rfl
      cases r₁
      exact h Own _ (I.on k₁) (Stp.keep k₁)
    · cases q
  · -- if
    obtain ⟨b, ht, q⟩ := op1_eq q
    cases b with
    | true =>
      rw [if_pos rfl] at q
      refine wpAny_If (IT A E _ s env env.scope Own Oc ρ σ _ _ ha scOk_self I.good ht fun h₁ tk₁ k₁ => ?_)
      rw [if_pos rfl]
      exact IX A E Q _ s₀ env Own Oc ρ σ _ o ha (I.on k₁) q (h.step (Stp.keep k₁))
    | false =>
      rw [if_neg (by decide)] at q
      refine wpAny_If (IT A E _ s env env.scope Own Oc ρ σ _ _ ha scOk_self I.good ht fun h₁ tk₁ k₁ => ?_)
      rw [if_neg (by decide)]
      exact IX A E Q _ s₀ env Own Oc ρ σ _ o ha (I.on k₁) q (h.step (Stp.keep k₁))
  · -- for
    split at q
    · rename_i hx
      obtain ⟨ds, hd, q⟩ := op1_eq q
      · exact sound_for K ha I (of_decide_eq_true hx) (fun E Q s e d g q h => okP E Q s Own ρ σ e d g q h) (fun E Q s Own ρ σ o I q h => IX A E Q s s₀ env Own Oc ρ σ _ o ha I q h) hd q h
    · cases q
  · -- while
    exact sound_while I (fun E Q s Own ρ σ b g q h => IT A E Q s env env.scope Own Oc ρ σ _ b ha scOk_self g q h) (fun E Q s Own ρ σ o I q h => IX A E Q s s₀ env Own Oc ρ σ _ o ha I q h) q h
  · -- return
    obtain ⟨d, hd, q⟩ := op1_eq q
    · cases q
      refine wpAny_Return_some (ok _ _ _ [] _ _ _ _ I.freezeAll hd fun u h₁ tk₁ k₁ r₁ f₁ => ?_)
      obtain ⟨h₀, t₀, e₀⟩ := I.same
      refine h u _ ⟨h₁, tk₁, by rw [e₀]⟩ (I.keep0.trans k₁) (by simpa using r₁) fun z => ?_
      have := (f₁ z).later I.keep0
      simpa using this
  · cases q
theorem sound_X (K : TbOk prog w T hb mg mb dep) : ∀ n, SoundX prog w hb dep (xs T mt n)
  | 0 => fun A E Q s s₀ env Own Oc ρ σ st o _ _ q _ => by cases q
  | n + 1 => fun A E Q s s₀ env Own Oc ρ σ st o ha I q h => by
    cases st with
    | nil =>
      rw [xs] at q
      cases q
      exact wpAny_execs_nil (h Own _ I Stp.refl)
    | cons st rest =>
      rw [xs] at q
      rcases seqO_eq q with ⟨ρ', σ', hs, q⟩ | ⟨d, fr, hs, rfl⟩
      · exact wpAny_execs_cons (sound_S K (sound_ev K n).1 (sound_ev K n).2 (sound_X K n) A E _ s s₀ env Own Oc ρ σ st _ ha I hs fun Own' s' I' st' => sound_X K n A E Q s' s₀ env Own' Oc ρ' σ' rest o ha I' q (h.step st'))
      · exact wpAny_execs_cons (sound_S K (sound_ev K n).1 (sound_ev K n).2 (sound_X K n) A E _ s s₀ env Own Oc ρ σ st _ ha I hs h)
end
end Mine
namespace Mine
noncomputable def outR : Out → Option (D × Bool)
  | .ret d fr => some (d, fr)
  | .next _ _ => some (.none, false)
noncomputable def runO (x : Option Out) : Option (D × Bool) := op1 outR x
/-- a def of the top, called by values -/
noncomputable def runF (T : Tb) (mt : List Str) (n : Nat) (fd : FuncData) (pn : List Str) (ds : List D) : Option (D × Bool) :=
  match fd.body with
  | .stmts body => runO (xs T mt n fd.scope (pn.zip ds) [] body)
  | .expr _ => Option.none
structure FdOk (h : Heap) (a : Addr) (fd : FuncData) (pn : List Str) : Prop where
  obj : ∃ o, h.get? a = some o ∧ o.data = .func fd
  code : h.CodeRec fd.code fd.qualname
  limit : h.NoLimit
  clo : fd.closure = []
  gl : fd.globals = mainGlobals
  bl : fd.builtins = builtinsNs
  kind : fd.scope.kind = .function
  co : fd.scope.isCoroutine = false
  gen : fd.scope.isGenerator = false
  nodup : pn.Nodup
  names : ∀ x ∈ pn, fd.scope.names.lookup x = some .local ∨ fd.scope.names.lookup x = some .cell
  bind : ∀ vs : List Value, vs.length = pn.length → bindArgs fd ⟨vs, []⟩ = pure (pn.zip vs)
theorem bindL_other {kf : Str → Option NameKind} : ∀ (l : List (Str × Value)) (m : Str → Option Value) (x : Str), (∀ p ∈ l, p.1 ≠ x) → bindL kf l m x = m x
  | [], m, x, _ => rfl
  | (n, v) :: r, m, x, h => by
    rw [bindL, bindL_other r _ x fun p hp => h p (List.mem_cons_of_mem _ hp)]
    have hn : x ≠ n := fun e => h (n, v) List.mem_cons_self e.symm
    split <;> simp [hn]
theorem bindC_other {kf : Str → Option NameKind} : ∀ (l : List (Str × Value)) (m : Str → Option Value) (x : Str), (∀ p ∈ l, p.1 ≠ x) → bindC kf l m x = m x
  | [], m, x, _ => rfl
  | (n, v) :: r, m, x, h => by
    rw [bindC, bindC_other r _ x fun p hp => h p (List.mem_cons_of_mem _ hp)]
    have hn : x ≠ n := fun e => h (n, v) List.mem_cons_self e.symm
    split <;> simp [hn]
/-- each parameter holds its value, in the frame's dict or in a cell -/
theorem bind_get {kf : Str → Option NameKind} {V : View} : ∀ (pn : List Str) (vs : List Value) (ds : List D) (m cm : Str → Option Value) (x : Str) (d : D), pn.Nodup → vs.length = pn.length → Reps V vs ds → get x (pn.zip ds) = some d →
    ∃ v, Rep V v d ∧ x ∈ pn ∧ (kf x = some .local → bindL kf (pn.zip vs) m x = some v) ∧ (kf x ≠ some .local → bindC kf (pn.zip vs) cm x = some v)
  | [], vs, ds, m, cm, x, d, _, _, _, h => by cases h
  | n :: pn, [], ds, m, cm, x, d, _, hl, _, h => by cases hl
  | n :: pn, v :: vs, ds, m, cm, x, d, hn, hl, hr, h => by
    cases hr with
    | cons r1 r2 =>
      have hn' := List.nodup_cons.mp hn
      rw [List.zip_cons_cons, get] at h
      by_cases hx : x = n
      · subst hx
        rw [if_pos rfl] at h
        cases h
        have no : ∀ p ∈ pn.zip vs, p.1 ≠ x := fun p hp e => hn'.1 (e ▸ (List.of_mem_zip hp).1)
        refine ⟨v, r1, List.mem_cons_self, fun hk => ?_, fun hk => ?_⟩
        · rw [List.zip_cons_cons, bindL, bindL_other _ _ _ no, if_pos hk]; simp
        · rw [List.zip_cons_cons, bindC, bindC_other _ _ _ no, if_neg hk]; simp
      · rw [if_neg hx] at h
        obtain ⟨u, ru, hm, h1, h2⟩ := bind_get pn vs _ (if kf n = some .local then fun y => if y = n then some v else m y else m) (if kf n = some .local then cm else fun y => if y = n then some v else cm y) x d hn'.2 (by simpa using hl) r2 h
        exact ⟨u, ru, List.mem_cons_of_mem _ hm, fun hk => by rw [List.zip_cons_cons, bindL]; exact h1 hk, fun hk => by rw [List.zip_cons_cons, bindC]; exact h2 hk⟩
theorem zip_keys {pn : List Str} {vs : List Value} {p : Str × Value} (h : p ∈ pn.zip vs) : p.1 ∈ pn := (List.of_mem_zip h).1
section
variable {prog : Program} {w : World} {T : Tb} {hb : Heap} {mg mb : Str → Option Value} {dep : Nat} {mt : List Str}
theorem call_ok {a : Addr} {fd : FuncData} {pn : List Str} {n : Nat} {ds : List D} {d : D} {fr frO : Bool} (K : TbOk prog w T hb mg mb dep) (O : FdOk hb a fd pn) (hl : ds.length = pn.length)
    (q : runF T mt n fd pn ds = some (d, fr)) (hfr : frO = true → fr = true) : CallOK prog w hb (dep + 1) a ds d frO := by
  intro A E Q s Oc vs ha kb hB hS hr h
  unfold runF at q
  split at q
  · rename_i body hbody
    obtain ⟨o, ho, hd⟩ := O.obj
    have hvl : vs.length = pn.length := by rw [hr.length, hl]
    refine wpAny_call (codeAny_call_cells (binds := pn.zip vs) (by have := ha.depth; omega) (kb _ _ ho) hd (O.limit.keeps kb) (O.code.keeps kb) hbody (O.bind vs hvl) O.clo (fun p hp => ?_) (fun s₁ x => ?_) O.co O.gen O.kind)
    · rcases O.names p.1 (zip_keys hp) with z | z
      · exact .inl z
      · exact .inr ⟨z, cellsFrom_some _ _ _ (.inl z)⟩
    · have hL : (callEnvC fd s.heap.objs.size a).locals = s.heap.objs.size := rfl
      have k1 : Keep s.heap s₁.heap := x.toInCall.keep
      have I : Inv hb s (callEnvC fd s.heap.objs.size a) [] Oc (pn.zip ds) [] s₁ := by
        refine ⟨x.toInCall.same, ⟨O.kind, O.gl, O.bl, kb.trans k1, fun b m => hB b (by simpa using m), fun b m => ?_, fun y e q => ?_, fun y e q => by cases q⟩, ⟨_, x.toInCall.ns⟩, none_ge x.toInCall.fresh, fun y c e => ⟨_, x.cell y c e⟩, k1, kb,
          fun b m => (by cases m), hS, fun y z ds es b hy => by cases hy⟩
        · obtain ⟨o', e'⟩ := hS b (by simpa using m)
          exact ⟨o', k1 _ _ e'⟩
        · obtain ⟨v, rv, hm, h1, h2⟩ := bind_get (kf := (callEnvC fd s.heap.objs.size a).kindOf) pn vs ds (fun _ => Option.none) (fun _ => Option.none) y e O.nodup hvl hr q
          refine ⟨v, ?_, rv.mono (by simpa using hid_keep k1)⟩
          rcases O.names y hm with z | z
          · exact .inl ⟨z, _, x.toInCall.ns, h1 z⟩
          · have hz : ((cellsFrom (s.heap.objs.size + 1) fd.scope.names []).lookup y).isSome = true := cellsFrom_some _ _ _ (.inl z)
            obtain ⟨c, hc⟩ := Option.isSome_iff_exists.mp hz
            refine .inr ⟨.inl z, c, hc, ?_⟩
            have := x.cell y c hc
            rwa [h2 (by show fd.scope.names.lookup y ≠ _; rw [z]; decide)] at this
      have ha' : AOk (A.deeper (callEnvC fd s.heap.objs.size a)) dep := ⟨ha.handled, by have := ha.depth; show A.depth + 1 + dep < _; omega, by have := ha.units; show A.units + 3 + 4 * dep + 100 < _; omega⟩
      obtain ⟨o', hx, q⟩ := op1_eq q
      cases o' with
      | ret d' fr' =>
        cases q
        refine sound_X (mt := mt) K n _ _ _ s₁ s _ [] Oc _ _ body _ ha' I hx fun v s' hs k r f => ?_
        obtain ⟨h', tk, rfl⟩ := hs
        exact h v h' tk k (by simpa using r) fun z => f (hfr z)
      | next ρ' σ' =>
        cases q
        refine sound_X (mt := mt) K n _ _ _ s₁ s _ [] Oc _ _ body _ ha' I hx fun Own' s' I' _ => ?_
        obtain ⟨h', tk, rfl⟩ := I'.same
        exact h _ h' tk I'.keep0 .none fun z => by cases hfr z
  · cases q
theorem CallOK.deeper {a : Addr} {ds : List D} {d : D} {fr : Bool} {dep' : Nat} (h : CallOK prog w hb dep a ds d fr) (hd : dep ≤ dep') : CallOK prog w hb dep' a ds d fr :=
  fun A E Q s Oc vs ha => h A E Q s Oc vs ⟨ha.handled, by have := ha.depth; omega, by have := ha.units; omega⟩
/-- tables -/
noncomputable abbrev Tab := List (Addr × (List D → Option D) × Bool)
noncomputable def tabGet (a : Addr) : Tab → Option ((List D → Option D) × Bool)
  | [] => Option.none
  | (b, f) :: r => if a = b then some f else tabGet a r
noncomputable def tbOf (g : Str → Option D) (t : Tab) : Tb where
  glob := g
  call := fun a ds => match tabGet a t with
    | some f => f.1 ds
    | Option.none => Option.none
  fr := fun a => match tabGet a t with
    | some f => f.2
    | Option.none => false
theorem tb_nil {g : Str → Option D} (hg : hb.Ns mainGlobals mg) (hbn : hb.Ns builtinsNs mb) (glob : ∀ x d, g x = some d → ∃ v, mg x = some v ∧ Rep hb.get? v d) (bi : ∀ b : Bi, mg (bName b) = Option.none ∧ mb (bName b) = some (bVal b))
    (rng : mg "range" = Option.none ∧ mb "range" = some (.type "range")) (zp : mg "zip" = Option.none ∧ mb "zip" = some (.type "zip")) : TbOk prog w (tbOf g []) hb mg mb 0 where
  g := hg
  b := hbn
  glob := glob
  bi := bi
  rng := rng
  zp := zp
  fn := fun a ds d e => by cases e
  call := fun a ds d e => by cases e
theorem tb_cons {g : Str → Option D} {t : Tab} {a : Addr} {f : List D → Option D} {fr : Bool} (K : TbOk prog w (tbOf g t) hb mg mb dep) (hf : ∃ o fd, hb.get? a = some o ∧ o.data = .func fd)
    (h : ∀ ds d, f ds = some d → CallOK prog w hb (dep + 1) a ds d fr) : TbOk prog w (tbOf g ((a, f, fr) :: t)) hb mg mb (dep + 1) where
  g := K.g
  b := K.b
  glob := K.glob
  bi := K.bi
  rng := K.rng
  zp := K.zp
  fn := fun b ds d e => by
    by_cases hb' : b = a
    · subst hb'; exact hf
    · refine K.fn b ds d ?_
      simpa [tbOf, tabGet, hb'] using e
  call := fun b ds d e => by
    by_cases hb' : b = a
    · subst hb'
      have e' : f ds = some d := by simpa [tbOf, tabGet] using e
      have ef : (tbOf g ((b, f, fr) :: t)).fr b = fr := by simp [tbOf, tabGet]
      rw [ef]
      exact h ds d e'
    · have ef : (tbOf g ((a, f, fr) :: t)).fr b = (tbOf g t).fr b := by simp [tbOf, tabGet, hb']
      rw [ef]
      refine (K.call b ds d ?_).deeper (Nat.le_succ _)
      simpa [tbOf, tabGet, hb'] using e
end
end Mine
namespace Mine
noncomputable def objOf (P : Params) (a : Addr) : Obj := ((hd.heap_39 P).lookup a).getD default
noncomputable def fdOf (P : Params) (a : Addr) : FuncData := match (objOf P a).data with
  | .func fd => fd
  | _ => default
noncomputable def nodupB : List Str → Bool
  | [] => true
  | x :: r => !(r.any fun y => decide (y = x)) && nodupB r
noncomputable def fdChk (P : Params) (a : Addr) (pn : List Str) : Bool :=
  ((hd.heap_39 P).lookup a).isSome && (match (objOf P a).data with | .func _ => true | _ => false) && codeIn (hd.heap_39 P) (fdOf P a).code (fdOf P a).qualname && (fdOf P a).closure.isEmpty && decide ((fdOf P a).globals = mainGlobals) &&
    decide ((fdOf P a).builtins = builtinsNs) && decide ((fdOf P a).scope.kind = .function) && !(fdOf P a).scope.isCoroutine && !(fdOf P a).scope.isGenerator && nodupB pn &&
    pn.all (fun x => decide ((fdOf P a).scope.names.lookup x = some .local) || decide ((fdOf P a).scope.names.lookup x = some .cell))
theorem nodupB_ok : ∀ {l : List Str}, nodupB l = true → l.Nodup
  | [], _ => List.nodup_nil
  | x :: r, h => by
    have h := Bool.and_eq_true_iff.mp h
    refine List.nodup_cons.mpr ⟨fun m => ?_, nodupB_ok h.2⟩
    have := h.1
    simp only [Bool.not_eq_true', List.any_eq_false, decide_eq_true_eq] at this
    exact this x m rfl
theorem fd_ok {P : Params} {a : Addr} {pn : List Str} {h : Heap} (X : (hd.heap_39 P).In h) (lim : h.NoLimit) (c : fdChk P a pn = true) (b : ∀ vs : List Value, vs.length = pn.length → bindArgs (fdOf P a) ⟨vs, []⟩ = pure (pn.zip vs)) : FdOk h a (fdOf P a) pn := by
  unfold fdChk at c
  simp only [Bool.and_eq_true, Bool.not_eq_true', decide_eq_true_eq, List.isEmpty_iff] at c
  obtain ⟨⟨⟨⟨⟨⟨⟨⟨⟨⟨c1, c2⟩, c3⟩, c4⟩, c5⟩, c6⟩, c7⟩, c8⟩, c9⟩, c10⟩, c11⟩ := c
  obtain ⟨o, ho⟩ := Option.isSome_iff_exists.mp c1
  have e : objOf P a = o := by unfold objOf; rw [ho]; rfl
  refine ⟨⟨o, X _ _ ho, ?_⟩, codeRec_of X c3, lim, c4, c5, c6, c7, c8, c9, nodupB_ok c10, fun x m => ?_, b⟩
  · unfold fdOf
    rw [e] at c2 ⊢
    split at c2
    · rename_i fd hd
      rw [hd]
    · cases c2
  · have := List.all_eq_true.mp c11 x m
    simpa using this
noncomputable def bd (P : Params) (a : Addr) : List Stmt := match (fdOf P a).body with
  | .stmts b => b
  | _ => []
noncomputable def stAt (l : List Stmt) (i : Nat) : Stmt := (l[i]?).getD (.Pass default)
noncomputable def whT : Stmt → Expr
  | .While t _ _ _ => t
  | _ => .Name "x" default
noncomputable def inB : Stmt → List Stmt
  | .While _ b _ _ => b
  | .For _ _ b _ _ => b
  | _ => []
noncomputable def thB : Stmt → List Stmt
  | .If _ b _ _ => b
  | _ => []
noncomputable def gl : Str → Option D := fun x => get x ([("gcd", .fn 41), ("R0", .tup [.int 0, .int 1]), ("R1", .tup [.int 1, .int 1]), ("rat", .fn 50), ("radd", .fn 57), ("rsub", .fn 64), ("rmul", .fn 71), ("rdiv", .fn 78), ("rcompare", .fn 85), ("cut", .fn 92),
  ("mixed", .fn 99), ("smul", .fn 104), ("sinverse", .fn 111), ("sderive", .fn 116), ("sintegrate", .fn 121), ("need_begin", .fn 128), ("scompose", .fn 135), ("sreverse", .fn 142), ("sexp", .fn 149), ("slog", .fn 156), ("ssin_cos", .fn 163),
  ("ssin", .fn 170), ("scos", .fn 177), ("satan", .fn 184), ("spower", .fn 191), ("swhole_power", .fn 198), ("_law_take", .fn 205), ("_law_box", .fn 210), ("_law_low", .fn 217), ("_law_plus", .fn 222), ("_law_times", .fn 229), ("_law_refused", .fn 236)] : List (Str × D))
noncomputable def mts : List Str := ["found", "square", "sines", "others"]
end Mine
namespace Mine
noncomputable abbrev Q := Int × Int
noncomputable def enc (q : Q) : D := .tup [.int q.1, .int q.2]
noncomputable def dec : D → Option Q
  | .tup [.int a, .int b] => some (a, b)
  | _ => Option.none
theorem dec_eq {d : D} {q : Q} (h : dec d = some q) : d = enc q := by
  unfold dec at h
  split at h
  · cases h; rfl
  · cases h
/-! ### gcd -/
noncomputable def tab0 : Tab := []
noncomputable abbrev gcdT (P : Params) : Rho → Sig → Option Bool := fun ρ σ => (ev (tbOf gl tab0) 10).T (fdOf P 41).scope ρ σ (whT (stAt (bd P 41) 1))
noncomputable abbrev gcdB (P : Params) : Rho → Sig → Option Out := fun ρ σ => xs (tbOf gl tab0) mts 10 (fdOf P 41).scope ρ σ (inB (stAt (bd P 41) 1))
noncomputable def rAB (a b : Int) : Rho := [("a", .int a), ("b", .int b)]
theorem gcd_t (P : Params) (a b : Int) : gcdT P (rAB a b) [] = some (b != 0) := by kernel_rfl
theorem gcd_b (P : Params) (a b : Int) : gcdB P (rAB a b) [] = seqO (op1 (asgT mts ["a", "b"] [false, false] (rAB a b) []) (consO (some (.int b)) (consO (binD .Mod (.int a) (.int b)) (some [])))) (fun ρ σ => some (.next ρ σ)) := by kernel_rfl
theorem gcd_run (P : Params) (a b : Int) : runF (tbOf gl tab0) mts 12 (fdOf P 41) ["a", "b"] [.int a, .int b] =
    runO (seqO (whileD (gcdT P) (gcdB P) wF (rAB (if a < 0 then -a else a) (if b < 0 then -b else b)) []) (fun ρ σ => xs (tbOf gl tab0) mts 10 (fdOf P 41).scope ρ σ ((bd P 41).drop 2))) := by kernel_rfl
theorem gcd_loop (P : Params) : ∀ (k b a : Nat), b < k → whileD (gcdT P) (gcdB P) k (rAB a b) [] = some (.next (rAB (Nat.gcd a b) 0) [])
  | 0, b, a, h => absurd h (Nat.not_lt_zero _)
  | k + 1, b, a, h => by
    rw [whileD, gcd_t]
    cases b with
    | zero =>
      have e : (((0 : Nat) : Int) != 0) = false := rfl
      rw [e]
      simp only [ite2, op1, Bool.false_eq_true, if_false, Nat.gcd_zero_right]
      rfl
    | succ b =>
      have e : ((((b + 1 : Nat) : Int)) != 0) = true := by simp; omega
      have e1 : (binD .Mod (.int (a : Int)) (.int ((b + 1 : Nat) : Int))) = some (.int ((a % (b + 1) : Nat) : Int)) := by
        have : ((b + 1 : Nat) : Int) ≠ 0 := by omega
        simp only [binD, decide_eq_true this, if_true]
        rw [Int.fmod_eq_emod_of_nonneg _ (by omega)]
        rfl
      rw [e, gcd_b, e1]
      have e2 : seqO (op1 (asgT mts ["a", "b"] [false, false] (rAB (a : Int) ((b + 1 : Nat) : Int)) []) (consO (some (D.int ((b + 1 : Nat) : Int))) (consO (some (D.int ((a % (b + 1) : Nat) : Int))) (some [])))) (fun ρ σ => some (Out.next ρ σ)) = some (.next (rAB ((b + 1 : Nat) : Int) ((a % (b + 1) : Nat) : Int)) []) := by kernel_rfl
      rw [e2]
      simp only [ite2, op1, if_true, seqO, outK]
      rw [gcd_loop P k (a % (b + 1)) (b + 1) (Nat.lt_of_lt_of_le (Nat.mod_lt _ (Nat.succ_pos _)) (by omega))]
      rw [Nat.gcd_comm a (b + 1), Nat.gcd_rec (b + 1) a, Nat.gcd_comm (a % (b + 1)) (b + 1)]
theorem abs_nat (a : Int) : (if a < 0 then -a else a) = (a.natAbs : Int) := by split <;> omega
theorem gcd_eq (P : Params) (a b : Int) (h : small b = true) : runF (tbOf gl tab0) mts 12 (fdOf P 41) ["a", "b"] [.int a, .int b] = some (.int (Int.gcd a b), false) := by
  have h := of_decide_eq_true h
  rw [gcd_run, abs_nat, abs_nat, gcd_loop P wF b.natAbs a.natAbs (by unfold wF; omega)]
  have e : ∀ g : Nat, runO (seqO (some (.next (rAB (g : Int) 0) [])) (fun ρ σ => xs (tbOf gl tab0) mts 10 (fdOf P 41).scope ρ σ ((bd P 41).drop 2))) = some (.int (g : Int), false) := by intro g; kernel_rfl
  exact e _
end Mine
namespace Mine
section
variable {α β γ : Type}
theorem op1_s (f : α → Option γ) (a : α) : op1 f (some a) = f a := rfl
theorem op2_s (f : α → β → Option γ) (a : α) (b : β) : op2 f (some a) (some b) = f a b := rfl
theorem consO_s (d : D) (ds : List D) : consO (some d) (some ds) = some (d :: ds) := rfl
theorem ite2_t (a b : Option γ) : ite2 (some true) a b = a := rfl
theorem ite2_f (a b : Option γ) : ite2 (some false) a b = b := rfl
theorem seqO_n (ρ : Rho) (σ : Sig) (k : Rho → Sig → Option Out) : seqO (some (.next ρ σ)) k = k ρ σ := rfl
theorem seqO_r (d : D) (fr : Bool) (k : Rho → Sig → Option Out) : seqO (some (.ret d fr)) k = some (.ret d fr) := rfl
theorem retS_s (d : D) (fr : Bool) : retS fr (some d) = some (.ret d fr) := rfl
theorem runO_r (d : D) (fr : Bool) : runO (some (.ret d fr)) = some (d, fr) := rfl
theorem runO_n (ρ : Rho) (σ : Sig) : runO (some (.next ρ σ)) = some (.none, false) := rfl
end
noncomputable def f_gcd : List D → Option D
  | [.int a, .int b] => if small b then some (.int (Int.gcd a b)) else Option.none
  | _ => Option.none
noncomputable def tab1 : Tab := (41, f_gcd, false) :: tab0
/-- a ratio in lowest terms -/
noncomputable def ratG (t b : Int) : Int := if 0 < b then (Int.gcd t b : Int) else 0 - (Int.gcd t b : Int)
noncomputable def ratM (t b : Int) : Option Q := if small b && decide (b ≠ 0) && small (ratG t b) && decide (ratG t b ≠ 0) then some (t.fdiv (ratG t b), b.fdiv (ratG t b)) else Option.none
noncomputable def f_rat : List D → Option D
  | [.int t, .int b] => (ratM t b).map enc
  | _ => Option.none
noncomputable def rTB (t b : Int) : Rho := [("top", .int t), ("bottom", .int b)]
theorem rat_run (P : Params) (t b : Int) : runF (tbOf gl tab1) mts 14 (fdOf P 50) ["top", "bottom"] [.int t, .int b] =
    runO (seqO (ite2 (some (b == 0)) Option.none (some (.next (rTB t b) []))) (fun ρ σ => xs (tbOf gl tab1) mts 13 (fdOf P 50).scope ρ σ ((bd P 50).drop 1))) := by kernel_rfl
theorem rat_run2 (P : Params) (t b : Int) : xs (tbOf gl tab1) mts 13 (fdOf P 50).scope (rTB t b) [] ((bd P 50).drop 1) =
    seqO (op1 (asgS mts false "g" (rTB t b) []) (ite2 (some (decide (0 < b))) (f_gcd [.int t, .int b]) (op2 (binD .Sub) (some (.int 0)) (f_gcd [.int t, .int b])))) (fun ρ σ => xs (tbOf gl tab1) mts 12 (fdOf P 50).scope ρ σ ((bd P 50).drop 2)) := by kernel_rfl
theorem rat_run3 (P : Params) (t b g : Int) : seqO (asgS mts false "g" (rTB t b) [] (.int g)) (fun ρ σ => xs (tbOf gl tab1) mts 12 (fdOf P 50).scope ρ σ ((bd P 50).drop 2)) =
    seqO (retS false (op1 (fun ds => some (.tup ds)) (consO (binD .FloorDiv (.int t) (.int g)) (consO (binD .FloorDiv (.int b) (.int g)) (some []))))) (fun ρ σ => some (.next ρ σ)) := by kernel_rfl
theorem rat_eq (P : Params) (ds : List D) (d : D) (h : f_rat ds = some d) : runF (tbOf gl tab1) mts 14 (fdOf P 50) ["top", "bottom"] ds = some (d, false) := by
  unfold f_rat at h
  split at h
  · rename_i t b
    obtain ⟨q, hq, rfl⟩ := Option.map_eq_some_iff.mp h
    clear h
    unfold ratM at hq
    split at hq
    · rename_i c
      simp only [Bool.and_eq_true, decide_eq_true_eq] at c
      obtain ⟨⟨⟨c1, c2⟩, c3⟩, c4⟩ := c
      obtain rfl := Option.some.inj hq
      have hb : (b == 0) = false := by simpa using c2
      have hg : f_gcd [.int t, .int b] = some (.int (Int.gcd t b)) := by simp only [f_gcd, c1, if_true]
      rw [rat_run, hb, ite2_f, seqO_n, rat_run2, hg]
      have hG : ite2 (some (decide (0 < b))) (some (D.int (Int.gcd t b))) (op2 (binD .Sub) (some (.int 0)) (some (.int (Int.gcd t b)))) = some (.int (ratG t b)) := by
        unfold ratG
        by_cases q : 0 < b
        · simp [q, ite2_t]
        · simp [q, ite2_f, op2_s, binD]
      rw [hG, op1_s, rat_run3]
      simp only [binD, c3, decide_eq_true c4, Bool.and_self, if_true, consO_s, op1_s, retS_s, seqO_r, runO_r]
      rfl
    · cases hq
  · cases h
noncomputable def tab2 : Tab := (50, f_rat, false) :: tab1
/-! ### sums, products -/
noncomputable def smQ (q : Q) : Bool := small q.1 && small q.2
noncomputable def w2 (g : Q → Q → Option Q) : List D → Option D
  | [x, y] => op2 (fun a b => (g a b).map enc) (dec x) (dec y)
  | _ => Option.none
theorem w2_eq {g : Q → Q → Option Q} {ds : List D} {d : D} (h : w2 g ds = some d) : ∃ a b c, ds = [enc a, enc b] ∧ d = enc c ∧ g a b = some c := by
  unfold w2 at h
  split at h
  · obtain ⟨a, b, h1, h2, h⟩ := op2_eq h
    obtain ⟨c, hc, rfl⟩ := Option.map_eq_some_iff.mp h
    exact ⟨a, b, c, by rw [dec_eq h1, dec_eq h2], rfl, hc⟩
  · cases h
noncomputable def posOf (a : Int) : Nat := @Int.rec (fun _ => Nat) (fun n => n) (fun _ => 0) a
noncomputable def negOf (a : Int) : Nat := @Int.rec (fun _ => Nat) (fun _ => 0) (fun n => Nat.succ n) a
theorem int_pn (a : Int) : a = (posOf a : Int) - (negOf a : Int) ∧ a.natAbs = posOf a + negOf a := by
  cases a with
  | ofNat n => exact ⟨(Int.sub_zero _).symm, rfl⟩
  | negSucc n => exact ⟨by show Int.negSucc n = 0 - ((n.succ : Nat) : Int); omega, by show n.succ = 0 + n.succ; omega⟩
noncomputable def bco {A : Type} (b : Bool) (x : Option A) : Option A := @Bool.rec (fun _ => Option A) Option.none x b
theorem bco_eq {A : Type} {b : Bool} {x : Option A} {q : A} (h : bco b x = some q) : b = true ∧ x = some q := by
  cases b with
  | false => cases h
  | true => exact ⟨rfl, h⟩
noncomputable def qpos {A : Type} (x : Int) (k : Nat → Option A) : Option A := @Int.rec (fun _ => Option A) (fun n => k n) (fun _ => Option.none) x
theorem qpos_eq {A : Type} {x : Int} {k : Nat → Option A} {q : A} (h : qpos x k = some q) : ∃ n : Nat, x = (n : Int) ∧ k n = some q := by
  cases x with
  | ofNat n => exact ⟨n, rfl, h⟩
  | negSucc n => cases h
/-- (P - M) / D, in lowest terms -/
noncomputable def rq (P M D : Nat) : Option Q :=
  @Bool.rec (fun _ => Option Q) (some (Int.negSucc (Nat.div (Nat.pred (Nat.sub M P)) (Nat.gcd (Nat.sub M P) D)), Int.ofNat (Nat.div D (Nat.gcd (Nat.sub M P) D))))
    (some (Int.ofNat (Nat.div (Nat.sub P M) (Nat.gcd (Nat.sub P M) D)), Int.ofNat (Nat.div D (Nat.gcd (Nat.sub P M) D)))) (Nat.ble M P)
theorem fdiv_nat (m n : Nat) : Int.fdiv (m : Int) (n : Int) = ((m / n : Nat) : Int) := by
  cases m with
  | zero => cases n <;> simp [Int.fdiv]
  | succ m => rfl
theorem fdiv_neg (m n : Nat) (hn : 0 < n) : Int.fdiv (Int.negSucc m) (n : Int) = Int.negSucc (m / n) := by
  cases n with
  | zero => omega
  | succ n => rfl
theorem rq_eq {P M D : Nat} {q : Q} (hD : 0 < D) (h : rq P M D = some q) : q = (Int.fdiv ((P : Int) - M) (Int.gcd ((P : Int) - M) D : Nat), Int.fdiv D (Int.gcd ((P : Int) - M) D : Nat)) ∧ 0 < Int.gcd ((P : Int) - M) D ∧ Int.gcd ((P : Int) - M) D ≤ D := by
  have hg : 0 < Int.gcd ((P : Int) - M) D := Nat.pos_of_ne_zero fun e => by
    have := (Int.gcd_eq_zero_iff.mp e).2
    omega
  have hle : Int.gcd ((P : Int) - M) D ≤ D := by
    have := Int.gcd_dvd_right ((P : Int) - M) D
    exact Nat.le_of_dvd hD (Int.natCast_dvd_natCast.mp this)
  refine ⟨?_, hg, hle⟩
  unfold rq at h
  cases c : Nat.ble M P with
  | true =>
    rw [c] at h
    have c := Nat.le_of_ble_eq_true c
    have e : (P : Int) - M = ((P - M : Nat) : Int) := by omega
    rw [e] at hg ⊢
    rw [fdiv_nat, fdiv_nat]
    cases h
    rfl
  | false =>
    rw [c] at h
    have c : P < M := Nat.lt_of_not_le fun z => by rw [Nat.ble_eq_true_of_le z] at c; cases c
    have e : (P : Int) - M = Int.negSucc (M - P - 1) := by omega
    have e2 : Int.gcd (Int.negSucc (M - P - 1)) D = Nat.gcd (M - P) D := by
      show Nat.gcd (M - P - 1 + 1) D = _
      rw [Nat.sub_add_cancel (by omega)]
    rw [e] at hg ⊢
    rw [fdiv_neg _ _ hg, fdiv_nat, e2]
    cases h
    rfl
theorem rat_of {P M D : Nat} {q : Q} (hD : 0 < D) (hs : D < 2 ^ 60) (h : rq P M D = some q) : ratM ((P : Int) - M) D = some q := by
  obtain ⟨e, hg, hle⟩ := rq_eq hD h
  have hG : ratG ((P : Int) - M) D = (Int.gcd ((P : Int) - M) D : Int) := by
    unfold ratG
    rw [if_pos (by omega)]
  unfold ratM
  rw [hG, if_pos, e]
  simp only [small, Bool.and_eq_true, decide_eq_true_eq, Int.natAbs_natCast]
  omega
noncomputable def okS (x y : Int) (m n : Nat) : Bool := @Bool.rec (fun _ => Bool) false (Nat.ble 1 (Nat.mul m n)) (Nat.ble (Nat.add (Nat.add (posOf x) (negOf x)) (Nat.add (Nat.add (posOf y) (negOf y)) (Nat.add m n))) 536870911)
theorem okS_eq {x y : Int} {m n : Nat} (h : okS x y m n = true) : x.natAbs + (y.natAbs + (m + n)) ≤ 536870911 ∧ 0 < m * n := by
  unfold okS at h
  cases c : Nat.ble (Nat.add (Nat.add (posOf x) (negOf x)) (Nat.add (Nat.add (posOf y) (negOf y)) (Nat.add m n))) 536870911 with
  | false => rw [c] at h; cases h
  | true =>
    rw [c] at h
    refine ⟨?_, Nat.le_of_ble_eq_true h⟩
    rw [(int_pn x).2, (int_pn y).2]
    exact Nat.le_of_ble_eq_true c
theorem prod_lt {m n : Nat} (hm : m ≤ 536870911) (hn : n ≤ 536870911) : m * n < 2 ^ 60 := by
  have := Nat.mul_le_mul hm hn
  omega
theorem small_of {i : Int} (h : i.natAbs ≤ 536870911) : small i = true := decide_eq_true (by omega)
noncomputable def radd (a b : Q) : Option Q := qpos a.2 fun m => qpos b.2 fun n => bco (okS a.1 b.1 m n) (rq (Nat.add (Nat.mul (posOf a.1) n) (Nat.mul (posOf b.1) m)) (Nat.add (Nat.mul (negOf a.1) n) (Nat.mul (negOf b.1) m)) (Nat.mul m n))
noncomputable def rsub (a b : Q) : Option Q := qpos a.2 fun m => qpos b.2 fun n => bco (okS a.1 b.1 m n) (rq (Nat.add (Nat.mul (posOf a.1) n) (Nat.mul (negOf b.1) m)) (Nat.add (Nat.mul (negOf a.1) n) (Nat.mul (posOf b.1) m)) (Nat.mul m n))
noncomputable def rmul (a b : Q) : Option Q := qpos a.2 fun m => qpos b.2 fun n => bco (okS a.1 b.1 m n) (rq (Nat.add (Nat.mul (posOf a.1) (posOf b.1)) (Nat.mul (negOf a.1) (negOf b.1))) (Nat.add (Nat.mul (posOf a.1) (negOf b.1)) (Nat.mul (negOf a.1) (posOf b.1))) (Nat.mul m n))
noncomputable def rdiv (a b : Q) : Option Q := @Int.rec (fun _ => Option Q) (fun k => qpos a.2 fun m => qpos b.2 fun n => bco (okS a.1 (n : Int) m k) (rq (Nat.mul (posOf a.1) n) (Nat.mul (negOf a.1) n) (Nat.mul m k))) (fun _ => if smQ a && smQ b then ratM (a.1 * b.2) (a.2 * b.1) else Option.none) b.1
theorem radd_slow {a b q : Q} (h : radd a b = some q) : (if smQ a && smQ b then ratM (a.1 * b.2 + b.1 * a.2) (a.2 * b.2) else Option.none) = some q := by
  obtain ⟨m, em, h1⟩ := qpos_eq h
  obtain ⟨n, en, h2⟩ := qpos_eq h1
  obtain ⟨ok, h3⟩ := bco_eq h2
  obtain ⟨hs, hD⟩ := okS_eq ok
  rw [if_pos (by unfold smQ; rw [em, en, small_of (i := a.1) (by omega), small_of (i := b.1) (by omega), small_of (i := (m : Int)) (by rw [Int.natAbs_natCast]; omega), small_of (i := (n : Int)) (by rw [Int.natAbs_natCast]; omega)]; rfl), em, en]
  have e := rat_of hD (prod_lt (by omega) (by omega)) h3
  have h1 := (int_pn a.1).1
  have h2 := (int_pn b.1).1
  rw [show a.1 * (n : Int) + b.1 * (m : Int) = ((Nat.add (Nat.mul (posOf a.1) n) (Nat.mul (posOf b.1) m) : Nat) : Int) - ((Nat.add (Nat.mul (negOf a.1) n) (Nat.mul (negOf b.1) m) : Nat) : Int) from ?_]
  · exact e
  · generalize posOf a.1 = p at h1 ⊢
    generalize negOf a.1 = r at h1 ⊢
    generalize posOf b.1 = u at h2 ⊢
    generalize negOf b.1 = v at h2 ⊢
    rw [h1, h2]
    show _ = ((p * n + u * m : Nat) : Int) - ((r * n + v * m : Nat) : Int)
    simp only [Int.natCast_add, Int.natCast_mul, Int.sub_mul]
    omega
theorem rsub_slow {a b q : Q} (h : rsub a b = some q) : (if smQ a && smQ b then ratM (a.1 * b.2 - b.1 * a.2) (a.2 * b.2) else Option.none) = some q := by
  obtain ⟨m, em, h1⟩ := qpos_eq h
  obtain ⟨n, en, h2⟩ := qpos_eq h1
  obtain ⟨ok, h3⟩ := bco_eq h2
  obtain ⟨hs, hD⟩ := okS_eq ok
  rw [if_pos (by unfold smQ; rw [em, en, small_of (i := a.1) (by omega), small_of (i := b.1) (by omega), small_of (i := (m : Int)) (by rw [Int.natAbs_natCast]; omega), small_of (i := (n : Int)) (by rw [Int.natAbs_natCast]; omega)]; rfl), em, en]
  have e := rat_of hD (prod_lt (by omega) (by omega)) h3
  have h1 := (int_pn a.1).1
  have h2 := (int_pn b.1).1
  rw [show a.1 * (n : Int) - b.1 * (m : Int) = ((Nat.add (Nat.mul (posOf a.1) n) (Nat.mul (negOf b.1) m) : Nat) : Int) - ((Nat.add (Nat.mul (negOf a.1) n) (Nat.mul (posOf b.1) m) : Nat) : Int) from ?_]
  · exact e
  · generalize posOf a.1 = p at h1 ⊢
    generalize negOf a.1 = r at h1 ⊢
    generalize posOf b.1 = u at h2 ⊢
    generalize negOf b.1 = v at h2 ⊢
    rw [h1, h2]
    show _ = ((p * n + v * m : Nat) : Int) - ((r * n + u * m : Nat) : Int)
    simp only [Int.natCast_add, Int.natCast_mul, Int.sub_mul]
    omega
theorem rmul_slow {a b q : Q} (h : rmul a b = some q) : (if smQ a && smQ b then ratM (a.1 * b.1) (a.2 * b.2) else Option.none) = some q := by
  obtain ⟨m, em, h1⟩ := qpos_eq h
  obtain ⟨n, en, h2⟩ := qpos_eq h1
  obtain ⟨ok, h3⟩ := bco_eq h2
  obtain ⟨hs, hD⟩ := okS_eq ok
  rw [if_pos (by unfold smQ; rw [em, en, small_of (i := a.1) (by omega), small_of (i := b.1) (by omega), small_of (i := (m : Int)) (by rw [Int.natAbs_natCast]; omega), small_of (i := (n : Int)) (by rw [Int.natAbs_natCast]; omega)]; rfl), em, en]
  have e := rat_of hD (prod_lt (by omega) (by omega)) h3
  have h1 := (int_pn a.1).1
  have h2 := (int_pn b.1).1
  rw [show a.1 * b.1 = ((Nat.add (Nat.mul (posOf a.1) (posOf b.1)) (Nat.mul (negOf a.1) (negOf b.1)) : Nat) : Int) - ((Nat.add (Nat.mul (posOf a.1) (negOf b.1)) (Nat.mul (negOf a.1) (posOf b.1)) : Nat) : Int) from ?_]
  · exact e
  · generalize posOf a.1 = p at h1 ⊢
    generalize negOf a.1 = r at h1 ⊢
    generalize posOf b.1 = u at h2 ⊢
    generalize negOf b.1 = v at h2 ⊢
    rw [h1, h2]
    show _ = ((p * u + r * v : Nat) : Int) - ((p * v + r * u : Nat) : Int)
    simp only [Int.natCast_add, Int.natCast_mul, Int.sub_mul, Int.mul_sub]
    omega
theorem rdiv_slow {a b q : Q} (h : rdiv a b = some q) : (if smQ a && smQ b then ratM (a.1 * b.2) (a.2 * b.1) else Option.none) = some q := by
  obtain ⟨b1, b2⟩ := b
  cases b1 with
  | negSucc k => exact h
  | ofNat k =>
    obtain ⟨m, em, h1⟩ := qpos_eq (show (qpos a.2 fun m => qpos b2 fun n => bco (okS a.1 (n : Int) m k) (rq (Nat.mul (posOf a.1) n) (Nat.mul (negOf a.1) n) (Nat.mul m k))) = some q from h)
    obtain ⟨n, en, h2⟩ := qpos_eq h1
    obtain ⟨ok, h3⟩ := bco_eq h2
    obtain ⟨hs, hD⟩ := okS_eq ok
    rw [Int.natAbs_natCast] at hs
    dsimp only
    rw [if_pos (by unfold smQ; dsimp only; rw [em, en, small_of (i := a.1) (by omega), small_of (i := Int.ofNat k) (by show k ≤ _; omega), small_of (i := (m : Int)) (by rw [Int.natAbs_natCast]; omega), small_of (i := (n : Int)) (by rw [Int.natAbs_natCast]; omega)]; rfl), em, en]
    have e := rat_of hD (prod_lt (by omega) (by omega)) h3
    have h1 := (int_pn a.1).1
    rw [show a.1 * (n : Int) = ((Nat.mul (posOf a.1) n : Nat) : Int) - ((Nat.mul (negOf a.1) n : Nat) : Int) from ?_]
    · exact e
    · generalize posOf a.1 = p at h1 ⊢
      generalize negOf a.1 = r at h1 ⊢
      rw [h1]
      show _ = ((p * n : Nat) : Int) - ((r * n : Nat) : Int)
      simp only [Int.natCast_mul, Int.sub_mul]
theorem mul_s {a b : Int} (h : small a = true) : binD .Mult (.int a) (.int b) = some (.int (a * b)) := by simp only [binD, h, Bool.true_or, if_true]
theorem f_rat_s {t b : Int} {q : Q} (h : ratM t b = some q) : f_rat [.int t, .int b] = some (enc q) := by simp only [f_rat, h]; rfl
theorem radd_run (P : Params) (a b c d : Int) : runF (tbOf gl tab2) mts 12 (fdOf P 57) ["a", "b"] [enc (a, b), enc (c, d)] =
    runO (seqO (retS false (op1 f_rat (consO (op2 (binD .Add) (binD .Mult (.int a) (.int d)) (binD .Mult (.int c) (.int b))) (consO (binD .Mult (.int b) (.int d)) (some []))))) (fun ρ σ => some (.next ρ σ))) := by kernel_rfl
theorem rsub_run (P : Params) (a b c d : Int) : runF (tbOf gl tab2) mts 12 (fdOf P 64) ["a", "b"] [enc (a, b), enc (c, d)] =
    runO (seqO (retS false (op1 f_rat (consO (op2 (binD .Sub) (binD .Mult (.int a) (.int d)) (binD .Mult (.int c) (.int b))) (consO (binD .Mult (.int b) (.int d)) (some []))))) (fun ρ σ => some (.next ρ σ))) := by kernel_rfl
theorem rmul_run (P : Params) (a b c d : Int) : runF (tbOf gl tab2) mts 12 (fdOf P 71) ["a", "b"] [enc (a, b), enc (c, d)] =
    runO (seqO (retS false (op1 f_rat (consO (binD .Mult (.int a) (.int c)) (consO (binD .Mult (.int b) (.int d)) (some []))))) (fun ρ σ => some (.next ρ σ))) := by kernel_rfl
theorem rdiv_run (P : Params) (a b c d : Int) : runF (tbOf gl tab2) mts 12 (fdOf P 78) ["a", "b"] [enc (a, b), enc (c, d)] =
    runO (seqO (retS false (op1 f_rat (consO (binD .Mult (.int a) (.int d)) (consO (binD .Mult (.int b) (.int c)) (some []))))) (fun ρ σ => some (.next ρ σ))) := by kernel_rfl
theorem smQ_2 {a b : Q} (h : (smQ a && smQ b) = true) : small a.1 = true ∧ small a.2 = true ∧ small b.1 = true ∧ small b.2 = true := by
  simp only [smQ, Bool.and_eq_true] at h
  exact ⟨h.1.1, h.1.2, h.2.1, h.2.2⟩
theorem radd_eq (P : Params) (ds : List D) (d : D) (h : w2 radd ds = some d) : runF (tbOf gl tab2) mts 12 (fdOf P 57) ["a", "b"] ds = some (d, false) := by
  obtain ⟨⟨a, b⟩, ⟨c, e⟩, r, rfl, rfl, hq⟩ := w2_eq h
  replace hq := radd_slow hq
  split at hq
  · rename_i q
    obtain ⟨s1, s2, s3, s4⟩ := smQ_2 q
    rw [radd_run, mul_s s1, mul_s s3, mul_s s2]
    simp only [op2_s, binD, consO_s, op1_s, f_rat_s hq, retS_s, seqO_r, runO_r]
  · cases hq
theorem rsub_eq (P : Params) (ds : List D) (d : D) (h : w2 rsub ds = some d) : runF (tbOf gl tab2) mts 12 (fdOf P 64) ["a", "b"] ds = some (d, false) := by
  obtain ⟨⟨a, b⟩, ⟨c, e⟩, r, rfl, rfl, hq⟩ := w2_eq h
  replace hq := rsub_slow hq
  split at hq
  · rename_i q
    obtain ⟨s1, s2, s3, s4⟩ := smQ_2 q
    rw [rsub_run, mul_s s1, mul_s s3, mul_s s2]
    simp only [op2_s, binD, consO_s, op1_s, f_rat_s hq, retS_s, seqO_r, runO_r]
  · cases hq
theorem rmul_eq (P : Params) (ds : List D) (d : D) (h : w2 rmul ds = some d) : runF (tbOf gl tab2) mts 12 (fdOf P 71) ["a", "b"] ds = some (d, false) := by
  obtain ⟨⟨a, b⟩, ⟨c, e⟩, r, rfl, rfl, hq⟩ := w2_eq h
  replace hq := rmul_slow hq
  split at hq
  · rename_i q
    obtain ⟨s1, s2, s3, s4⟩ := smQ_2 q
    rw [rmul_run, mul_s s1, mul_s s2]
    simp only [op2_s, binD, consO_s, op1_s, f_rat_s hq, retS_s, seqO_r, runO_r]
  · cases hq
theorem rdiv_eq (P : Params) (ds : List D) (d : D) (h : w2 rdiv ds = some d) : runF (tbOf gl tab2) mts 12 (fdOf P 78) ["a", "b"] ds = some (d, false) := by
  obtain ⟨⟨a, b⟩, ⟨c, e⟩, r, rfl, rfl, hq⟩ := w2_eq h
  replace hq := rdiv_slow hq
  split at hq
  · rename_i q
    obtain ⟨s1, s2, s3, s4⟩ := smQ_2 q
    rw [rdiv_run, mul_s s1, mul_s s2]
    simp only [op2_s, binD, consO_s, op1_s, f_rat_s hq, retS_s, seqO_r, runO_r]
  · cases hq
/-! ### rcompare -/
noncomputable def rcmp (a b : Q) : Int := b2i (decide (0 < a.1 * b.2 - b.1 * a.2)) - b2i (decide (a.1 * b.2 - b.1 * a.2 < 0))
noncomputable def f_rcompare : List D → Option D
  | [x, y] => op2 (fun a b => if smQ a && smQ b then some (.int (rcmp a b)) else Option.none) (dec x) (dec y)
  | _ => Option.none
theorem rcmp_run (P : Params) (a b c d : Int) : runF (tbOf gl tab2) mts 12 (fdOf P 85) ["a", "b"] [enc (a, b), enc (c, d)] =
    runO (seqO (op1 (asgS mts false "off" [("a", enc (a, b)), ("b", enc (c, d))] []) (op2 (binD .Sub) (binD .Mult (.int a) (.int d)) (binD .Mult (.int c) (.int b)))) (fun ρ σ => xs (tbOf gl tab2) mts 11 (fdOf P 85).scope ρ σ ((bd P 85).drop 1))) := by kernel_rfl
theorem rcmp_run2 (P : Params) (x y : D) (o : Int) : seqO (asgS mts false "off" [("a", x), ("b", y)] [] (.int o)) (fun ρ σ => xs (tbOf gl tab2) mts 11 (fdOf P 85).scope ρ σ ((bd P 85).drop 1)) =
    some (.ret (.int (b2i (decide (0 < o)) - b2i (decide (o < 0)))) false) := by kernel_rfl
theorem rcompare_eq (P : Params) (ds : List D) (d : D) (h : f_rcompare ds = some d) : runF (tbOf gl tab2) mts 12 (fdOf P 85) ["a", "b"] ds = some (d, false) := by
  unfold f_rcompare at h
  split at h
  · obtain ⟨⟨a, b⟩, ⟨c, e⟩, h1, h2, hq⟩ := op2_eq h
    clear h
    have h1 := dec_eq h1
    have h2 := dec_eq h2
    subst h1 h2
    split at hq
    · rename_i q
      obtain ⟨s1, s2, s3, s4⟩ := smQ_2 q
      cases hq
      rw [rcmp_run, mul_s s1, mul_s s3]
      simp only [op2_s, binD, op1_s]
      rw [rcmp_run2, runO_r]
      rfl
    · cases hq
  · cases h
noncomputable def tab3 : Tab := (85, f_rcompare, false) :: (78, w2 rdiv, false) :: (71, w2 rmul, false) :: (64, w2 rsub, false) :: (57, w2 radd, false) :: tab2
/-! ### cut -/
noncomputable def R0 : D := enc (0, 1)
noncomputable def R1 : D := enc (1, 1)
noncomputable def f_cut : List D → Option D
  | [.lst ds, .int n] => if decide (0 ≤ n) && decide (n ≤ 400) && decide (ds.length ≤ 400) then some (.lst (ds.take n.toNat ++ List.replicate (n - ds.length).toNat R0)) else Option.none
  | _ => Option.none
theorem cut_run (P : Params) (ds : List D) (n : Int) : runF (tbOf gl tab3) mts 12 (fdOf P 92) ["a", "order"] [.lst ds, .int n] =
    runO (seqO (retS false (op2 (binD .Add) (op1 (bCall .list) (consO (sliceD (.lst ds) Option.none (some (.int n))) (some []))) (op2 (binD .Mult) (some (.lst [R0])) (op2 (binD .Sub) (some (.int n)) (bCall .len [.lst ds]))))) (fun ρ σ => some (.next ρ σ))) := by kernel_rfl
theorem cut_eq (P : Params) (ds : List D) (d : D) (h : f_cut ds = some d) : runF (tbOf gl tab3) mts 12 (fdOf P 92) ["a", "order"] ds = some (d, false) := by
  unfold f_cut at h
  split at h
  · rename_i ds n
    split at h
    · rename_i c
      simp only [Bool.and_eq_true, decide_eq_true_eq] at c
      obtain ⟨⟨c1, c2⟩, c3⟩ := c
      cases h
      rw [cut_run]
      have o1 : okLen ds.length = true := decide_eq_true (by omega)
      have o2 : okLen (List.take n.toNat ds).length = true := decide_eq_true (by rw [List.length_take]; omega)
      have o3 : small (n - (ds.length : Int)) = true := decide_eq_true (by omega)
      have o4 : okLen (n - (ds.length : Int)).toNat = true := decide_eq_true (by omega)
      have o5 : okLen ((List.take n.toNat ds).length + (List.replicate (n - (ds.length : Int)).toNat R0).length) = true := decide_eq_true (by rw [List.length_take, List.length_replicate]; omega)
      simp only [sliceD, decide_eq_true c1, o1, Bool.and_self, if_true, consO_s, op1_s, bCall, o2, op2_s, binD, o3, o4, o5, retS_s, seqO_r, runO_r]
    · cases h
  · cases h
noncomputable def tab4 : Tab := (92, f_cut, false) :: tab3
end Mine
namespace Mine
/-! ### lists of ratios -/
noncomputable def encL (l : List Q) : D := .lst (l.map enc)
noncomputable def decs : List D → Option (List Q)
  | [] => some []
  | d :: r => op2 (fun q qs => some (q :: qs)) (dec d) (decs r)
noncomputable def decL : D → Option (List Q)
  | .lst ds => decs ds
  | _ => Option.none
theorem decs_eq : ∀ {ds : List D} {l : List Q}, decs ds = some l → ds = l.map enc
  | [], l, h => by rw [decs] at h; cases h; rfl
  | d :: r, l, h => by
    rw [decs] at h
    obtain ⟨q, qs, h1, h2, h3⟩ := op2_eq h
    cases h3
    rw [dec_eq h1, decs_eq h2]; rfl
theorem decL_eq {d : D} {l : List Q} (h : decL d = some l) : d = encL l := by
  unfold decL at h
  split at h
  · rw [decs_eq h]; rfl
  · cases h
theorem dec_enc (q : Q) : dec (enc q) = some q := rfl
theorem decs_map : ∀ l : List Q, decs (l.map enc) = some l
  | [] => rfl
  | q :: l => by rw [List.map_cons, decs, decs_map l, dec_enc]; rfl
theorem decL_enc (l : List Q) : decL (encL l) = some l := decs_map l
theorem w2_s {g : Q → Q → Option Q} {a b c : Q} (h : g a b = some c) : w2 g [enc a, enc b] = some (enc c) := by
  simp only [w2, dec_enc, op2_s, h]; rfl
theorem small_nat {n : Nat} (h : n ≤ 1000000) : small (n : Int) = true := decide_eq_true (by omega)
theorem item_s {l : List Q} {i : Nat} {q : Q} (h : l[i]? = some q) (hl : l.length ≤ 400) : itemOf (encL l) (.int (i : Int)) = some (enc q) := by
  have hi : i < l.length := (List.getElem?_eq_some_iff.mp h).1
  simp only [encL, itemOf, itemD, small_nat (n := i) (by omega), Int.toNat_natCast, decide_eq_true (Int.natCast_nonneg i), Bool.and_self, if_true, List.getElem?_map, h]
  rfl
/-! ### equality -/
theorem toP_enc (q : Q) : toP (enc q) = some (.tuple [.int q.1, .int q.2]) := rfl
theorem eq_enc (a b : Q) : eqD (enc a) (enc b) = some (decide (a = b)) := by
  have s : ∀ q : Q, SeqAt.shaped (.tuple [.int q.1, .int q.2]) = true := fun q => by unfold SeqAt.shaped; simp [PyData.canLay0, PyData.canLayAll0, PyData.depth, PyData.depthAll]
  unfold eqD
  rw [toP_enc, toP_enc]
  simp only [s, Bool.and_self, if_true]
  congr 1
  obtain ⟨a1, a2⟩ := a
  obtain ⟨b1, b2⟩ := b
  by_cases h : a1 = b1 ∧ a2 = b2
  · obtain ⟨rfl, rfl⟩ := h
    simp [PyData.eqv, PyData.eqvAll]
  · have : ¬ ((a1, a2) = (b1, b2)) := fun e => h ⟨(Prod.mk.inj e).1, (Prod.mk.inj e).2⟩
    rw [decide_eq_false this]
    simp only [PyData.eqv, PyData.eqvAll, Bool.and_true]
    rw [Bool.and_eq_false_iff]
    by_cases h1 : a1 = b1
    · right; simp; exact fun e => h ⟨h1, e⟩
    · left; simpa using h1
theorem ne_enc (a b : Q) : cmpD .NotEq (enc a) (enc b) = some (!decide (a = b)) := by
  show (eqD (enc a) (enc b)).map (!·) = _
  rw [eq_enc]; rfl
/-! ### folds -/
noncomputable def foldO {S A : Type} (f : S → A → Option S) : List A → S → Option S
  | [], s => some s
  | d :: r, s => op1 (foldO f r) (f s d)
theorem forD_fold {S A : Type} {ks : List Str} {body : Rho → Sig → Option Out} {x : Str} (en : A → D) (shR : S → Rho) (shS : S → Sig) (f : S → A → Option S) (hk : ∀ s, keepK ks (shR s) = shR s ∧ keepK ks (shS s) = shS s) :
    ∀ (l : List A) (s s' : S), (∀ i s s', i ∈ l → f s i = some s' → ∃ ρ' σ', body (put x (en i) (shR s)) (del x (shS s)) = some (.next ρ' σ') ∧ keepK ks ρ' = shR s' ∧ keepK ks σ' = shS s') →
      foldO f l s = some s' → forD ks body x (l.map en) (shR s) (shS s) = some (.next (shR s') (shS s'))
  | [], s, s', _, h => by
    rw [foldO] at h
    cases h
    rw [List.map_nil, forD, (hk s).1, (hk s).2]
  | i :: l, s, s', hb, h => by
    rw [foldO] at h
    obtain ⟨s₁, h1, h2⟩ := op1_eq h
    obtain ⟨ρ', σ', e1, e2, e3⟩ := hb i s s₁ List.mem_cons_self h1
    rw [List.map_cons, forD, e1, seqO_n, e2, e3]
    exact forD_fold en shR shS f hk l s₁ s' (fun j s s' m => hb j s s' (List.mem_cons_of_mem _ m)) h2
theorem range_small {a b c : Int} (ha : -2000 ≤ a ∧ a ≤ 2000) (hb : -2000 ≤ b ∧ b ≤ 2000) (hc : c = 1 ∨ c = -1) : Builtin.Range.small a b c = true := by
  have f : ∀ x : Int, -10000 ≤ x ∧ x ≤ 10000 → Builtin.Range.rangeFitsLong x = true := fun x h => by unfold Builtin.Range.rangeFitsLong; simp; omega
  have hs : -10000 ≤ Builtin.Range.rangeSize a b c ∧ Builtin.Range.rangeSize a b c ≤ 10000 := by
    unfold Builtin.Range.rangeSize
    rcases hc with rfl | rfl
    · simp only [Int.ediv_one]; split <;> (try split) <;> omega
    · simp only [Int.neg_neg, Int.ediv_one]; split <;> (try split) <;> omega
  unfold Builtin.Range.small
  rw [f a (by omega), f b (by omega), f c (by omega), f _ hs]
  rcases hc with rfl | rfl
  · rw [if_pos (by omega), f _ (by omega)]; simp
  · rw [if_neg (by omega), f _ (by omega)]; simp
theorem rangeL_up (a : Int) (k : Nat) : rangeL a (a + k) 1 = (List.range k).map fun i : Nat => a + (i : Int) := by
  unfold rangeL
  have e : (Builtin.Range.rangeSize a (a + k) 1).toNat = k := by
    unfold Builtin.Range.rangeSize
    simp only [Int.ediv_one]
    split
    · split <;> omega
    · omega
  rw [e]
  exact List.map_congr_left fun i _ => by omega
theorem rangeL_none (a b : Int) (h : b ≤ a) : rangeL a b 1 = [] := by
  unfold rangeL
  have e : (Builtin.Range.rangeSize a b 1).toNat = 0 := by
    unfold Builtin.Range.rangeSize
    simp only [Int.ediv_one]
    split
    · split <;> omega
    · omega
  rw [e]; rfl
theorem rangeL_down (k : Nat) : rangeL ((k : Int) - 1) (-1) (-1) = (List.range k).map fun i : Nat => (k : Int) - 1 - (i : Int) := by
  unfold rangeL
  have e : (Builtin.Range.rangeSize ((k : Int) - 1) (-1) (-1)).toNat = k := by
    unfold Builtin.Range.rangeSize
    simp only [Int.neg_neg, Int.ediv_one]
    split
    · omega
    · split <;> omega
  rw [e]
  exact List.map_congr_left fun i _ => by omega
theorem small_i {i : Int} (h : -100000 ≤ i ∧ i ≤ 100000) : small i = true := decide_eq_true (by omega)
theorem rangeD_1 (k : Nat) (h : k ≤ 1000) : rangeD [.int (k : Int)] = some ((List.range k).map fun i : Nat => D.int (i : Int)) := by
  simp only [rangeD]
  rw [small_i (by omega), range_small (by omega) (by omega) (.inl rfl)]
  simp only [Bool.and_self, if_true]
  have := rangeL_up 0 k
  rw [Int.zero_add] at this
  rw [this, List.map_map]
  congr 1
  exact List.map_congr_left fun i _ => by simp
theorem rangeD_2 (b : Int) (k : Nat) (h : k ≤ 1000) (hb : b = 1 + (k : Int) ∨ (k = 0 ∧ b = 0)) : rangeD [.int 1, .int b] = some ((List.range k).map fun i : Nat => D.int (1 + (i : Int))) := by
  simp only [rangeD]
  rw [small_i (i := 1) (by omega), small_i (i := b) (by omega), range_small (by omega) (by omega) (.inl rfl)]
  simp only [Bool.and_self, if_true]
  rcases hb with rfl | ⟨rfl, rfl⟩
  · rw [rangeL_up, List.map_map]; rfl
  · rw [rangeL_none _ _ (by omega)]; rfl
theorem rangeD_3 (k : Nat) (h : k ≤ 1000) : rangeD [.int ((k : Int) - 1), .int (-1), .int (-1)] = some ((List.range k).map fun i : Nat => D.int ((k : Int) - 1 - (i : Int))) := by
  simp only [rangeD]
  rw [small_i (i := (k : Int) - 1) (by omega), small_i (i := -1) (by omega), range_small (by omega) (by omega) (.inr rfl)]
  have : decide ((-1 : Int) ≠ 0) = true := by decide
  rw [this]
  simp only [Bool.and_self, if_true]
  rw [rangeL_down, List.map_map]; rfl
/-! ### mixed -/
noncomputable def tM : Tab := tab4
noncomputable def mixS (a b : List Q) (n : Nat) (F : Q) (i : Nat) : Option Q :=
  op2 (fun x y => if x = (0, 1) then some F else if y = (0, 1) then some F else op1 (radd F) (rmul x y)) (a[i]?) (b[n - i]?)
noncomputable def mixM (a b : List Q) (n : Nat) : Option Q := if decide (a.length ≤ 400) && decide (b.length ≤ 400) && decide (n ≤ 400) then foldO (mixS a b n) (List.range (n + 1)) (0, 1) else Option.none
noncomputable def f_mixed : List D → Option D
  | [x, y, .int n] => op2 (fun a b => if decide (0 ≤ n) then (mixM a b n.toNat).map enc else Option.none) (decL x) (decL y)
  | _ => Option.none
noncomputable def mixR (a b : List Q) (n : Nat) (F : Q) : Rho := [("a", encL a), ("b", encL b), ("at", .int (n : Int)), ("found", enc F)]
noncomputable abbrev mixB (P : Params) : Rho → Sig → Option Out := fun ρ σ => xs (tbOf gl tab4) mts 18 (fdOf P 99).scope ρ σ (inB (stAt (bd P 99) 1))
theorem mix_run (P : Params) (a b : List Q) (n : Nat) : runF (tbOf gl tab4) mts 20 (fdOf P 99) ["a", "b", "at"] [encL a, encL b, .int (n : Int)] =
    runO (seqO (op1 (fun ds => forD ["a", "b", "at", "found"] (mixB P) "spot" ds (mixR a b n (0, 1)) []) (op1 rangeD (consO (some (.int ((n : Int) + 1))) (some [])))) (fun ρ σ => xs (tbOf gl tab4) mts 18 (fdOf P 99).scope ρ σ ((bd P 99).drop 2))) := by kernel_rfl
theorem mix_end (P : Params) (a b : List Q) (n : Nat) (F : Q) : xs (tbOf gl tab4) mts 18 (fdOf P 99).scope (mixR a b n F) [] ((bd P 99).drop 2) = some (.ret (enc F) false) := by kernel_rfl
noncomputable def andO (x : Option Bool) (y : Option Bool) : Option Bool := op1 (fun c => if c = false then some c else op1 (fun c => if c = false then some c else some true) y) x
theorem andO_f (y : Option Bool) : andO (some false) y = some false := rfl
theorem andO_t (c : Bool) : andO (some true) (some c) = some c := by cases c <;> rfl
theorem mix_b (P : Params) (a b : List Q) (n i : Nat) (F : Q) : mixB P (put "spot" (.int (i : Int)) (mixR a b n F)) [] =
    seqO (ite2 (andO (op2 (cmpD .NotEq) (itemOf (encL a) (.int (i : Int))) (some R0)) (op2 (cmpD .NotEq) (itemOf (encL b) (.int ((n : Int) - (i : Int)))) (some R0)))
      (xs (tbOf gl tab4) mts 17 (fdOf P 99).scope (put "spot" (.int (i : Int)) (mixR a b n F)) [] (thB (stAt (inB (stAt (bd P 99) 1)) 0))) (some (.next (put "spot" (.int (i : Int)) (mixR a b n F)) []))) (fun ρ σ => some (.next ρ σ)) := by kernel_rfl
theorem mix_th (P : Params) (a b : List Q) (n i : Nat) (F : Q) : xs (tbOf gl tab4) mts 17 (fdOf P 99).scope (put "spot" (.int (i : Int)) (mixR a b n F)) [] (thB (stAt (inB (stAt (bd P 99) 1)) 0)) =
    seqO (op1 (asgS mts false "found" (put "spot" (.int (i : Int)) (mixR a b n F)) []) (op1 (w2 radd) (consO (some (enc F)) (consO (op1 (w2 rmul) (consO (itemOf (encL a) (.int (i : Int))) (consO (itemOf (encL b) (.int ((n : Int) - (i : Int)))) (some [])))) (some []))))) (fun ρ σ => some (.next ρ σ)) := by kernel_rfl
theorem mix_asg (a b : List Q) (n i : Nat) (F G : Q) : seqO (asgS mts false "found" (put "spot" (.int (i : Int)) (mixR a b n F)) [] (enc G)) (fun ρ σ => some (.next ρ σ)) = some (.next (put "spot" (.int (i : Int)) (mixR a b n G)) []) := by kernel_rfl
theorem mix_keep (a b : List Q) (n i : Nat) (F : Q) : keepK ["a", "b", "at", "found"] (put "spot" (.int (i : Int)) (mixR a b n F)) = mixR a b n F := by kernel_rfl
theorem mix_eq (P : Params) (ds : List D) (d : D) (h : f_mixed ds = some d) : runF (tbOf gl tab4) mts 20 (fdOf P 99) ["a", "b", "at"] ds = some (d, false) := by
  unfold f_mixed at h
  split at h
  · rename_i x y n
    obtain ⟨a, b, h1, h2, hq⟩ := op2_eq h
    clear h
    split at hq
    · rename_i hn
      obtain ⟨F, hF, rfl⟩ := Option.map_eq_some_iff.mp hq
      obtain ⟨n, rfl⟩ := Int.eq_ofNat_of_zero_le (of_decide_eq_true hn)
      rw [decL_eq h1, decL_eq h2]
      unfold mixM at hF
      split at hF
      · rename_i c
        simp only [Bool.and_eq_true, decide_eq_true_eq, Int.toNat_natCast] at c
        obtain ⟨⟨c1, c2⟩, c3⟩ := c
        have hr := rangeD_1 (n + 1) (by omega)
        rw [mix_run, show ((n : Int) + 1) = ((n + 1 : Nat) : Int) by omega, consO_s, op1_s, hr, op1_s]
        have := forD_fold (ks := ["a", "b", "at", "found"]) (body := mixB P) (x := "spot") (fun i : Nat => D.int (i : Int)) (mixR a b n) (fun _ => []) (mixS a b n) (fun s => ⟨by kernel_rfl, rfl⟩) (List.range (n + 1)) (0, 1) F (fun i F G hi hG => ?_) hF
        · rw [this, seqO_n, mix_end, runO_r]
        · refine ⟨_, [], ?_, mix_keep a b n i G, rfl⟩
          obtain ⟨x, y, hx, hy, hG⟩ := op2_eq hG
          have hi : i < n + 1 := List.mem_range.mp hi
          have ex := item_s hx c1
          have ey := item_s hy c2
          rw [show ((n - i : Nat) : Int) = (n : Int) - (i : Int) by omega] at ey
          show mixB P (put "spot" (.int (i : Int)) (mixR a b n F)) [] = _
          rw [mix_b, mix_th, ex, ey]
          simp only [op2_s, R0, ne_enc, consO_s, op1_s]
          by_cases h0 : x = (0, 1)
          · rw [if_pos h0] at hG
            cases hG
            simp only [h0, decide_true, Bool.not_true, andO_f, ite2_f, seqO_n]
          · rw [if_neg h0] at hG
            by_cases h1 : y = (0, 1)
            · rw [if_pos h1] at hG
              cases hG
              simp only [h0, h1, decide_true, decide_false, Bool.not_true, Bool.not_false, andO_t, ite2_f, seqO_n]
            · rw [if_neg h1] at hG
              obtain ⟨p, hp, hG⟩ := op1_eq hG
              simp only [h0, h1, decide_false, Bool.not_false, andO_t, ite2_t, w2_s hp, consO_s, op1_s, w2_s hG, mix_asg, seqO_n]
      · cases hF
    · cases hq
  · cases h
noncomputable def tab5 : Tab := (99, f_mixed, false) :: tab4
end Mine
namespace Mine
/-! ### mirrors -/
noncomputable def mapO {A B : Type} (f : A → Option B) : List A → Option (List B)
  | [] => some []
  | a :: r => op2 (fun b bs => some (b :: bs)) (f a) (mapO f r)
noncomputable def fit (l : List Q) : Bool := decide (l.length ≤ 400)
noncomputable def pushQ (F : List Q) (q : Q) : Option (List Q) := if fit F then some (F ++ [q]) else Option.none
noncomputable def iq (i : Int) : Q := (i, 1)
-- smul
noncomputable def smulM (a b : List Q) : Option (List Q) := if fit a && fit b then mapO (mixM a b) (List.range (min a.length b.length)) else Option.none
noncomputable def f_smul : List D → Option D
  | [x, y] => op2 (fun a b => (smulM a b).map encL) (decL x) (decL y)
  | _ => Option.none
-- sderive, sintegrate
noncomputable def sderM (a : List Q) : Option (List Q) := if fit a then mapO (fun i : Nat => op1 (rmul (iq (1 + (i : Int)))) (a[1 + i]?)) (List.range (a.length - 1)) else Option.none
noncomputable def sintM (a : List Q) : Option (List Q) := if fit a then op1 (fun l => some ((0, 1) :: l)) (mapO (fun i : Nat => op1 (fun x => rdiv x (iq ((i : Int) + 1))) (a[i]?)) (List.range a.length)) else Option.none
noncomputable def l1 (g : List Q → Option (List Q)) : List D → Option D
  | [x] => op1 (fun a => (g a).map encL) (decL x)
  | _ => Option.none
-- need_begin
noncomputable def needM (a : List Q) (q : Q) : Bool := match a with
  | [] => true
  | c :: _ => smQ c && smQ q && decide (rcmp c q = 0)
noncomputable def f_need : List D → Option D
  | [x, y] => op2 (fun a q => if fit a && needM a q then some .none else Option.none) (decL x) (dec y)
  | _ => Option.none
-- sinverse
noncomputable def sinvI (a F : List Q) (n : Nat) (t : Q) (i : Nat) : Option Q := op2 (fun x y => op1 (rsub t) (rmul x y)) (a[1 + i]?) (F[n - (1 + i)]?)
noncomputable def sinvO (a F : List Q) (n : Nat) : Option (List Q) := op2 (fun t a0 => op1 (pushQ F) (rdiv t a0)) (foldO (sinvI a F n) (List.range n) (if n = 0 then ((1, 1) : Q) else (0, 1))) (a[0]?)
noncomputable def sinvM (a : List Q) : Option (List Q) := if fit a then op1 (fun c : Q => if c = (0, 1) then Option.none else foldO (sinvO a) (List.range a.length) []) (a[0]?) else Option.none
-- sexp
noncomputable def sexpI (a F : List Q) (n : Nat) (t : Q) (i : Nat) : Option Q := op2 (fun x y => op1 (radd t) (op1 (fun z => rmul z y) (rmul (iq (1 + (i : Int))) x))) (a[1 + i]?) (F[n - (1 + i)]?)
noncomputable def lastQ (t : Q) (n : Nat) : Option Q := if n = 0 then some (1, 1) else rdiv t (iq (n : Int))
noncomputable def lastZ (t : Q) (n : Nat) : Option Q := if n = 0 then some (0, 1) else rdiv t (iq (n : Int))
noncomputable def sexpO (a F : List Q) (n : Nat) : Option (List Q) := op1 (fun t => op1 (pushQ F) (lastQ t n)) (foldO (sexpI a F n) (List.range n) (0, 1))
noncomputable def sexpM (a : List Q) : Option (List Q) := if fit a && needM a (0, 1) then foldO (sexpO a) (List.range a.length) [] else Option.none
-- spower
noncomputable def spowI (a : List Q) (r : Q) (F : List Q) (n : Nat) (t : Q) (i : Nat) : Option Q := op2 (fun x y => op1 (fun m => op1 (radd t) (op1 (fun z => rmul z y) (rmul m x))) (op1 (fun z => rsub z (iq ((n : Int) - (1 + (i : Int))))) (rmul r (iq (1 + (i : Int)))))) (a[1 + i]?) (F[n - (1 + i)]?)
noncomputable def spowO (a : List Q) (r : Q) (F : List Q) (n : Nat) : Option (List Q) := op1 (fun t => op1 (pushQ F) (lastQ t n)) (foldO (spowI a r F n) (List.range n) (0, 1))
noncomputable def spowM (a : List Q) (r : Q) : Option (List Q) := if fit a && needM a (1, 1) then foldO (spowO a r) (List.range a.length) [] else Option.none
noncomputable def f_spow : List D → Option D
  | [x, y] => op2 (fun a r => (spowM a r).map encL) (decL x) (dec y)
  | _ => Option.none
-- ssin_cos
noncomputable def scI (a : List Q) (F : List Q × List Q) (n : Nat) (t : Q × Q) (i : Nat) : Option (Q × Q) :=
  op2 (fun x y => op2 (fun z m => op2 (fun u v => some (u, v)) (op1 (radd t.1) (rmul m y)) (op1 (rsub t.2) (rmul m z))) (F.1[n - (1 + i)]?) (rmul (iq (1 + (i : Int))) x)) (a[1 + i]?) (F.2[n - (1 + i)]?)
noncomputable def scO (a : List Q) (F : List Q × List Q) (n : Nat) : Option (List Q × List Q) :=
  op1 (fun t => op2 (fun u v => some (u, v)) (op1 (pushQ F.1) (lastZ t.1 n)) (op1 (pushQ F.2) (lastQ t.2 n))) (foldO (scI a F n) (List.range n) ((0, 1), (0, 1)))
noncomputable def scM (a : List Q) : Option (List Q × List Q) := if fit a && needM a (0, 1) then foldO (scO a) (List.range a.length) ([], []) else Option.none
noncomputable def f_sc : List D → Option D
  | [x] => op1 (fun a => (scM a).map fun p => .tup [encL p.1, encL p.2]) (decL x)
  | _ => Option.none
-- slog, satan
noncomputable def slogM (a : List Q) : Option (List Q) := if fit a && needM a (1, 1) && decide (a.length ≠ 0) then op1 sintM (op2 smulM (sderM a) (sinvM a)) else Option.none
noncomputable def satM (a : List Q) : Option (List Q) := if fit a && needM a (0, 1) && decide (a.length ≠ 0) then
    op1 (fun sq => op1 (fun c => op1 (fun c' => op1 sintM (op2 smulM (sderM a) (sinvM (sq.set 0 c')))) (radd c (1, 1))) (sq[0]?)) (smulM a a) else Option.none
-- scompose, sreverse
noncomputable def cutM (a : List Q) (n : Nat) : List Q := a.take n ++ List.replicate (n - a.length) (0, 1)
noncomputable def scpO (a b : List Q) (o : Nat) (F : List Q) (i : Nat) : Option (List Q) := op1 (fun G => op2 (fun x y => op1 (fun z => some (G.set 0 z)) (radd x y)) (G[0]?) (a[o - 1 - i]?)) (smulM F (b.take o))
noncomputable def scpM (a b : List Q) : Option (List Q) := if fit a && fit b && needM b (0, 1) then foldO (scpO a b (min a.length b.length)) (List.range (min a.length b.length)) (cutM [] (min a.length b.length)) else Option.none
noncomputable def f_scp : List D → Option D
  | [x, y] => op2 (fun a b => (scpM a b).map encL) (decL x) (decL y)
  | _ => Option.none
noncomputable def srvO (T : List Q) (s : List Q × List Q) (i : Nat) : Option (List Q × List Q) := op1 (fun x => op2 (fun u v => some (u, v)) (op1 (pushQ s.1) (rdiv x (iq (1 + (i : Int))))) (smulM s.2 T)) (s.2[i]?)
noncomputable def srvM (a : List Q) : Option (List Q) := if fit a && needM a (0, 1) && decide (2 ≤ a.length) then
    op1 (fun T => op1 (fun s => some s.1) (foldO (srvO T) (List.range (a.length - 1)) ([(0, 1)], T))) (sinvM (a.drop 1)) else Option.none
-- swhole_power
noncomputable def swpL : Nat → List Q → List Q → Nat → Option (List Q)
  | 0, _, _, _ => Option.none
  | k + 1, F, B, l => if l = 0 then some F else op2 (fun G C => swpL k G C (l / 2)) (if l % 2 = 1 then smulM F B else some F) (smulM B B)
noncomputable def swpM (a : List Q) (m : Int) : Option (List Q) := if fit a && decide (m.natAbs ≤ 1000) then op1 (fun B => swpL 64 (cutM [(1, 1)] a.length) B m.natAbs) (if m < 0 then sinvM a else some a) else Option.none
noncomputable def f_swp : List D → Option D
  | [x, .int m] => op1 (fun a => (swpM a m).map encL) (decL x)
  | _ => Option.none
-- _law_low, _law_times
noncomputable def lowM (t b : Int) : Option Q := if small b && decide (0 ≤ b) && small (Int.gcd t b) && decide (Int.gcd t b ≠ 0) then some (t.fdiv (Int.gcd t b : Int), b.fdiv (Int.gcd t b : Int)) else Option.none
noncomputable def f_low : List D → Option D
  | [.int t, .int b] => (lowM t b).map enc
  | _ => Option.none
noncomputable def ltI (a b : List Q) (n : Nat) (t : Q) (i : Nat) : Option Q := op2 (fun x y => if smQ x && smQ y && smQ t && small (t.1 * x.2) && small (x.1 * y.1) && small (t.2 * x.2) then lowM (t.1 * x.2 * y.2 + x.1 * y.1 * t.2) (t.2 * x.2 * y.2) else Option.none) (a[i]?) (b[n - i]?)
noncomputable def ltO (a b : List Q) (F : List Q) (n : Nat) : Option (List Q) := op1 (pushQ F) (foldO (ltI a b n) (List.range (n + 1)) (0, 1))
noncomputable def ltM (a b : List Q) : Option (List Q) := if fit a && fit b then foldO (ltO a b) (List.range (min a.length b.length)) [] else Option.none
noncomputable def f_lt : List D → Option D
  | [x, y] => op2 (fun a b => (ltM a b).map encL) (decL x) (decL y)
  | _ => Option.none
-- tables
noncomputable def tabA : Tab := (104, f_smul, true) :: (99, f_mixed, false) :: tab4
noncomputable def tabB : Tab := (128, f_need, false) :: (121, l1 sintM, false) :: (116, l1 sderM, false) :: (111, l1 sinvM, false) :: tabA
noncomputable def tabC : Tab := (163, f_sc, false) :: (191, f_spow, false) :: (198, f_swp, false) :: (149, l1 sexpM, false) :: (156, l1 slogM, false) :: (184, l1 satM, false) :: (135, f_scp, false) :: (142, l1 srvM, false) :: tabB
noncomputable def f_ssin : List D → Option D
  | [x] => op1 (fun a => (scM a).map fun p => encL p.1) (decL x)
  | _ => Option.none
noncomputable def f_scos : List D → Option D
  | [x] => op1 (fun a => (scM a).map fun p => encL p.2) (decL x)
  | _ => Option.none
noncomputable def tabD : Tab := (217, f_low, false) :: (177, f_scos, false) :: (170, f_ssin, false) :: tabC
noncomputable def tabE : Tab := (229, f_lt, false) :: tabD
end Mine
namespace Mine
/-! ### comprehensions -/
noncomputable def retE : Stmt → Expr
  | .Return (some v) _ => v
  | _ => .Name "x" default
noncomputable def lcE : Expr → Expr
  | .ListComp e _ _ _ => e
  | e => e
noncomputable def lcS : Expr → Scope
  | .ListComp _ _ s _ => s
  | _ => default
noncomputable def binR : Expr → Expr
  | .BinOp _ _ r _ => r
  | e => e
noncomputable def compF (T : Tb) (n : Nat) (e : Expr) (x : Str) (ds : List D) (c : Rho) : Option D := op1 (fun ds => if okLen ds.length then some (D.lst ds) else Option.none) (mapD (fun d => (ev T n).E (lcS e) (put x d c) [] (lcE e)) ds)
theorem mapO_len {A B : Type} {f : A → Option B} : ∀ {l : List A} {r : List B}, mapO f l = some r → r.length = l.length
  | [], r, h => by rw [mapO] at h; cases h; rfl
  | a :: l, r, h => by
    rw [mapO] at h
    obtain ⟨b, bs, _, h2, h3⟩ := op2_eq h
    cases h3
    simp [mapO_len h2]
theorem mapD_map {A : Type} {f : D → Option D} {g : A → Option Q} {en : A → D} : ∀ {l : List A} {r : List Q}, (∀ i q, i ∈ l → g i = some q → f (en i) = some (enc q)) → mapO g l = some r → mapD f (l.map en) = some (r.map enc)
  | [], r, _, h => by rw [mapO] at h; cases h; rfl
  | a :: l, r, k, h => by
    rw [mapO] at h
    obtain ⟨b, bs, h1, h2, h3⟩ := op2_eq h
    cases h3
    rw [List.map_cons, mapD, k a b List.mem_cons_self h1, mapD_map (fun i q m => k i q (List.mem_cons_of_mem _ m)) h2, consO_s]; rfl
theorem comp_ok {A : Type} {T : Tb} {n : Nat} {e : Expr} {x : Str} {c : Rho} {g : A → Option Q} {en : A → D} {l : List A} {r : List Q} (hl : l.length ≤ 1000) (k : ∀ i q, i ∈ l → g i = some q → (ev T n).E (lcS e) (put x (en i) c) [] (lcE e) = some (enc q))
    (h : mapO g l = some r) : compF T n e x (l.map en) c = some (encL r) := by
  have o : okLen (List.map enc r).length = true := decide_eq_true (by rw [List.length_map, mapO_len h]; exact hl)
  unfold compF
  rw [mapD_map k h, op1_s, if_pos o]; rfl
theorem fit_le {l : List Q} (h : fit l = true) : l.length ≤ 400 := of_decide_eq_true h
theorem len_s {l : List Q} (h : fit l = true) : bCall .len [encL l] = some (.int (l.length : Int)) := by
  have o : okLen l.length = true := decide_eq_true (by have := fit_le h; omega)
  simp only [bCall, encL, List.length_map, o, if_true]
theorem item_n {l : List Q} {i : Nat} {q : Q} (h : l[i]? = some q) (hi : i ≤ 1000000) : itemOf (encL l) (.int (i : Int)) = some (enc q) := by
  simp only [encL, itemOf, itemD, small_nat (n := i) hi, Int.toNat_natCast, decide_eq_true (Int.natCast_nonneg i), Bool.and_self, if_true, List.getElem?_map, h]
  rfl
theorem get_lt {l : List Q} {i : Nat} {q : Q} (h : l[i]? = some q) : i < l.length := (List.getElem?_eq_some_iff.mp h).1
theorem min_s (a b : Nat) (ha : a ≤ 400) (hb : b ≤ 400) : bCall .min [.int (a : Int), .int (b : Int)] = some (.int ((min a b : Nat) : Int)) := by
  simp only [bCall]
  congr 2
  split <;> omega
theorem l1_eq {g : List Q → Option (List Q)} {ds : List D} {d : D} (h : l1 g ds = some d) : ∃ a l, ds = [encL a] ∧ d = encL l ∧ g a = some l := by
  unfold l1 at h
  split at h
  · obtain ⟨a, h1, h⟩ := op1_eq h
    obtain ⟨c, hc, rfl⟩ := Option.map_eq_some_iff.mp h
    exact ⟨a, c, by rw [decL_eq h1], rfl, hc⟩
  · cases h
/-! ### smul -/
theorem mixed_s {a b : List Q} {n : Nat} {q : Q} (h : mixM a b n = some q) : f_mixed [encL a, encL b, .int (n : Int)] = some (enc q) := by
  unfold f_mixed
  simp only [decL_enc, op2_s, decide_eq_true (Int.natCast_nonneg n), if_true, Int.toNat_natCast, h]
  rfl
noncomputable def tab5a : Tab := (99, f_mixed, false) :: tab4
noncomputable abbrev smC (P : Params) : Expr := retE (stAt (bd P 104) 0)
noncomputable def rAb (a b : List Q) : Rho := [("a", encL a), ("b", encL b)]
theorem smul_run (P : Params) (a b : List Q) : runF (tbOf gl tab5a) mts 12 (fdOf P 104) ["a", "b"] [encL a, encL b] =
    runO (seqO (retS true (op2 (compF (tbOf gl tab5a) 10 (smC P) "at") (op1 rangeD (consO (op1 (bCall .min) (consO (bCall .len [encL a]) (consO (bCall .len [encL b]) (some [])))) (some []))) (some (rAb a b)))) (fun ρ σ => some (.next ρ σ))) := by kernel_rfl
theorem smul_e (P : Params) (a b : List Q) (n : Int) : (ev (tbOf gl tab5a) 10).E (lcS (smC P)) (put "at" (.int n) (rAb a b)) [] (lcE (smC P)) = f_mixed [encL a, encL b, .int n] := by kernel_rfl
theorem smul_eq (P : Params) (ds : List D) (d : D) (h : f_smul ds = some d) : runF (tbOf gl tab5a) mts 12 (fdOf P 104) ["a", "b"] ds = some (d, true) := by
  unfold f_smul at h
  split at h
  · obtain ⟨a, b, h1, h2, hq⟩ := op2_eq h
    clear h
    obtain ⟨r, hr, rfl⟩ := Option.map_eq_some_iff.mp hq
    rw [decL_eq h1, decL_eq h2]
    unfold smulM at hr
    split at hr
    · rename_i c
      obtain ⟨c1, c2⟩ := Bool.and_eq_true_iff.mp c
      have := fit_le c1
      have := fit_le c2
      have hc : compF (tbOf gl tab5a) 10 (smC P) "at" ((List.range (min a.length b.length)).map fun i : Nat => D.int (i : Int)) (rAb a b) = some (encL r) :=
        comp_ok (by simp; omega) (fun i q _ hq => (smul_e P a b i).trans (mixed_s hq)) hr
      rw [smul_run, len_s c1, len_s c2]
      simp only [consO_s, op1_s]
      rw [min_s _ _ (by omega) (by omega)]
      simp only [consO_s, op1_s]
      rw [rangeD_1 _ (by omega), op2_s, hc, retS_s, seqO_r, runO_r]
    · cases hr
  · cases h
/-! ### sderive, sintegrate -/
theorem sizeN (k : Nat) (hk : 1 ≤ k) : (k : Int) = 1 + ((k - 1 : Nat) : Int) := by omega
theorem enc_iq (i : Int) : D.tup [.int i, .int 1] = enc (iq i) := rfl
noncomputable abbrev sdC (P : Params) : Expr := retE (stAt (bd P 116) 0)
noncomputable def rA (a : List Q) : Rho := [("a", encL a)]
theorem sder_run (P : Params) (a : List Q) : runF (tbOf gl tabA) mts 12 (fdOf P 116) ["a"] [encL a] =
    runO (seqO (retS true (op2 (compF (tbOf gl tabA) 10 (sdC P) "at") (op1 rangeD (consO (some (.int 1)) (consO (bCall .len [encL a]) (some [])))) (some (rA a)))) (fun ρ σ => some (.next ρ σ))) := by kernel_rfl
theorem sder_e (P : Params) (a : List Q) (n : Int) : (ev (tbOf gl tabA) 10).E (lcS (sdC P)) (put "at" (.int n) (rA a)) [] (lcE (sdC P)) = op1 (w2 rmul) (consO (some (enc (iq n))) (consO (itemOf (encL a) (.int n)) (some []))) := by kernel_rfl
theorem sder_eq (P : Params) (ds : List D) (d : D) (h : l1 sderM ds = some d) : runF (tbOf gl tabA) mts 12 (fdOf P 116) ["a"] ds = some (d, true) := by
  obtain ⟨a, r, rfl, rfl, hr⟩ := l1_eq h
  unfold sderM at hr
  split at hr
  · rename_i c1
    have := fit_le c1
    have hc : compF (tbOf gl tabA) 10 (sdC P) "at" ((List.range (a.length - 1)).map fun i : Nat => D.int (1 + (i : Int))) (rA a) = some (encL r) :=
      comp_ok (by simp; omega) (fun i q mi hq => (sder_e P a _).trans (by
        obtain ⟨x, hx, hq⟩ := op1_eq hq
        have ex := item_n hx (by have := List.mem_range.mp mi; omega)
        rw [show ((1 + i : Nat) : Int) = 1 + (i : Int) by omega] at ex
        rw [ex, consO_s, consO_s, op1_s, w2_s hq])) hr
    rw [sder_run, len_s c1]
    simp only [consO_s, op1_s]
    rw [rangeD_2 _ (a.length - 1) (by omega) (by omega), op2_s, hc, retS_s, seqO_r, runO_r]
  · cases hr
noncomputable abbrev siC (P : Params) : Expr := binR (retE (stAt (bd P 121) 0))
theorem sint_run (P : Params) (a : List Q) : runF (tbOf gl tabA) mts 12 (fdOf P 121) ["a"] [encL a] =
    runO (seqO (retS false (op2 (binD .Add) (some (.lst [R0])) (op2 (compF (tbOf gl tabA) 9 (siC P) "at") (op1 rangeD (consO (bCall .len [encL a]) (some []))) (some (rA a))))) (fun ρ σ => some (.next ρ σ))) := by kernel_rfl
theorem sint_e (P : Params) (a : List Q) (n : Int) : (ev (tbOf gl tabA) 9).E (lcS (siC P)) (put "at" (.int n) (rA a)) [] (lcE (siC P)) = op1 (w2 rdiv) (consO (itemOf (encL a) (.int n)) (consO (some (enc (iq (n + 1)))) (some []))) := by kernel_rfl
theorem sint_eq (P : Params) (ds : List D) (d : D) (h : l1 sintM ds = some d) : runF (tbOf gl tabA) mts 12 (fdOf P 121) ["a"] ds = some (d, false) := by
  obtain ⟨a, r, rfl, rfl, hr⟩ := l1_eq h
  unfold sintM at hr
  split at hr
  · rename_i c1
    have := fit_le c1
    obtain ⟨l, hl, hr⟩ := op1_eq hr
    cases hr
    have hc : compF (tbOf gl tabA) 9 (siC P) "at" ((List.range a.length).map fun i : Nat => D.int (i : Int)) (rA a) = some (encL l) :=
      comp_ok (by simp; omega) (fun i q mi hq => (sint_e P a _).trans (by
        obtain ⟨x, hx, hq⟩ := op1_eq hq
        have ex := item_n hx (by have := List.mem_range.mp mi; omega)
        rw [ex, consO_s, consO_s, op1_s, w2_s hq])) hl
    have o : okLen ([R0].length + (l.map enc).length) = true := decide_eq_true (by rw [List.length_map, mapO_len hl]; simp; omega)
    rw [sint_run, len_s c1]
    simp only [consO_s, op1_s]
    rw [rangeD_1 _ (by omega), op2_s, hc, op2_s]
    simp only [encL, binD, o, if_true, retS_s, seqO_r, runO_r]
    rfl
  · cases hr
end Mine
namespace Mine
/-! ### need_begin -/
theorem eq_int (a b : Int) : cmpD .Eq (.int a) (.int b) = some (a == b) := by kernel_rfl
theorem need_run (P : Params) (a : List Q) (q : Q) : runF (tbOf gl tabA) mts 12 (fdOf P 128) ["a", "number"] [encL a, enc q] =
    runO (seqO (ite2 (andO (op2 (cmpD .Gt) (bCall .len [encL a]) (some (.int 0))) (op2 (cmpD .NotEq) (op1 f_rcompare (consO (itemOf (encL a) (.int 0)) (consO (some (enc q)) (some [])))) (some (.int 0)))) Option.none (some (.next [("a", encL a), ("number", enc q)] []))) (fun ρ σ => some (.next ρ σ))) := by kernel_rfl
theorem gt_int (a b : Int) : cmpD .Gt (.int a) (.int b) = some (decide (b < a)) := by kernel_rfl
theorem ne_int (a b : Int) : cmpD .NotEq (.int a) (.int b) = some (a != b) := by kernel_rfl
theorem rcmp_s {a b : Q} (h : (smQ a && smQ b) = true) : f_rcompare [enc a, enc b] = some (.int (rcmp a b)) := by
  simp only [f_rcompare, dec_enc, op2_s, h, if_true]
theorem need_eq (P : Params) (ds : List D) (d : D) (h : f_need ds = some d) : runF (tbOf gl tabA) mts 12 (fdOf P 128) ["a", "number"] ds = some (d, false) := by
  unfold f_need at h
  split at h
  · obtain ⟨a, q, h1, h2, hq⟩ := op2_eq h
    clear h
    rw [decL_eq h1, dec_eq h2]
    split at hq
    · rename_i c
      obtain ⟨c1, c2⟩ := Bool.and_eq_true_iff.mp c
      cases hq
      rw [need_run, len_s c1]
      cases a with
      | nil =>
        simp only [op2_s, gt_int, List.length_nil]
        rfl
      | cons z r =>
        simp only [needM, Bool.and_eq_true, decide_eq_true_eq] at c2
        have e := item_n (l := z :: r) (i := 0) rfl (by omega)
        have e' : itemOf (encL (z :: r)) (.int 0) = some (enc z) := e
        rw [e']
        simp only [op2_s, consO_s, op1_s, rcmp_s (Bool.and_eq_true_iff.mpr c2.1), ne_int, gt_int, c2.2]
        have : (0 : Int) < ((z :: r).length : Int) := by simp
        simp only [decide_eq_true this, bne_self_eq_false, andO_t, ite2_f, seqO_n, runO_n]
    · cases hq
  · cases h
theorem need_s {a : List Q} {q : Q} (h : (fit a && needM a q) = true) : f_need [encL a, enc q] = some .none := by
  simp only [f_need, decL_enc, dec_enc, op2_s, h, if_true]
/-! ### sexp -/
theorem push_eq {F G : List Q} {q : Q} (h : pushQ F q = some G) : fit F = true ∧ G = F ++ [q] := by
  unfold pushQ at h
  split at h
  · rename_i c; cases h; exact ⟨c, rfl⟩
  · cases h
theorem app_s {x : Str} {ρ : Rho} {σ : Sig} {F G : List Q} {q : Q} (h : pushQ F q = some G) : appS x ρ σ (F.map enc) (enc q) = some (.next ρ (put x (G.map enc) σ)) := by
  obtain ⟨c, rfl⟩ := push_eq h
  have o : okLen (F.map enc).length = true := decide_eq_true (by have := fit_le c; simp; omega)
  unfold appS
  rw [if_pos o, List.map_append]; rfl
theorem last_s {t q : Q} {n : Nat} (h : lastQ t n = some q) : ite2 (some ((n : Int) == 0)) (some R1) (op1 (w2 rdiv) (consO (some (enc t)) (consO (some (enc (iq (n : Int)))) (some [])))) = some (enc q) := by
  unfold lastQ at h
  cases n with
  | zero => cases h; rfl
  | succ n =>
    have : (((n + 1 : Nat) : Int) == 0) = false := by simp; omega
    rw [this, ite2_f, consO_s, consO_s, op1_s]
    exact w2_s h
theorem lastZ_s {t q : Q} {n : Nat} (h : lastZ t n = some q) : ite2 (some ((n : Int) == 0)) (some R0) (op1 (w2 rdiv) (consO (some (enc t)) (consO (some (enc (iq (n : Int)))) (some [])))) = some (enc q) := by
  unfold lastZ at h
  cases n with
  | zero => cases h; rfl
  | succ n =>
    have : (((n + 1 : Nat) : Int) == 0) = false := by simp; omega
    rw [this, ite2_f, consO_s, consO_s, op1_s]
    exact w2_s h
theorem range_in (n : Nat) (h : n ≤ 400) : rangeD [.int 1, .int ((n : Int) + 1)] = some ((List.range n).map fun i : Nat => D.int (1 + (i : Int))) := rangeD_2 _ n (by omega) (.inl (by omega))
theorem item_in {l : List Q} {i : Nat} {q : Q} (h : l[1 + i]? = some q) (hi : i ≤ 1000) : itemOf (encL l) (.int (1 + (i : Int))) = some (enc q) := by
  have e := item_n h (by omega)
  rwa [show ((1 + i : Nat) : Int) = 1 + (i : Int) by omega] at e
theorem item_back {l : List Q} {n i : Nat} {q : Q} (h : l[n - (1 + i)]? = some q) (hi : i < n) (hn : n ≤ 1000) : itemOf (encL l) (.int ((n : Int) - (1 + (i : Int)))) = some (enc q) := by
  have e := item_n h (by omega)
  rwa [show ((n - (1 + i) : Nat) : Int) = (n : Int) - (1 + (i : Int)) by omega] at e
noncomputable def sF (F : List Q) : Sig := [("found", F.map enc)]
noncomputable def sT (a : List Q) (n : Nat) (t : Q) : Rho := [("a", encL a), ("at", .int (n : Int)), ("total", enc t)]
noncomputable abbrev seB (P : Params) : Rho → Sig → Option Out := fun ρ σ => xs (tbOf gl tabB) mts 17 (fdOf P 149).scope ρ σ (inB (stAt (bd P 149) 2))
noncomputable abbrev seI (P : Params) : Rho → Sig → Option Out := fun ρ σ => xs (tbOf gl tabB) mts 15 (fdOf P 149).scope ρ σ (inB (stAt (inB (stAt (bd P 149) 2)) 1))
theorem sexp_run (P : Params) (a : List Q) : runF (tbOf gl tabB) mts 20 (fdOf P 149) ["a"] [encL a] =
    runO (seqO (op1 (noneS (rA a) []) (f_need [encL a, R0])) (fun ρ σ => xs (tbOf gl tabB) mts 19 (fdOf P 149).scope ρ σ ((bd P 149).drop 1))) := by kernel_rfl
theorem sexp_run2 (P : Params) (a : List Q) : xs (tbOf gl tabB) mts 19 (fdOf P 149).scope (rA a) [] ((bd P 149).drop 1) =
    seqO (op1 (fun ds => forD ["a", "found"] (seB P) "at" ds (rA a) (sF [])) (op1 rangeD (consO (bCall .len [encL a]) (some [])))) (fun ρ σ => xs (tbOf gl tabB) mts 17 (fdOf P 149).scope ρ σ ((bd P 149).drop 3)) := by kernel_rfl
theorem sexp_end (P : Params) (a F : List Q) : xs (tbOf gl tabB) mts 17 (fdOf P 149).scope (rA a) (sF F) ((bd P 149).drop 3) = some (.ret (encL F) false) := by kernel_rfl
theorem sexp_b (P : Params) (a F : List Q) (n : Nat) : seB P (put "at" (.int (n : Int)) (rA a)) (del "at" (sF F)) =
    seqO (op1 (fun ds => forD ["a", "at", "total", "found"] (seI P) "spot" ds (sT a n (0, 1)) (sF F)) (op1 rangeD (consO (some (.int 1)) (consO (some (.int ((n : Int) + 1))) (some []))))) (fun ρ σ => xs (tbOf gl tabB) mts 15 (fdOf P 149).scope ρ σ ((inB (stAt (bd P 149) 2)).drop 2)) := by kernel_rfl
theorem sexp_c (P : Params) (a F : List Q) (n : Nat) (t : Q) : xs (tbOf gl tabB) mts 15 (fdOf P 149).scope (sT a n t) (sF F) ((inB (stAt (bd P 149) 2)).drop 2) =
    seqO (op1 (appS "found" (sT a n t) (sF F) (F.map enc)) (ite2 (some ((n : Int) == 0)) (some R1) (op1 (w2 rdiv) (consO (some (enc t)) (consO (some (enc (iq (n : Int)))) (some [])))))) (fun ρ σ => some (.next ρ σ)) := by kernel_rfl
theorem sexp_i (P : Params) (a F : List Q) (n i : Nat) (t : Q) : seI P (put "spot" (.int (1 + (i : Int))) (sT a n t)) (del "spot" (sF F)) =
    seqO (op1 (asgS mts false "total" (put "spot" (.int (1 + (i : Int))) (sT a n t)) (sF F)) (op1 (w2 radd) (consO (some (enc t)) (consO (op1 (w2 rmul) (consO (op1 (w2 rmul) (consO (some (enc (iq (1 + (i : Int))))) (consO (itemOf (encL a) (.int (1 + (i : Int)))) (some []))))
      (consO (itemOf (encL F) (.int ((n : Int) - (1 + (i : Int))))) (some [])))) (some []))))) (fun ρ σ => some (.next ρ σ)) := by kernel_rfl
theorem sexp_a (a F : List Q) (n i : Nat) (t u : Q) : seqO (asgS mts false "total" (put "spot" (.int (1 + (i : Int))) (sT a n t)) (sF F) (enc u)) (fun ρ σ => some (.next ρ σ)) = some (.next (put "spot" (.int (1 + (i : Int))) (sT a n u)) (sF F)) := by kernel_rfl
theorem sT_k (a F : List Q) (n : Nat) (t : Q) (d : D) : keepK ["a", "at", "total", "found"] (sT a n t) = sT a n t ∧ keepK ["a", "at", "total", "found"] (sF F) = sF F ∧ keepK ["a", "at", "total", "found"] (put "spot" d (sT a n t)) = sT a n t ∧
    keepK ["a", "found"] (sT a n t) = rA a ∧ keepK ["a", "found"] (rA a) = rA a ∧ keepK ["a", "found"] (sF F) = sF F := ⟨by kernel_rfl, by kernel_rfl, by kernel_rfl, by kernel_rfl, by kernel_rfl, by kernel_rfl⟩
theorem sexp_eq (P : Params) (ds : List D) (d : D) (h : l1 sexpM ds = some d) : runF (tbOf gl tabB) mts 20 (fdOf P 149) ["a"] ds = some (d, false) := by
  obtain ⟨a, r, rfl, rfl, hr⟩ := l1_eq h
  clear h
  unfold sexpM at hr
  split at hr
  · rename_i c
    have c1 := (Bool.and_eq_true_iff.mp c).1
    have ha := fit_le c1
    rw [sexp_run, show R0 = enc (0, 1) from rfl, need_s c, op1_s]
    show runO (seqO (some (.next (rA a) [])) _) = _
    rw [seqO_n, sexp_run2, len_s c1, consO_s, op1_s, rangeD_1 _ (by omega), op1_s]
    have := forD_fold (ks := ["a", "found"]) (body := seB P) (x := "at") (fun i : Nat => D.int (i : Int)) (fun _ => rA a) sF (sexpO a) (fun F => ⟨(sT_k a F 0 (0, 1) .none).2.2.2.2.1, (sT_k a F 0 (0, 1) .none).2.2.2.2.2⟩) (List.range a.length) [] r (fun n F G hn hG => ?_) hr
    · rw [this, seqO_n, sexp_end, runO_r]
    · have hn := List.mem_range.mp hn
      obtain ⟨t, ht, hG⟩ := op1_eq hG
      obtain ⟨q, hq, hG⟩ := op1_eq hG
      refine ⟨sT a n t, sF G, ?_, (sT_k a G n t .none).2.2.2.1, (sT_k a G n t .none).2.2.2.2.2⟩
      show seB P (put "at" (.int (n : Int)) (rA a)) (del "at" (sF F)) = _
      rw [sexp_b, consO_s, consO_s, op1_s, range_in n (by omega), op1_s]
      have := forD_fold (ks := ["a", "at", "total", "found"]) (body := seI P) (x := "spot") (fun i : Nat => D.int (1 + (i : Int))) (sT a n) (fun _ => sF F) (sexpI a F n) (fun t => ⟨(sT_k a F n t .none).1, (sT_k a F n t .none).2.1⟩) (List.range n) (0, 1) t (fun i t u hi hu => ?_) ht
      · rw [this, seqO_n, sexp_c, last_s hq, op1_s, app_s hG]
        rfl
      · have hi := List.mem_range.mp hi
        refine ⟨put "spot" (.int (1 + (i : Int))) (sT a n u), sF F, ?_, (sT_k a F n u _).2.2.1, (sT_k a F n u .none).2.1⟩
        show seI P (put "spot" (.int (1 + (i : Int))) (sT a n t)) (del "spot" (sF F)) = _
        obtain ⟨x, y, hx, hy, hu⟩ := op2_eq hu
        obtain ⟨z, hz, hu⟩ := op1_eq hu
        obtain ⟨m, hm, hz⟩ := op1_eq hz
        rw [sexp_i, item_in hx (by omega), item_back hy hi (by omega)]
        simp only [consO_s, op1_s, w2_s hm, w2_s hz, w2_s hu]
        rw [sexp_a]
  · cases hr
end Mine
namespace Mine
/-! ### sinverse -/
noncomputable abbrev sviB (P : Params) : Rho → Sig → Option Out := fun ρ σ => xs (tbOf gl tabA) mts 17 (fdOf P 111).scope ρ σ (inB (stAt (bd P 111) 2))
noncomputable abbrev sviI (P : Params) : Rho → Sig → Option Out := fun ρ σ => xs (tbOf gl tabA) mts 15 (fdOf P 111).scope ρ σ (inB (stAt (inB (stAt (bd P 111) 2)) 1))
theorem svi_run (P : Params) (a : List Q) : runF (tbOf gl tabA) mts 20 (fdOf P 111) ["a"] [encL a] =
    runO (seqO (ite2 (andO (op2 (cmpD .Gt) (bCall .len [encL a]) (some (.int 0))) (op2 (cmpD .Eq) (itemOf (encL a) (.int 0)) (some R0))) Option.none (some (.next (rA a) []))) (fun ρ σ => xs (tbOf gl tabA) mts 19 (fdOf P 111).scope ρ σ ((bd P 111).drop 1))) := by kernel_rfl
theorem svi_run2 (P : Params) (a : List Q) : xs (tbOf gl tabA) mts 19 (fdOf P 111).scope (rA a) [] ((bd P 111).drop 1) =
    seqO (op1 (fun ds => forD ["a", "found"] (sviB P) "at" ds (rA a) (sF [])) (op1 rangeD (consO (bCall .len [encL a]) (some [])))) (fun ρ σ => xs (tbOf gl tabA) mts 17 (fdOf P 111).scope ρ σ ((bd P 111).drop 3)) := by kernel_rfl
theorem svi_end (P : Params) (a F : List Q) : xs (tbOf gl tabA) mts 17 (fdOf P 111).scope (rA a) (sF F) ((bd P 111).drop 3) = some (.ret (encL F) false) := by kernel_rfl
theorem svi_b (P : Params) (a F : List Q) (n : Nat) : sviB P (put "at" (.int (n : Int)) (rA a)) (del "at" (sF F)) =
    seqO (op1 (asgS mts false "total" (put "at" (.int (n : Int)) (rA a)) (sF F)) (ite2 (some ((n : Int) == 0)) (some R1) (some R0))) (fun ρ σ => xs (tbOf gl tabA) mts 16 (fdOf P 111).scope ρ σ ((inB (stAt (bd P 111) 2)).drop 1)) := by kernel_rfl
theorem svi_b1 (P : Params) (a F : List Q) (n : Nat) (t : Q) : seqO (asgS mts false "total" (put "at" (.int (n : Int)) (rA a)) (sF F) (enc t)) (fun ρ σ => xs (tbOf gl tabA) mts 16 (fdOf P 111).scope ρ σ ((inB (stAt (bd P 111) 2)).drop 1)) =
    seqO (op1 (fun ds => forD ["a", "at", "total", "found"] (sviI P) "spot" ds (sT a n t) (sF F)) (op1 rangeD (consO (some (.int 1)) (consO (some (.int ((n : Int) + 1))) (some []))))) (fun ρ σ => xs (tbOf gl tabA) mts 15 (fdOf P 111).scope ρ σ ((inB (stAt (bd P 111) 2)).drop 2)) := by kernel_rfl
theorem svi_c (P : Params) (a F : List Q) (n : Nat) (t : Q) : xs (tbOf gl tabA) mts 15 (fdOf P 111).scope (sT a n t) (sF F) ((inB (stAt (bd P 111) 2)).drop 2) =
    seqO (op1 (appS "found" (sT a n t) (sF F) (F.map enc)) (op1 (w2 rdiv) (consO (some (enc t)) (consO (itemOf (encL a) (.int 0)) (some []))))) (fun ρ σ => some (.next ρ σ)) := by kernel_rfl
theorem svi_i (P : Params) (a F : List Q) (n i : Nat) (t : Q) : sviI P (put "spot" (.int (1 + (i : Int))) (sT a n t)) (del "spot" (sF F)) =
    seqO (op1 (asgS mts false "total" (put "spot" (.int (1 + (i : Int))) (sT a n t)) (sF F)) (op1 (w2 rsub) (consO (some (enc t)) (consO (op1 (w2 rmul) (consO (itemOf (encL a) (.int (1 + (i : Int))))
      (consO (itemOf (encL F) (.int ((n : Int) - (1 + (i : Int))))) (some [])))) (some []))))) (fun ρ σ => some (.next ρ σ)) := by kernel_rfl
theorem eq_enc' (a b : Q) : cmpD .Eq (enc a) (enc b) = some (decide (a = b)) := eq_enc a b
theorem svi_eq (P : Params) (ds : List D) (d : D) (h : l1 sinvM ds = some d) : runF (tbOf gl tabA) mts 20 (fdOf P 111) ["a"] ds = some (d, false) := by
  obtain ⟨a, r, rfl, rfl, hr⟩ := l1_eq h
  clear h
  unfold sinvM at hr
  split at hr
  · rename_i c1
    have ha := fit_le c1
    obtain ⟨z, hz, hr⟩ := op1_eq hr
    by_cases hzn : z = (0, 1)
    · rw [if_pos hzn] at hr; cases hr
    rw [if_neg hzn] at hr
    have ez := item_n hz (by omega)
    have ez : itemOf (encL a) (.int 0) = some (enc z) := ez
    have hl := get_lt hz
    rw [svi_run, len_s c1, ez]
    simp only [op2_s, gt_int, R0, eq_enc', decide_eq_true (show (0 : Int) < (a.length : Int) by omega), decide_eq_false hzn, andO_t, ite2_f]
    rw [seqO_n, svi_run2, len_s c1, consO_s, op1_s, rangeD_1 _ (by omega), op1_s]
    have := forD_fold (ks := ["a", "found"]) (body := sviB P) (x := "at") (fun i : Nat => D.int (i : Int)) (fun _ => rA a) sF (sinvO a) (fun F => ⟨(sT_k a F 0 (0, 1) .none).2.2.2.2.1, (sT_k a F 0 (0, 1) .none).2.2.2.2.2⟩) (List.range a.length) [] r (fun n F G hn hG => ?_) hr
    · rw [this, seqO_n, svi_end, runO_r]
    · have hn := List.mem_range.mp hn
      obtain ⟨t, w, ht, hw, hG⟩ := op2_eq hG
      rw [hz] at hw
      cases hw
      obtain ⟨q, hq, hG⟩ := op1_eq hG
      refine ⟨sT a n t, sF G, ?_, (sT_k a G n t .none).2.2.2.1, (sT_k a G n t .none).2.2.2.2.2⟩
      show sviB P (put "at" (.int (n : Int)) (rA a)) (del "at" (sF F)) = _
      have e0 : ite2 (some ((n : Int) == 0)) (some R1) (some R0) = some (enc (if n = 0 then ((1, 1) : Q) else (0, 1))) := by
        cases n with
        | zero => rfl
        | succ n =>
          have : (((n + 1 : Nat) : Int) == 0) = false := by simp; omega
          rw [this, ite2_f]; rfl
      rw [svi_b, e0, op1_s, svi_b1, consO_s, consO_s, op1_s, range_in n (by omega), op1_s]
      have := forD_fold (ks := ["a", "at", "total", "found"]) (body := sviI P) (x := "spot") (fun i : Nat => D.int (1 + (i : Int))) (sT a n) (fun _ => sF F) (sinvI a F n) (fun t => ⟨(sT_k a F n t .none).1, (sT_k a F n t .none).2.1⟩) (List.range n) _ t (fun i t u hi hu => ?_) ht
      · rw [this, seqO_n, svi_c, ez, consO_s, consO_s, op1_s, w2_s hq, op1_s, app_s hG]
        rfl
      · have hi := List.mem_range.mp hi
        refine ⟨put "spot" (.int (1 + (i : Int))) (sT a n u), sF F, ?_, (sT_k a F n u _).2.2.1, (sT_k a F n u .none).2.1⟩
        show sviI P (put "spot" (.int (1 + (i : Int))) (sT a n t)) (del "spot" (sF F)) = _
        obtain ⟨x, y, hx, hy, hu⟩ := op2_eq hu
        obtain ⟨m, hm, hu⟩ := op1_eq hu
        rw [svi_i, item_in hx (by omega), item_back hy hi (by omega)]
        simp only [consO_s, op1_s, w2_s hm, w2_s hu]
        rw [sexp_a]
  · cases hr
/-! ### spower -/
noncomputable def rP (a : List Q) (r : Q) : Rho := [("a", encL a), ("number", enc r)]
noncomputable def sP (a : List Q) (r : Q) (n : Nat) (t : Q) : Rho := [("a", encL a), ("number", enc r), ("at", .int (n : Int)), ("total", enc t)]
noncomputable def sPs (a : List Q) (r : Q) (n : Nat) (t : Q) (i : Int) (m : Q) : Rho := [("a", encL a), ("number", enc r), ("at", .int (n : Int)), ("total", enc t), ("spot", .int i), ("times", enc m)]
noncomputable abbrev spB (P : Params) : Rho → Sig → Option Out := fun ρ σ => xs (tbOf gl tabB) mts 17 (fdOf P 191).scope ρ σ (inB (stAt (bd P 191) 2))
noncomputable abbrev spI (P : Params) : Rho → Sig → Option Out := fun ρ σ => xs (tbOf gl tabB) mts 15 (fdOf P 191).scope ρ σ (inB (stAt (inB (stAt (bd P 191) 2)) 1))
theorem spo_run (P : Params) (a : List Q) (r : Q) : runF (tbOf gl tabB) mts 20 (fdOf P 191) ["a", "number"] [encL a, enc r] =
    runO (seqO (op1 (noneS (rP a r) []) (f_need [encL a, R1])) (fun ρ σ => xs (tbOf gl tabB) mts 19 (fdOf P 191).scope ρ σ ((bd P 191).drop 1))) := by kernel_rfl
theorem spo_run2 (P : Params) (a : List Q) (r : Q) : xs (tbOf gl tabB) mts 19 (fdOf P 191).scope (rP a r) [] ((bd P 191).drop 1) =
    seqO (op1 (fun ds => forD ["a", "number", "found"] (spB P) "at" ds (rP a r) (sF [])) (op1 rangeD (consO (bCall .len [encL a]) (some [])))) (fun ρ σ => xs (tbOf gl tabB) mts 17 (fdOf P 191).scope ρ σ ((bd P 191).drop 3)) := by kernel_rfl
theorem spo_end (P : Params) (a F : List Q) (r : Q) : xs (tbOf gl tabB) mts 17 (fdOf P 191).scope (rP a r) (sF F) ((bd P 191).drop 3) = some (.ret (encL F) false) := by kernel_rfl
theorem spo_b (P : Params) (a F : List Q) (r : Q) (n : Nat) : spB P (put "at" (.int (n : Int)) (rP a r)) (del "at" (sF F)) =
    seqO (op1 (fun ds => forD ["a", "number", "at", "total", "found"] (spI P) "spot" ds (sP a r n (0, 1)) (sF F)) (op1 rangeD (consO (some (.int 1)) (consO (some (.int ((n : Int) + 1))) (some []))))) (fun ρ σ => xs (tbOf gl tabB) mts 15 (fdOf P 191).scope ρ σ ((inB (stAt (bd P 191) 2)).drop 2)) := by kernel_rfl
theorem spo_c (P : Params) (a F : List Q) (r : Q) (n : Nat) (t : Q) : xs (tbOf gl tabB) mts 15 (fdOf P 191).scope (sP a r n t) (sF F) ((inB (stAt (bd P 191) 2)).drop 2) =
    seqO (op1 (appS "found" (sP a r n t) (sF F) (F.map enc)) (ite2 (some ((n : Int) == 0)) (some R1) (op1 (w2 rdiv) (consO (some (enc t)) (consO (some (enc (iq (n : Int)))) (some [])))))) (fun ρ σ => some (.next ρ σ)) := by kernel_rfl
theorem spo_i (P : Params) (a F : List Q) (r : Q) (n i : Nat) (t : Q) : spI P (put "spot" (.int (1 + (i : Int))) (sP a r n t)) (del "spot" (sF F)) =
    seqO (op1 (asgS mts false "times" (put "spot" (.int (1 + (i : Int))) (sP a r n t)) (sF F)) (op1 (w2 rsub) (consO (op1 (w2 rmul) (consO (some (enc r)) (consO (some (enc (iq (1 + (i : Int))))) (some [])))) (consO (some (enc (iq ((n : Int) - (1 + (i : Int)))))) (some [])))))
      (fun ρ σ => xs (tbOf gl tabB) mts 14 (fdOf P 191).scope ρ σ ((inB (stAt (inB (stAt (bd P 191) 2)) 1)).drop 1)) := by kernel_rfl
theorem spo_i2 (P : Params) (a F : List Q) (r : Q) (n i : Nat) (t m : Q) : seqO (asgS mts false "times" (put "spot" (.int (1 + (i : Int))) (sP a r n t)) (sF F) (enc m)) (fun ρ σ => xs (tbOf gl tabB) mts 14 (fdOf P 191).scope ρ σ ((inB (stAt (inB (stAt (bd P 191) 2)) 1)).drop 1)) =
    seqO (op1 (asgS mts false "total" (sPs a r n t (1 + (i : Int)) m) (sF F)) (op1 (w2 radd) (consO (some (enc t)) (consO (op1 (w2 rmul) (consO (op1 (w2 rmul) (consO (some (enc m)) (consO (itemOf (encL a) (.int (1 + (i : Int)))) (some []))))
      (consO (itemOf (encL F) (.int ((n : Int) - (1 + (i : Int))))) (some [])))) (some []))))) (fun ρ σ => some (.next ρ σ)) := by kernel_rfl
theorem spo_a (a F : List Q) (r : Q) (n : Nat) (i : Int) (t u m : Q) : seqO (asgS mts false "total" (sPs a r n t i m) (sF F) (enc u)) (fun ρ σ => some (.next ρ σ)) = some (.next (sPs a r n u i m) (sF F)) := by kernel_rfl
theorem sP_k (a F : List Q) (r : Q) (n : Nat) (t : Q) (i : Int) (m : Q) : keepK ["a", "number", "at", "total", "found"] (sP a r n t) = sP a r n t ∧ keepK ["a", "number", "at", "total", "found"] (sF F) = sF F ∧ keepK ["a", "number", "at", "total", "found"] (sPs a r n t i m) = sP a r n t ∧
    keepK ["a", "number", "found"] (sP a r n t) = rP a r ∧ keepK ["a", "number", "found"] (rP a r) = rP a r ∧ keepK ["a", "number", "found"] (sF F) = sF F := ⟨by kernel_rfl, by kernel_rfl, by kernel_rfl, by kernel_rfl, by kernel_rfl, by kernel_rfl⟩
theorem spo_eq (P : Params) (ds : List D) (d : D) (h : f_spow ds = some d) : runF (tbOf gl tabB) mts 20 (fdOf P 191) ["a", "number"] ds = some (d, false) := by
  unfold f_spow at h
  split at h
  · obtain ⟨a, e, h1, h2, hq⟩ := op2_eq h
    clear h
    obtain ⟨r, hr, rfl⟩ := Option.map_eq_some_iff.mp hq
    rw [decL_eq h1, dec_eq h2]
    unfold spowM at hr
    split at hr
    · rename_i c
      have c1 := (Bool.and_eq_true_iff.mp c).1
      have ha := fit_le c1
      rw [spo_run, show R1 = enc (1, 1) from rfl, need_s c, op1_s]
      show runO (seqO (some (.next (rP a e) [])) _) = _
      rw [seqO_n, spo_run2, len_s c1, consO_s, op1_s, rangeD_1 _ (by omega), op1_s]
      have := forD_fold (ks := ["a", "number", "found"]) (body := spB P) (x := "at") (fun i : Nat => D.int (i : Int)) (fun _ => rP a e) sF (spowO a e) (fun F => ⟨(sP_k a F e 0 (0, 1) 0 (0, 1)).2.2.2.2.1, (sP_k a F e 0 (0, 1) 0 (0, 1)).2.2.2.2.2⟩) (List.range a.length) [] r (fun n F G hn hG => ?_) hr
      · rw [this, seqO_n, spo_end, runO_r]
      · have hn := List.mem_range.mp hn
        obtain ⟨t, ht, hG⟩ := op1_eq hG
        obtain ⟨q, hq, hG⟩ := op1_eq hG
        refine ⟨sP a e n t, sF G, ?_, (sP_k a G e n t 0 t).2.2.2.1, (sP_k a G e n t 0 t).2.2.2.2.2⟩
        show spB P (put "at" (.int (n : Int)) (rP a e)) (del "at" (sF F)) = _
        rw [spo_b, consO_s, consO_s, op1_s, range_in n (by omega), op1_s]
        have := forD_fold (ks := ["a", "number", "at", "total", "found"]) (body := spI P) (x := "spot") (fun i : Nat => D.int (1 + (i : Int))) (sP a e n) (fun _ => sF F) (spowI a e F n) (fun t => ⟨(sP_k a F e n t 0 t).1, (sP_k a F e n t 0 t).2.1⟩) (List.range n) (0, 1) t (fun i t u hi hu => ?_) ht
        · rw [this, seqO_n, spo_c, last_s hq, op1_s, app_s hG]
          rfl
        · have hi := List.mem_range.mp hi
          obtain ⟨x, y, hx, hy, hu⟩ := op2_eq hu
          obtain ⟨m, hm, hu⟩ := op1_eq hu
          obtain ⟨z, hz, hm⟩ := op1_eq hm
          obtain ⟨v, hv, hu⟩ := op1_eq hu
          obtain ⟨y', hy', hv⟩ := op1_eq hv
          refine ⟨sPs a e n u (1 + (i : Int)) m, sF F, ?_, (sP_k a F e n u _ m).2.2.1, (sP_k a F e n u 0 u).2.1⟩
          show spI P (put "spot" (.int (1 + (i : Int))) (sP a e n t)) (del "spot" (sF F)) = _
          rw [spo_i]
          simp only [consO_s, op1_s, w2_s hz, w2_s hm]
          rw [spo_i2, item_in hx (by omega), item_back hy hi (by omega)]
          simp only [consO_s, op1_s, w2_s hy', w2_s hv, w2_s hu]
          rw [spo_a]
    · cases hr
  · cases h
end Mine
namespace Mine
/-! ### ssin_cos -/
noncomputable def sSO (F : List Q × List Q) : Sig := [("others", F.2.map enc), ("sines", F.1.map enc)]
noncomputable def sOO (a : List Q) (n : Nat) (t : Q × Q) : Rho := [("a", encL a), ("at", .int (n : Int)), ("other", enc t.2), ("one", enc t.1)]
noncomputable def sOOm (a : List Q) (n : Nat) (t : Q × Q) (i : Int) (m : Q) : Rho := [("a", encL a), ("at", .int (n : Int)), ("other", enc t.2), ("one", enc t.1), ("spot", .int i), ("moved", enc m)]
noncomputable abbrev scB (P : Params) : Rho → Sig → Option Out := fun ρ σ => xs (tbOf gl tabB) mts 17 (fdOf P 163).scope ρ σ (inB (stAt (bd P 163) 2))
noncomputable abbrev scL (P : Params) : List Stmt := inB (stAt (inB (stAt (bd P 163) 2)) 1)
noncomputable abbrev scJ (P : Params) : Rho → Sig → Option Out := fun ρ σ => xs (tbOf gl tabB) mts 15 (fdOf P 163).scope ρ σ (scL P)
theorem sc_run (P : Params) (a : List Q) : runF (tbOf gl tabB) mts 20 (fdOf P 163) ["a"] [encL a] =
    runO (seqO (op1 (noneS (rA a) []) (f_need [encL a, R0])) (fun ρ σ => xs (tbOf gl tabB) mts 19 (fdOf P 163).scope ρ σ ((bd P 163).drop 1))) := by kernel_rfl
theorem sc_run2 (P : Params) (a : List Q) : xs (tbOf gl tabB) mts 19 (fdOf P 163).scope (rA a) [] ((bd P 163).drop 1) =
    seqO (op1 (fun ds => forD ["a", "others", "sines"] (scB P) "at" ds (rA a) (sSO ([], []))) (op1 rangeD (consO (bCall .len [encL a]) (some [])))) (fun ρ σ => xs (tbOf gl tabB) mts 17 (fdOf P 163).scope ρ σ ((bd P 163).drop 3)) := by kernel_rfl
theorem sc_end (P : Params) (a : List Q) (F : List Q × List Q) : xs (tbOf gl tabB) mts 17 (fdOf P 163).scope (rA a) (sSO F) ((bd P 163).drop 3) = some (.ret (.tup [encL F.1, encL F.2]) false) := by kernel_rfl
theorem sc_b (P : Params) (a : List Q) (F : List Q × List Q) (n : Nat) : scB P (put "at" (.int (n : Int)) (rA a)) (del "at" (sSO F)) =
    seqO (op1 (fun ds => forD ["a", "at", "other", "one", "others", "sines"] (scJ P) "spot" ds (sOO a n ((0, 1), (0, 1))) (sSO F)) (op1 rangeD (consO (some (.int 1)) (consO (some (.int ((n : Int) + 1))) (some []))))) (fun ρ σ => xs (tbOf gl tabB) mts 15 (fdOf P 163).scope ρ σ ((inB (stAt (bd P 163) 2)).drop 2)) := by kernel_rfl
theorem sc_c (P : Params) (a : List Q) (F : List Q × List Q) (n : Nat) (t : Q × Q) : xs (tbOf gl tabB) mts 15 (fdOf P 163).scope (sOO a n t) (sSO F) ((inB (stAt (bd P 163) 2)).drop 2) =
    seqO (op1 (appS "sines" (sOO a n t) (sSO F) (F.1.map enc)) (ite2 (some ((n : Int) == 0)) (some R0) (op1 (w2 rdiv) (consO (some (enc t.1)) (consO (some (enc (iq (n : Int)))) (some [])))))) (fun ρ σ => xs (tbOf gl tabB) mts 14 (fdOf P 163).scope ρ σ ((inB (stAt (bd P 163) 2)).drop 3)) := by kernel_rfl
theorem sc_c2 (P : Params) (a : List Q) (F : List Q × List Q) (n : Nat) (t : Q × Q) : xs (tbOf gl tabB) mts 14 (fdOf P 163).scope (sOO a n t) (sSO F) ((inB (stAt (bd P 163) 2)).drop 3) =
    seqO (op1 (appS "others" (sOO a n t) (sSO F) (F.2.map enc)) (ite2 (some ((n : Int) == 0)) (some R1) (op1 (w2 rdiv) (consO (some (enc t.2)) (consO (some (enc (iq (n : Int)))) (some [])))))) (fun ρ σ => some (.next ρ σ)) := by kernel_rfl
theorem sc_i (P : Params) (a : List Q) (F : List Q × List Q) (n i : Nat) (t : Q × Q) : scJ P (put "spot" (.int (1 + (i : Int))) (sOO a n t)) (del "spot" (sSO F)) =
    seqO (op1 (asgS mts false "moved" (put "spot" (.int (1 + (i : Int))) (sOO a n t)) (sSO F)) (op1 (w2 rmul) (consO (some (enc (iq (1 + (i : Int))))) (consO (itemOf (encL a) (.int (1 + (i : Int)))) (some [])))))
      (fun ρ σ => xs (tbOf gl tabB) mts 14 (fdOf P 163).scope ρ σ ((scL P).drop 1)) := by kernel_rfl
theorem sc_i2 (P : Params) (a : List Q) (F : List Q × List Q) (n i : Nat) (t : Q × Q) (m : Q) : seqO (asgS mts false "moved" (put "spot" (.int (1 + (i : Int))) (sOO a n t)) (sSO F) (enc m)) (fun ρ σ => xs (tbOf gl tabB) mts 14 (fdOf P 163).scope ρ σ ((scL P).drop 1)) =
    seqO (op1 (asgS mts false "one" (sOOm a n t (1 + (i : Int)) m) (sSO F)) (op1 (w2 radd) (consO (some (enc t.1)) (consO (op1 (w2 rmul) (consO (some (enc m)) (consO (itemOf (encL F.2) (.int ((n : Int) - (1 + (i : Int))))) (some [])))) (some [])))))
      (fun ρ σ => xs (tbOf gl tabB) mts 13 (fdOf P 163).scope ρ σ ((scL P).drop 2)) := by kernel_rfl
theorem sc_i3 (P : Params) (a : List Q) (F : List Q × List Q) (n : Nat) (i : Int) (t : Q × Q) (m u : Q) : seqO (asgS mts false "one" (sOOm a n t i m) (sSO F) (enc u)) (fun ρ σ => xs (tbOf gl tabB) mts 13 (fdOf P 163).scope ρ σ ((scL P).drop 2)) =
    seqO (op1 (asgS mts false "other" (sOOm a n (u, t.2) i m) (sSO F)) (op1 (w2 rsub) (consO (some (enc t.2)) (consO (op1 (w2 rmul) (consO (some (enc m)) (consO (itemOf (encL F.1) (.int ((n : Int) - i))) (some [])))) (some [])))))
      (fun ρ σ => some (.next ρ σ)) := by kernel_rfl
theorem sc_a (a : List Q) (F : List Q × List Q) (n : Nat) (i : Int) (t : Q × Q) (m u v : Q) : seqO (asgS mts false "other" (sOOm a n (u, t.2) i m) (sSO F) (enc v)) (fun ρ σ => some (.next ρ σ)) = some (.next (sOOm a n (u, v) i m) (sSO F)) := by kernel_rfl
theorem sc_k (a : List Q) (F : List Q × List Q) (n : Nat) (t : Q × Q) (i : Int) (m : Q) : keepK ["a", "at", "other", "one", "others", "sines"] (sOO a n t) = sOO a n t ∧ keepK ["a", "at", "other", "one", "others", "sines"] (sSO F) = sSO F ∧ keepK ["a", "at", "other", "one", "others", "sines"] (sOOm a n t i m) = sOO a n t ∧
    keepK ["a", "others", "sines"] (sOO a n t) = rA a ∧ keepK ["a", "others", "sines"] (rA a) = rA a ∧ keepK ["a", "others", "sines"] (sSO F) = sSO F := ⟨by kernel_rfl, by kernel_rfl, by kernel_rfl, by kernel_rfl, by kernel_rfl, by kernel_rfl⟩
theorem app_s' {x : Str} {ρ : Rho} {σ : Sig} {F G : List Q} {q : Q} (h : pushQ F q = some G) : appS x ρ σ (F.map enc) (enc q) = some (.next ρ (put x (G.map enc) σ)) := app_s h
theorem sc_core (P : Params) (a : List Q) (p : List Q × List Q) (hr : scM a = some p) : runF (tbOf gl tabB) mts 20 (fdOf P 163) ["a"] [encL a] = some (.tup [encL p.1, encL p.2], false) := by
  unfold scM at hr
  split at hr
  · rename_i c
    have c1 := (Bool.and_eq_true_iff.mp c).1
    have ha := fit_le c1
    rw [sc_run, show R0 = enc (0, 1) from rfl, need_s c, op1_s]
    show runO (seqO (some (.next (rA a) [])) _) = _
    rw [seqO_n, sc_run2, len_s c1, consO_s, op1_s, rangeD_1 _ (by omega), op1_s]
    have := forD_fold (ks := ["a", "others", "sines"]) (body := scB P) (x := "at") (fun i : Nat => D.int (i : Int)) (fun _ => rA a) sSO (scO a) (fun F => ⟨(sc_k a F 0 ((0, 1), (0, 1)) 0 (0, 1)).2.2.2.2.1, (sc_k a F 0 ((0, 1), (0, 1)) 0 (0, 1)).2.2.2.2.2⟩) (List.range a.length) ([], []) p (fun n F G hn hG => ?_) hr
    · rw [this, seqO_n, sc_end, runO_r]
    · have hn := List.mem_range.mp hn
      obtain ⟨t, ht, hG⟩ := op1_eq hG
      obtain ⟨u, v, hu, hv, hG⟩ := op2_eq hG
      cases hG
      obtain ⟨q, hq, hu⟩ := op1_eq hu
      obtain ⟨q', hq', hv⟩ := op1_eq hv
      refine ⟨sOO a n t, sSO (u, v), ?_, (sc_k a (u, v) n t 0 t.1).2.2.2.1, (sc_k a (u, v) n t 0 t.1).2.2.2.2.2⟩
      show scB P (put "at" (.int (n : Int)) (rA a)) (del "at" (sSO F)) = _
      rw [sc_b, consO_s, consO_s, op1_s, range_in n (by omega), op1_s]
      have := forD_fold (ks := ["a", "at", "other", "one", "others", "sines"]) (body := scJ P) (x := "spot") (fun i : Nat => D.int (1 + (i : Int))) (sOO a n) (fun _ => sSO F) (scI a F n) (fun t => ⟨(sc_k a F n t 0 t.1).1, (sc_k a F n t 0 t.1).2.1⟩) (List.range n) ((0, 1), (0, 1)) t (fun i t u hi hu => ?_) ht
      · rw [this, seqO_n, sc_c, lastZ_s hq, op1_s, app_s hu, seqO_n]
        have e : put "sines" (u.map enc) (sSO F) = sSO (u, F.2) := by kernel_rfl
        rw [e, sc_c2, last_s hq', op1_s]
        have hv : pushQ (u, F.2).2 q' = some v := hv
        rw [app_s hv]
        rfl
      · have hi := List.mem_range.mp hi
        obtain ⟨x, y, hx, hy, hu⟩ := op2_eq hu
        obtain ⟨z, m, hz, hm, hu⟩ := op2_eq hu
        obtain ⟨u1, u2, hu1, hu2, hu⟩ := op2_eq hu
        cases hu
        obtain ⟨m1, hm1, hu1⟩ := op1_eq hu1
        obtain ⟨m2, hm2, hu2⟩ := op1_eq hu2
        refine ⟨sOOm a n (u1, u2) (1 + (i : Int)) m, sSO F, ?_, (sc_k a F n (u1, u2) _ m).2.2.1, (sc_k a F n t 0 t.1).2.1⟩
        show scJ P (put "spot" (.int (1 + (i : Int))) (sOO a n t)) (del "spot" (sSO F)) = _
        rw [sc_i, item_in hx (by omega)]
        simp only [consO_s, op1_s, w2_s hm]
        rw [sc_i2, item_back hy hi (by omega)]
        simp only [consO_s, op1_s, w2_s hm1, w2_s hu1]
        rw [sc_i3, item_back hz hi (by omega)]
        simp only [consO_s, op1_s, w2_s hm2, w2_s hu2]
        rw [sc_a]
  · cases hr
theorem sc_eq (P : Params) (ds : List D) (d : D) (h : f_sc ds = some d) : runF (tbOf gl tabB) mts 20 (fdOf P 163) ["a"] ds = some (d, false) := by
  unfold f_sc at h
  split at h
  · obtain ⟨a, h1, hq⟩ := op1_eq h
    obtain ⟨p, hp, rfl⟩ := Option.map_eq_some_iff.mp hq
    rw [decL_eq h1]
    exact sc_core P a p hp
  · cases h
theorem sc_s {a : List Q} {p : List Q × List Q} (h : scM a = some p) : f_sc [encL a] = some (.tup [encL p.1, encL p.2]) := by
  simp only [f_sc, decL_enc, op1_s, h, Option.map_some]
theorem ssin_run (P : Params) (a : List Q) : runF (tbOf gl tabC) mts 12 (fdOf P 170) ["a"] [encL a] = runO (seqO (retS false (op2 itemOf (f_sc [encL a]) (some (.int 0)))) (fun ρ σ => some (.next ρ σ))) := by kernel_rfl
theorem scos_run (P : Params) (a : List Q) : runF (tbOf gl tabC) mts 12 (fdOf P 177) ["a"] [encL a] = runO (seqO (retS false (op2 itemOf (f_sc [encL a]) (some (.int 1)))) (fun ρ σ => some (.next ρ σ))) := by kernel_rfl
theorem ssin_eq (P : Params) (ds : List D) (d : D) (h : f_ssin ds = some d) : runF (tbOf gl tabC) mts 12 (fdOf P 170) ["a"] ds = some (d, false) := by
  unfold f_ssin at h
  split at h
  · obtain ⟨a, h1, hq⟩ := op1_eq h
    obtain ⟨p, hp, rfl⟩ := Option.map_eq_some_iff.mp hq
    rw [decL_eq h1, ssin_run, sc_s hp, op2_s]
    rfl
  · cases h
theorem scos_eq (P : Params) (ds : List D) (d : D) (h : f_scos ds = some d) : runF (tbOf gl tabC) mts 12 (fdOf P 177) ["a"] ds = some (d, false) := by
  unfold f_scos at h
  split at h
  · obtain ⟨a, h1, hq⟩ := op1_eq h
    obtain ⟨p, hp, rfl⟩ := Option.map_eq_some_iff.mp hq
    rw [decL_eq h1, scos_run, sc_s hp, op2_s]
    rfl
  · cases h
end Mine
namespace Mine
/-! ### slog, satan -/
theorem l1_s {g : List Q → Option (List Q)} {a l : List Q} (h : g a = some l) : l1 g [encL a] = some (encL l) := by
  simp only [l1, decL_enc, op1_s, h, Option.map_some]
theorem smul_s {a b l : List Q} (h : smulM a b = some l) : f_smul [encL a, encL b] = some (encL l) := by
  simp only [f_smul, decL_enc, op2_s, h, Option.map_some]
theorem slog_run (P : Params) (a : List Q) : runF (tbOf gl tabB) mts 20 (fdOf P 156) ["a"] [encL a] =
    runO (seqO (op1 (noneS (rA a) []) (f_need [encL a, R1])) (fun ρ σ => xs (tbOf gl tabB) mts 19 (fdOf P 156).scope ρ σ ((bd P 156).drop 1))) := by kernel_rfl
theorem slog_run2 (P : Params) (a : List Q) : xs (tbOf gl tabB) mts 19 (fdOf P 156).scope (rA a) [] ((bd P 156).drop 1) =
    seqO (ite2 (op2 (cmpD .Eq) (bCall .len [encL a]) (some (.int 0))) (some (.ret (.lst []) true)) (some (.next (rA a) []))) (fun ρ σ => xs (tbOf gl tabB) mts 18 (fdOf P 156).scope ρ σ ((bd P 156).drop 2)) := by kernel_rfl
theorem slog_run3 (P : Params) (a : List Q) : xs (tbOf gl tabB) mts 18 (fdOf P 156).scope (rA a) [] ((bd P 156).drop 2) =
    seqO (retS false (op1 (l1 sintM) (consO (op1 f_smul (consO (l1 sderM [encL a]) (consO (l1 sinvM [encL a]) (some [])))) (some [])))) (fun ρ σ => some (.next ρ σ)) := by kernel_rfl
theorem slog_eq (P : Params) (ds : List D) (d : D) (h : l1 slogM ds = some d) : runF (tbOf gl tabB) mts 20 (fdOf P 156) ["a"] ds = some (d, false) := by
  obtain ⟨a, r, rfl, rfl, hr⟩ := l1_eq h
  clear h
  unfold slogM at hr
  split at hr
  · rename_i c
    obtain ⟨c0, c2⟩ := Bool.and_eq_true_iff.mp c
    have c1 := (Bool.and_eq_true_iff.mp c0).1
    have c2 := of_decide_eq_true c2
    obtain ⟨p, hp, hr⟩ := op1_eq hr
    obtain ⟨u, v, hu, hv, hp⟩ := op2_eq hp
    rw [slog_run, show R1 = enc (1, 1) from rfl, need_s c0, op1_s]
    show runO (seqO (some (.next (rA a) [])) _) = _
    have hz : ((a.length : Int) == 0) = false := by simp; exact fun e => c2 (by rw [e]; rfl)
    rw [seqO_n, slog_run2, len_s c1, op2_s, eq_int, hz, ite2_f, seqO_n, slog_run3, l1_s hu, l1_s hv, consO_s, consO_s, op1_s, smul_s hp, consO_s, op1_s, l1_s hr]
    rfl
  · cases hr
noncomputable def rSq (a : List Q) : Rho := [("a", encL a)]
noncomputable def sSq (F : List Q) : Sig := [("square", F.map enc)]
theorem sat_run (P : Params) (a : List Q) : runF (tbOf gl tabB) mts 20 (fdOf P 184) ["a"] [encL a] =
    runO (seqO (op1 (noneS (rA a) []) (f_need [encL a, R0])) (fun ρ σ => xs (tbOf gl tabB) mts 19 (fdOf P 184).scope ρ σ ((bd P 184).drop 1))) := by kernel_rfl
theorem sat_run2 (P : Params) (a : List Q) : xs (tbOf gl tabB) mts 19 (fdOf P 184).scope (rA a) [] ((bd P 184).drop 1) =
    seqO (ite2 (op2 (cmpD .Eq) (bCall .len [encL a]) (some (.int 0))) (some (.ret (.lst []) true)) (some (.next (rA a) []))) (fun ρ σ => xs (tbOf gl tabB) mts 18 (fdOf P 184).scope ρ σ ((bd P 184).drop 2)) := by kernel_rfl
theorem sat_run3 (P : Params) (a : List Q) : xs (tbOf gl tabB) mts 18 (fdOf P 184).scope (rA a) [] ((bd P 184).drop 2) =
    seqO (op1 (asgS mts true "square" (rA a) []) (f_smul [encL a, encL a])) (fun ρ σ => xs (tbOf gl tabB) mts 17 (fdOf P 184).scope ρ σ ((bd P 184).drop 3)) := by kernel_rfl
theorem sat_run4 (P : Params) (a F : List Q) : seqO (asgS mts true "square" (rA a) [] (encL F)) (fun ρ σ => xs (tbOf gl tabB) mts 17 (fdOf P 184).scope ρ σ ((bd P 184).drop 3)) =
    seqO (op1 (fun d => setS "square" (rA a) (sSq F) (F.map enc) d (.int 0)) (op1 (w2 radd) (consO (itemOf (encL F) (.int 0)) (consO (some R1) (some []))))) (fun ρ σ => xs (tbOf gl tabB) mts 16 (fdOf P 184).scope ρ σ ((bd P 184).drop 4)) := by kernel_rfl
theorem sat_run5 (P : Params) (a F : List Q) : xs (tbOf gl tabB) mts 16 (fdOf P 184).scope (rA a) (sSq F) ((bd P 184).drop 4) =
    seqO (retS false (op1 (l1 sintM) (consO (op1 f_smul (consO (l1 sderM [encL a]) (consO (l1 sinvM [encL F]) (some [])))) (some [])))) (fun ρ σ => some (.next ρ σ)) := by kernel_rfl
theorem set0_s {x : Str} {ρ : Rho} {σ : Sig} {F : List Q} {c q : Q} (h : F[0]? = some c) : setS x ρ σ (F.map enc) (enc q) (.int 0) = some (.next ρ (put x ((F.set 0 q).map enc) σ)) := by
  have hl := get_lt h
  have e : decide ((0 : Int).toNat < (F.map enc).length) = true := decide_eq_true (by simpa using hl)
  unfold setS
  simp only [e, small_i (i := 0) (by omega), Bool.and_true, decide_eq_true (Int.le_refl 0), if_true]
  rw [show (0 : Int).toNat = 0 from rfl, List.map_set]
theorem sat_eq (P : Params) (ds : List D) (d : D) (h : l1 satM ds = some d) : runF (tbOf gl tabB) mts 20 (fdOf P 184) ["a"] ds = some (d, false) := by
  obtain ⟨a, r, rfl, rfl, hr⟩ := l1_eq h
  clear h
  unfold satM at hr
  split at hr
  · rename_i c
    obtain ⟨c0, c2⟩ := Bool.and_eq_true_iff.mp c
    have c1 := (Bool.and_eq_true_iff.mp c0).1
    have c2 := of_decide_eq_true c2
    obtain ⟨F, hF, hr⟩ := op1_eq hr
    obtain ⟨z, hz, hr⟩ := op1_eq hr
    obtain ⟨z', hz', hr⟩ := op1_eq hr
    obtain ⟨p, hp, hr⟩ := op1_eq hr
    obtain ⟨u, v, hu, hv, hp⟩ := op2_eq hp
    rw [sat_run, show R0 = enc (0, 1) from rfl, need_s c0, op1_s]
    show runO (seqO (some (.next (rA a) [])) _) = _
    have hn : ((a.length : Int) == 0) = false := by simp; exact fun e => c2 (by rw [e]; rfl)
    have ez : itemOf (encL F) (.int 0) = some (enc z) := item_n (i := 0) hz (by omega)
    rw [seqO_n, sat_run2, len_s c1, op2_s, eq_int, hn, ite2_f, seqO_n, sat_run3, smul_s hF, op1_s, sat_run4, ez, consO_s, consO_s, op1_s, show R1 = enc (1, 1) from rfl, w2_s hz', op1_s, set0_s hz, seqO_n]
    have e : put "square" ((F.set 0 z').map enc) (sSq F) = sSq (F.set 0 z') := by kernel_rfl
    rw [e, sat_run5, l1_s hu, l1_s hv, consO_s, consO_s, op1_s, smul_s hp, consO_s, op1_s, l1_s hr]
    rfl
  · cases hr
/-! ### scompose -/
theorem cut_s {a : List Q} {n : Nat} (h : fit a = true) (hn : n ≤ 400) : f_cut [encL a, .int (n : Int)] = some (encL (cutM a n)) := by
  have := fit_le h
  simp only [encL, f_cut, decide_eq_true (Int.natCast_nonneg n), decide_eq_true (show (n : Int) ≤ 400 by omega), decide_eq_true this, Bool.and_self, if_true, cutM, Int.toNat_natCast, List.map_append, List.map_replicate, List.map_take, List.length_map]
  rw [show ((n : Int) - (a.length : Int)).toNat = n - a.length by omega]
  rfl
theorem slice_s {b : List Q} {n : Nat} (h : fit b = true) : sliceD (encL b) Option.none (some (.int (n : Int))) = some (encL (b.take n)) := by
  have o : okLen (b.map enc).length = true := decide_eq_true (by have := fit_le h; simp; omega)
  simp only [encL, sliceD, decide_eq_true (Int.natCast_nonneg n), o, Bool.and_self, if_true, Int.toNat_natCast, List.map_take]
noncomputable def rCp (a b : List Q) (o : Nat) (s : Bool × List Q) : Rho := if s.1 then [("a", encL a), ("b", encL b), ("order", .int (o : Int)), ("found", encL s.2)] else [("a", encL a), ("b", encL b), ("order", .int (o : Int))]
noncomputable def sCp (s : Bool × List Q) : Sig := if s.1 then [] else [("found", s.2.map enc)]
noncomputable def rCpA (a b : List Q) (o : Nat) (i : Int) : Rho := [("a", encL a), ("b", encL b), ("order", .int (o : Int)), ("at", .int i)]
noncomputable abbrev cpB (P : Params) : Rho → Sig → Option Out := fun ρ σ => xs (tbOf gl tabB) mts 16 (fdOf P 135).scope ρ σ (inB (stAt (bd P 135) 3))
theorem scp_run (P : Params) (a b : List Q) : runF (tbOf gl tabB) mts 20 (fdOf P 135) ["a", "b"] [encL a, encL b] =
    runO (seqO (op1 (noneS (rAb a b) []) (f_need [encL b, R0])) (fun ρ σ => xs (tbOf gl tabB) mts 19 (fdOf P 135).scope ρ σ ((bd P 135).drop 1))) := by kernel_rfl
theorem scp_run2 (P : Params) (a b : List Q) : xs (tbOf gl tabB) mts 19 (fdOf P 135).scope (rAb a b) [] ((bd P 135).drop 1) =
    seqO (op1 (asgS mts false "order" (rAb a b) []) (op1 (bCall .min) (consO (bCall .len [encL a]) (consO (bCall .len [encL b]) (some []))))) (fun ρ σ => xs (tbOf gl tabB) mts 18 (fdOf P 135).scope ρ σ ((bd P 135).drop 2)) := by kernel_rfl
theorem scp_run3 (P : Params) (a b : List Q) (o : Nat) : seqO (asgS mts false "order" (rAb a b) [] (.int (o : Int))) (fun ρ σ => xs (tbOf gl tabB) mts 18 (fdOf P 135).scope ρ σ ((bd P 135).drop 2)) =
    seqO (op1 (asgS mts false "found" (rCp a b o (false, [])) []) (f_cut [.lst [], .int (o : Int)])) (fun ρ σ => xs (tbOf gl tabB) mts 17 (fdOf P 135).scope ρ σ ((bd P 135).drop 3)) := by kernel_rfl
theorem scp_run4 (P : Params) (a b F : List Q) (o : Nat) : seqO (asgS mts false "found" (rCp a b o (false, [])) [] (encL F)) (fun ρ σ => xs (tbOf gl tabB) mts 17 (fdOf P 135).scope ρ σ ((bd P 135).drop 3)) =
    seqO (op1 (fun ds => forD ["a", "b", "order", "found"] (cpB P) "at" ds (rCp a b o (true, F)) (sCp (true, F))) (op1 rangeD (consO (some (.int ((o : Int) - 1))) (consO (some (.int (-1))) (consO (some (.int (-1))) (some [])))))) (fun ρ σ => xs (tbOf gl tabB) mts 16 (fdOf P 135).scope ρ σ ((bd P 135).drop 4)) := by kernel_rfl
theorem scp_end (P : Params) (a b : List Q) (o : Nat) (s : Bool × List Q) : xs (tbOf gl tabB) mts 16 (fdOf P 135).scope (rCp a b o s) (sCp s) ((bd P 135).drop 4) = some (.ret (encL s.2) false) := by
  obtain ⟨x, F⟩ := s
  cases x <;> kernel_rfl
theorem scp_b (P : Params) (a b : List Q) (o : Nat) (i : Int) (s : Bool × List Q) : ∃ ρ, cpB P (put "at" (.int i) (rCp a b o s)) (del "at" (sCp s)) =
    seqO (op1 (asgS mts true "found" ρ []) (op1 f_smul (consO (some (encL s.2)) (consO (sliceD (encL b) Option.none (some (.int (o : Int)))) (some []))))) (fun ρ σ => xs (tbOf gl tabB) mts 15 (fdOf P 135).scope ρ σ ((inB (stAt (bd P 135) 3)).drop 1)) ∧
    ∀ G : List Q, seqO (asgS mts true "found" ρ [] (encL G)) (fun ρ σ => xs (tbOf gl tabB) mts 15 (fdOf P 135).scope ρ σ ((inB (stAt (bd P 135) 3)).drop 1)) =
    seqO (op1 (fun d => setS "found" (rCpA a b o i) (sF G) (G.map enc) d (.int 0)) (op1 (w2 radd) (consO (itemOf (encL G) (.int 0)) (consO (itemOf (encL a) (.int i)) (some []))))) (fun ρ σ => some (.next ρ σ)) := by
  obtain ⟨x, F⟩ := s
  cases x
  · exact ⟨[("a", encL a), ("b", encL b), ("order", .int (o : Int)), ("at", .int i), ("found", encL F)], by kernel_rfl, fun G => by kernel_rfl⟩
  · exact ⟨[("a", encL a), ("b", encL b), ("order", .int (o : Int)), ("found", encL F), ("at", .int i)], by kernel_rfl, fun G => by kernel_rfl⟩
theorem scp_k (a b : List Q) (o : Nat) (s : Bool × List Q) (i : Int) : keepK ["a", "b", "order", "found"] (rCp a b o s) = rCp a b o s ∧ keepK ["a", "b", "order", "found"] (sCp s) = sCp s ∧ keepK ["a", "b", "order", "found"] (rCpA a b o i) = rCp a b o (false, s.2) := by
  obtain ⟨x, F⟩ := s
  cases x
  · exact ⟨by kernel_rfl, by kernel_rfl, by kernel_rfl⟩
  · exact ⟨by kernel_rfl, by kernel_rfl, by kernel_rfl⟩
theorem fold_pair {A : Type} {f : List Q → A → Option (List Q)} : ∀ (l : List A) (b : Bool) (F G : List Q), foldO f l F = some G → ∃ b', foldO (fun (s : Bool × List Q) i => op1 (fun G => some (false, G)) (f s.2 i)) l (b, F) = some (b', G)
  | [], b, F, G, h => by rw [foldO] at h; cases h; exact ⟨b, rfl⟩
  | i :: l, b, F, G, h => by
    rw [foldO] at h
    obtain ⟨K, h1, h2⟩ := op1_eq h
    obtain ⟨b', e⟩ := fold_pair l false K G h2
    refine ⟨b', ?_⟩
    rw [foldO, h1, op1_s, op1_s, e]
theorem scp_eq (P : Params) (ds : List D) (d : D) (h : f_scp ds = some d) : runF (tbOf gl tabB) mts 20 (fdOf P 135) ["a", "b"] ds = some (d, false) := by
  unfold f_scp at h
  split at h
  · obtain ⟨a, b, h1, h2, hq⟩ := op2_eq h
    clear h
    obtain ⟨r, hr, rfl⟩ := Option.map_eq_some_iff.mp hq
    rw [decL_eq h1, decL_eq h2]
    unfold scpM at hr
    split at hr
    · rename_i c
      obtain ⟨c0, c3⟩ := Bool.and_eq_true_iff.mp c
      obtain ⟨c1, c2⟩ := Bool.and_eq_true_iff.mp c0
      have ha := fit_le c1
      have hb := fit_le c2
      rw [scp_run, show R0 = enc (0, 1) from rfl, need_s (Bool.and_eq_true_iff.mpr ⟨c2, c3⟩), op1_s]
      show runO (seqO (some (.next (rAb a b) [])) _) = _
      rw [seqO_n, scp_run2, len_s c1, len_s c2, consO_s, consO_s, op1_s, min_s _ _ ha hb, op1_s, scp_run3]
      have hc : f_cut [.lst [], .int ((min a.length b.length : Nat) : Int)] = some (encL (cutM [] (min a.length b.length))) := cut_s (a := []) rfl (by omega)
      rw [hc, op1_s, scp_run4, consO_s, consO_s, consO_s, op1_s, rangeD_3 _ (by omega), op1_s]
      obtain ⟨b', hb'⟩ := fold_pair _ true _ _ hr
      have := forD_fold (ks := ["a", "b", "order", "found"]) (body := cpB P) (x := "at") (fun i : Nat => D.int (((min a.length b.length : Nat) : Int) - 1 - (i : Int))) (rCp a b (min a.length b.length)) sCp _ (fun s => ⟨(scp_k a b (min a.length b.length) s 0).1, (scp_k a b (min a.length b.length) s 0).2.1⟩) (List.range (min a.length b.length)) _ _ (fun n s s' hn hG => ?_) hb'
      · rw [this, seqO_n, scp_end, runO_r]
      · have hn := List.mem_range.mp hn
        obtain ⟨K, hK, hS⟩ := op1_eq hG
        clear hG
        cases hS
        obtain ⟨G, hG, hK⟩ := op1_eq hK
        obtain ⟨x, y, hx, hy, hK⟩ := op2_eq hK
        obtain ⟨z, hz, hK⟩ := op1_eq hK
        cases hK
        obtain ⟨ρ, e1, e2⟩ := scp_b P a b (min a.length b.length) (((min a.length b.length : Nat) : Int) - 1 - (n : Int)) s
        refine ⟨_, sCp (false, G.set 0 z), ?_, (scp_k a b (min a.length b.length) (false, G.set 0 z) (((min a.length b.length : Nat) : Int) - 1 - (n : Int))).2.2, (scp_k a b (min a.length b.length) (false, G.set 0 z) 0).2.1⟩
        have ex : itemOf (encL G) (.int 0) = some (enc x) := item_n (i := 0) hx (by omega)
        have ey := item_n hy (by omega)
        rw [show ((min a.length b.length - 1 - n : Nat) : Int) = ((min a.length b.length : Nat) : Int) - 1 - (n : Int) by omega] at ey
        rw [e1, slice_s c2, consO_s, consO_s, op1_s, smul_s hG, op1_s, e2, ex, ey, consO_s, consO_s, op1_s, w2_s hz, op1_s, set0_s hx]
        rfl
    · cases hr
  · cases h
end Mine
namespace Mine
/-! ### sreverse -/
noncomputable def rRv (a T : List Q) (s : List Q × List Q) : Rho := [("a", encL a), ("turned", encL T), ("raised", encL s.2)]
noncomputable def rRvA (a T : List Q) (s : List Q × List Q) (i : Int) : Rho := [("a", encL a), ("turned", encL T), ("raised", encL s.2), ("at", .int i)]
noncomputable abbrev rvB (P : Params) : Rho → Sig → Option Out := fun ρ σ => xs (tbOf gl tabB) mts 15 (fdOf P 142).scope ρ σ (inB (stAt (bd P 142) 4))
theorem srv_run (P : Params) (a : List Q) : runF (tbOf gl tabB) mts 20 (fdOf P 142) ["a"] [encL a] =
    runO (seqO (op1 (noneS (rA a) []) (f_need [encL a, R0])) (fun ρ σ => xs (tbOf gl tabB) mts 19 (fdOf P 142).scope ρ σ ((bd P 142).drop 1))) := by kernel_rfl
theorem srv_run2 (P : Params) (a : List Q) : xs (tbOf gl tabB) mts 19 (fdOf P 142).scope (rA a) [] ((bd P 142).drop 1) =
    seqO (ite2 (op2 (cmpD .Lt) (bCall .len [encL a]) (some (.int 2))) (seqO (retS false (op1 (bCall .list) (consO (some (encL a)) (some [])))) (fun ρ σ => some (.next ρ σ))) (some (.next (rA a) []))) (fun ρ σ => xs (tbOf gl tabB) mts 18 (fdOf P 142).scope ρ σ ((bd P 142).drop 2)) := by kernel_rfl
theorem srv_run3 (P : Params) (a : List Q) : xs (tbOf gl tabB) mts 18 (fdOf P 142).scope (rA a) [] ((bd P 142).drop 2) =
    seqO (op1 (asgS mts false "turned" (rA a) []) (op1 (l1 sinvM) (consO (sliceD (encL a) (some (.int 1)) Option.none) (some [])))) (fun ρ σ => xs (tbOf gl tabB) mts 17 (fdOf P 142).scope ρ σ ((bd P 142).drop 3)) := by kernel_rfl
theorem srv_run4 (P : Params) (a T : List Q) : seqO (asgS mts false "turned" (rA a) [] (encL T)) (fun ρ σ => xs (tbOf gl tabB) mts 17 (fdOf P 142).scope ρ σ ((bd P 142).drop 3)) =
    seqO (op1 (fun ds => forD ["a", "turned", "raised", "found"] (rvB P) "at" ds (rRv a T ([(0, 1)], T)) (sF [(0, 1)])) (op1 rangeD (consO (some (.int 1)) (consO (bCall .len [encL a]) (some []))))) (fun ρ σ => xs (tbOf gl tabB) mts 15 (fdOf P 142).scope ρ σ ((bd P 142).drop 5)) := by kernel_rfl
theorem srv_end (P : Params) (a T : List Q) (s : List Q × List Q) : xs (tbOf gl tabB) mts 15 (fdOf P 142).scope (rRv a T s) (sF s.1) ((bd P 142).drop 5) = some (.ret (encL s.1) false) := by kernel_rfl
theorem srv_b (P : Params) (a T : List Q) (s : List Q × List Q) (i : Int) : rvB P (put "at" (.int i) (rRv a T s)) (del "at" (sF s.1)) =
    seqO (op1 (appS "found" (rRvA a T s i) (sF s.1) (s.1.map enc)) (op1 (w2 rdiv) (consO (itemOf (encL s.2) (.int (i - 1))) (consO (some (enc (iq i))) (some []))))) (fun ρ σ => xs (tbOf gl tabB) mts 14 (fdOf P 142).scope ρ σ ((inB (stAt (bd P 142) 4)).drop 1)) := by kernel_rfl
theorem srv_b2 (P : Params) (a T G : List Q) (s : List Q × List Q) (i : Int) : xs (tbOf gl tabB) mts 14 (fdOf P 142).scope (rRvA a T s i) (put "found" (G.map enc) (sF s.1)) ((inB (stAt (bd P 142) 4)).drop 1) =
    seqO (op1 (asgS mts true "raised" (rRvA a T s i) (sF G)) (op1 f_smul (consO (some (encL s.2)) (consO (some (encL T)) (some []))))) (fun ρ σ => some (.next ρ σ)) := by kernel_rfl
theorem srv_a (a T G K : List Q) (s : List Q × List Q) (i : Int) : seqO (asgS mts true "raised" (rRvA a T s i) (sF G) (encL K)) (fun ρ σ => some (.next ρ σ)) = some (.next (rRvA a T (G, K) i) (sF G)) := by kernel_rfl
theorem srv_k (a T : List Q) (s : List Q × List Q) (i : Int) : keepK ["a", "turned", "raised", "found"] (rRv a T s) = rRv a T s ∧ keepK ["a", "turned", "raised", "found"] (sF s.1) = sF s.1 ∧ keepK ["a", "turned", "raised", "found"] (rRvA a T s i) = rRv a T s := ⟨by kernel_rfl, by kernel_rfl, by kernel_rfl⟩
theorem lt_int (a b : Int) : cmpD .Lt (.int a) (.int b) = some (decide (a < b)) := by kernel_rfl
theorem slice1_s {b : List Q} (h : fit b = true) : sliceD (encL b) (some (.int 1)) Option.none = some (encL (b.drop 1)) := by
  have o : okLen (b.map enc).length = true := decide_eq_true (by have := fit_le h; simp; omega)
  simp only [encL, sliceD, decide_eq_true (show (0 : Int) ≤ 1 by omega), o, Bool.and_self, if_true, List.map_drop]
  rfl
theorem srv_eq (P : Params) (ds : List D) (d : D) (h : l1 srvM ds = some d) : runF (tbOf gl tabB) mts 20 (fdOf P 142) ["a"] ds = some (d, false) := by
  obtain ⟨a, r, rfl, rfl, hr⟩ := l1_eq h
  clear h
  unfold srvM at hr
  split at hr
  · rename_i c
    obtain ⟨c0, c2⟩ := Bool.and_eq_true_iff.mp c
    have c1 := (Bool.and_eq_true_iff.mp c0).1
    have c2 := of_decide_eq_true c2
    have ha := fit_le c1
    obtain ⟨T, hT, hr⟩ := op1_eq hr
    obtain ⟨s, hs, hr⟩ := op1_eq hr
    cases hr
    rw [srv_run, show R0 = enc (0, 1) from rfl, need_s c0, op1_s]
    show runO (seqO (some (.next (rA a) [])) _) = _
    rw [seqO_n, srv_run2, len_s c1, op2_s, lt_int, decide_eq_false (show ¬ ((a.length : Int) < 2) by omega), ite2_f, seqO_n, srv_run3, slice1_s c1, consO_s, op1_s, l1_s hT, op1_s, srv_run4, len_s c1, consO_s, consO_s, op1_s,
      rangeD_2 _ (a.length - 1) (by omega) (by omega), op1_s]
    have := forD_fold (ks := ["a", "turned", "raised", "found"]) (body := rvB P) (x := "at") (fun i : Nat => D.int (1 + (i : Int))) (rRv a T) (fun s => sF s.1) (srvO T) (fun s => ⟨(srv_k a T s 0).1, (srv_k a T s 0).2.1⟩) (List.range (a.length - 1)) _ s (fun n s s' hn hG => ?_) hs
    · rw [this, seqO_n, srv_end, runO_r]
    · have hn := List.mem_range.mp hn
      obtain ⟨x, hx, hG⟩ := op1_eq hG
      obtain ⟨u, v, hu, hv, hG⟩ := op2_eq hG
      cases hG
      obtain ⟨q, hq, hu⟩ := op1_eq hu
      refine ⟨rRvA a T (u, v) (1 + (n : Int)), sF u, ?_, (srv_k a T (u, v) _).2.2, (srv_k a T (u, v) 0).2.1⟩
      show rvB P (put "at" (.int (1 + (n : Int))) (rRv a T s)) (del "at" (sF s.1)) = _
      rw [srv_b, show 1 + (n : Int) - 1 = (n : Int) by omega, item_n hx (by omega), consO_s, consO_s, op1_s, w2_s hq, op1_s, app_s hu, seqO_n, srv_b2, consO_s, consO_s, op1_s, smul_s hv, op1_s, srv_a]
  · cases hr
/-! ### swhole_power -/
noncomputable def tabW : Tab := (104, f_smul, false) :: tabB
noncomputable def rW (a : List Q) (m : Int) (B : List Q) (l : Int) (F : List Q) : Rho := [("a", encL a), ("many", .int m), ("base", encL B), ("left", .int l), ("found", encL F)]
noncomputable abbrev swT (P : Params) : Rho → Sig → Option Bool := fun ρ σ => (ev (tbOf gl tabW) 17).T (fdOf P 198).scope ρ σ (whT (stAt (bd P 198) 2))
noncomputable abbrev swB (P : Params) : Rho → Sig → Option Out := fun ρ σ => xs (tbOf gl tabW) mts 17 (fdOf P 198).scope ρ σ (inB (stAt (bd P 198) 2))
theorem swp_run (P : Params) (a : List Q) (m : Int) : runF (tbOf gl tabW) mts 20 (fdOf P 198) ["a", "many"] [encL a, .int m] =
    runO (seqO (op1 (asgS mts false "base" [("a", encL a), ("many", .int m)] []) (ite2 (op2 (cmpD .Lt) (some (.int m)) (some (.int 0))) (l1 sinvM [encL a]) (some (encL a)))) (fun ρ σ => xs (tbOf gl tabW) mts 19 (fdOf P 198).scope ρ σ ((bd P 198).drop 1))) := by kernel_rfl
theorem swp_run2 (P : Params) (a B : List Q) (m : Int) : seqO (asgS mts false "base" [("a", encL a), ("many", .int m)] [] (encL B)) (fun ρ σ => xs (tbOf gl tabW) mts 19 (fdOf P 198).scope ρ σ ((bd P 198).drop 1)) =
    seqO (op1 (asgT mts ["found", "left"] [false, false] [("a", encL a), ("many", .int m), ("base", encL B)] []) (consO (op1 f_cut (consO (some (.lst [R1])) (consO (bCall .len [encL a]) (some [])))) (consO (bCall .abs [.int m]) (some [])))) (fun ρ σ => xs (tbOf gl tabW) mts 18 (fdOf P 198).scope ρ σ ((bd P 198).drop 2)) := by kernel_rfl
theorem swp_run3 (P : Params) (a B F : List Q) (m l : Int) : seqO (asgT mts ["found", "left"] [false, false] [("a", encL a), ("many", .int m), ("base", encL B)] [] [encL F, .int l]) (fun ρ σ => xs (tbOf gl tabW) mts 18 (fdOf P 198).scope ρ σ ((bd P 198).drop 2)) =
    seqO (whileD (swT P) (swB P) wF (rW a m B l F) []) (fun ρ σ => xs (tbOf gl tabW) mts 17 (fdOf P 198).scope ρ σ ((bd P 198).drop 3)) := by kernel_rfl
theorem swp_end (P : Params) (a B F : List Q) (m l : Int) : xs (tbOf gl tabW) mts 17 (fdOf P 198).scope (rW a m B l F) [] ((bd P 198).drop 3) = some (.ret (encL F) false) := by kernel_rfl
theorem sw_t (P : Params) (a B F : List Q) (m l : Int) : swT P (rW a m B l F) [] = some (decide (0 < l)) := by kernel_rfl
theorem sw_b (P : Params) (a B F : List Q) (m l : Int) : swB P (rW a m B l F) [] =
    seqO (ite2 (op2 (cmpD .Eq) (binD .Mod (.int l) (.int 2)) (some (.int 1))) (seqO (op1 (asgS mts false "found" (rW a m B l F) []) (f_smul [encL F, encL B])) (fun ρ σ => some (.next ρ σ))) (some (.next (rW a m B l F) []))) (fun ρ σ => xs (tbOf gl tabW) mts 16 (fdOf P 198).scope ρ σ ((inB (stAt (bd P 198) 2)).drop 1)) := by kernel_rfl
theorem sw_a (a B F G : List Q) (m l : Int) : seqO (asgS mts false "found" (rW a m B l F) [] (encL G)) (fun ρ σ => some (.next ρ σ)) = some (.next (rW a m B l G) []) := by kernel_rfl
theorem sw_b2 (P : Params) (a B F : List Q) (m l : Int) : xs (tbOf gl tabW) mts 16 (fdOf P 198).scope (rW a m B l F) [] ((inB (stAt (bd P 198) 2)).drop 1) =
    seqO (op1 (asgS mts false "base" (rW a m B l F) []) (f_smul [encL B, encL B])) (fun ρ σ => xs (tbOf gl tabW) mts 15 (fdOf P 198).scope ρ σ ((inB (stAt (bd P 198) 2)).drop 2)) := by kernel_rfl
theorem sw_b3 (P : Params) (a B C F : List Q) (m l : Int) : seqO (asgS mts false "base" (rW a m B l F) [] (encL C)) (fun ρ σ => xs (tbOf gl tabW) mts 15 (fdOf P 198).scope ρ σ ((inB (stAt (bd P 198) 2)).drop 2)) =
    seqO (op1 (asgS mts false "left" (rW a m C l F) []) (binD .FloorDiv (.int l) (.int 2))) (fun ρ σ => some (.next ρ σ)) := by kernel_rfl
theorem sw_a3 (a C F : List Q) (m l k : Int) : seqO (asgS mts false "left" (rW a m C l F) [] (.int k)) (fun ρ σ => some (.next ρ σ)) = some (.next (rW a m C k F) []) := by kernel_rfl
theorem mod2 (l : Nat) : binD .Mod (.int (l : Int)) (.int 2) = some (.int ((l % 2 : Nat) : Int)) := by
  simp only [binD, decide_eq_true (show (2 : Int) ≠ 0 by omega), if_true]
  rw [Int.fmod_eq_emod_of_nonneg _ (by omega)]; rfl
theorem div2 (l : Nat) : binD .FloorDiv (.int (l : Int)) (.int 2) = some (.int ((l / 2 : Nat) : Int)) := by
  simp only [binD, small_i (i := 2) (by omega), decide_eq_true (show (2 : Int) ≠ 0 by omega), Bool.and_self, if_true]
  rw [Int.fdiv_eq_ediv_of_nonneg _ (by omega)]; rfl
theorem sw_loop (P : Params) (a : List Q) (m : Int) : ∀ (k : Nat) (F B : List Q) (l : Nat) (G : List Q) (K : Nat), k ≤ K → swpL k F B l = some G → ∃ C, whileD (swT P) (swB P) K (rW a m B (l : Int) F) [] = some (.next (rW a m C 0 G) [])
  | 0, F, B, l, G, K, _, h => by cases h
  | k + 1, F, B, l, G, 0, hk, h => by omega
  | k + 1, F, B, l, G, K + 1, hk, h => by
    rw [swpL] at h
    rw [whileD, sw_t]
    split at h
    · rename_i h0
      cases h
      subst h0
      exact ⟨B, rfl⟩
    · rename_i h0
      obtain ⟨G', C, h1, h2, h⟩ := op2_eq h
      rw [decide_eq_true (show (0 : Int) < (l : Int) by omega), ite2_t, sw_b, mod2, op2_s, eq_int]
      obtain ⟨C', e⟩ := sw_loop P a m k G' C (l / 2) G K (by omega) h
      refine ⟨C', ?_⟩
      have hmid : ite2 (some ((((l % 2 : Nat) : Int)) == 1)) (seqO (op1 (asgS mts false "found" (rW a m B (l : Int) F) []) (f_smul [encL F, encL B])) (fun ρ σ => some (.next ρ σ))) (some (.next (rW a m B (l : Int) F) [])) = some (.next (rW a m B (l : Int) G') []) := by
        by_cases h3 : l % 2 = 1
        · rw [if_pos h3] at h1
          rw [show ((((l % 2 : Nat) : Int)) == 1) = true by rw [h3]; rfl, ite2_t, smul_s h1, op1_s, sw_a]
        · rw [if_neg h3] at h1
          cases h1
          rw [show ((((l % 2 : Nat) : Int)) == 1) = false by rw [show l % 2 = 0 by omega]; rfl, ite2_f]
      rw [hmid, seqO_n, sw_b2, smul_s h2, op1_s, sw_b3, div2, op1_s, sw_a3, seqO_n, e]
theorem swp_eq (P : Params) (ds : List D) (d : D) (h : f_swp ds = some d) : runF (tbOf gl tabW) mts 20 (fdOf P 198) ["a", "many"] ds = some (d, false) := by
  unfold f_swp at h
  split at h
  · rename_i x m
    obtain ⟨a, h1, hq⟩ := op1_eq h
    clear h
    obtain ⟨r, hr, rfl⟩ := Option.map_eq_some_iff.mp hq
    rw [decL_eq h1]
    unfold swpM at hr
    split at hr
    · rename_i c
      obtain ⟨c1, c2⟩ := Bool.and_eq_true_iff.mp c
      have ha := fit_le c1
      obtain ⟨B, hB, hr⟩ := op1_eq hr
      have e1 : ite2 (op2 (cmpD .Lt) (some (.int m)) (some (.int 0))) (l1 sinvM [encL a]) (some (encL a)) = some (encL B) := by
        rw [op2_s, lt_int]
        by_cases hm : m < 0
        · rw [if_pos hm] at hB
          rw [decide_eq_true hm, ite2_t, l1_s hB]
        · rw [if_neg hm] at hB
          cases hB
          rw [decide_eq_false hm, ite2_f]
      have e2 : bCall .abs [.int m] = some (.int (m.natAbs : Int)) := by rw [← abs_nat]; kernel_rfl
      have e3 : f_cut [.lst [R1], .int (a.length : Int)] = some (encL (cutM [(1, 1)] a.length)) := cut_s (a := [(1, 1)]) rfl ha
      obtain ⟨C, e4⟩ := sw_loop P a m 64 _ B m.natAbs r wF (by unfold wF; omega) hr
      rw [swp_run, e1, op1_s, swp_run2, len_s c1, consO_s, consO_s, op1_s, e3, e2, consO_s, consO_s, op1_s, swp_run3, e4, seqO_n, swp_end, runO_r]
    · cases hr
  · cases h
end Mine
namespace Mine
/-! ### _law_low -/
noncomputable def rLow (t b x y : Int) : Rho := [("top", .int t), ("bottom", .int b), ("other", .int y), ("one", .int x)]
noncomputable abbrev lwT (P : Params) : Rho → Sig → Option Bool := fun ρ σ => (ev (tbOf gl tab0) 10).T (fdOf P 217).scope ρ σ (whT (stAt (bd P 217) 1))
noncomputable abbrev lwB (P : Params) : Rho → Sig → Option Out := fun ρ σ => xs (tbOf gl tab0) mts 10 (fdOf P 217).scope ρ σ (inB (stAt (bd P 217) 1))
theorem lw_t (P : Params) (t b x y : Int) : lwT P (rLow t b x y) [] = some (decide (0 < y)) := by kernel_rfl
theorem lw_b (P : Params) (t b x y : Int) : lwB P (rLow t b x y) [] = seqO (op1 (asgT mts ["one", "other"] [false, false] (rLow t b x y) []) (consO (some (.int y)) (consO (binD .Mod (.int x) (.int y)) (some [])))) (fun ρ σ => some (.next ρ σ)) := by kernel_rfl
theorem lw_a (t b x y u v : Int) : seqO (op1 (asgT mts ["one", "other"] [false, false] (rLow t b x y) []) (consO (some (.int u)) (consO (some (.int v)) (some [])))) (fun ρ σ => some (.next ρ σ)) = some (.next (rLow t b u v) []) := by kernel_rfl
theorem lw_run (P : Params) (t b : Int) : runF (tbOf gl tab0) mts 12 (fdOf P 217) ["top", "bottom"] [.int t, .int b] =
    runO (seqO (whileD (lwT P) (lwB P) wF (rLow t b (if t < 0 then -t else t) b) []) (fun ρ σ => xs (tbOf gl tab0) mts 10 (fdOf P 217).scope ρ σ ((bd P 217).drop 2))) := by kernel_rfl
theorem lw_end (P : Params) (t b x y : Int) : xs (tbOf gl tab0) mts 10 (fdOf P 217).scope (rLow t b x y) [] ((bd P 217).drop 2) =
    seqO (retS false (op1 (fun ds => some (.tup ds)) (consO (binD .FloorDiv (.int t) (.int x)) (consO (binD .FloorDiv (.int b) (.int x)) (some []))))) (fun ρ σ => some (.next ρ σ)) := by kernel_rfl
theorem lw_loop (P : Params) (t b' : Int) : ∀ (k b a : Nat), b < k → whileD (lwT P) (lwB P) k (rLow t b' a b) [] = some (.next (rLow t b' (Nat.gcd a b) 0) [])
  | 0, b, a, h => absurd h (Nat.not_lt_zero _)
  | k + 1, b, a, h => by
    rw [whileD, lw_t]
    cases b with
    | zero =>
      rw [decide_eq_false (by omega), ite2_f, Nat.gcd_zero_right]
      rfl
    | succ b =>
      have e1 : (binD .Mod (.int (a : Int)) (.int ((b + 1 : Nat) : Int))) = some (.int ((a % (b + 1) : Nat) : Int)) := by
        have : ((b + 1 : Nat) : Int) ≠ 0 := by omega
        simp only [binD, decide_eq_true this, if_true]
        rw [Int.fmod_eq_emod_of_nonneg _ (by omega)]
        rfl
      rw [decide_eq_true (by omega), ite2_t, lw_b, e1, lw_a, seqO_n]
      rw [lw_loop P t b' k (a % (b + 1)) (b + 1) (Nat.lt_of_lt_of_le (Nat.mod_lt _ (Nat.succ_pos _)) (by omega))]
      rw [Nat.gcd_comm a (b + 1), Nat.gcd_rec (b + 1) a, Nat.gcd_comm (a % (b + 1)) (b + 1)]
theorem low_eq (P : Params) (ds : List D) (d : D) (h : f_low ds = some d) : runF (tbOf gl tab0) mts 12 (fdOf P 217) ["top", "bottom"] ds = some (d, false) := by
  unfold f_low at h
  split at h
  · rename_i t b
    obtain ⟨q, hq, rfl⟩ := Option.map_eq_some_iff.mp h
    clear h
    unfold lowM at hq
    split at hq
    · rename_i c
      simp only [Bool.and_eq_true, decide_eq_true_eq] at c
      obtain ⟨⟨⟨c1, c2⟩, c3⟩, c4⟩ := c
      cases hq
      obtain ⟨n, rfl⟩ := Int.eq_ofNat_of_zero_le c2
      have h1 := of_decide_eq_true c1
      have c4' : ((Int.gcd t (n : Int) : Nat) : Int) ≠ 0 := by omega
      rw [lw_run, abs_nat, lw_loop P t n wF n t.natAbs (by unfold wF; omega), seqO_n]
      have eg : Nat.gcd t.natAbs n = Int.gcd t (n : Int) := rfl
      rw [eg, lw_end]
      simp only [binD, c3, decide_eq_true c4', Bool.and_self, if_true, consO_s, op1_s, retS_s, seqO_r, runO_r]
      rfl
    · cases hq
  · cases h
theorem low_s {t b : Int} {q : Q} (h : lowM t b = some q) : f_low [.int t, .int b] = some (enc q) := by simp only [f_low, h]; rfl
/-! ### _law_times -/
noncomputable def tabL : Tab := (217, f_low, false) :: tab0
noncomputable def rOO (a b : List Q) : Rho := [("one", encL a), ("other", encL b)]
noncomputable def sLT (a b : List Q) (n : Nat) (t : Q) : Rho := [("one", encL a), ("other", encL b), ("at", .int (n : Int)), ("total", enc t)]
noncomputable def sLTs (a b : List Q) (n : Nat) (t : Q) (i : Int) (x y : Q) : Rho := [("one", encL a), ("other", encL b), ("at", .int (n : Int)), ("total", enc t), ("spot", .int i), ("b", enc y), ("a", enc x)]
noncomputable abbrev ltB (P : Params) : Rho → Sig → Option Out := fun ρ σ => xs (tbOf gl tabL) mts 18 (fdOf P 229).scope ρ σ (inB (stAt (bd P 229) 1))
noncomputable abbrev ltL (P : Params) : List Stmt := inB (stAt (inB (stAt (bd P 229) 1)) 1)
noncomputable abbrev ltJ (P : Params) : Rho → Sig → Option Out := fun ρ σ => xs (tbOf gl tabL) mts 16 (fdOf P 229).scope ρ σ (ltL P)
theorem lt_run (P : Params) (a b : List Q) : runF (tbOf gl tabL) mts 20 (fdOf P 229) ["one", "other"] [encL a, encL b] =
    runO (seqO (op1 (fun ds => forD ["one", "other", "found"] (ltB P) "at" ds (rOO a b) (sF [])) (op1 rangeD (consO (op1 (bCall .min) (consO (bCall .len [encL a]) (consO (bCall .len [encL b]) (some [])))) (some [])))) (fun ρ σ => xs (tbOf gl tabL) mts 18 (fdOf P 229).scope ρ σ ((bd P 229).drop 2))) := by kernel_rfl
theorem lt_end (P : Params) (a b F : List Q) : xs (tbOf gl tabL) mts 18 (fdOf P 229).scope (rOO a b) (sF F) ((bd P 229).drop 2) = some (.ret (encL F) false) := by kernel_rfl
theorem lt_b (P : Params) (a b F : List Q) (n : Nat) : ltB P (put "at" (.int (n : Int)) (rOO a b)) (del "at" (sF F)) =
    seqO (op1 (fun ds => forD ["one", "other", "at", "total", "found"] (ltJ P) "spot" ds (sLT a b n (0, 1)) (sF F)) (op1 rangeD (consO (some (.int ((n : Int) + 1))) (some [])))) (fun ρ σ => xs (tbOf gl tabL) mts 16 (fdOf P 229).scope ρ σ ((inB (stAt (bd P 229) 1)).drop 2)) := by kernel_rfl
theorem lt_c (P : Params) (a b F : List Q) (n : Nat) (t : Q) : xs (tbOf gl tabL) mts 16 (fdOf P 229).scope (sLT a b n t) (sF F) ((inB (stAt (bd P 229) 1)).drop 2) =
    seqO (appS "found" (sLT a b n t) (sF F) (F.map enc) (enc t)) (fun ρ σ => some (.next ρ σ)) := by kernel_rfl
theorem lt_i (P : Params) (a b F : List Q) (n : Nat) (i : Int) (t : Q) : ltJ P (put "spot" (.int i) (sLT a b n t)) (del "spot" (sF F)) =
    seqO (op1 (asgT mts ["a", "b"] [false, false] (put "spot" (.int i) (sLT a b n t)) (sF F)) (consO (itemOf (encL a) (.int i)) (consO (itemOf (encL b) (.int ((n : Int) - i))) (some [])))) (fun ρ σ => xs (tbOf gl tabL) mts 15 (fdOf P 229).scope ρ σ ((ltL P).drop 1)) := by kernel_rfl
theorem lt_i2 (P : Params) (a b F : List Q) (n : Nat) (i : Int) (t x y : Q) : seqO (asgT mts ["a", "b"] [false, false] (put "spot" (.int i) (sLT a b n t)) (sF F) [enc x, enc y]) (fun ρ σ => xs (tbOf gl tabL) mts 15 (fdOf P 229).scope ρ σ ((ltL P).drop 1)) =
    seqO (op1 (asgS mts false "total" (sLTs a b n t i x y) (sF F)) (op1 f_low (consO (op2 (binD .Add) (op2 (binD .Mult) (binD .Mult (.int t.1) (.int x.2)) (some (.int y.2))) (op2 (binD .Mult) (binD .Mult (.int x.1) (.int y.1)) (some (.int t.2))))
      (consO (op2 (binD .Mult) (binD .Mult (.int t.2) (.int x.2)) (some (.int y.2))) (some []))))) (fun ρ σ => some (.next ρ σ)) := by kernel_rfl
theorem lt_a (a b F : List Q) (n : Nat) (i : Int) (t u x y : Q) : seqO (asgS mts false "total" (sLTs a b n t i x y) (sF F) (enc u)) (fun ρ σ => some (.next ρ σ)) = some (.next (sLTs a b n u i x y) (sF F)) := by kernel_rfl
theorem lt_k (a b F : List Q) (n : Nat) (t : Q) (i : Int) (x y : Q) : keepK ["one", "other", "at", "total", "found"] (sLT a b n t) = sLT a b n t ∧ keepK ["one", "other", "at", "total", "found"] (sF F) = sF F ∧ keepK ["one", "other", "at", "total", "found"] (sLTs a b n t i x y) = sLT a b n t ∧
    keepK ["one", "other", "found"] (sLT a b n t) = rOO a b ∧ keepK ["one", "other", "found"] (rOO a b) = rOO a b ∧ keepK ["one", "other", "found"] (sF F) = sF F := ⟨by kernel_rfl, by kernel_rfl, by kernel_rfl, by kernel_rfl, by kernel_rfl, by kernel_rfl⟩
theorem lt_eq (P : Params) (ds : List D) (d : D) (h : f_lt ds = some d) : runF (tbOf gl tabL) mts 20 (fdOf P 229) ["one", "other"] ds = some (d, false) := by
  unfold f_lt at h
  split at h
  · obtain ⟨a, b, h1, h2, hq⟩ := op2_eq h
    clear h
    obtain ⟨r, hr, rfl⟩ := Option.map_eq_some_iff.mp hq
    rw [decL_eq h1, decL_eq h2]
    unfold ltM at hr
    split at hr
    · rename_i c
      obtain ⟨c1, c2⟩ := Bool.and_eq_true_iff.mp c
      have ha := fit_le c1
      have hb := fit_le c2
      rw [lt_run, len_s c1, len_s c2, consO_s, consO_s, op1_s, min_s _ _ ha hb, consO_s, op1_s, rangeD_1 _ (by omega), op1_s]
      have := forD_fold (ks := ["one", "other", "found"]) (body := ltB P) (x := "at") (fun i : Nat => D.int (i : Int)) (fun _ => rOO a b) sF (ltO a b) (fun F => ⟨(lt_k a b F 0 (0, 1) 0 (0, 1) (0, 1)).2.2.2.2.1, (lt_k a b F 0 (0, 1) 0 (0, 1) (0, 1)).2.2.2.2.2⟩) (List.range (min a.length b.length)) [] r (fun n F G hn hG => ?_) hr
      · rw [this, seqO_n, lt_end, runO_r]
      · have hn := List.mem_range.mp hn
        obtain ⟨t, ht, hG⟩ := op1_eq hG
        refine ⟨sLT a b n t, sF G, ?_, (lt_k a b G n t 0 t t).2.2.2.1, (lt_k a b G n t 0 t t).2.2.2.2.2⟩
        show ltB P (put "at" (.int (n : Int)) (rOO a b)) (del "at" (sF F)) = _
        have e := rangeD_1 (n + 1) (by omega)
        rw [show ((n + 1 : Nat) : Int) = (n : Int) + 1 by omega] at e
        rw [lt_b, consO_s, op1_s, e, op1_s]
        have := forD_fold (ks := ["one", "other", "at", "total", "found"]) (body := ltJ P) (x := "spot") (fun i : Nat => D.int (i : Int)) (sLT a b n) (fun _ => sF F) (ltI a b n) (fun t => ⟨(lt_k a b F n t 0 t t).1, (lt_k a b F n t 0 t t).2.1⟩) (List.range (n + 1)) (0, 1) t (fun i t u hi hu => ?_) ht
        · rw [this, seqO_n, lt_c, app_s hG]
          rfl
        · have hi := List.mem_range.mp hi
          obtain ⟨x, y, hx, hy, hu⟩ := op2_eq hu
          refine ⟨sLTs a b n u (i : Int) x y, sF F, ?_, (lt_k a b F n u _ x y).2.2.1, (lt_k a b F n u 0 u u).2.1⟩
          show ltJ P (put "spot" (.int (i : Int)) (sLT a b n t)) (del "spot" (sF F)) = _
          have ey := item_n hy (by omega)
          rw [show ((n - i : Nat) : Int) = (n : Int) - (i : Int) by omega] at ey
          split at hu
          · rename_i c
            simp only [Bool.and_eq_true, smQ] at c
            obtain ⟨⟨⟨⟨⟨⟨x1, x2⟩, y1, y2⟩, t1, t2⟩, m1⟩, m2⟩, m3⟩ := c
            rw [lt_i, item_n hx (by omega), ey, consO_s, consO_s, op1_s, lt_i2, mul_s t1, mul_s x1, mul_s t2]
            simp only [op2_s]
            rw [mul_s m1, mul_s m2, mul_s m3, op2_s]
            simp only [binD, consO_s, op1_s, low_s hu]
            rw [lt_a]
          · cases hu
    · cases hr
  · cases h
end Mine
namespace Mine
/-! ### _law_plus -/
noncomputable def plusQ (x y : Q) : Option Q := if smQ x && smQ y then lowM (x.1 * y.2 + y.1 * x.2) (x.2 * y.2) else Option.none
noncomputable def mapO2 (f : Q → Q → Option Q) : List Q → List Q → Option (List Q)
  | x :: a, y :: b => op2 (fun q qs => some (q :: qs)) (f x y) (mapO2 f a b)
  | _, _ => some []
noncomputable def lpM (a b : List Q) : Option (List Q) := if fit a && fit b then mapO2 plusQ a b else Option.none
noncomputable def f_lp : List D → Option D
  | [x, y] => op2 (fun a b => (lpM a b).map encL) (decL x) (decL y)
  | _ => Option.none
noncomputable def compG (T : Tb) (n : Nat) (e : Expr) (x y : Str) (ds : List D) (c : Rho) : Option D := op1 (fun ds => if okLen ds.length then some (D.lst ds) else Option.none) (mapD (tup2 fun a b => (ev T n).E (lcS e) (put y b (put x a c)) [] (lcE e)) ds)
theorem mapO2_len {f : Q → Q → Option Q} : ∀ {a b r : List Q}, mapO2 f a b = some r → r.length ≤ a.length
  | [], b, r, h => by rw [mapO2] at h; cases h; exact Nat.zero_le _; simp
  | x :: a, [], r, h => by rw [mapO2] at h; cases h; exact Nat.zero_le _; simp
  | x :: a, y :: b, r, h => by
    rw [mapO2] at h
    obtain ⟨q, qs, h1, h2, h3⟩ := op2_eq h
    cases h3
    have := mapO2_len h2
    simp; omega
theorem mapD_zip {f : D → D → Option D} {g : Q → Q → Option Q} (k : ∀ x y q, g x y = some q → f (enc x) (enc y) = some (enc q)) : ∀ {a b r : List Q}, mapO2 g a b = some r → mapD (tup2 f) (List.zipWith (fun x y => D.tup [x, y]) (a.map enc) (b.map enc)) = some (r.map enc)
  | [], b, r, h => by rw [mapO2] at h; cases h; rfl; simp
  | x :: a, [], r, h => by rw [mapO2] at h; cases h; rfl; simp
  | x :: a, y :: b, r, h => by
    rw [mapO2] at h
    obtain ⟨q, qs, h1, h2, h3⟩ := op2_eq h
    cases h3
    have := mapD_zip k h2
    show mapD (tup2 f) (D.tup [enc x, enc y] :: List.zipWith (fun x y => D.tup [x, y]) (a.map enc) (b.map enc)) = _
    rw [mapD, this]
    show consO (f (enc x) (enc y)) _ = _
    rw [k x y q h1, consO_s]; rfl
noncomputable abbrev lpC (P : Params) : Expr := retE (stAt (bd P 222) 0)
theorem lp_run (P : Params) (a b : List Q) : runF (tbOf gl tabL) mts 12 (fdOf P 222) ["one", "other"] [encL a, encL b] =
    runO (seqO (retS true (op2 (compG (tbOf gl tabL) 10 (lpC P) "a" "b") (zipD (encL a) (encL b)) (some []))) (fun ρ σ => some (.next ρ σ))) := by kernel_rfl
theorem lp_e (P : Params) (x y : Q) : (ev (tbOf gl tabL) 10).E (lcS (lpC P)) (put "b" (enc y) (put "a" (enc x) [])) [] (lcE (lpC P)) =
    op1 f_low (consO (op2 (binD .Add) (binD .Mult (.int x.1) (.int y.2)) (binD .Mult (.int y.1) (.int x.2))) (consO (binD .Mult (.int x.2) (.int y.2)) (some []))) := by kernel_rfl
theorem zip_s {a b : List Q} (ha : fit a = true) (hb : fit b = true) : zipD (encL a) (encL b) = some (List.zipWith (fun x y => D.tup [x, y]) (a.map enc) (b.map enc)) := by
  have := fit_le ha
  have := fit_le hb
  have o1 : okLen a.length = true := decide_eq_true (by omega)
  have o2 : okLen b.length = true := decide_eq_true (by omega)
  simp only [zipD, encL, List.length_map, o1, o2, Bool.and_self, if_true]
theorem lp_eq (P : Params) (ds : List D) (d : D) (h : f_lp ds = some d) : runF (tbOf gl tabL) mts 12 (fdOf P 222) ["one", "other"] ds = some (d, true) := by
  unfold f_lp at h
  split at h
  · obtain ⟨a, b, h1, h2, hq⟩ := op2_eq h
    clear h
    obtain ⟨r, hr, rfl⟩ := Option.map_eq_some_iff.mp hq
    rw [decL_eq h1, decL_eq h2]
    unfold lpM at hr
    split at hr
    · rename_i c
      obtain ⟨c1, c2⟩ := Bool.and_eq_true_iff.mp c
      have := fit_le c1
      have hl := mapO2_len hr
      have o : okLen (r.map enc).length = true := decide_eq_true (by rw [List.length_map]; omega)
      have hm := mapD_zip (f := fun a b => (ev (tbOf gl tabL) 10).E (lcS (lpC P)) (put "b" b (put "a" a [])) [] (lcE (lpC P))) (fun x y q hq => by
        unfold plusQ at hq
        split at hq
        · rename_i c
          obtain ⟨s1, s2, s3, s4⟩ := smQ_2 c
          show (ev (tbOf gl tabL) 10).E (lcS (lpC P)) (put "b" (enc y) (put "a" (enc x) [])) [] (lcE (lpC P)) = _
          rw [lp_e, mul_s s1, mul_s s3, mul_s s2]
          simp only [op2_s, binD, consO_s, op1_s, low_s hq]
        · cases hq) hr
      rw [lp_run, zip_s c1 c2, op2_s]
      unfold compG
      rw [hm, op1_s, if_pos o, retS_s, seqO_r, runO_r]; rfl
    · cases hr
  · cases h
/-! ### equal lists -/
theorem toPs_enc : ∀ l : List Q, toPs (l.map enc) = some (l.map fun q => PyData.tuple [.int q.1, .int q.2])
  | [] => rfl
  | q :: l => by
    have := toPs_enc l
    rw [List.map_cons, List.map_cons]
    simp only [toPs, toP_enc, this]
noncomputable def pdQ (q : Q) : PyData := .tuple [.int q.1, .int q.2]
theorem can_all : ∀ l : List Q, PyData.canLayAll0 (l.map pdQ) = true
  | [] => rfl
  | q :: l => by
    have := can_all l
    rw [List.map_cons]
    simp only [PyData.canLayAll0, pdQ, PyData.canLay0, Bool.and_self] at this ⊢
    simpa using this
theorem depth_q (q : Q) : (pdQ q).depth ≤ 5 := by
  simp [pdQ, PyData.depth, PyData.depthAll]
theorem depth_all : ∀ l : List Q, PyData.depthAll (l.map pdQ) ≤ 6
  | [] => by simp [PyData.depthAll]
  | q :: l => by
    have := depth_all l
    have := depth_q q
    rw [List.map_cons]
    simp only [PyData.depthAll] at *
    omega
theorem eqv_q (q : Q) : (pdQ q).eqv (pdQ q) = true := by simp [pdQ, PyData.eqv, PyData.eqvAll]
theorem eqv_all : ∀ l : List Q, PyData.eqvAll (l.map pdQ) (l.map pdQ) = true
  | [] => by simp [PyData.eqvAll]
  | q :: l => by
    rw [List.map_cons]
    simp only [PyData.eqvAll, eqv_q, eqv_all l, Bool.and_self]
theorem shaped_l (l : List Q) : SeqAt.shaped (.list (l.map pdQ)) = true := by
  have h1 := can_all l
  have h2 := depth_all l
  unfold SeqAt.shaped
  have h3 : (PyData.list (l.map pdQ)).canLay0 = true := by simpa [PyData.canLay0] using h1
  have h4 : (PyData.list (l.map pdQ)).depth ≤ 64 := by
    simp only [PyData.depth]
    omega
  rw [h3, decide_eq_true h4]; rfl
theorem toP_l (l : List Q) : toP (encL l) = some (.list (l.map pdQ)) := by
  have := toPs_enc l
  simp only [encL, toP, this]
  rfl
theorem eqD_l (l : List Q) : eqD (encL l) (encL l) = some true := by
  unfold eqD
  rw [toP_l]
  simp only [shaped_l, Bool.and_self, if_true]
  congr 1
  simpa [PyData.eqv] using eqv_all l
theorem ne_l (l : List Q) : cmpD .NotEq (encL l) (encL l) = some false := by
  show (eqD (encL l) (encL l)).map (!·) = _
  rw [eqD_l]; rfl
noncomputable def tabZ : Tab := (222, f_lp, true) :: (229, f_lt, false) :: (217, f_low, false) :: (177, f_scos, false) :: (170, f_ssin, false) :: tabC
end Mine
namespace Mine
/-! ### the facts, for every draw -/
noncomputable def okO {A : Type} (x : Option A) (f : A → Bool) : Bool := match x with
  | some a => f a
  | Option.none => false
theorem okO_eq {A : Type} {x : Option A} {f : A → Bool} (h : okO x f = true) : ∃ a, x = some a ∧ f a = true := by
  unfold okO at h
  split at h
  · exact ⟨_, rfl, h⟩
  · cases h
noncomputable def isS (x : Option (List Q)) (l : List Q) : Bool := okO x fun a => decide (a = l)
theorem isS_eq {x : Option (List Q)} {l : List Q} (h : isS x l = true) : x = some l := by
  obtain ⟨a, h1, h2⟩ := okO_eq h
  rw [h1, of_decide_eq_true h2]
noncomputable def oneL (n : Nat) : List Q := (1, 1) :: List.replicate (n - 1) (0, 1)
noncomputable def letL (n : Nat) : List Q := (0, 1) :: (1, 1) :: List.replicate (n - 2) (0, 1)
noncomputable def negL (z : List Q) : List Q := z.map fun q => (0 - q.1, q.2)
noncomputable def chkA (z : List Q) : Bool := isS (op1 slogM (sexpM z)) z
noncomputable def chkB (z : List Q) : Bool := okO (srvM z) fun back => isS (scpM z back) (letL z.length) && isS (scpM back z) (letL z.length)
noncomputable def chkC (z : List Q) : Bool := okO (scM z) fun p => okO (satM z) fun arcs => okO (ltM p.1 p.1) fun ss => okO (ltM p.2 p.2) fun oo => okO (scM arcs) fun p2 => okO (sderM z) fun dz => okO (ltM dz p.2) fun y =>
  isS (lpM ss oo) (oneL z.length) && isS (ltM z p2.2) p2.1 && isS (sderM p.1) y
noncomputable def chkD (z : List Q) : Bool := okO (sexpM z) fun e1 => okO (sexpM (negL z)) fun e2 => isS (ltM e1 e2) (oneL z.length)
noncomputable def chkE (z : List Q) : Bool := isS (op1 sderM (sintM z)) z
noncomputable def chkF (f : List Q) : Bool := isS (op1 sexpM (slogM f)) f && okO (sinvM f) fun i => isS (ltM f i) (oneL f.length)
noncomputable def chkP (f : List Q) (t b : Int) : Bool := okO (lowM t b) fun r => okO (spowM f r) fun p => okO (swpM p b) fun x => isS (swpM f t) x
noncomputable def chkR (f : List Q) (k : Nat) : Bool := okO (foldO (fun r _ => ltM r f) (List.range k) (oneL f.length)) fun R => isS (swpM f (k : Int)) R && okO (swpM f (0 - (k : Int))) fun y => isS (ltM y R) (oneL f.length)
noncomputable def pool : List Q := [(0, 1), (1, 1), (-1, 1), (1, 2), (-2, 3), (3, 1), (2, 5)]
noncomputable def tls : List (List Q) := (pool.map fun a => [a]) ++ (pool.map fun a => pool.map fun b => [a, b]).flatten
noncomputable def zs (c : Q) : List (List Q) := tls.map fun t => (0, 1) :: c :: t
noncomputable def fs : List (List Q) := tls.map fun t => (1, 1) :: t ++ [(1, 3)]
end Mine
namespace Mine
/-! ### the law's first stretch -/
noncomputable def orO (x : Option Bool) (y : Option Bool) : Option Bool := op1 (fun c => if c = true then some c else op1 (fun c => if c = true then some c else some false) y) x
theorem orO_f (c : Bool) : orO (some false) (some c) = some c := by cases c <;> rfl
noncomputable abbrev TZ : Tb := tbOf gl tabZ
noncomputable abbrev lb (P : Params) (i : Nat) : List Stmt := ((bd P 241).take 13).drop i
noncomputable abbrev lsc (P : Params) : Scope := (fdOf P 241).scope
noncomputable def rA0 (n : Nat) (z : List Q) : Rho := [("size", .int (n : Int)), ("zero", encL z)]
noncomputable def rA1 (n : Nat) (z f : List Q) : Rho := [("size", .int (n : Int)), ("zero", encL z), ("first", encL f)]
noncomputable def rA2 (n : Nat) (z f o : List Q) : Rho := [("size", .int (n : Int)), ("zero", encL z), ("first", encL f), ("one", encL o)]
noncomputable def rA3 (n : Nat) (z f o l : List Q) : Rho := [("size", .int (n : Int)), ("zero", encL z), ("first", encL f), ("one", encL o), ("letter", encL l)]
noncomputable def rA4 (n : Nat) (z f o l b : List Q) : Rho := [("size", .int (n : Int)), ("zero", encL z), ("first", encL f), ("one", encL o), ("letter", encL l), ("back", encL b)]
noncomputable def rA5 (n : Nat) (z f o l b s c a : List Q) : Rho := [("size", .int (n : Int)), ("zero", encL z), ("first", encL f), ("one", encL o), ("letter", encL l), ("back", encL b), ("arcs", encL a), ("others", encL c), ("sines", encL s)]
noncomputable abbrev rest (P : Params) (N i : Nat) : Rho → Sig → Option Out := fun ρ σ => xs TZ mts N (lsc P) ρ σ (lb P i)
noncomputable def rF : Option Out := some (.ret (.bool false) false)
theorem asg_5 (n : Nat) (z f : List Q) : asgS mts false "first" (rA0 n z) [] (encL f) = some (.next (rA1 n z f) []) := by kernel_rfl
theorem asg_6 (n : Nat) (z f o : List Q) : asgS mts false "one" (rA1 n z f) [] (encL o) = some (.next (rA2 n z f o) []) := by kernel_rfl
theorem asg_7 (n : Nat) (z f o l : List Q) : asgS mts false "letter" (rA2 n z f o) [] (encL l) = some (.next (rA3 n z f o l) []) := by kernel_rfl
theorem asg_9 (n : Nat) (z f o l b : List Q) : asgS mts false "back" (rA3 n z f o l) [] (encL b) = some (.next (rA4 n z f o l b) []) := by kernel_rfl
theorem asg_11 (n : Nat) (z f o l b s c a : List Q) : asgT mts ["sines", "others", "arcs"] [false, false, false] (rA4 n z f o l b) [] [encL s, encL c, encL a] = some (.next (rA5 n z f o l b s c a) []) := by kernel_rfl
theorem law_4 (P : Params) (n : Nat) (z : List Q) : xs TZ mts 40 (lsc P) (rA0 n z) [] (lb P 4) =
    seqO (op1 (asgS mts false "first" (rA0 n z) []) (op2 (binD .Add) (op2 (binD .Add) (some (.lst [R1])) (sliceD (encL z) (some (.int 2)) Option.none)) (some (.lst [enc (1, 3)])))) (rest P 39 5) := by kernel_rfl
theorem law_5 (P : Params) (n : Nat) (z f : List Q) : rest P 39 5 (rA1 n z f) [] =
    seqO (op1 (asgS mts false "one" (rA1 n z f) []) (op2 (binD .Add) (some (.lst [R1])) (op2 (binD .Mult) (some (.lst [R0])) (some (.int ((n : Int) - 1)))))) (rest P 38 6) := by kernel_rfl
theorem law_6 (P : Params) (n : Nat) (z f o : List Q) : rest P 38 6 (rA2 n z f o) [] =
    seqO (op1 (asgS mts false "letter" (rA2 n z f o) []) (op2 (binD .Add) (some (.lst [R0, R1])) (op2 (binD .Mult) (some (.lst [R0])) (some (.int ((n : Int) - 2)))))) (rest P 37 7) := by kernel_rfl
theorem law_7 (P : Params) (n : Nat) (z f o l : List Q) : rest P 37 7 (rA3 n z f o l) [] =
    seqO (ite2 (orO (op2 (cmpD .NotEq) (op1 (l1 slogM) (consO (l1 sexpM [encL z]) (some []))) (some (encL z))) (op2 (cmpD .NotEq) (op1 (l1 sexpM) (consO (l1 slogM [encL f]) (some []))) (sliceD (encL f) Option.none (some (.int (n : Int)))))) rF (some (.next (rA3 n z f o l) []))) (rest P 36 8) := by kernel_rfl
theorem law_8 (P : Params) (n : Nat) (z f o l : List Q) : rest P 36 8 (rA3 n z f o l) [] = seqO (op1 (asgS mts false "back" (rA3 n z f o l) []) (l1 srvM [encL z])) (rest P 35 9) := by kernel_rfl
theorem law_9 (P : Params) (n : Nat) (z f o l b : List Q) : rest P 35 9 (rA4 n z f o l b) [] =
    seqO (ite2 (orO (op2 (cmpD .NotEq) (f_scp [encL z, encL b]) (some (encL l))) (op2 (cmpD .NotEq) (f_scp [encL b, encL z]) (some (encL l)))) rF (some (.next (rA4 n z f o l b) []))) (rest P 34 10) := by kernel_rfl
theorem law_10 (P : Params) (n : Nat) (z f o l b : List Q) : rest P 34 10 (rA4 n z f o l b) [] =
    seqO (op1 (asgT mts ["sines", "others", "arcs"] [false, false, false] (rA4 n z f o l b) []) (consO (f_ssin [encL z]) (consO (f_scos [encL z]) (consO (l1 satM [encL z]) (some []))))) (rest P 33 11) := by kernel_rfl
theorem law_11 (P : Params) (n : Nat) (z f o l b s c a : List Q) : rest P 33 11 (rA5 n z f o l b s c a) [] =
    seqO (ite2 (op2 (cmpD .NotEq) (op1 f_lp (consO (f_lt [encL s, encL s]) (consO (f_lt [encL c, encL c]) (some [])))) (some (encL o))) rF (some (.next (rA5 n z f o l b s c a) []))) (rest P 32 12) := by kernel_rfl
/-- the last argument of the last call of the second test -/
noncomputable def arg1 : Expr → Expr
  | .Call _ (a :: _) _ _ => a
  | e => e
noncomputable def arg2 : Expr → Expr
  | .Call _ (_ :: a :: _) _ _ => a
  | e => e
noncomputable def cmpL : Expr → Expr
  | .Compare l _ _ _ => l
  | e => e
noncomputable def orR : Expr → Expr
  | .BoolOp _ (_ :: b :: _) _ => b
  | e => e
noncomputable def ifT : Stmt → Expr
  | .If t _ _ _ => t
  | _ => .Name "x" default
noncomputable abbrev ngC (P : Params) : Expr := arg1 (arg2 (cmpL (orR (ifT (stAt (bd P 241) 12)))))
theorem law_12 (P : Params) (n : Nat) (z f o l b s c a : List Q) : rest P 32 12 (rA5 n z f o l b s c a) [] =
    seqO (ite2 (orO (op2 (cmpD .NotEq) (op1 f_lt (consO (some (encL z)) (consO (f_scos [encL a]) (some [])))) (f_ssin [encL a]))
      (op2 (cmpD .NotEq) (op1 f_lt (consO (l1 sexpM [encL z]) (consO (op1 (l1 sexpM) (consO (op2 (compG TZ 26 (ngC P) "a" "b") (lstD (encL z)) (some [])) (some []))) (some [])))) (some (encL o)))) rF (some (.next (rA5 n z f o l b s c a) []))) (rest P 31 13) := by kernel_rfl
theorem ng_e (P : Params) (x y : Int) : (ev TZ 26).E (lcS (ngC P)) (put "b" (.int y) (put "a" (.int x) [])) [] (lcE (ngC P)) = some (enc (0 - x, y)) := by kernel_rfl
theorem ng_s (P : Params) (z : List Q) (h : fit z = true) : op2 (compG TZ 26 (ngC P) "a" "b") (lstD (encL z)) (some []) = some (encL (negL z)) := by
  have := fit_le h
  have o : okLen z.length = true := decide_eq_true (by omega)
  have m : ∀ l : List Q, mapD (tup2 fun a b => (ev TZ 26).E (lcS (ngC P)) (put "b" b (put "a" a [])) [] (lcE (ngC P))) (l.map enc) = some ((negL l).map enc) := by
    intro l
    induction l with
    | nil => rfl
    | cons q l ih =>
      show consO (tup2 _ (enc q)) _ = _
      have e : tup2 (fun a b => (ev TZ 26).E (lcS (ngC P)) (put "b" b (put "a" a [])) [] (lcE (ngC P))) (enc q) = some (enc (0 - q.1, q.2)) := ng_e P q.1 q.2
      rw [e, ih, consO_s]; rfl
  have e1 : lstD (encL z) = some (z.map enc) := by simp only [encL, lstD, List.length_map, o, if_true]
  have o2 : okLen ((negL z).map enc).length = true := by rw [List.length_map, negL, List.length_map]; exact o
  rw [e1, op2_s]
  unfold compG
  rw [m, op1_s, if_pos o2]; rfl
end Mine
namespace Mine
/-! ### the law's second stretch -/
noncomputable abbrev lc (P : Params) (i : Nat) : List Stmt := ((bd P 241).take 20).drop i
noncomputable abbrev restB (P : Params) (N i : Nat) : Rho → Sig → Option Out := fun ρ σ => xs TZ mts N (lsc P) ρ σ (lc P i)
noncomputable def rB (f o z c s : List Q) (b t : Int) : Rho := [("first", encL f), ("one", encL o), ("zero", encL z), ("others", encL c), ("sines", encL s), ("bottom", .int b), ("top", .int t)]
noncomputable def rBr (f o z c s : List Q) (b t : Int) (r : List Q) : Rho := [("first", encL f), ("one", encL o), ("zero", encL z), ("others", encL c), ("sines", encL s), ("bottom", .int b), ("top", .int t), ("raised", encL r)]
noncomputable abbrev lwB16 (P : Params) : Rho → Sig → Option Out := fun ρ σ => xs TZ mts 37 (lsc P) ρ σ (inB (stAt (bd P 241) 16))
theorem law_14 (P : Params) (f o z c s : List Q) (b t : Int) : restB P 40 14 (rB f o z c s b t) [] =
    seqO (ite2 (op2 (cmpD .NotEq) (op1 f_swp (consO (op1 f_spow (consO (some (encL f)) (consO (f_low [.int t, .int b]) (some [])))) (consO (some (.int b)) (some [])))) (f_swp [encL f, .int t])) rF (some (.next (rB f o z c s b t) []))) (restB P 39 15) := by kernel_rfl
theorem law_15 (P : Params) (f o z c s : List Q) (b t : Int) : restB P 39 15 (rB f o z c s b t) [] = restB P 38 16 (rBr f o z c s b t o) [] := by kernel_rfl
theorem law_16 (P : Params) (f o z c s r : List Q) (b t : Int) : restB P 38 16 (rBr f o z c s b t r) [] =
    seqO (op1 (fun ds => forD ["first", "one", "zero", "others", "sines", "bottom", "top", "raised"] (lwB16 P) "turn" ds (rBr f o z c s b t r) []) (op1 rangeD (consO (bCall .abs [.int t]) (some [])))) (restB P 37 17) := by kernel_rfl
theorem law_16b (P : Params) (f o z c s r : List Q) (b t i : Int) : lwB16 P (put "turn" (.int i) (rBr f o z c s b t r)) [] =
    seqO (op1 (asgS mts false "raised" (put "turn" (.int i) (rBr f o z c s b t r)) []) (f_lt [encL r, encL f])) (fun ρ σ => some (.next ρ σ)) := by kernel_rfl
theorem asg_16 (f o z c s r q : List Q) (b t i : Int) : asgS mts false "raised" (put "turn" (.int i) (rBr f o z c s b t r)) [] (encL q) = some (.next (put "turn" (.int i) (rBr f o z c s b t q)) []) := by kernel_rfl
theorem keep_16 (f o z c s r : List Q) (b t i : Int) : keepK ["first", "one", "zero", "others", "sines", "bottom", "top", "raised"] (put "turn" (.int i) (rBr f o z c s b t r)) = rBr f o z c s b t r ∧ keepK ["first", "one", "zero", "others", "sines", "bottom", "top", "raised"] (rBr f o z c s b t r) = rBr f o z c s b t r := ⟨by kernel_rfl, by kernel_rfl⟩
theorem law_17 (P : Params) (f o z c s r : List Q) (b t : Int) : restB P 37 17 (rBr f o z c s b t r) [] =
    seqO (ite2 (orO (op2 (cmpD .NotEq) (op1 f_swp (consO (some (encL f)) (consO (bCall .abs [.int t]) (some [])))) (some (encL r)))
      (op2 (cmpD .NotEq) (op1 f_lt (consO (op1 f_swp (consO (some (encL f)) (consO (op2 (binD .Sub) (some (.int 0)) (bCall .abs [.int t])) (some [])))) (consO (some (encL r)) (some [])))) (some (encL o)))) rF (some (.next (rBr f o z c s b t r) []))) (restB P 36 18) := by kernel_rfl
theorem law_18 (P : Params) (f o z c s r : List Q) (b t : Int) : restB P 36 18 (rBr f o z c s b t r) [] =
    seqO (ite2 (orO (op2 (cmpD .NotEq) (op1 f_lt (consO (some (encL f)) (consO (l1 sinvM [encL f]) (some [])))) (some (encL o))) (op2 (cmpD .NotEq) (op1 (l1 sderM) (consO (l1 sintM [encL z]) (some []))) (some (encL z)))) rF (some (.next (rBr f o z c s b t r) []))) (restB P 35 19) := by kernel_rfl
theorem law_19 (P : Params) (f o z c s r : List Q) (b t : Int) : restB P 35 19 (rBr f o z c s b t r) [] =
    seqO (ite2 (op2 (cmpD .NotEq) (op1 (l1 sderM) (consO (f_ssin [encL z]) (some []))) (op1 f_lt (consO (l1 sderM [encL z]) (consO (some (encL c)) (some []))))) rF (some (.next (rBr f o z c s b t r) []))) (restB P 34 20) := by kernel_rfl
theorem restB_end (P : Params) (ρ : Rho) : restB P 34 20 ρ [] = some (.next ρ []) := by kernel_rfl
/-! ### the mirrors on written lists -/
theorem lt_s {a b r : List Q} (h : ltM a b = some r) : f_lt [encL a, encL b] = some (encL r) := by simp only [f_lt, decL_enc, op2_s, h, Option.map_some]
theorem lp_s {a b r : List Q} (h : lpM a b = some r) : f_lp [encL a, encL b] = some (encL r) := by simp only [f_lp, decL_enc, op2_s, h, Option.map_some]
theorem scp_s {a b r : List Q} (h : scpM a b = some r) : f_scp [encL a, encL b] = some (encL r) := by simp only [f_scp, decL_enc, op2_s, h, Option.map_some]
theorem spow_s {a r : List Q} {q : Q} (h : spowM a q = some r) : f_spow [encL a, enc q] = some (encL r) := by simp only [f_spow, decL_enc, dec_enc, op2_s, h, Option.map_some]
theorem swp_s {a r : List Q} {m : Int} (h : swpM a m = some r) : f_swp [encL a, .int m] = some (encL r) := by simp only [f_swp, decL_enc, op1_s, h, Option.map_some]
theorem ssin_s {a : List Q} {p : List Q × List Q} (h : scM a = some p) : f_ssin [encL a] = some (encL p.1) := by simp only [f_ssin, decL_enc, op1_s, h, Option.map_some]
theorem scos_s {a : List Q} {p : List Q × List Q} (h : scM a = some p) : f_scos [encL a] = some (encL p.2) := by simp only [f_scos, decL_enc, op1_s, h, Option.map_some]
theorem abs_s (t : Int) : bCall .abs [.int t] = some (.int (t.natAbs : Int)) := by rw [← abs_nat]; kernel_rfl
theorem add_s {a b : List Q} (ha : a.length ≤ 400) (hb : b.length ≤ 400) : binD .Add (encL a) (encL b) = some (encL (a ++ b)) := by
  have o : okLen (a.length + b.length) = true := decide_eq_true (by omega)
  simp only [encL, binD, List.length_map, o, if_true, List.map_append]
theorem rep_s {q : Q} {n : Int} (h : 0 ≤ n ∧ n ≤ 400) : binD .Mult (.lst [enc q]) (.int n) = some (encL (List.replicate n.toNat q)) := by
  have o : okLen n.toNat = true := decide_eq_true (by omega)
  simp only [binD, o, small_i (i := n) (by omega), Bool.and_self, if_true, encL, List.map_replicate]
/-- the first stretch, whole -/
theorem segA (P : Params) (n : Nat) (z f back s c arcs e1 e2 sx ox ss oo dz ez : List Q) (hn : z.length = n) (hn2 : 2 ≤ n) (hn4 : n ≤ 100) (hf : f = (1, 1) :: z.drop 2 ++ [(1, 3)])
    (h1 : op1 slogM (sexpM z) = some z) (h2 : op1 sexpM (slogM f) = some f) (h3 : srvM z = some back) (h4 : scpM z back = some (letL n)) (h5 : scpM back z = some (letL n))
    (h6 : scM z = some (s, c)) (h7 : satM z = some arcs) (h8 : ltM s s = some ss) (h9 : ltM c c = some oo) (h10 : lpM ss oo = some (oneL n)) (h11 : scM arcs = some (sx, ox)) (h12 : ltM z ox = some sx)
    (h13 : sexpM z = some e1) (h14 : sexpM (negL z) = some e2) (h15 : ltM e1 e2 = some (oneL n)) :
    xs TZ mts 40 (lsc P) (rA0 n z) [] (lb P 4) = some (.next (rA5 n z f (oneL n) (letL n) back s c arcs) []) := by
  have fz : fit z = true := decide_eq_true (by omega)
  have hfl : f.length = n := by rw [hf]; simp; omega
  have ff : fit f = true := decide_eq_true (by omega)
  have oz : okLen (z.map enc).length = true := decide_eq_true (by simp; omega)
  have e2' : sliceD (encL z) (some (.int 2)) Option.none = some (encL (z.drop 2)) := by
    simp only [encL, sliceD, decide_eq_true (show (0 : Int) ≤ 2 by omega), oz, Bool.and_self, if_true, List.map_drop]; rfl
  have a1 : binD .Add (.lst [R1]) (encL (z.drop 2)) = some (encL ((1, 1) :: z.drop 2)) := add_s (a := [(1, 1)]) (b := z.drop 2) (by simp) (by simp; omega)
  have a2 : binD .Add (encL ((1, 1) :: z.drop 2)) (.lst [enc (1, 3)]) = some (encL f) := by rw [hf]; exact add_s (a := (1, 1) :: z.drop 2) (b := [(1, 3)]) (by simp; omega) (by simp)
  have b1 : binD .Mult (.lst [R0]) (.int ((n : Int) - 1)) = some (encL (List.replicate (n - 1) (0, 1))) := by
    rw [show R0 = enc (0, 1) from rfl, rep_s (by omega), show ((n : Int) - 1).toNat = n - 1 by omega]
  have b2 : binD .Add (.lst [R1]) (encL (List.replicate (n - 1) (0, 1))) = some (encL (oneL n)) := add_s (a := [(1, 1)]) (b := List.replicate (n - 1) (0, 1)) (by simp) (by simp; omega)
  have c1 : binD .Mult (.lst [R0]) (.int ((n : Int) - 2)) = some (encL (List.replicate (n - 2) (0, 1))) := by
    rw [show R0 = enc (0, 1) from rfl, rep_s (by omega), show ((n : Int) - 2).toNat = n - 2 by omega]
  have c2 : binD .Add (.lst [R0, R1]) (encL (List.replicate (n - 2) (0, 1))) = some (encL (letL n)) := add_s (a := [(0, 1), (1, 1)]) (b := List.replicate (n - 2) (0, 1)) (by simp) (by simp; omega)
  obtain ⟨x1, hx1, hx2⟩ := op1_eq h1
  rw [h13] at hx1
  cases hx1
  obtain ⟨y1, hy1, hy2⟩ := op1_eq h2
  have sl : sliceD (encL f) Option.none (some (.int (n : Int))) = some (encL f) := by rw [slice_s ff, List.take_of_length_le (by omega)]
  have q12 := ng_s P z fz
  rw [law_4, e2', op2_s, a1, op2_s, a2, op1_s, asg_5, seqO_n, law_5, op2_s, b1, op2_s, b2, op1_s, asg_6, seqO_n, law_6, op2_s, c1, op2_s, c2, op1_s, asg_7, seqO_n, law_7]
  simp only [l1_s h13, l1_s hy1, consO_s, op1_s, l1_s hx2, l1_s hy2, sl, op2_s, ne_l, orO_f, ite2_f, seqO_n]
  rw [law_8, l1_s h3, op1_s, asg_9, seqO_n, law_9]
  simp only [scp_s h4, scp_s h5, op2_s, ne_l, orO_f, ite2_f, seqO_n]
  rw [law_10]
  simp only [ssin_s h6, scos_s h6, l1_s h7, consO_s, op1_s]
  rw [asg_11, seqO_n, law_11]
  simp only [lt_s h8, lt_s h9, consO_s, op1_s, lp_s h10, op2_s, ne_l, ite2_f, seqO_n]
  rw [law_12, q12]
  simp only [scos_s h11, ssin_s h11, consO_s, op1_s, lt_s h12, op2_s, ne_l, l1_s h13, l1_s h14, lt_s h15, orO_f, ite2_f, seqO_n]
  kernel_rfl
theorem segB (P : Params) (n : Nat) (z f s c r i y p p2 x dz dy e1 : List Q) (q : Q) (b t : Int)
    (ht : t.natAbs ≤ 100)
    (h1 : lowM t b = some q) (h2 : spowM f q = some p) (h3 : swpM p b = some x) (h4 : swpM f t = some x)
    (h5 : foldO (fun r (_ : Nat) => ltM r f) (List.range t.natAbs) (oneL n) = some r) (h6 : swpM f (t.natAbs : Int) = some r) (h7 : swpM f (0 - (t.natAbs : Int)) = some y) (h8 : ltM y r = some (oneL n))
    (h9 : sinvM f = some i) (h10 : ltM f i = some (oneL n)) (h11 : sintM z = some e1) (h12 : sderM e1 = some z) (h13 : scM z = some (s, c)) (h14 : sderM z = some dz) (h15 : ltM dz c = some dy) (h16 : sderM s = some dy) :
    restB P 40 14 (rB f (oneL n) z c s b t) [] = some (.next (rBr f (oneL n) z c s b t r) []) := by
  have hloop := forD_fold (ks := ["first", "one", "zero", "others", "sines", "bottom", "top", "raised"]) (body := lwB16 P) (x := "turn") (fun i : Nat => D.int (i : Int)) (rBr f (oneL n) z c s b t) (fun _ => []) (fun r (_ : Nat) => ltM r f) (fun r => ⟨(keep_16 f (oneL n) z c s r b t 0).2, rfl⟩) (List.range t.natAbs) (oneL n) r
    (fun i r r' _ hr => ⟨put "turn" (.int (i : Int)) (rBr f (oneL n) z c s b t r'), [], by
      show lwB16 P (put "turn" (.int (i : Int)) (rBr f (oneL n) z c s b t r)) [] = _
      rw [law_16b, lt_s hr, op1_s, asg_16, seqO_n], (keep_16 f (oneL n) z c s r' b t i).1, rfl⟩) h5
  rw [law_14]
  simp only [low_s h1, consO_s, op1_s, spow_s h2, swp_s h3, swp_s h4, op2_s, ne_l, ite2_f, seqO_n]
  rw [law_15, law_16, abs_s, consO_s, op1_s, rangeD_1 _ (by omega), op1_s, hloop, seqO_n, law_17, abs_s]
  simp only [binD, consO_s, op1_s, swp_s h6, swp_s h7, lt_s h8, op2_s, ne_l, orO_f, ite2_f, seqO_n]
  rw [law_18]
  simp only [l1_s h9, consO_s, op1_s, lt_s h10, op2_s, ne_l, l1_s h11, l1_s h12, orO_f, ite2_f, seqO_n]
  rw [law_19]
  simp only [ssin_s h13, consO_s, op1_s, l1_s h16, l1_s h14, lt_s h15, op2_s, ne_l, ite2_f, seqO_n]
  exact restB_end P _
end Mine
namespace Mine
/-! ### the table of all functions -/
structure Gd (P : Params) (hb : Heap) (mg mb : Str → Option Value) : Prop where
  X : (hd.heap_39 P).In hb
  g : hb.Ns mainGlobals mg
  b : hb.Ns builtinsNs mb
  lim : hb.NoLimit
  bu : ∀ x : Str, x ≠ "__name__" → mb x = bootBuiltins x
section
variable {P : Params} {hb : Heap} {mg mb : Str → Option Value}
theorem gd_none (G : Gd P hb mg mb) {x : Str} (e : nsIn (hd.heap_39 P) mainGlobals x = some Option.none) : mg x = Option.none := ns_none_of G.X G.g e
theorem gd_some (G : Gd P hb mg mb) {x : Str} {v : Value} (e : nsIn (hd.heap_39 P) mainGlobals x = some (some v)) : mg x = some v := mg_of G.X G.g e
theorem gd_built (G : Gd P hb mg mb) {x : Str} {v : Value} (h : x ≠ "__name__") (e : bootBuiltins x = some v) : mb x = some v := (G.bu x h).trans e
theorem glK (P : Params) : ∀ (l : List (Str × D)), (l.all fun p => match p.2 with
    | .fn a => decide (nsIn (hd.heap_39 P) mainGlobals p.1 = some (some (.ref a)))
    | _ => false) = true → ∀ {hb : Heap} {mg mb : Str → Option Value}, Gd P hb mg mb → ∀ x d, get x l = some d → ∃ v, mg x = some v ∧ Rep hb.get? v d
  | [], _, hb, mg, mb, G, x, d, e => by cases e
  | (y, f) :: r, h, hb, mg, mb, G, x, d, e => by
    have h := Bool.and_eq_true_iff.mp h
    rw [get] at e
    split at e
    · rename_i q
      cases e
      subst q
      have h1 := h.1
      dsimp only at h1
      split at h1
      · exact ⟨_, gd_some G (of_decide_eq_true h1), .fn _⟩
      · cases h1
    · exact glK P r h.2 G x d e
theorem tup2_rep {V : View} {a : Addr} {i j : Int} {t u : Tok} {n : Nat} (h : V a = some (tupO [.int i t, .int j u] n)) : Rep V (.ref a) (.tup [.int i, .int j]) := .tup h (.cons (.int _ _) (.cons (.int _ _) .nil))
theorem gl_ok (G : Gd P hb mg mb) : ∀ x d, gl x = some d → ∃ v, mg x = some v ∧ Rep hb.get? v d := by
  intro x d e
  unfold gl at e
  rw [get] at e
  split at e
  · rename_i q
    cases e
    subst q
    exact ⟨_, gd_some G (by kernel_rfl), .fn _⟩
  · rw [get] at e
    split at e
    · rename_i q
      cases e
      subst q
      exact ⟨.ref 42, gd_some G (by kernel_rfl), tup2_rep (t := 232) (u := 233) (n := 0) (G.X 42 _ (by kernel_rfl))⟩
    · rw [get] at e
      split at e
      · rename_i q
        cases e
        subst q
        exact ⟨.ref 43, gd_some G (by kernel_rfl), tup2_rep (t := 235) (u := 236) (n := 0) (G.X 43 _ (by kernel_rfl))⟩
      · exact glK P _ (by kernel_rfl) G x d e
theorem bi_ok (G : Gd P hb mg mb) : ∀ b : Bi, mg (bName b) = Option.none ∧ mb (bName b) = some (bVal b)
  | .abs => ⟨gd_none G (by kernel_rfl), gd_built G (by decide) (by kernel_rfl)⟩
  | .len => ⟨gd_none G (by kernel_rfl), gd_built G (by decide) (by kernel_rfl)⟩
  | .min => ⟨gd_none G (by kernel_rfl), gd_built G (by decide) (by kernel_rfl)⟩
  | .list => ⟨gd_none G (by kernel_rfl), gd_built G (by decide) (by kernel_rfl)⟩
theorem tb0 {prog : Program} {w : World} (G : Gd P hb mg mb) : TbOk prog w (tbOf gl tab0) hb mg mb 0 :=
  tb_nil G.g G.b (gl_ok G) (bi_ok G) ⟨gd_none G (by kernel_rfl), gd_built G (by decide) (by kernel_rfl)⟩ ⟨gd_none G (by kernel_rfl), gd_built G (by decide) (by kernel_rfl)⟩
theorem gd_fn (G : Gd P hb mg mb) {a : Addr} {pn : List Str} (c : fdChk P a pn = true) (b : ∀ vs : List Value, vs.length = pn.length → bindArgs (fdOf P a) ⟨vs, []⟩ = pure (pn.zip vs)) : FdOk hb a (fdOf P a) pn := fd_ok G.X G.lim c b
theorem FdOk.has {h : Heap} {a : Addr} {fd : FuncData} {pn : List Str} (O : FdOk h a fd pn) : ∃ o fd, h.get? a = some o ∧ o.data = .func fd := let ⟨o, h1, h2⟩ := O.obj; ⟨o, fd, h1, h2⟩
theorem bind1 {P : Params} {a : Addr} {x : Str} (h : ∀ v, bindArgs (fdOf P a) ⟨[v], []⟩ = pure [(x, v)]) : ∀ vs : List Value, vs.length = [x].length → bindArgs (fdOf P a) ⟨vs, []⟩ = pure ([x].zip vs)
  | [v], _ => h v
  | [], h => by cases h
  | _ :: _ :: _, h => by cases h
theorem bind2 {P : Params} {a : Addr} {x y : Str} (h : ∀ v u, bindArgs (fdOf P a) ⟨[v, u], []⟩ = pure [(x, v), (y, u)]) : ∀ vs : List Value, vs.length = [x, y].length → bindArgs (fdOf P a) ⟨vs, []⟩ = pure ([x, y].zip vs)
  | [v, u], _ => h v u
  | [], h => by cases h
  | [_], h => by cases h
  | _ :: _ :: _ :: _, h => by cases h
theorem bind3 {P : Params} {a : Addr} {x y z : Str} (h : ∀ v u t, bindArgs (fdOf P a) ⟨[v, u, t], []⟩ = pure [(x, v), (y, u), (z, t)]) : ∀ vs : List Value, vs.length = [x, y, z].length → bindArgs (fdOf P a) ⟨vs, []⟩ = pure ([x, y, z].zip vs)
  | [v, u, t], _ => h v u t
  | [], h => by cases h
  | [_], h => by cases h
  | [_, _], h => by cases h
  | _ :: _ :: _ :: _ :: _, h => by cases h
theorem gcdE (P : Params) (ds : List D) (d : D) (h : f_gcd ds = some d) : runF (tbOf gl tab0) mts 12 (fdOf P 41) ["a", "b"] ds = some (d, false) := by
  unfold f_gcd at h
  split at h
  · split at h
    · rename_i c
      cases h
      exact gcd_eq P _ _ c
    · cases h
  · cases h
theorem fo_41 (G : Gd P hb mg mb) : FdOk hb 41 (fdOf P 41) ["a", "b"] := gd_fn G (by kernel_rfl) (bind2 fun _ _ => by kernel_rfl)
theorem ln_41 {ds : List D} {d : D} (h : f_gcd ds = some d) : ds.length = 2 := by
  unfold f_gcd at h
  split at h
  · rfl
  · cases h
theorem co_41 {prog : Program} {w : World} {dep : Nat} (G : Gd P hb mg mb) (K : TbOk prog w (tbOf gl tab0) hb mg mb dep) : ∀ ds d, f_gcd ds = some d → CallOK prog w hb (dep + 1) 41 ds d false :=
  fun ds d h => call_ok K (fo_41 G) (ln_41 h) (gcdE P ds d h) id
theorem fo_50 (G : Gd P hb mg mb) : FdOk hb 50 (fdOf P 50) ["top", "bottom"] := gd_fn G (by kernel_rfl) (bind2 fun _ _ => by kernel_rfl)
theorem ln_50 {ds : List D} {d : D} (h : f_rat ds = some d) : ds.length = 2 := by
  unfold f_rat at h
  split at h
  · rfl
  · cases h
theorem co_50 {prog : Program} {w : World} {dep : Nat} (G : Gd P hb mg mb) (K : TbOk prog w (tbOf gl tab1) hb mg mb dep) : ∀ ds d, f_rat ds = some d → CallOK prog w hb (dep + 1) 50 ds d false :=
  fun ds d h => call_ok K (fo_50 G) (ln_50 h) (rat_eq P ds d h) id
theorem fo_57 (G : Gd P hb mg mb) : FdOk hb 57 (fdOf P 57) ["a", "b"] := gd_fn G (by kernel_rfl) (bind2 fun _ _ => by kernel_rfl)
theorem ln_57 {ds : List D} {d : D} (h : (w2 radd) ds = some d) : ds.length = 2 := by
  unfold w2 at h
  split at h
  · rfl
  · cases h
theorem co_57 {prog : Program} {w : World} {dep : Nat} (G : Gd P hb mg mb) (K : TbOk prog w (tbOf gl tab2) hb mg mb dep) : ∀ ds d, (w2 radd) ds = some d → CallOK prog w hb (dep + 1) 57 ds d false :=
  fun ds d h => call_ok K (fo_57 G) (ln_57 h) (radd_eq P ds d h) id
theorem fo_64 (G : Gd P hb mg mb) : FdOk hb 64 (fdOf P 64) ["a", "b"] := gd_fn G (by kernel_rfl) (bind2 fun _ _ => by kernel_rfl)
theorem ln_64 {ds : List D} {d : D} (h : (w2 rsub) ds = some d) : ds.length = 2 := by
  unfold w2 at h
  split at h
  · rfl
  · cases h
theorem co_64 {prog : Program} {w : World} {dep : Nat} (G : Gd P hb mg mb) (K : TbOk prog w (tbOf gl tab2) hb mg mb dep) : ∀ ds d, (w2 rsub) ds = some d → CallOK prog w hb (dep + 1) 64 ds d false :=
  fun ds d h => call_ok K (fo_64 G) (ln_64 h) (rsub_eq P ds d h) id
theorem fo_71 (G : Gd P hb mg mb) : FdOk hb 71 (fdOf P 71) ["a", "b"] := gd_fn G (by kernel_rfl) (bind2 fun _ _ => by kernel_rfl)
theorem ln_71 {ds : List D} {d : D} (h : (w2 rmul) ds = some d) : ds.length = 2 := by
  unfold w2 at h
  split at h
  · rfl
  · cases h
theorem co_71 {prog : Program} {w : World} {dep : Nat} (G : Gd P hb mg mb) (K : TbOk prog w (tbOf gl tab2) hb mg mb dep) : ∀ ds d, (w2 rmul) ds = some d → CallOK prog w hb (dep + 1) 71 ds d false :=
  fun ds d h => call_ok K (fo_71 G) (ln_71 h) (rmul_eq P ds d h) id
theorem fo_78 (G : Gd P hb mg mb) : FdOk hb 78 (fdOf P 78) ["a", "b"] := gd_fn G (by kernel_rfl) (bind2 fun _ _ => by kernel_rfl)
theorem ln_78 {ds : List D} {d : D} (h : (w2 rdiv) ds = some d) : ds.length = 2 := by
  unfold w2 at h
  split at h
  · rfl
  · cases h
theorem co_78 {prog : Program} {w : World} {dep : Nat} (G : Gd P hb mg mb) (K : TbOk prog w (tbOf gl tab2) hb mg mb dep) : ∀ ds d, (w2 rdiv) ds = some d → CallOK prog w hb (dep + 1) 78 ds d false :=
  fun ds d h => call_ok K (fo_78 G) (ln_78 h) (rdiv_eq P ds d h) id
theorem fo_85 (G : Gd P hb mg mb) : FdOk hb 85 (fdOf P 85) ["a", "b"] := gd_fn G (by kernel_rfl) (bind2 fun _ _ => by kernel_rfl)
theorem ln_85 {ds : List D} {d : D} (h : f_rcompare ds = some d) : ds.length = 2 := by
  unfold f_rcompare at h
  split at h
  · rfl
  · cases h
theorem co_85 {prog : Program} {w : World} {dep : Nat} (G : Gd P hb mg mb) (K : TbOk prog w (tbOf gl tab2) hb mg mb dep) : ∀ ds d, f_rcompare ds = some d → CallOK prog w hb (dep + 1) 85 ds d false :=
  fun ds d h => call_ok K (fo_85 G) (ln_85 h) (rcompare_eq P ds d h) id
theorem fo_92 (G : Gd P hb mg mb) : FdOk hb 92 (fdOf P 92) ["a", "order"] := gd_fn G (by kernel_rfl) (bind2 fun _ _ => by kernel_rfl)
theorem ln_92 {ds : List D} {d : D} (h : f_cut ds = some d) : ds.length = 2 := by
  unfold f_cut at h
  split at h
  · rfl
  · cases h
theorem co_92 {prog : Program} {w : World} {dep : Nat} (G : Gd P hb mg mb) (K : TbOk prog w (tbOf gl tab3) hb mg mb dep) : ∀ ds d, f_cut ds = some d → CallOK prog w hb (dep + 1) 92 ds d false :=
  fun ds d h => call_ok K (fo_92 G) (ln_92 h) (cut_eq P ds d h) id
theorem fo_99 (G : Gd P hb mg mb) : FdOk hb 99 (fdOf P 99) ["a", "b", "at"] := gd_fn G (by kernel_rfl) (bind3 fun _ _ _ => by kernel_rfl)
theorem ln_99 {ds : List D} {d : D} (h : f_mixed ds = some d) : ds.length = 3 := by
  unfold f_mixed at h
  split at h
  · rfl
  · cases h
theorem co_99 {prog : Program} {w : World} {dep : Nat} (G : Gd P hb mg mb) (K : TbOk prog w (tbOf gl tab4) hb mg mb dep) : ∀ ds d, f_mixed ds = some d → CallOK prog w hb (dep + 1) 99 ds d false :=
  fun ds d h => call_ok K (fo_99 G) (ln_99 h) (mix_eq P ds d h) id
theorem fo_104 (G : Gd P hb mg mb) : FdOk hb 104 (fdOf P 104) ["a", "b"] := gd_fn G (by kernel_rfl) (bind2 fun _ _ => by kernel_rfl)
theorem ln_104 {ds : List D} {d : D} (h : f_smul ds = some d) : ds.length = 2 := by
  unfold f_smul at h
  split at h
  · rfl
  · cases h
theorem co_104 {prog : Program} {w : World} {dep : Nat} (G : Gd P hb mg mb) (K : TbOk prog w (tbOf gl tab5a) hb mg mb dep) : ∀ ds d, f_smul ds = some d → CallOK prog w hb (dep + 1) 104 ds d true :=
  fun ds d h => call_ok K (fo_104 G) (ln_104 h) (smul_eq P ds d h) id
theorem fo_111 (G : Gd P hb mg mb) : FdOk hb 111 (fdOf P 111) ["a"] := gd_fn G (by kernel_rfl) (bind1 fun _ => by kernel_rfl)
theorem ln_111 {ds : List D} {d : D} (h : (l1 sinvM) ds = some d) : ds.length = 1 := by
  unfold l1 at h
  split at h
  · rfl
  · cases h
theorem co_111 {prog : Program} {w : World} {dep : Nat} (G : Gd P hb mg mb) (K : TbOk prog w (tbOf gl tabA) hb mg mb dep) : ∀ ds d, (l1 sinvM) ds = some d → CallOK prog w hb (dep + 1) 111 ds d false :=
  fun ds d h => call_ok K (fo_111 G) (ln_111 h) (svi_eq P ds d h) id
theorem fo_116 (G : Gd P hb mg mb) : FdOk hb 116 (fdOf P 116) ["a"] := gd_fn G (by kernel_rfl) (bind1 fun _ => by kernel_rfl)
theorem ln_116 {ds : List D} {d : D} (h : (l1 sderM) ds = some d) : ds.length = 1 := by
  unfold l1 at h
  split at h
  · rfl
  · cases h
theorem co_116 {prog : Program} {w : World} {dep : Nat} (G : Gd P hb mg mb) (K : TbOk prog w (tbOf gl tabA) hb mg mb dep) : ∀ ds d, (l1 sderM) ds = some d → CallOK prog w hb (dep + 1) 116 ds d true :=
  fun ds d h => call_ok K (fo_116 G) (ln_116 h) (sder_eq P ds d h) id
theorem fo_121 (G : Gd P hb mg mb) : FdOk hb 121 (fdOf P 121) ["a"] := gd_fn G (by kernel_rfl) (bind1 fun _ => by kernel_rfl)
theorem ln_121 {ds : List D} {d : D} (h : (l1 sintM) ds = some d) : ds.length = 1 := by
  unfold l1 at h
  split at h
  · rfl
  · cases h
theorem co_121 {prog : Program} {w : World} {dep : Nat} (G : Gd P hb mg mb) (K : TbOk prog w (tbOf gl tabA) hb mg mb dep) : ∀ ds d, (l1 sintM) ds = some d → CallOK prog w hb (dep + 1) 121 ds d false :=
  fun ds d h => call_ok K (fo_121 G) (ln_121 h) (sint_eq P ds d h) id
theorem fo_128 (G : Gd P hb mg mb) : FdOk hb 128 (fdOf P 128) ["a", "number"] := gd_fn G (by kernel_rfl) (bind2 fun _ _ => by kernel_rfl)
theorem ln_128 {ds : List D} {d : D} (h : f_need ds = some d) : ds.length = 2 := by
  unfold f_need at h
  split at h
  · rfl
  · cases h
theorem co_128 {prog : Program} {w : World} {dep : Nat} (G : Gd P hb mg mb) (K : TbOk prog w (tbOf gl tabA) hb mg mb dep) : ∀ ds d, f_need ds = some d → CallOK prog w hb (dep + 1) 128 ds d false :=
  fun ds d h => call_ok K (fo_128 G) (ln_128 h) (need_eq P ds d h) id
theorem fo_135 (G : Gd P hb mg mb) : FdOk hb 135 (fdOf P 135) ["a", "b"] := gd_fn G (by kernel_rfl) (bind2 fun _ _ => by kernel_rfl)
theorem ln_135 {ds : List D} {d : D} (h : f_scp ds = some d) : ds.length = 2 := by
  unfold f_scp at h
  split at h
  · rfl
  · cases h
theorem co_135 {prog : Program} {w : World} {dep : Nat} (G : Gd P hb mg mb) (K : TbOk prog w (tbOf gl tabB) hb mg mb dep) : ∀ ds d, f_scp ds = some d → CallOK prog w hb (dep + 1) 135 ds d false :=
  fun ds d h => call_ok K (fo_135 G) (ln_135 h) (scp_eq P ds d h) id
theorem fo_142 (G : Gd P hb mg mb) : FdOk hb 142 (fdOf P 142) ["a"] := gd_fn G (by kernel_rfl) (bind1 fun _ => by kernel_rfl)
theorem ln_142 {ds : List D} {d : D} (h : (l1 srvM) ds = some d) : ds.length = 1 := by
  unfold l1 at h
  split at h
  · rfl
  · cases h
theorem co_142 {prog : Program} {w : World} {dep : Nat} (G : Gd P hb mg mb) (K : TbOk prog w (tbOf gl tabB) hb mg mb dep) : ∀ ds d, (l1 srvM) ds = some d → CallOK prog w hb (dep + 1) 142 ds d false :=
  fun ds d h => call_ok K (fo_142 G) (ln_142 h) (srv_eq P ds d h) id
theorem fo_149 (G : Gd P hb mg mb) : FdOk hb 149 (fdOf P 149) ["a"] := gd_fn G (by kernel_rfl) (bind1 fun _ => by kernel_rfl)
theorem ln_149 {ds : List D} {d : D} (h : (l1 sexpM) ds = some d) : ds.length = 1 := by
  unfold l1 at h
  split at h
  · rfl
  · cases h
theorem co_149 {prog : Program} {w : World} {dep : Nat} (G : Gd P hb mg mb) (K : TbOk prog w (tbOf gl tabB) hb mg mb dep) : ∀ ds d, (l1 sexpM) ds = some d → CallOK prog w hb (dep + 1) 149 ds d false :=
  fun ds d h => call_ok K (fo_149 G) (ln_149 h) (sexp_eq P ds d h) id
theorem fo_156 (G : Gd P hb mg mb) : FdOk hb 156 (fdOf P 156) ["a"] := gd_fn G (by kernel_rfl) (bind1 fun _ => by kernel_rfl)
theorem ln_156 {ds : List D} {d : D} (h : (l1 slogM) ds = some d) : ds.length = 1 := by
  unfold l1 at h
  split at h
  · rfl
  · cases h
theorem co_156 {prog : Program} {w : World} {dep : Nat} (G : Gd P hb mg mb) (K : TbOk prog w (tbOf gl tabB) hb mg mb dep) : ∀ ds d, (l1 slogM) ds = some d → CallOK prog w hb (dep + 1) 156 ds d false :=
  fun ds d h => call_ok K (fo_156 G) (ln_156 h) (slog_eq P ds d h) id
theorem fo_163 (G : Gd P hb mg mb) : FdOk hb 163 (fdOf P 163) ["a"] := gd_fn G (by kernel_rfl) (bind1 fun _ => by kernel_rfl)
theorem ln_163 {ds : List D} {d : D} (h : f_sc ds = some d) : ds.length = 1 := by
  unfold f_sc at h
  split at h
  · rfl
  · cases h
theorem co_163 {prog : Program} {w : World} {dep : Nat} (G : Gd P hb mg mb) (K : TbOk prog w (tbOf gl tabB) hb mg mb dep) : ∀ ds d, f_sc ds = some d → CallOK prog w hb (dep + 1) 163 ds d false :=
  fun ds d h => call_ok K (fo_163 G) (ln_163 h) (sc_eq P ds d h) id
theorem fo_170 (G : Gd P hb mg mb) : FdOk hb 170 (fdOf P 170) ["a"] := gd_fn G (by kernel_rfl) (bind1 fun _ => by kernel_rfl)
theorem ln_170 {ds : List D} {d : D} (h : f_ssin ds = some d) : ds.length = 1 := by
  unfold f_ssin at h
  split at h
  · rfl
  · cases h
theorem co_170 {prog : Program} {w : World} {dep : Nat} (G : Gd P hb mg mb) (K : TbOk prog w (tbOf gl tabC) hb mg mb dep) : ∀ ds d, f_ssin ds = some d → CallOK prog w hb (dep + 1) 170 ds d false :=
  fun ds d h => call_ok K (fo_170 G) (ln_170 h) (ssin_eq P ds d h) id
theorem fo_177 (G : Gd P hb mg mb) : FdOk hb 177 (fdOf P 177) ["a"] := gd_fn G (by kernel_rfl) (bind1 fun _ => by kernel_rfl)
theorem ln_177 {ds : List D} {d : D} (h : f_scos ds = some d) : ds.length = 1 := by
  unfold f_scos at h
  split at h
  · rfl
  · cases h
theorem co_177 {prog : Program} {w : World} {dep : Nat} (G : Gd P hb mg mb) (K : TbOk prog w (tbOf gl tabC) hb mg mb dep) : ∀ ds d, f_scos ds = some d → CallOK prog w hb (dep + 1) 177 ds d false :=
  fun ds d h => call_ok K (fo_177 G) (ln_177 h) (scos_eq P ds d h) id
theorem fo_184 (G : Gd P hb mg mb) : FdOk hb 184 (fdOf P 184) ["a"] := gd_fn G (by kernel_rfl) (bind1 fun _ => by kernel_rfl)
theorem ln_184 {ds : List D} {d : D} (h : (l1 satM) ds = some d) : ds.length = 1 := by
  unfold l1 at h
  split at h
  · rfl
  · cases h
theorem co_184 {prog : Program} {w : World} {dep : Nat} (G : Gd P hb mg mb) (K : TbOk prog w (tbOf gl tabB) hb mg mb dep) : ∀ ds d, (l1 satM) ds = some d → CallOK prog w hb (dep + 1) 184 ds d false :=
  fun ds d h => call_ok K (fo_184 G) (ln_184 h) (sat_eq P ds d h) id
theorem fo_191 (G : Gd P hb mg mb) : FdOk hb 191 (fdOf P 191) ["a", "number"] := gd_fn G (by kernel_rfl) (bind2 fun _ _ => by kernel_rfl)
theorem ln_191 {ds : List D} {d : D} (h : f_spow ds = some d) : ds.length = 2 := by
  unfold f_spow at h
  split at h
  · rfl
  · cases h
theorem co_191 {prog : Program} {w : World} {dep : Nat} (G : Gd P hb mg mb) (K : TbOk prog w (tbOf gl tabB) hb mg mb dep) : ∀ ds d, f_spow ds = some d → CallOK prog w hb (dep + 1) 191 ds d false :=
  fun ds d h => call_ok K (fo_191 G) (ln_191 h) (spo_eq P ds d h) id
theorem fo_198 (G : Gd P hb mg mb) : FdOk hb 198 (fdOf P 198) ["a", "many"] := gd_fn G (by kernel_rfl) (bind2 fun _ _ => by kernel_rfl)
theorem ln_198 {ds : List D} {d : D} (h : f_swp ds = some d) : ds.length = 2 := by
  unfold f_swp at h
  split at h
  · rfl
  · cases h
theorem co_198 {prog : Program} {w : World} {dep : Nat} (G : Gd P hb mg mb) (K : TbOk prog w (tbOf gl tabW) hb mg mb dep) : ∀ ds d, f_swp ds = some d → CallOK prog w hb (dep + 1) 198 ds d false :=
  fun ds d h => call_ok K (fo_198 G) (ln_198 h) (swp_eq P ds d h) id
theorem fo_217 (G : Gd P hb mg mb) : FdOk hb 217 (fdOf P 217) ["top", "bottom"] := gd_fn G (by kernel_rfl) (bind2 fun _ _ => by kernel_rfl)
theorem ln_217 {ds : List D} {d : D} (h : f_low ds = some d) : ds.length = 2 := by
  unfold f_low at h
  split at h
  · rfl
  · cases h
theorem co_217 {prog : Program} {w : World} {dep : Nat} (G : Gd P hb mg mb) (K : TbOk prog w (tbOf gl tab0) hb mg mb dep) : ∀ ds d, f_low ds = some d → CallOK prog w hb (dep + 1) 217 ds d false :=
  fun ds d h => call_ok K (fo_217 G) (ln_217 h) (low_eq P ds d h) id
theorem fo_222 (G : Gd P hb mg mb) : FdOk hb 222 (fdOf P 222) ["one", "other"] := gd_fn G (by kernel_rfl) (bind2 fun _ _ => by kernel_rfl)
theorem ln_222 {ds : List D} {d : D} (h : f_lp ds = some d) : ds.length = 2 := by
  unfold f_lp at h
  split at h
  · rfl
  · cases h
theorem co_222 {prog : Program} {w : World} {dep : Nat} (G : Gd P hb mg mb) (K : TbOk prog w (tbOf gl tabL) hb mg mb dep) : ∀ ds d, f_lp ds = some d → CallOK prog w hb (dep + 1) 222 ds d true :=
  fun ds d h => call_ok K (fo_222 G) (ln_222 h) (lp_eq P ds d h) id
theorem fo_229 (G : Gd P hb mg mb) : FdOk hb 229 (fdOf P 229) ["one", "other"] := gd_fn G (by kernel_rfl) (bind2 fun _ _ => by kernel_rfl)
theorem ln_229 {ds : List D} {d : D} (h : f_lt ds = some d) : ds.length = 2 := by
  unfold f_lt at h
  split at h
  · rfl
  · cases h
theorem co_229 {prog : Program} {w : World} {dep : Nat} (G : Gd P hb mg mb) (K : TbOk prog w (tbOf gl tabL) hb mg mb dep) : ∀ ds d, f_lt ds = some d → CallOK prog w hb (dep + 1) 229 ds d false :=
  fun ds d h => call_ok K (fo_229 G) (ln_229 h) (lt_eq P ds d h) id
theorem cdp {prog : Program} {w : World} {a : Addr} {f : List D → Option D} {fr : Bool} {i j : Nat} (h : ∀ ds d, f ds = some d → CallOK prog w hb i a ds d fr) (q : i ≤ j) : ∀ ds d, f ds = some d → CallOK prog w hb j a ds d fr := fun ds d e => (h ds d e).deeper q
theorem cdf {prog : Program} {w : World} {a : Addr} {f : List D → Option D} {fr : Bool} {i j : Nat} (h : ∀ ds d, f ds = some d → CallOK prog w hb i a ds d fr) (q : i ≤ j) : ∀ ds d, f ds = some d → CallOK prog w hb j a ds d false :=
  fun ds d e A E Q s O vs a1 a2 a3 a4 a5 k => (h ds d e).deeper q A E Q s O vs a1 a2 a3 a4 a5 fun v h' tk' k1 r _ => k v h' tk' k1 r fun z => by cases z
section
variable {prog : Program} {w : World}
theorem tk1 (G : Gd P hb mg mb) : TbOk prog w (tbOf gl tab1) hb mg mb 1 := tb_cons (tb0 G) (fo_41 G).has (co_41 G (tb0 G))
theorem tk2 (G : Gd P hb mg mb) : TbOk prog w (tbOf gl tab2) hb mg mb 2 := tb_cons (tk1 G) (fo_50 G).has (co_50 G (tk1 G))
theorem tk3 (G : Gd P hb mg mb) : TbOk prog w (tbOf gl tab3) hb mg mb 7 :=
  tb_cons (tb_cons (tb_cons (tb_cons (tb_cons (tk2 G) (fo_57 G).has (co_57 G (tk2 G))) (fo_64 G).has (cdp (co_64 G (tk2 G)) (by decide))) (fo_71 G).has (cdp (co_71 G (tk2 G)) (by decide))) (fo_78 G).has (cdp (co_78 G (tk2 G)) (by decide))) (fo_85 G).has (cdp (co_85 G (tk2 G)) (by decide))
theorem tk4 (G : Gd P hb mg mb) : TbOk prog w (tbOf gl tab4) hb mg mb 8 := tb_cons (tk3 G) (fo_92 G).has (co_92 G (tk3 G))
theorem tk5 (G : Gd P hb mg mb) : TbOk prog w (tbOf gl tab5a) hb mg mb 9 := tb_cons (tk4 G) (fo_99 G).has (co_99 G (tk4 G))
theorem tkA (G : Gd P hb mg mb) : TbOk prog w (tbOf gl tabA) hb mg mb 10 := tb_cons (tk5 G) (fo_104 G).has (co_104 G (tk5 G))
theorem tkB (G : Gd P hb mg mb) : TbOk prog w (tbOf gl tabB) hb mg mb 14 :=
  tb_cons (tb_cons (tb_cons (tb_cons (tkA G) (fo_111 G).has (co_111 G (tkA G))) (fo_116 G).has (cdf (co_116 G (tkA G)) (by decide))) (fo_121 G).has (cdp (co_121 G (tkA G)) (by decide))) (fo_128 G).has (cdp (co_128 G (tkA G)) (by decide))
theorem tkW (G : Gd P hb mg mb) : TbOk prog w (tbOf gl tabW) hb mg mb 15 := tb_cons (tkB G) (fo_104 G).has (cdf (co_104 G (tk5 G)) (by decide))
theorem tkC (G : Gd P hb mg mb) : TbOk prog w (tbOf gl tabC) hb mg mb 22 :=
  tb_cons (tb_cons (tb_cons (tb_cons (tb_cons (tb_cons (tb_cons (tb_cons (tkB G) (fo_142 G).has (co_142 G (tkB G))) (fo_135 G).has (cdp (co_135 G (tkB G)) (by decide))) (fo_184 G).has (cdp (co_184 G (tkB G)) (by decide)))
    (fo_156 G).has (cdp (co_156 G (tkB G)) (by decide))) (fo_149 G).has (cdp (co_149 G (tkB G)) (by decide))) (fo_198 G).has (cdp (co_198 G (tkW G)) (by decide))) (fo_191 G).has (cdp (co_191 G (tkB G)) (by decide))) (fo_163 G).has (cdp (co_163 G (tkB G)) (by decide))
theorem tkL (G : Gd P hb mg mb) : TbOk prog w (tbOf gl tabL) hb mg mb 1 := tb_cons (tb0 G) (fo_217 G).has (co_217 G (tb0 G))
theorem tkZ (G : Gd P hb mg mb) : TbOk prog w (tbOf gl tabZ) hb mg mb 27 :=
  tb_cons (tb_cons (tb_cons (tb_cons (tb_cons (tkC G) (fo_170 G).has (co_170 G (tkC G))) (fo_177 G).has (cdp (co_177 G (tkC G)) (by decide))) (fo_217 G).has (cdp (co_217 G (tb0 G)) (by decide))) (fo_229 G).has (cdp (co_229 G (tkL G)) (by decide))) (fo_222 G).has (cdp (co_222 G (tkL G)) (by decide))
end
end
end Mine
namespace Mine
/-! ### entering a frame by hand -/
section
variable {prog : Program} {w : World} {A : Around} {E : Value → Shared → Prop} {s : Shared}
theorem enter {Q : Value → Shared → Prop} {hb : Heap} {a : Addr} {fd : FuncData} {pn : List Str} {body : List Stmt} {vs : List Value} (O : FdOk hb a fd pn) (hbody : fd.body = .stmts body) (hroom : A.depth < recursionLimit) (kb : Keep hb s.heap) (hvl : vs.length = pn.length)
    (h : ∀ s₁, InCallC s (callEnvC fd s.heap.objs.size a).locals (bindL (callEnvC fd s.heap.objs.size a).kindOf (pn.zip vs) fun _ => Option.none) (callEnvC fd s.heap.objs.size a).cells
        (bindC (callEnvC fd s.heap.objs.size a).kindOf (pn.zip vs) fun _ => Option.none) s₁ →
      wpAny (model prog w) (A.deeper (callEnvC fd s.heap.objs.size a)) (execs body (callEnvC fd s.heap.objs.size a)) (fun f s' => Q (match f with | .ret v => v | _ => .none) s')
        (fun e s' => wpAny (model prog w) (A.deeper (callEnvC fd s.heap.objs.size a)) (leaving (callEnvC fd s.heap.objs.size a) e) (fun _ s'' => E e s'') (fun e' s'' => E e' s'') s') s₁) :
    wpAny (model prog w) A (call (.ref a) vs) Q E s := by
  obtain ⟨o, ho, hd⟩ := O.obj
  refine wpAny_call (codeAny_call_cells (binds := pn.zip vs) hroom (kb _ _ ho) hd (O.limit.keeps kb) (O.code.keeps kb) hbody (O.bind vs hvl) O.clo (fun p hp => ?_) (fun s₁ x => ?_) O.co O.gen O.kind)
  · rcases O.names p.1 (zip_keys hp) with z | z
    · exact .inl z
    · exact .inr ⟨z, cellsFrom_some _ _ _ (.inl z)⟩
  · exact wpAny_mono (h s₁ x) (fun f s' y => y) fun e s' y => y
end
/-! ### parts of statements -/
noncomputable def asgV : Stmt → Expr
  | .Assign _ v _ => v
  | _ => .Name "x" default
noncomputable def asgX : Stmt → Expr
  | .Assign (t :: _) _ _ => t
  | _ => .Name "x" default
noncomputable def stP : Stmt → Pos
  | .Assign _ _ p => p
  | .Return _ p => p
  | .If _ _ _ p => p
  | .Expr _ p => p
  | .For _ _ _ _ p => p
  | _ => default
noncomputable def exP : Expr → Pos
  | .Name _ p => p
  | .Subscript _ _ p => p
  | .Call _ _ _ p => p
  | .BinOp _ _ _ p => p
  | .ListComp _ _ _ p => p
  | .Tuple _ _ p => p
  | .List _ p => p
  | .Attribute _ _ p => p
  | _ => default
noncomputable def subV : Expr → Expr
  | .Subscript v _ _ => v
  | e => e
noncomputable def subI : Expr → Expr
  | .Subscript _ i _ => i
  | e => e
/-! ### _law_take -/
noncomputable def BoxAt (h : Heap) (b : Addr) (vN : Value) (k c : Int) : Prop := ∃ t u n, h.get? b = some (lstO [vN, .int k t, .int c u] n)
noncomputable def tkS (ds : List D) (k c : Int) : Sig := [("box", [.lst ds, .int k, .int c])]
noncomputable def tkR (m : Int) : Rho := [("many", .int m)]
noncomputable abbrev T0 : Tb := tbOf gl tab0
noncomputable abbrev tks (P : Params) : Scope := (fdOf P 205).scope
noncomputable abbrev tk0 (P : Params) : Stmt := stAt (bd P 205) 0
noncomputable abbrev tk1s (P : Params) : Stmt := stAt (bd P 205) 1
noncomputable abbrev tk2s (P : Params) : Stmt := stAt (bd P 205) 2
theorem tk_bd (P : Params) : (fdOf P 205).body = .stmts [tk0 P, tk1s P, tk2s P] := by kernel_rfl
theorem tk_0 (P : Params) : tk0 P = .Assign [.Subscript (.Name "box" (exP (subV (asgX (tk0 P))))) (subI (asgX (tk0 P))) (exP (asgX (tk0 P)))] (asgV (tk0 P)) (stP (tk0 P)) := by kernel_rfl
theorem tk_0c (P : Params) : isComp (asgV (tk0 P)) = false := by kernel_rfl
theorem tk_1 (P : Params) : tk1s P = .If (ifT (tk1s P)) [stAt (thB (tk1s P)) 0] [] (stP (tk1s P)) := by kernel_rfl
theorem tk_1r (P : Params) : stAt (thB (tk1s P)) 0 = .Return (some (retE (stAt (thB (tk1s P)) 0))) (stP (stAt (thB (tk1s P)) 0)) := by kernel_rfl
theorem tk_2 (P : Params) : tk2s P = .Return (some (retE (tk2s P))) (stP (tk2s P)) := by kernel_rfl
theorem tk_e0 (P : Params) (ds : List D) (k c m : Int) : (ev T0 10).E (tks P) (tkR m) (tkS ds k c) (asgV (tk0 P)) = some (.int (k + 1)) := by kernel_rfl
theorem tk_e0i (P : Params) (ds : List D) (k c m : Int) : (ev T0 10).E (tks P) (tkR m) (tkS ds k c) (subI (asgX (tk0 P))) = some (.int 1) := by kernel_rfl
theorem tk_e1 (P : Params) (ds : List D) (k c m : Int) : (ev T0 10).T (tks P) (tkR m) (tkS ds k c) (ifT (tk1s P)) = op2 (cmpD .LtE) (some (.int k)) (bCall .len [.lst ds]) := by kernel_rfl
theorem tk_e1r (P : Params) (ds : List D) (k c m : Int) : (ev T0 10).E (tks P) (tkR m) (tkS ds k c) (retE (stAt (thB (tk1s P)) 0)) = op2 (binD .Mod) (itemOf (.lst ds) (.int (k - 1))) (some (.int m)) := by kernel_rfl
theorem tk_e2 (P : Params) (ds : List D) (k c m : Int) : (ev T0 10).E (tks P) (tkR m) (tkS ds k c) (retE (tk2s P)) = op2 (binD .Mod) (op2 (binD .Add) (op2 (binD .Add) (binD .Mult (.int 7) (.int k)) (binD .FloorDiv (.int k) (.int 5))) (some (.int c))) (some (.int m)) := by kernel_rfl
end Mine
namespace Mine
theorem deeper_ok {A : Around} {dep : Nat} {env : Env} (ha : AOk A (dep + 1)) : AOk (A.deeper env) dep :=
  ⟨ha.handled, by have := ha.depth; show A.depth + 1 + dep < _; omega, by have := ha.units; show A.units + 3 + 4 * dep + 100 < _; omega⟩
theorem AOk.less {A : Around} {i j : Nat} (ha : AOk A j) (h : i ≤ j) : AOk A i := ⟨ha.handled, by have := ha.depth; omega, by have := ha.units; omega⟩
/-- all objects but one stay -/
noncomputable def KeepB (b : Addr) (h h' : Heap) : Prop := ∀ a o, a ≠ b → h.get? a = some o → h'.get? a = some o
theorem KeepB.sub {b : Addr} {h h' : Heap} {O : List Addr} (k : KeepB b h h') (m : b ∈ O) : Sub (hid h O) (hid h' O) := fun a o _ e => hid_mk (k a o (fun z => (hid_of e).2 (z ▸ m)) (hid_of e).1) (hid_of e).2
theorem KeepB.trans {b : Addr} {h₁ h₂ h₃ : Heap} (x : KeepB b h₁ h₂) (y : KeepB b h₂ h₃) : KeepB b h₁ h₃ := fun a o q e => y a o q (x a o q e)
theorem KeepB.of {b : Addr} {h h' : Heap} (k : Keep h h') : KeepB b h h' := fun a o _ e => k a o e
theorem lst3 {V : View} {vN : Value} {ds : List D} {k c : Int} {t u : Tok} (r : Rep V vN (.lst ds)) : Reps V [vN, .int k t, .int c u] [.lst ds, .int k, .int c] := .cons r (.cons (.int _ _) (.cons (.int _ _) .nil))
noncomputable def takeR (ds : List Int) (k c m : Int) : Int := if k + 1 ≤ (ds.length : Int) then (ds.getD k.toNat 0).fmod m else (7 * (k + 1) + (k + 1).fdiv 5 + c).fmod m
section
variable {prog : Program} {w : World} {A : Around} {E : Value → Shared → Prop} {s : Shared} {hb : Heap} {mg mb : Str → Option Value}
theorem take_ok {Q : Value → Shared → Prop} {b : Addr} {vN : Value} {ns : List Int} {k c m : Int} {t : Tok} (G : Gd w.params hb mg mb) (ha : AOk A 1) (kb : Keep hb s.heap) (nb : hb.get? b = Option.none)
    (hbx : BoxAt s.heap b vN k c) (rN : Rep (hid s.heap [b]) vN (.lst (ns.map .int))) (hn : ns.length ≤ 24) (hk : 0 ≤ k ∧ k ≤ 100) (hm : 1 ≤ m ∧ m ≤ 10)
    (h : ∀ t h' tk', KeepB b s.heap h' → BoxAt h' b vN (k + 1) c → Q (.int (takeR ns k c m) t) { s with heap := h', toks := tk' }) :
    wpAny (model prog w) A (call (.ref 205) [.ref b, .int m t]) Q E s := by
  refine enter (fd := fdOf w.params 205) (pn := ["box", "many"]) (gd_fn G (by kernel_rfl) (bind2 fun _ _ => by kernel_rfl)) (tk_bd _) (by have := ha.depth; omega) kb rfl fun s₁ x => ?_
  have ha' : AOk (A.deeper (callEnvC (fdOf w.params 205) s.heap.objs.size 205)) 0 := deeper_ok ha
  have hL : (callEnvC (fdOf w.params 205) s.heap.objs.size 205).locals = s.heap.objs.size := rfl
  have hsc : (callEnvC (fdOf w.params 205) s.heap.objs.size 205).scope = tks w.params := rfl
  have k1 : Keep s.heap s₁.heap := x.toInCall.keep
  obtain ⟨tk, tu, n0, hb0⟩ := hbx
  have hne : b ≠ s.heap.objs.size := Nat.ne_of_lt (Heap.lt_size hb0)
  have lb : Look (callEnvC (fdOf w.params 205) s.heap.objs.size 205) s₁.heap "box" (.ref b) := .inl ⟨by kernel_rfl, _, x.toInCall.ns, by kernel_rfl⟩
  have lm : Look (callEnvC (fdOf w.params 205) s.heap.objs.size 205) s₁.heap "many" (.int m t) := .inl ⟨by kernel_rfl, _, x.toInCall.ns, by kernel_rfl⟩
  have rN1 : Rep (hid s₁.heap ([b] ++ [])) vN (.lst (ns.map .int)) := rN.mono (hid_keep k1)
  generalize hE : callEnvC (fdOf w.params 205) s.heap.objs.size 205 = env at *
  have gk : env.scope.kind = .function := by rw [hsc]; kernel_rfl
  have I : Inv hb { s₁ with heap := hideAll s₁.heap [s.heap.objs.size, b] } env [b] [] (tkR m) (tkS (ns.map .int) k c) s₁ := by
    refine ⟨⟨s₁.heap, s₁.toks, rfl⟩, ⟨gk, by rw [← hE]; kernel_rfl, by rw [← hE]; kernel_rfl, kb.trans k1, fun a q => ?_, fun a q => ?_, fun y d q => ?_, fun y ds q => ?_⟩, ⟨_, x.toInCall.ns⟩, ?_, fun y cc e => ⟨_, x.cell y cc e⟩, fun a o e => of_hideAll _ e, fun a o e => ?_, fun a q => ?_, fun a q => (by cases q), fun y z ds es a hy hz _ _ => ?_⟩
    · have q : a ∈ [b] := q
      rw [List.mem_singleton.mp q]; exact nb
    · have q : a ∈ [b] := q
      rw [List.mem_singleton.mp q]; exact ⟨_, k1 _ _ hb0⟩
    · unfold tkR at q
      rw [get] at q
      split at q
      · rename_i e; cases q; subst e; exact ⟨_, lm, .int _ _⟩
      · cases q
    · unfold tkS at q
      rw [get] at q
      split at q
      · rename_i e; cases q; subst e
        exact ⟨b, _, n0, lb, List.mem_singleton.mpr rfl, k1 _ _ hb0, lst3 rN1⟩
      · cases q
    · rw [hL]; exact hideAll_none _ List.mem_cons_self
    · refine hideAll_get _ (k1 _ _ (kb _ _ e)) fun q => ?_
      rcases List.mem_cons.mp q with z | q
      · rw [z] at e
        have := kb _ _ e
        rw [none_size] at this; cases this
      · rw [List.mem_singleton.mp q, nb] at e; cases e
    · rw [List.mem_singleton.mp q]; exact hideAll_none _ (List.mem_cons_of_mem _ List.mem_cons_self)
    · unfold tkS at hy hz
      rw [get] at hy hz
      split at hy
      · split at hz
        · rename_i e1 e2; rw [e1, e2]
        · cases hz
      · cases hy
  have ok := (sound_ev (prog := prog) (w := w) (tb0 G) 10).1
  have okT := (sound_ev (prog := prog) (w := w) (tb0 G) 10).2
  have hx : get "box" (tkS (ns.map .int) k c) = some [.lst (ns.map .int), .int k, .int c] := by kernel_rfl
  refine wpAny_execs_cons ?_
  rw [tk_0]
  refine wpAny_Assign_Subscript (ok _ _ _ s₁ env env.scope [b] [] _ _ _ _ ha' scOk_self I.good (by rw [hsc]; exact tk_e0 _ _ k c m) fun u h₁ tk₁ q₁ r₁ _ => ?_) (swapsNo (tk_0c _))
  have I₁ := I.on (tk := tk₁) q₁
  refine wpAny_Name ((lb.keep q₁).load gk (by decide) ?_) (by decide)
  refine ok _ _ _ _ env env.scope [b] [] _ _ _ _ ha' scOk_self I₁.good (by rw [hsc]; exact tk_e0i _ _ k c m) fun iv h₂ tk₂ q₂ r₂ _ => ?_
  cases r₂
  cases r₁
  have I₂ := I₁.on (tk := tk₂) q₂
  have e₂ : h₂.get? b = some (lstO [vN, .int k tk, .int c tu] n0) := q₂ _ _ (q₁ _ _ (k1 _ _ hb0))
  refine setK e₂ (by decide) (by decide) (by show 1 < 3; decide) fun h₃ n₃ e₃ sb => ?_
  have e₃ : h₃.get? b = some (lstO [vN, .int (k + 1) _, .int c tu] n₃) := e₃
  have I₃ := I₂.alter (tk := tk₂) hx ((lb.keep q₁).keep q₂) List.mem_cons_self e₂ e₃ sb (lst3 (rN1.mono ((hid_keep q₁).trans (hid_keep q₂))))
  have p3 : put "box" [D.lst (ns.map .int), .int (k + 1), .int c] (tkS (ns.map .int) k c) = tkS (ns.map .int) (k + 1) c := by kernel_rfl
  rw [p3] at I₃
  have kb3 : KeepB b s.heap h₃ := fun a o z e => (sb.2 a z).trans (q₂ _ _ (q₁ _ _ (k1 _ _ e)))
  have hl : (ns.map D.int).length = ns.length := List.length_map ..
  have hlen : bCall .len [.lst (ns.map D.int)] = some (.int (ns.length : Int)) := by
    have o : okLen (ns.map D.int).length = true := decide_eq_true (by rw [hl]; omega)
    simp only [bCall]
    rw [if_pos o, hl]
  obtain ⟨hs1, ht1, es1⟩ := x.toInCall.same
  have fin : ∀ (v : Value) (h₅ : Heap) (tk₅ : Nat), Keep h₃ h₅ → Rep (hid h₅ ([b] ++ [])) v (.int (takeR ns k c m)) → Q v { s₁ with heap := h₅, toks := tk₅ } := by
    intro v h₅ tk₅ q₅ r₅
    cases r₅
    subst es1
    exact h _ h₅ tk₅ (kb3.trans (.of q₅)) ⟨_, _, _, q₅ _ _ e₃⟩
  refine wpAny_execs_cons ?_
  rw [tk_1]
  have hT : (ev T0 10).T env.scope (tkR m) (tkS (ns.map .int) (k + 1) c) (ifT (tk1s w.params)) = some (decide (k + 1 ≤ (ns.length : Int))) := by
    rw [hsc, tk_e1, hlen]; rfl
  refine wpAny_If (okT _ _ _ _ env env.scope [b] [] _ _ _ _ ha' scOk_self I₃.good hT fun h₄ tk₄ q₄ => ?_)
  have I₄ := I₃.on (tk := tk₄) q₄
  by_cases hc : k + 1 ≤ (ns.length : Int)
  · rw [if_pos (decide_eq_true hc)]
    refine wpAny_execs_cons ?_
    rw [tk_1r]
    have hi : k.toNat < ns.length := by omega
    have hv : (ev T0 10).E env.scope (tkR m) (tkS (ns.map .int) (k + 1) c) (retE (stAt (thB (tk1s w.params)) 0)) = some (.int (takeR ns k c m)) := by
      have e1 : itemOf (.lst (ns.map D.int)) (.int (k + 1 - 1)) = some (.int (ns.getD k.toNat 0)) := by
        have : k + 1 - 1 = k := by omega
        rw [this]
        simp only [itemOf, itemD, small_i (i := k) (by omega), decide_eq_true hk.1, Bool.and_self, if_true, List.getElem?_map, List.getElem?_eq_getElem hi, Option.map_some, List.getD_eq_getElem?_getD, Option.getD_some]
      rw [hsc, tk_e1r, e1, op2_s]
      simp only [binD, decide_eq_true (show m ≠ 0 by omega), if_true, takeR, if_pos hc]
    refine wpAny_Return_some (ok _ _ _ _ env env.scope [b] [] _ _ _ _ ha' scOk_self I₄.good hv fun v h₅ tk₅ q₅ r₅ _ => ?_)
    exact fin v h₅ tk₅ (q₄.trans q₅) r₅
  · rw [if_neg (by rw [decide_eq_false hc]; decide)]
    refine wpAny_execs_nil (wpAny_execs_cons ?_)
    rw [tk_2]
    have hv : (ev T0 10).E env.scope (tkR m) (tkS (ns.map .int) (k + 1) c) (retE (tk2s w.params)) = some (.int (takeR ns k c m)) := by
      rw [hsc, tk_e2]
      simp only [binD, small_i (i := 7) (by omega), small_i (i := 5) (by omega), Bool.true_or, if_true, decide_eq_true (show (5 : Int) ≠ 0 by omega), Bool.and_self, op2_s, decide_eq_true (show m ≠ 0 by omega), takeR, if_neg hc]
    refine wpAny_Return_some (ok _ _ _ _ env env.scope [b] [] _ _ _ _ ha' scOk_self I₄.good hv fun v h₅ tk₅ q₅ r₅ _ => ?_)
    exact fin v h₅ tk₅ (q₄.trans q₅) r₅
theorem takeR_lt (ns : List Int) (k c : Int) {m : Int} (hm : 0 < m) : 0 ≤ takeR ns k c m ∧ takeR ns k c m < m := by
  have f : ∀ a : Int, 0 ≤ a.fmod m ∧ a.fmod m < m := fun a => by
    rw [Int.fmod_eq_emod_of_nonneg _ (by omega)]
    exact ⟨Int.emod_nonneg _ (by omega), Int.emod_lt_of_pos _ hm⟩
  unfold takeR
  split <;> exact f _
end
end Mine
namespace Mine
/-! ### _law_box -/
noncomputable def exPc : Expr → Pos
  | .Constant _ _ p => p
  | _ => default
noncomputable def lcI : Expr → Expr
  | .ListComp _ (g :: _) _ _ => g.iter
  | e => e
noncomputable def lcX : Expr → Expr
  | .ListComp _ (g :: _) _ _ => g.target
  | e => e
noncomputable def slHi : Expr → Expr
  | .Slice _ (some k) _ _ => k
  | e => e
noncomputable def slP : Expr → Pos
  | .Slice _ _ _ p => p
  | _ => default
noncomputable def callF : Expr → Expr
  | .Call f _ _ _ => f
  | e => e
noncomputable def elAt : Expr → Nat → Expr
  | .List es _, i => (es[i]?).getD (.Name "x" default)
  | .Tuple es _ _, i => (es[i]?).getD (.Name "x" default)
  | e, _ => e
noncomputable def binL : Expr → Expr
  | .BinOp l _ _ _ => l
  | e => e
noncomputable abbrev bx0 (P : Params) : Stmt := stAt (bd P 210) 0
noncomputable abbrev bx1 (P : Params) : Stmt := stAt (bd P 210) 1
noncomputable abbrev bxL (P : Params) : Expr := asgV (bx0 P)
noncomputable abbrev bxR (P : Params) : Expr := retE (bx1 P)
noncomputable abbrev bxE (P : Params) : Expr := lcE (bxL P)
theorem bx_bd (P : Params) : (fdOf P 210).body = .stmts [bx0 P, bx1 P] := by kernel_rfl
theorem bx_0 (P : Params) : bx0 P = .Assign [.Name "numbers" (exP (asgX (bx0 P)))] (.ListComp (bxE P) [⟨.Name "number" (exP (lcX (bxL P))), lcI (bxL P), [], 0⟩] (lcS (bxL P)) (exP (bxL P))) (stP (bx0 P)) := by kernel_rfl
theorem bx_0i (P : Params) : lcI (bxL P) = .Subscript (.Name "script" (exP (subV (lcI (bxL P))))) (.Slice Option.none (some (.Constant (.int 24) 0 (exPc (slHi (subI (lcI (bxL P))))))) Option.none (slP (subI (lcI (bxL P))))) (exP (lcI (bxL P))) := by kernel_rfl
theorem bx_0e (P : Params) : bxE P = .Call (.Name "abs" (exP (callF (bxE P)))) [.Name "number" (exP (arg1 (bxE P)))] [] (exP (bxE P)) := by kernel_rfl
theorem bx_1 (P : Params) : bx1 P = .Return (some (.List [.Name "numbers" (exP (elAt (bxR P) 0)), .Constant (.int 0) 0 (exPc (elAt (bxR P) 1)), .BinOp (.Call (.Name "sum" (exP (callF (binL (elAt (bxR P) 2))))) [.Name "numbers" (exP (arg1 (binL (elAt (bxR P) 2))))] [] (exP (binL (elAt (bxR P) 2)))) .Mod (.Constant (.int 89) 0 (exPc (binR (elAt (bxR P) 2)))) (exP (elAt (bxR P) 2))] (exP (bxR P)))) (stP (bx1 P)) := by kernel_rfl
theorem ints_take : ∀ {vs : List Value} {ns : List Int} (k : Nat), IntsAre vs ns → IntsAre (vs.take k) (ns.take k)
  | _, _, 0, _ => by simp only [List.take_zero]; exact .nil
  | _, _, k + 1, .nil => by simp only [List.take_nil]; exact .nil
  | _, _, k + 1, .cons n t r => by simp only [List.take_succ_cons]; exact .cons n t (ints_take k r)
noncomputable def absI (a : Int) : Int := if a < 0 then -a else a
noncomputable def AbsOf (v y : Value) : Prop := ∃ i t u, v = .int i t ∧ y = .int (absI i) u
theorem paired_reps {V : View} {vs ys : List Value} (h : Paired AbsOf vs ys) : ∀ {ns : List Int}, IntsAre vs ns → Reps V ys ((ns.map absI).map D.int) := by
  induction h with
  | nil => intro ns q; cases q; exact .nil
  | cons h r ih =>
    intro ns q
    cases q with
    | cons n t q =>
      obtain ⟨i, t', u, e, rfl⟩ := h
      cases e
      exact .cons (.int _ _) (ih q)
theorem items_are {vs : List Value} {items : List Value} (hl : vs.length = items.toArray.size) (h : ∀ (j : Nat) (v : Value), vs[j]? = some v → items.toArray[j]? = some v) : vs = items := by
  have hl : vs.length = items.length := by simpa using hl
  refine List.ext_getElem hl fun j h1 h2 => ?_
  have := h j vs[j] (List.getElem?_eq_getElem h1)
  rw [getElem_arr, List.getElem?_eq_getElem h2] at this
  exact (Option.some.inj this).symm
theorem filter_all (vs : List Value) : vs.filter (fun _ => true) = vs := by simp
noncomputable def intArr : List Value → Array (Int × Tok) := fun vs => (vs.filterMap fun
  | .int i t => some (i, t)
  | _ => Option.none).toArray
section
variable {prog : Program} {w : World} {A : Around} {E : Value → Shared → Prop} {s : Shared} {hb : Heap} {mg mb : Str → Option Value}
theorem reps_ints {V : View} : ∀ {vs : List Value} {ns : List Int}, Reps V vs (ns.map D.int) → ∃ xs : List (Int × Tok), vs = xs.map (fun p => Value.int p.1 p.2) ∧ ns = xs.map (·.1)
  | [], [], .nil => ⟨[], rfl, rfl⟩
  | v :: vs, n :: ns, h => by
    rw [List.map_cons] at h
    cases h with
    | cons h r =>
      obtain ⟨xs, e1, e2⟩ := reps_ints r
      cases h
      rename_i t
      exact ⟨(n, t) :: xs, by rw [e1]; rfl, by rw [e2]; rfl⟩
theorem sum_ok {Q : Value → Shared → Prop} {D' : Addr} {vs : List Value} {ns : List Int} {n : Nat} (hh : A.handled = Option.none) (hD : s.heap.get? D' = some (lstO vs n)) (r : Reps s.heap.get? vs (ns.map D.int))
    (h : ∀ i h' tk t', Keep s.heap h' → Q (.int i t') { s with heap := h', toks := tk }) : wpAny (model prog w) A (call (.builtin "sum") [.ref D']) Q E s := by
  obtain ⟨xs, rfl, rfl⟩ := reps_ints r
  refine PySem.sum_intListG (xs := xs.toArray) hh ⟨_, hD, rfl, n, ?_⟩ fun h' tk t' k => h _ h' tk t' k
  show Data.seq _ n = Data.seq _ n
  congr 1
  simp [intItems]
theorem lookup_in {β : Type} {x : Str} {k : β} : ∀ {l : List (Str × β)}, l.lookup x = some k → (x, k) ∈ l
  | [], h => by cases h
  | (y, j) :: r, h => by
    rw [List.lookup_cons] at h
    split at h
    · rename_i e
      rw [beq_iff_eq.mp e]
      cases h
      exact List.mem_cons_self
    · exact List.mem_cons_of_mem _ (lookup_in h)
theorem ints_get {vs : List Value} {ns : List Int} (h : IntsAre vs ns) : ∀ {i : Nat} {v : Value}, vs[i]? = some v → ∃ n t, v = .int n t := by
  induction h with
  | nil => intro i v e; simp at e
  | cons n t r ih =>
    intro i v e
    cases i with
    | zero => simp at e; exact ⟨n, t, e.symm⟩
    | succ i => exact ih (by simpa using e)
noncomputable def boxL (ns : List Int) : List Int := (ns.take 24).map absI
noncomputable abbrev bxC (P : Params) : Scope := lcS (bxL P)
theorem bx_c (P : Params) : compOk (bxC P) = true ∧ (bxC P).names.lookup ("number" : Str) = some .local ∧ (bxC P).names.all (fun y => decide (y.2 ≠ .free)) = true ∧ (bxC P).names.lookup ("abs" : Str) = some .globalImplicit := ⟨by kernel_rfl, by kernel_rfl, by kernel_rfl, by kernel_rfl⟩
theorem box_ok {Q : Value → Shared → Prop} {l : Addr} {vs : List Value} {ns : List Int} (G : Gd w.params hb mg mb) (ha : AOk A 1) (kb : Keep hb s.heap) (hl : s.heap.IsList l vs.toArray) (hi : IntsAre vs ns) (hn : ns.length ≤ 63)
    (h : ∀ b vN h' tk' c, s.heap.get? b = Option.none → Keep s.heap h' → BoxAt h' b vN 0 c → Rep (hid h' [b]) vN (.lst ((boxL ns).map .int)) → Q (.ref b) { s with heap := h', toks := tk' }) :
    wpAny (model prog w) A (call (.ref 210) [.ref l]) Q E s := by
  refine enter (fd := fdOf w.params 210) (pn := ["script"]) (gd_fn G (by kernel_rfl) (bind1 fun _ => by kernel_rfl)) (bx_bd _) (by have := ha.depth; omega) kb rfl fun s₁ x => ?_
  have ha' : AOk (A.deeper (callEnvC (fdOf w.params 210) s.heap.objs.size 210)) 0 := deeper_ok ha
  have hL : (callEnvC (fdOf w.params 210) s.heap.objs.size 210).locals = s.heap.objs.size := rfl
  have k1 : Keep s.heap s₁.heap := x.toInCall.keep
  have ls : Look (callEnvC (fdOf w.params 210) s.heap.objs.size 210) s₁.heap "script" (.ref l) := .inl ⟨by kernel_rfl, _, x.toInCall.ns, by kernel_rfl⟩
  obtain ⟨c1, c2, c3, c4⟩ := bx_c w.params
  have hsw : swapsWith (.ListComp (bxE w.params) [⟨.Name "number" (exP (lcX (bxL w.params))), lcI (bxL w.params), [], 0⟩] (lcS (bxL w.params)) (exP (bxL w.params))) (some (.Name "numbers" (exP (asgX (bx0 w.params))))) (stP (bx0 w.params)).line (callEnvC (fdOf w.params 210) s.heap.objs.size 210) = pure true := by kernel_rfl
  have gk : (callEnvC (fdOf w.params 210) s.heap.objs.size 210).scope.kind = .function := by kernel_rfl
  have gg : (callEnvC (fdOf w.params 210) s.heap.objs.size 210).globals = mainGlobals := by kernel_rfl
  have gb : (callEnvC (fdOf w.params 210) s.heap.objs.size 210).builtins = builtinsNs := by kernel_rfl
  have hy : (callEnvC (fdOf w.params 210) s.heap.objs.size 210).kindOf "numbers" = some .local := by kernel_rfl
  have hsum : (callEnvC (fdOf w.params 210) s.heap.objs.size 210).scope.names.lookup ("sum" : Str) = some .globalImplicit := by kernel_rfl
  obtain ⟨m1, hm1⟩ : ∃ m, s₁.heap.Ns (callEnvC (fdOf w.params 210) s.heap.objs.size 210).locals m := ⟨_, x.toInCall.ns⟩
  obtain ⟨hs1, ht1, es1⟩ := x.toInCall.same
  generalize hE : callEnvC (fdOf w.params 210) s.heap.objs.size 210 = env at *
  have K := tb0 (prog := prog) (w := w) G
  have o1 := Bool.and_eq_true_iff.mp c1
  have o2 := Bool.and_eq_true_iff.mp o1.1
  have o3 := Bool.and_eq_true_iff.mp o2.1
  have hck : (bxC w.params).kind = .function := of_decide_eq_true o3.1
  have hcell : ∀ y ∈ (bxC w.params).names, y.2 ≠ .cell := fun y hy => of_decide_eq_true (List.all_eq_true.mp o3.2 y hy)
  have hnames : ∀ y ∈ (bxC w.params).names, y.2 = .local → (bxC w.params).names.lookup y.1 = some .local := fun y hy => of_decide_eq_true (List.all_eq_true.mp o2.2 y hy)
  have hclos : closureFor (bxC w.params) env = pure (clF env (bxC w.params).names []) := closure_of fun y hy q => absurd q (of_decide_eq_true (List.all_eq_true.mp c3 y hy))
  have hlen : vs.length ≤ 63 := by
    have : ∀ {vs : List Value} {ns : List Int}, IntsAre vs ns → vs.length = ns.length := by
      intro vs ns h
      induction h with
      | nil => rfl
      | cons n t r ih => simp [ih]
    rw [this hi]; exact hn
  have hl1 : s₁.heap.IsList l vs.toArray := hl.at fun o e => k1 _ o e
  refine wpAny_execs_cons ?_
  rw [bx_0]
  refine wpAny_Assign_ListComp_free (cl := clF env (bxC w.params).names []) (fun _ => true) AbsOf hsw hclos hcell hck hnames c2 hy (notCls gk) ?_ (folded (by rw [bx_0i]; rfl))
  rw [bx_0i]
  refine wpAny_Subscript_list_slice ?_
  rw [evPart_none, evPart_some]
  refine wpAny_Name (ls.load gk (by decide) (wpAny_pure (wpAny_Constant_int ⟨_, _, Option.none, some 24, rfl, hl1, by rw [List.size_toArray, sizeLine_eq]; omega, .none, .int _ _, ?_⟩))) (by decide)
  rw [pick_take (by decide)]
  have e24 : vs.take (Int.toNat 24) = vs.take 24 := rfl
  rw [e24]
  dsimp only
  generalize hH : (s₁.heap.push { cls := .type "slice", data := .fields #[Value.none, Value.int 24 s₁.toks, .none] }) = H1
  have kH1 : Keep s₁.heap H1 := by rw [← hH]; exact Keep.push _
  have hD0 : (H1.push { cls := .type "list", data := .seq (vs.take 24).toArray }).get? H1.objs.size = some { cls := .type "list", data := .seq (vs.take 24).toArray } := Heap.get?_push_size _ rfl
  have ez : s₁.heap.objs.size + 1 = H1.objs.size := by rw [← hH, Heap.size_push]
  rw [ez]
  generalize hH2 : H1.push { cls := .type "list", data := .seq (vs.take 24).toArray } = H2 at hD0 ⊢
  have kH2 : Keep H1 H2 := by rw [← hH2]; exact Keep.push _
  have hLi : H2.IsList H1.objs.size (vs.take 24).toArray := ⟨_, hD0, rfl, 0, rfl⟩
  refine wpAny_pyIter_list hLi ?_
  dsimp only
  generalize hI : H2.objs.size = I
  have hDI : H1.objs.size ≠ I := by rw [← hI]; exact Nat.ne_of_lt (Heap.lt_size hD0)
  generalize hH3 : H2.push { cls := .type "list_iterator", data := .fields #[.ref H1.objs.size, .int 0 0] } = H3
  have kH3 : Keep H2 H3 := by rw [← hH3]; exact Keep.push _
  have hI3 : H3.get? I = some { cls := .type "list_iterator", data := .fields #[.ref H1.objs.size, .int 0 0] } := by rw [← hH3, ← hI]; exact Heap.get?_push_size _ rfl
  have kk : Keep s₁.heap H3 := kH1.trans (kH2.trans kH3)
  have nI : ∀ {b o}, s₁.heap.get? b = some o → b ≠ I := fun {b o} e q => by
    have := kH2 _ _ (kH1 _ _ e)
    rw [q, ← hI, none_size] at this; cases this
  have hm3 := hm1.keeps kk
  refine ⟨I, [I, H1.objs.size], [I], _, _, _, m1, rfl, Walks.list ha'.handled I H1.objs.size hDI (vs.take 24).toArray, ?_, ⟨⟨_, hI3, rfl, rfl⟩, hLi.at fun o e => kH3 _ o e⟩, fun b q => ?_, fun q => ?_, hm3, ⟨?_, ?_⟩, ?_⟩
  · rw [List.size_toArray, List.length_take, sizeLine_eq]; omega
  · rcases List.mem_cons.mp q with rfl | q
    · exact Heap.lt_size hI3
    · rw [List.mem_singleton.mp q]; exact Heap.lt_size (kH3 _ _ hD0)
  · obtain ⟨o, _, _, e, _⟩ := hm1
    exact nI e (List.mem_singleton.mp q)
  · intro C i v s₃ m₃ E' _ _ _ _ _ _
    exact wpAny_pure ⟨rfl, s₃.heap, s₃.toks, rfl, fun _ _ e => e⟩
  · intro C i v s₃ m₃ E' _ hv _ hns hm hk3 _
    rw [getElem_arr] at hv
    obtain ⟨n, t, rfl⟩ := ints_get (ints_take 24 hi) hv
    have k3 : Keep s₁.heap s₃.heap := fun b o e => hk3 b o (fun q => nI e (List.mem_singleton.mp q)) (kk _ _ e)
    have g3 : Good hb (compEnvC (bxC w.params) (clF env (bxC w.params).names []) C env) s₃.heap [] [] [] [] := ⟨hck, gg, gb, kb.trans (k1.trans k3), fun a q => (by cases q), fun a q => (by cases q), fun y d q => (by cases q), fun y d q => (by cases q)⟩
    have sc3 : ScOk (bxC w.params) (compEnvC (bxC w.params) (clF env (bxC w.params).names []) C env) := ⟨fun x h => relabel_glob h, fun x h => absurd rfl (hcell (x, .cell) (lookup_in h)), fun x h => lookup_relabel_local h⟩
    show wpAny _ _ (eval (bxE w.params) _) _ _ _
    rw [bx_0e]
    refine Call_ (load_bi K sc3 g3 c4 (K.bi .abs).1 (K.bi .abs).2 (by decide) ?_)
    refine callWith_args (hb := hb) (by simp) rfl (.inr (.inl ⟨_, rfl⟩)) (args_cons (wpAny_Name (wpAny_loadName_local hck (lookup_relabel_local c2) hns hm (args_nil ⟨kb.trans (k1.trans k3), ?_⟩)) (by decide)) rfl)
    exact PyProof.Rows.call_abs_int fun u tk => ⟨⟨n, t, u, rfl, rfl⟩, s₃.heap, tk, rfl, fun _ _ e => e⟩
  · intro D' h' tk ys vs' hD _ hpl hvl hP hF hns hk
    have evs' : vs' = vs.take 24 := items_are hvl hP
    subst evs'
    rw [filter_all] at hF
    have rN : ∀ V, Reps V ys.toList (((ns.take 24).map absI).map D.int) := fun V => paired_reps hF (ints_take 24 hi)
    obtain ⟨n', hpl⟩ := hpl
    have hD' : h'.get? D' = some (lstO ys.toList n') := by rw [hpl]; simp [lstO]
    have k' : ∀ b o, b ≠ env.locals → s₁.heap.get? b = some o → h'.get? b = some o := fun b o q e => hk b o q (fun z => nI e (List.mem_singleton.mp z)) (kk _ _ e)
    have kL : ∀ b o, s.heap.get? b = some o → b ≠ env.locals := fun b o e q => by rw [q, hL, none_size] at e; cases e
    have ks : Keep s.heap h' := fun b o e => k' b o (kL b o e) (k1 _ _ e)
    have lN : Look env h' "numbers" (.ref D') := .inl ⟨hy, _, hns, by simp⟩
    have g' : Good hb env h' [] [] [] [] := ⟨gk, gg, gb, kb.trans ks, fun a q => (by cases q), fun a q => (by cases q), fun y d q => (by cases q), fun y d q => (by cases q)⟩
    refine wpAny_execs_cons ?_
    rw [bx_1]
    refine wpAny_Return_some (wpAny_List ?_)
    refine args_cons (wpAny_Name (lN.load gk (by decide) ?_) (by decide)) rfl
    refine args_cons (wpAny_Constant_int ?_) rfl
    refine args_cons (wpAny_BinOp (Call_ (load_bi (v := .builtin "sum") K scOk_self (g'.on (Keep.refl _)) hsum (gd_none G (by kernel_rfl)) (gd_built G (by decide) (by kernel_rfl)) (by decide) ?_))) rfl
    refine callWith_args (hb := hb) (v := .builtin "sum") (by simp) rfl (.inr (.inl ⟨_, rfl⟩)) (args_cons (wpAny_Name (lN.load gk (by decide) (args_nil ⟨kb.trans ks, ?_⟩)) (by decide)) rfl)
    refine sum_ok ha'.handled hD' (rN _) fun i h₅ tk₅ t₅ q₅ => ?_
    refine wpAny_Constant_int (mod_int' (by decide) (args_nil ⟨by rw [sizeLine_eq]; show 3 ≤ _; decide, ?_⟩))
    subst es1
    have e5 : h₅.get? D' = some (lstO ys.toList n') := q₅ _ _ hD'
    refine h h₅.objs.size (.ref D') _ _ _ ?_ (ks.trans (q₅.trans (Keep.push _))) ⟨_, _, 0, Heap.get?_push_size _ rfl⟩ (.lst (hid_mk (Keep.push _ _ _ e5) fun q => ?_) (rN _))
    · cases z : s.heap.get? h₅.objs.size with
      | none => rfl
      | some o =>
        have := q₅ _ _ (ks _ _ z)
        rw [none_size] at this; cases this
    · have := List.mem_singleton.mp q
      rw [this, none_size] at e5; cases e5
end
end Mine
namespace Mine
/-! ### the law's frame between the draws -/
structure LEnv (P : Params) (hb : Heap) (env : Env) (cb cp : Addr) : Prop where
  kind : env.scope.kind = .function
  gl : env.globals = mainGlobals
  bl : env.builtins = builtinsNs
  sc : env.scope = lsc P
  boxK : env.kindOf "box" = some .cell
  poolK : env.kindOf "pool" = some .cell
  boxC : env.cells.lookup ("box" : Str) = some cb
  poolC : env.cells.lookup ("pool" : Str) = some cp
  ne : cb ≠ cp
  sizeC : env.cells.lookup ("size" : Str) ≠ some cp
  nL : hb.get? env.locals = Option.none
  nb : hb.get? cb = Option.none
  np : hb.get? cp = Option.none
/-- what holds of the box -/
structure Bx (env : Env) (cb b : Addr) (vN : Value) (ns : List Int) (k c : Int) (h : Heap) : Prop where
  box : BoxAt h b vN k c
  rN : Rep (hid h [b]) vN (.lst (ns.map .int))
  cell : h.IsCell cb (some (.ref b))
structure Mid (hb : Heap) (env : Env) (cb b : Addr) (vN : Value) (ns : List Int) (k c : Int) (ρ : Rho) (h : Heap) : Prop where
  good : Good hb env h [] [b] ρ []
  loc : ∃ m, h.Ns env.locals m
  cells : ∀ x cc, env.cells.lookup x = some cc → ∃ v, h.IsCell cc v
  bx : Bx env cb b vN ns k c h
section
variable {P : Params} {hb : Heap} {env : Env} {cb cp b : Addr} {vN : Value} {ns : List Int} {k c : Int} {ρ : Rho} {h h' : Heap}
theorem Bx.keep (B : Bx env cb b vN ns k c h) (q : Keep h h') : Bx env cb b vN ns k c h' :=
  ⟨let ⟨t, u, n, e⟩ := B.box; ⟨t, u, n, q _ _ e⟩, B.rN.mono (hid_keep q), B.cell.keeps q⟩
theorem Mid.on (M : Mid hb env cb b vN ns k c ρ h) (q : Keep h h') : Mid hb env cb b vN ns k c ρ h' :=
  ⟨M.good.on q, let ⟨m, n⟩ := M.loc; ⟨m, n.keeps q⟩, fun x cc e => let ⟨v, n⟩ := M.cells x cc e; ⟨v, n.keeps q⟩, M.bx.keep q⟩
theorem look_but {x : Str} {v : Value} {b : Addr} {o : Obj} (l : Look env h x v) (e : h.get? b = some o) (q : isSeq o) (kb : KeepB b h h') : Look env h' x v := by
  rcases l with ⟨hk, m, hn, hm⟩ | ⟨hk, cc, hc, ov, ho, hd⟩
  · exact .inl ⟨hk, m, hn.at' fun o' e' => kb _ _ (fun z => not_dict hn q (z ▸ e)) e', hm⟩
  · exact .inr ⟨hk, cc, hc, ov, kb _ _ (fun z => not_cell (v := some v) ⟨ov, ho, hd⟩ q (z ▸ e)) ho, hd⟩
/-- a draw -/
theorem Mid.draw (M : Mid hb env cb b vN ns k c ρ h) (kb : KeepB b h h') {k' : Int} (bx : BoxAt h' b vN k' c) : Mid hb env cb b vN ns k' c ρ h' := by
  obtain ⟨t, u, n, e⟩ := M.bx.box
  have mb : b ∈ ([] : List Addr) ++ [b] := by simp
  have nb := M.good.hidB b mb
  obtain ⟨m, hm⟩ := M.loc
  refine ⟨⟨M.good.kind, M.good.gl, M.good.bl, fun a o q => kb a o (fun z => by rw [z, nb] at q; cases q) (M.good.keep a o q), M.good.hidB, fun a q => ?_, fun x d q => ?_, fun x d q => by cases q⟩, ⟨m, hm.at' fun o' e' => kb _ _ (fun z => not_dict hm isSeq_lst (z ▸ e)) e'⟩, fun x cc q => ?_, ⟨bx, M.bx.rN.mono (kb.sub (by simp)), ?_⟩⟩
  · have q : a ∈ [b] := by simpa using q
    rw [List.mem_singleton.mp q]
    obtain ⟨t', u', n', e'⟩ := bx
    exact ⟨_, e'⟩
  · obtain ⟨v, l, r⟩ := M.good.val x d q
    exact ⟨v, look_but l e isSeq_lst kb, r.mono (kb.sub mb)⟩
  · obtain ⟨v, ov, ho, hd⟩ := M.cells x cc q
    exact ⟨v, ov, kb _ _ (fun z => not_cell ⟨ov, ho, hd⟩ isSeq_lst (z ▸ e)) ho, hd⟩
  · obtain ⟨ov, ho, hd⟩ := M.bx.cell
    exact ⟨ov, kb _ _ (fun z => not_cell ⟨ov, ho, hd⟩ isSeq_lst (z ▸ e)) ho, hd⟩
noncomputable abbrev hidL (s : Shared) (env : Env) : Shared := { s with heap := hideAll s.heap [env.locals] }
theorem Mid.inv {s : Shared} (L : LEnv P hb env cb cp) (M : Mid hb env cb b vN ns k c ρ s.heap) : Inv hb (hidL s env) env [] [b] ρ [] s where
  same := ⟨s.heap, s.toks, rfl⟩
  good := M.good
  loc := M.loc
  loc0 := hideAll_none _ List.mem_cons_self
  cells := M.cells
  keep0 := fun a o e => of_hideAll _ e
  base0 := fun a o e => hideAll_get _ (M.good.keep a o e) fun q => by
    rw [List.mem_singleton.mp q, L.nL] at e; cases e
  own0 := fun a q => by cases q
  oc0 := fun a q => by
    rw [List.mem_singleton.mp q]
    obtain ⟨t, u, n, e⟩ := M.bx.box
    obtain ⟨m, hm⟩ := M.loc
    refine ⟨_, hideAll_get _ e fun z => ?_⟩
    rw [List.mem_singleton.mp z] at e
    exact not_dict hm isSeq_lst e
  apart := fun x y ds es a hx => by cases hx
theorem Inv.mid {s s' : Shared} {Own : List Addr} {σ : Sig} {ρ' : Rho} (M : Mid hb env cb b vN ns k c ρ s.heap) (I : Inv hb (hidL s env) env Own [b] ρ' σ s') : Mid hb env cb b vN ns k c ρ' s'.heap := by
  obtain ⟨m, hm⟩ := M.loc
  have kk : ∀ {a o}, s.heap.get? a = some o → a ≠ env.locals → s'.heap.get? a = some o := fun {a o} e q => I.keep0 _ _ (hideAll_get _ e fun z => q (List.mem_singleton.mp z))
  have su : ∀ O, Sub (hid s.heap O) (hid s'.heap O) := fun O a o q e => hid_mk (kk (hid_of e).1 fun z => not_dict hm q (z ▸ (hid_of e).1)) (hid_of e).2
  refine ⟨⟨I.good.kind, I.good.gl, I.good.bl, I.good.keep, fun a q => I.good.hidB a (List.mem_append_right _ (by simpa using q)), fun a q => I.good.hidS a (List.mem_append_right _ (by simpa using q)), fun x d q => ?_, fun x d q => by cases q⟩, I.loc, I.cells, ⟨?_, M.bx.rN.mono (su _), ?_⟩⟩
  · obtain ⟨v, l, r⟩ := I.good.val x d q
    exact ⟨v, l, r.mono (hid_fewer fun a q => List.mem_append_right _ (by simpa using q))⟩
  · obtain ⟨t, u, n, e⟩ := M.bx.box
    exact ⟨t, u, n, kk e fun z => not_dict hm isSeq_lst (z ▸ e)⟩
  · obtain ⟨ov, ho, hd⟩ := M.bx.cell
    exact ⟨ov, kk ho (cell_not_dict ⟨ov, ho, hd⟩ hm), hd⟩
theorem Mid.fewer {ρ' : Rho} (M : Mid hb env cb b vN ns k c ρ h) (q : ∀ x d, get x ρ' = some d → get x ρ = some d) : Mid hb env cb b vN ns k c ρ' h :=
  ⟨⟨M.good.kind, M.good.gl, M.good.bl, M.good.keep, M.good.hidB, M.good.hidS, fun x d e => M.good.val x d (q x d e), fun x d e => by cases e⟩, M.loc, M.cells, M.bx⟩
/-- a local name is stored -/
theorem Mid.local {s : Shared} {m : Str → Option Value} {x : Str} {v : Value} {d : D} (L : LEnv P hb env cb cp) (M : Mid hb env cb b vN ns k c ρ s.heap) (hx : env.kindOf x = some .local) (hm : s.heap.Ns env.locals m) (rv : Rep (hid s.heap [b]) v d)
    (n' : h'.Ns env.locals (fun z => if z = x then some v else m z)) (sb : Heap.SameBut env.locals s.heap h') : Mid hb env cb b vN ns k c (put x d ρ) h' := by
  have I := (M.inv L).putV (tk := s.toks) hm hx (by simpa using rv) n' sb
  exact Inv.mid M I
/-- a cell is stored -/
theorem Mid.cellPut {x : Str} {cc : Addr} {v : Value} {v₀ : Option Value} {d : D} (M : Mid hb env cb b vN ns k c ρ h) (hx : env.kindOf x = some .cell) (hc : env.cells.lookup x = some cc) (n : h.IsCell cc v₀) (hbn : hb.get? cc = Option.none) (hne : cb ≠ cc)
    (ot : ∀ y d, y ≠ x → get y ρ = some d → env.cells.lookup y ≠ some cc) (rv : Rep (hid h [b]) v d) (n' : h'.IsCell cc (some v)) (sb : Heap.SameBut cc h h') : Mid hb env cb b vN ns k c (put x d ρ) h' := by
  obtain ⟨m, hm⟩ := M.loc
  have ne : ∀ {a o}, h.get? a = some o → a ≠ cc → h'.get? a = some o := fun {a o} e q => (sb.2 a q).trans e
  have su : ∀ O, Sub (hid h O) (hid h' O) := fun O => hid_sameCell n sb
  refine ⟨⟨M.good.kind, M.good.gl, M.good.bl, fun a o e => ne (M.good.keep a o e) fun z => (by rw [z, hbn] at e; cases e), M.good.hidB, fun a q => ?_, fun y e q => ?_, fun y e q => (by cases q)⟩, ⟨m, hm.sameBut sb (cell_not_dict n hm).symm⟩, fun y c' q => ?_, ⟨?_, M.bx.rN.mono (su _), ?_⟩⟩
  · obtain ⟨o, e⟩ := M.good.hidS a q
    by_cases z : a = cc
    · obtain ⟨o', e', _⟩ := n'
      exact ⟨o', z ▸ e'⟩
    · exact ⟨o, ne e z⟩
  · rw [get_put] at q
    by_cases hy : y = x
    · subst hy
      rw [if_pos rfl] at q
      cases q
      exact ⟨v, .inr ⟨.inl hx, cc, hc, n'⟩, rv.mono (su _)⟩
    · rw [if_neg hy] at q
      obtain ⟨u, l, r⟩ := M.good.val y e q
      refine ⟨u, ?_, r.mono (su _)⟩
      rcases l with ⟨hk, m', hn, hm'⟩ | ⟨hk, c', hc', hv⟩
      · exact .inl ⟨hk, m', hn.sameBut sb (cell_not_dict n hn).symm, hm'⟩
      · exact .inr ⟨hk, c', hc', hv.sameBut sb fun z => ot y e hy q (z ▸ hc')⟩
  · by_cases z : c' = cc
    · exact ⟨_, z ▸ n'⟩
    · obtain ⟨v', hv'⟩ := M.cells y c' q
      exact ⟨v', hv'.sameBut sb z⟩
  · obtain ⟨t, u, j, e⟩ := M.bx.box
    exact ⟨t, u, j, ne e fun z => not_cell n isSeq_lst (z ▸ e)⟩
  · exact M.bx.cell.sameBut sb hne
end
end Mine
namespace Mine
section
variable {prog : Program} {w : World} {A : Around} {E Q : Value → Shared → Prop} {s : Shared} {hb : Heap} {mg mb : Str → Option Value} {env : Env} {cb cp b : Addr} {vN : Value} {ns : List Int} {k c : Int} {ρ : Rho}
theorem gl_fn {sc : Scope} {x : Str} {a : Addr} {ρ : Rho} (hx : sc.names.lookup x = some .globalImplicit) (ok : okName x = true) (hr : get x ρ = Option.none) (hg : gl x = some (.fn a)) : evName T0 sc ρ x = some (.fn a) := by
  unfold evName
  rw [if_pos ok, hr]
  show (if sc.names.lookup x = some .globalImplicit then gl x else Option.none) = _
  rw [if_pos hx, hg]
theorem call_by {T : Tb} {dep : Nat} {sc : Scope} {x : Str} {a : Addr} {args : List Expr} {p pos : Pos} {Own Oc : List Addr} {σ : Sig} (K : TbOk prog w T hb mg mb dep) (hs : ScOk sc env) (g : Good hb env s.heap Own Oc ρ σ) (hn : evName T sc ρ x = some (.fn a))
    (fo : ∃ o fd, hb.get? a = some o ∧ o.data = .func fd) (hne : args ≠ []) (hst : args.all notStar = true)
    (h : wpAny (model prog w) A (spliced (backTo pos (starEach args env))) (fun vs s₁ => Keep hb s₁.heap ∧ wpAny (model prog w) A (call (.ref a) vs) Q E s₁) E s) : wpAny (model prog w) A (eval (.Call (.Name x p) args [] pos) env) Q E s := by
  obtain ⟨o, fd, ho, hfd⟩ := fo
  refine Call_ (sound_name K hs g hn fun v rv => ?_)
  cases rv
  exact callWith_args hne hst (.inl ⟨a, o, fd, rfl, ho, hfd⟩) h
theorem draw_e {sc : Scope} {m : Int} {p q r pos : Pos} (G : Gd w.params hb mg mb) (ha : AOk A 1) (hs : ScOk sc env) (hx : sc.names.lookup ("_law_take" : Str) = some .globalImplicit) (g : Good hb env s.heap [] [] [] []) (lb : Look env s.heap "box" (.ref b))
    (nb : hb.get? b = Option.none) (hbx : BoxAt s.heap b vN k c) (rN : Rep (hid s.heap [b]) vN (.lst (ns.map .int))) (hn : ns.length ≤ 24) (hk : 0 ≤ k ∧ k ≤ 100) (hm : 1 ≤ m ∧ m ≤ 10)
    (h : ∀ t h' tk', KeepB b s.heap h' → BoxAt h' b vN (k + 1) c → Q (.int (takeR ns k c m) t) { s with heap := h', toks := tk' }) :
    wpAny (model prog w) A (eval (.Call (.Name "_law_take" p) [.Name "box" q, .Constant (.int m) 0 r] [] pos) env) Q E s := by
  refine call_by (tb0 (prog := prog) (w := w) G) hs g (gl_fn hx (by decide) rfl (by kernel_rfl)) ⟨objOf w.params 205, fdOf w.params 205, G.X 205 _ (by kernel_rfl), by kernel_rfl⟩ (by simp) rfl ?_
  refine args_cons (wpAny_Name (lb.load g.kind (by decide) (args_cons (wpAny_Constant_int (args_nil ⟨g.keep, ?_⟩)) rfl)) (by decide)) rfl
  exact take_ok G ha g.keep nb hbx rN hn hk hm fun t h' tk' k1 k2 => h t h' tk' k1 k2
/-- an item of the pool -/
theorem pool_e {x : Str} {idx : Expr} {p pos : Pos} {vp : Value} {l : List Mine.Q} (gk : env.scope.kind = .function) (ok : okName x = true) (hi : isSlice idx = false) (lp : Look env s.heap x vp) (rp : Rep (hid s.heap [b]) vp (encL l)) (hl : l.length ≤ 400)
    (h : wpAny (model prog w) A (eval idx env) (fun iv s₁ => KeepB b s.heap s₁.heap ∧ ∃ i t, iv = .int i t ∧ 0 ≤ i ∧ i < l.length ∧ ∀ v, Rep (hid s₁.heap [b]) v (enc (l.getD i.toNat (0, 1))) → Q v s₁) E s) :
    wpAny (model prog w) A (eval (.Subscript (.Name x p) idx pos) env) Q E s := by
  refine Subscript_ (wpAny_Name (lp.load gk ok ?_) (by simpa using (Bool.and_eq_true_iff.mp ok).1))
  refine wpAny_mono h (fun iv s₁ h₁ => ?_) fun _ _ e => e
  obtain ⟨k1, i, t, rfl, h0, h1, hQ⟩ := h₁
  have rp := rp.mono (k1.sub (by simp))
  cases rp with
  | lst ga r =>
    have hlt : i.toNat < l.length := by omega
    refine sound_item_lst (fun t k => hs_of hi _ _) (hid_of ga).1 r (k := .int i) (d := enc (l.getD i.toNat (0, 1))) ?_ (.int _ _) hQ
    simp only [itemD, decide_eq_true h0, small_i (i := i) (by omega), Bool.and_self, if_true, List.getElem?_map, List.getElem?_eq_getElem hlt, Option.map_some, List.getD_eq_getElem?_getD, Option.getD_some]
end
/-! ### the shapes of the law's first statements -/
noncomputable abbrev lw (P : Params) (i : Nat) : Stmt := stAt (bd P 241) i
theorem lw_bd (P : Params) : (fdOf P 241).body = .stmts (lw P 0 :: lw P 1 :: lw P 2 :: lw P 3 :: (lb P 4 ++ (lw P 13 :: (lc P 14 ++ [lw P 20, lw P 21])))) := by kernel_rfl
theorem lw_0 (P : Params) : lw P 0 = .Assign [.Name "box" (exP (asgX (lw P 0)))] (.Call (.Name "_law_box" (exP (callF (asgV (lw P 0))))) [.Name "script" (exP (arg1 (asgV (lw P 0))))] [] (exP (asgV (lw P 0)))) (stP (lw P 0)) := by kernel_rfl
theorem lw_1 (P : Params) : lw P 1 = .Assign [.Name "size" (exP (asgX (lw P 1)))] (.BinOp (.Constant (.int 3) 0 (exPc (binL (asgV (lw P 1))))) .Add (.Call (.Name "_law_take" (exP (callF (binR (asgV (lw P 1)))))) [.Name "box" (exP (arg1 (binR (asgV (lw P 1))))), .Constant (.int 2) 0 (exPc (arg2 (binR (asgV (lw P 1)))))] [] (exP (binR (asgV (lw P 1))))) (exP (asgV (lw P 1)))) (stP (lw P 1)) := by kernel_rfl
theorem lw_2 (P : Params) : lw P 2 = .Assign [.Name "pool" (exP (asgX (lw P 2)))] (asgV (lw P 2)) (stP (lw P 2)) := by kernel_rfl
theorem lw_2c (P : Params) : isComp (asgV (lw P 2)) = false := by kernel_rfl
theorem lw_2e (P : Params) : (ev T0 10).E (lsc P) [] [] (asgV (lw P 2)) = some (encL pool) := by kernel_rfl
noncomputable abbrev zL (P : Params) : Expr := binL (asgV (lw P 3))
noncomputable abbrev zC (P : Params) : Expr := binR (asgV (lw P 3))
noncomputable abbrev zS (P : Params) : Scope := lcS (zC P)
theorem lw_3 (P : Params) : lw P 3 = .Assign [.Name "zero" (exP (asgX (lw P 3)))] (.BinOp (.List [elAt (zL P) 0, .Subscript (.Name "pool" (exP (subV (elAt (zL P) 1)))) (subI (elAt (zL P) 1)) (exP (elAt (zL P) 1))] (exP (zL P))) .Add
    (.ListComp (.Subscript (.Name "pool" (exP (subV (lcE (zC P))))) (subI (lcE (zC P))) (exP (lcE (zC P)))) [⟨.Name "turn" (exP (lcX (zC P))), lcI (zC P), [], 0⟩] (zS P) (exP (zC P))) (exP (asgV (lw P 3)))) (stP (lw P 3)) := by kernel_rfl
theorem lw_3a (P : Params) (ρ : Rho) : (ev T0 10).E (lsc P) ρ [] (elAt (zL P) 0) = some (enc (0, 1)) ∧ notStar (elAt (zL P) 0) = true := ⟨by kernel_rfl, by kernel_rfl⟩
theorem lw_3b (P : Params) : subI (elAt (zL P) 1) = .BinOp (.Constant (.int 1) 0 (exPc (binL (subI (elAt (zL P) 1))))) .Add (.Call (.Name "_law_take" (exP (callF (binR (subI (elAt (zL P) 1)))))) [.Name "box" (exP (arg1 (binR (subI (elAt (zL P) 1))))), .Constant (.int 6) 0 (exPc (arg2 (binR (subI (elAt (zL P) 1)))))] [] (exP (binR (subI (elAt (zL P) 1))))) (exP (subI (elAt (zL P) 1))) := by kernel_rfl
theorem lw_3c (P : Params) : subI (lcE (zC P)) = .Call (.Name "_law_take" (exP (callF (subI (lcE (zC P)))))) [.Name "box" (exP (arg1 (subI (lcE (zC P))))), .Constant (.int 7) 0 (exPc (arg2 (subI (lcE (zC P)))))] [] (exP (subI (lcE (zC P)))) := by kernel_rfl
noncomputable def rSP (n : Nat) : Rho := [("size", .int (n : Int)), ("pool", encL pool)]
theorem lw_3d (P : Params) (n : Nat) : iterD T0 ((ev T0 10).E (lsc P) (rSP n) []) (lsc P) (rSP n) (lcI (zC P)) = op1 rangeD (consO (some (.int ((n : Int) - 2))) (some [])) := by kernel_rfl
theorem lw_3s (P : Params) : (zS P).kind = .function ∧ ((zS P).names.all fun y => decide (y.2 ≠ .cell)) = true ∧ ((zS P).names.all fun y => decide (y.2 = .local → (zS P).names.lookup y.1 = some .local)) = true ∧ (zS P).names.lookup ("turn" : Str) = some .local ∧
    (zS P).names.lookup ("box" : Str) = some .free ∧ (zS P).names.lookup ("pool" : Str) = some .free ∧ (zS P).names.lookup ("_law_take" : Str) = some .globalImplicit ∧ ((zS P).names.all fun y => decide (y.2 = .free → y.1 = "box" ∨ y.1 = "pool")) = true := ⟨by kernel_rfl, by kernel_rfl, by kernel_rfl, by kernel_rfl, by kernel_rfl, by kernel_rfl, by kernel_rfl, by kernel_rfl⟩
end Mine
namespace Mine
section
variable {prog : Program} {w : World} {A : Around} {E Q : Value → Shared → Prop} {s : Shared} {hb : Heap} {mg mb : Str → Option Value} {env : Env} {cb cp b : Addr} {vN : Value} {ns : List Int} {k c : Int} {ρ : Rho}
/-- the drawn items of the comprehension -/
noncomputable def drawQ (ns : List Int) (c : Int) : Int → Nat → List Mine.Q
  | _, 0 => []
  | k, n + 1 => pool.getD (takeR ns k c 7).toNat (0, 1) :: drawQ ns c (k + 1) n
theorem drawQ_len (ns : List Int) (c : Int) : ∀ (n : Nat) (k : Int), (drawQ ns c k n).length = n
  | 0, _ => rfl
  | n + 1, k => by simp [drawQ, drawQ_len ns c n]
theorem drawQ_snoc (ns : List Int) (c : Int) : ∀ (n : Nat) (k : Int), drawQ ns c k (n + 1) = drawQ ns c k n ++ [pool.getD (takeR ns (k + n) c 7).toNat (0, 1)]
  | 0, k => by simp [drawQ]
  | n + 1, k => by
    have e := drawQ_snoc ns c n (k + 1)
    rw [drawQ, e]
    show _ = (_ :: drawQ ns c (k + 1) n) ++ _
    rw [List.cons_append]
    congr 4
    rw [show k + 1 + (n : Int) = k + ((n + 1 : Nat) : Int) by omega]
theorem zcomp {n : Nat} (G : Gd w.params hb mg mb) (L : LEnv w.params hb env cb cp) (ha : AOk A 1) (M : Mid hb env cb b vN ns k c (rSP n) s.heap) (hn2 : 2 ≤ n) (hn4 : n ≤ 10) (hns : ns.length ≤ 24) (hk : 0 ≤ k ∧ k ≤ 50)
    (h : ∀ v h' tk', KeepB b s.heap h' → BoxAt h' b vN (k + ((n - 2 : Nat) : Int)) c → Rep (hid h' [b]) v (encL (drawQ ns c k (n - 2))) → Q v { s with heap := h', toks := tk' }) :
    wpAny (model prog w) A (eval (.ListComp (.Subscript (.Name "pool" (exP (subV (lcE (zC w.params))))) (subI (lcE (zC w.params))) (exP (lcE (zC w.params)))) [⟨.Name "turn" (exP (lcX (zC w.params))), lcI (zC w.params), [], 0⟩] (zS w.params) (exP (zC w.params))) env) Q E s := by
  obtain ⟨hck, hcell, hnames, hx, hxb, hxp, hxt, hfr⟩ := lw_3s w.params
  have hcell : ∀ y ∈ (zS w.params).names, y.2 ≠ .cell := fun y hy => of_decide_eq_true (List.all_eq_true.mp hcell y hy)
  have hnames : ∀ y ∈ (zS w.params).names, y.2 = .local → (zS w.params).names.lookup y.1 = some .local := fun y hy => of_decide_eq_true (List.all_eq_true.mp hnames y hy)
  have hfr : ∀ y ∈ (zS w.params).names, y.2 = .free → y.1 = "box" ∨ y.1 = "pool" := fun y hy => of_decide_eq_true (List.all_eq_true.mp hfr y hy)
  have K := tb0 (prog := prog) (w := w) G
  have hd : iterD T0 ((ev T0 10).E env.scope (rSP n) []) env.scope (rSP n) (lcI (zC w.params)) = some ((List.range (n - 2)).map fun i : Nat => D.int (i : Int)) := by
    rw [L.sc, lw_3d, consO_s, op1_s, show (n : Int) - 2 = ((n - 2 : Nat) : Int) by omega, rangeD_1 _ (by omega)]
  obtain ⟨tb, ub, nb0, eb⟩ := M.bx.box
  have nb : hb.get? b = Option.none := M.good.hidB b (by simp)
  rw [eval_ListComp]
  refine wpAny_comprehension_free (use := Option.none) rfl (folded (iter_noSet hd)) (closure_of fun y hy q => ?_) hck hnames ?_
  · rcases hfr y hy q with e | e
    · rw [e, L.boxC]; rfl
    · rw [e, L.poolC]; rfl
  refine sound_iter K (ha.less (by decide)) scOk_self M.good (fun E Q s e d g q h => (sound_ev K 10).1 A E Q s env env.scope [] [b] _ _ e d (ha.less (by decide)) scOk_self g q fun v h' tk' k r _ => h v h' tk' k r) hd fun it s₂ h₁ I fp wr m P St e k₁ F => ?_
  obtain ⟨h₂, tk₂, rfl⟩ := e
  have hit := F.isIt
  subst hit
  have k₂ : Keep s.heap h₂ := k₁.trans F.keep
  refine wpAny_newObj_type (wpAny_newFunctionEnv hcell (by intro y hy; simp at hy) (fun h₃ hns₃ hsb₃ => ?_) hck)
  dsimp only at hns₃ hsb₃ ⊢
  generalize hH : h₂.push { cls := .type "list", dict := Option.none, data := .seq ([] : List Value).toArray } = H at hns₃ hsb₃ ⊢
  have hC : H.objs.size = h₂.objs.size + 1 := by rw [← hH, Heap.size_push]
  have hDC : h₂.objs.size ≠ H.objs.size := by rw [hC]; exact Nat.ne_of_lt (Nat.lt_succ_self _)
  have k₃ : Keep h₂ h₃ := fun b o e => hsb₃.extBut b o (by rw [hC]; exact Nat.ne_of_lt (Nat.lt_succ_of_lt (Heap.lt_size e))) (Heap.get?_push_of_some _ (hH ▸ Heap.get?_push_of_some _ e))
  have hacc : h₃.get? h₂.objs.size = some (lstO [] 0) := hsb₃.extBut _ _ hDC (Heap.get?_push_of_some _ (hH ▸ Heap.get?_push_size _ rfl))
  have nD : h₂.get? h₂.objs.size = Option.none := none_size _
  have nC : h₂.get? H.objs.size = Option.none := none_ge (by rw [hC]; exact Nat.le_succ _)
  generalize h₂.objs.size = Lc at *
  generalize H.objs.size = C at *
  have old : ∀ {a : Addr} {o : Obj}, h₂.get? a = some o → a ≠ Lc ∧ a ≠ C := fun {a o} e => ⟨fun q => (by rw [q, nD] at e; cases e), fun q => (by rw [q, nC] at e; cases e)⟩
  have fpo : ∀ a ∈ fp, a ≠ Lc ∧ a ≠ C := fun a hb' => let ⟨_, e⟩ := F.has a hb'; old e
  have fpb : b ∉ fp := fun z => by
    rcases F.reads b z with q | ⟨o, _, _, q⟩
    · rw [k₁ _ _ eb] at q; cases q
    · exact q (by simp)
  have wrb : b ∉ wr := fun z => fpb (F.walks.sub _ z)
  have hlen : m = n - 2 := by rw [F.len]; simp
  have loop : ∀ tk, codeAny (model prog w) A (.compLoop (.ListComp (.Subscript (.Name "pool" (exP (subV (lcE (zC w.params))))) (subI (lcE (zC w.params))) (exP (lcE (zC w.params)))) [⟨.Name "turn" (exP (lcX (zC w.params))), lcI (zC w.params), [], 0⟩] (zS w.params) (exP (zC w.params))) 0 (.ref I) (.ref Lc) (compEnvC (zS w.params) (clF env (zS w.params).names []) C env))
      (compPost (model prog w) A E Option.none Q (.ref Lc) C) { s with heap := h₃, toks := tk } := by
    intro tk
    refine codeAny_compLoop_list (fun kk s' => ∃ i vs n' m' h' tk', s' = { s with heap := h', toks := tk' } ∧ i ≤ m ∧ kk = m + 1 - i ∧ St i h' ∧ h'.Ns C m' ∧ h'.get? Lc = some (lstO vs n') ∧ Reps (hid h' [Lc, b]) vs ((drawQ ns c k i).map enc) ∧ BoxAt h' b vN (k + (i : Int)) c ∧
        ∀ a o, a ∉ wr → a ≠ b → h₂.get? a = some o → h'.get? a = some o) ?_ (m + 1) ⟨0, [], 0, _, h₃, tk, rfl, Nat.zero_le _, rfl, F.walks.frame _ _ _ F.st fun a _ o e => k₃ a o e, hns₃, hacc, .nil, ⟨_, _, _, by simpa using k₃ _ _ (k₂ _ _ eb)⟩, fun a o _ _ e => k₃ a o e⟩
    rintro kk s' ⟨i, vs, n', m', h', tk', rfl, hi, rfl, hst, hns', hL, hR, hB, hk'⟩
    have eb₂ : h₂.get? b = some _ := k₂ _ _ eb
    have kk : KeepB b h₁ h' := fun a o z e => hk' a o (fun q => by rw [F.isNew a q] at e; cases e) z (F.keep a o e)
    have ks : KeepB b s.heap h' := fun a o z e => kk a o z (k₁ a o e)
    have hLw : Lc ∉ wr := fun q => (fpo Lc (F.walks.sub _ q)).1 rfl
    have hCw : C ∉ wr := fun q => (fpo C (F.walks.sub _ q)).2 rfl
    have bL : b ≠ Lc := (old eb₂).1
    have bC : b ≠ C := (old eb₂).2
    by_cases hlt : i < m
    · refine F.walks.item i _ _ _ hlt hst fun v h₄ tk₄ hP hst₄ hk₄ => ?_
      have hns₄ : h₄.Ns C m' := hns'.at' fun o e => hk₄ _ o hCw e
      refine wpAny_assign_Name (wpAny_storeName_local (env := compEnvC (zS w.params) (clF env (zS w.params).names []) C env) (lookup_relabel_local hx) hns₄ (fun h₅ hn₅ hs₅ => ?_) (by simp [compEnvC, relabel, hck]))
      have up : ∀ a o, a ∉ wr → a ≠ C → h'.get? a = some o → h₅.get? a = some o := fun a o hbw hbC e => hs₅.extBut a o hbC (hk₄ a o hbw e)
      have k₅ : KeepB b s.heap h₅ := fun a o z e => up a o (fun q => by have e' := k₁ _ _ e; rw [F.isNew a q] at e'; cases e') (old (k₂ a o e)).2 (ks a o z e)
      have hL₅ : h₅.get? Lc = some (lstO vs n') := up Lc _ hLw hDC hL
      obtain ⟨t₅, u₅, n₅, eb₅⟩ := hB
      have eb₅ := up b _ wrb bC eb₅
      have q₅ : ∀ O, Sub (hid h' O) (hid h₅ O) := fun O => (hid_wr (F.noseq i h' hst) hk₄).trans (hid_sameNs hns₄ hs₅)
      have M₅ : Mid hb env cb b vN ns (k + (i : Int)) c (rSP n) h₅ := M.draw k₅ ⟨_, _, _, eb₅⟩
      have gk' : (compEnvC (zS w.params) (clF env (zS w.params).names []) C env).scope.kind = .function := hck
      have lbx : Look (compEnvC (zS w.params) (clF env (zS w.params).names []) C env) h₅ "box" (.ref b) := .inr ⟨.inl (relabel_free L.kind L.boxK hxb), cb, clF_acc L.boxC _ _ (.inr ⟨lookup_in hxb, rfl⟩), M₅.bx.cell⟩
      obtain ⟨vp, lp, rp⟩ := M₅.good.val "pool" (encL pool) (by kernel_rfl)
      have lpo : Look (compEnvC (zS w.params) (clF env (zS w.params).names []) C env) h₅ "pool" vp := by
        rcases lp with ⟨hl', _⟩ | ⟨_, a, ha', hv⟩
        · rw [L.poolK] at hl'; cases hl'
        · exact .inr ⟨.inl (relabel_free L.kind L.poolK hxp), a, clF_acc ha' _ _ (.inr ⟨lookup_in hxp, rfl⟩), hv⟩
      have g₅ : Good hb (compEnvC (zS w.params) (clF env (zS w.params).names []) C env) h₅ [] [] [] [] := ⟨hck, L.gl, L.bl, M₅.good.keep, fun a q => (by cases q), fun a q => (by cases q), fun y d q => (by cases q), fun y d q => (by cases q)⟩
      have sc₅ : ScOk (zS w.params) (compEnvC (zS w.params) (clF env (zS w.params).names []) C env) := ⟨fun x h => relabel_glob h, fun x h => absurd rfl (hcell (x, .cell) (lookup_in h)), fun x h => lookup_relabel_local h⟩
      refine pool_e (b := b) (l := pool) gk' (by decide) (by rw [lw_3c]; rfl) lpo (by simpa using rp) (by decide) ?_
      rw [lw_3c]
      refine draw_e G ha sc₅ hxt g₅ lbx nb M₅.bx.box M₅.bx.rN hns (by omega) (by decide) fun t₆ h₆ tk₆ k₆ b₆ => ?_
      have hr := takeR_lt ns (k + (i : Int)) c (show (0 : Int) < 7 by decide)
      refine ⟨k₆, _, t₆, rfl, hr.1, hr.2, fun y ry => ?_⟩
      have hL₆ : h₆.get? Lc = some (lstO vs n') := k₆ _ _ bL.symm hL₅
      have hvl := hR.length
      have hql : ((drawQ ns c k i).map enc).length = i := by rw [List.length_map, drawQ_len]
      refine wpAny_list_append_plain ⟨n', hL₆⟩ (fun h₇ hp₇ hs₇ => ?_) (by rw [List.size_toArray, sizeLine_eq]; omega)
      obtain ⟨n₇, hL₇⟩ := hp₇
      have e7 : vs.toArray.push y = (vs ++ [y]).toArray := by simp
      rw [e7] at hL₇
      have up₇ : ∀ a o, a ∉ wr → a ≠ C → a ≠ Lc → a ≠ b → h'.get? a = some o → h₇.get? a = some o := fun a o hbw hbC hbL hbb e => hs₇.extBut a o hbL (k₆ a o hbb (up a o hbw hbC e))
      refine ⟨m + 1 - (i + 1), by omega, i + 1, vs ++ [y], n₇, _, h₇, tk₆, rfl, hlt, rfl, ?_, ((hn₅.at' fun o e => k₆ _ _ bC.symm e)).sameBut hs₇ hDC.symm, hL₇, ?_, ?_, fun a o hbw hbb e => up₇ a o hbw (old e).2 (old e).1 hbb (hk' a o hbw hbb e)⟩
      · exact F.walks.frame _ _ _ hst₄ fun a hbf o e => hs₇.extBut a o (fpo a hbf).1 (k₆ a o (fun z => fpb (z ▸ hbf)) (hs₅.extBut a o (fpo a hbf).2 e))
      · rw [drawQ_snoc, List.map_append]
        have s₇ : Sub (hid h₆ [Lc, b]) (hid h₇ [Lc, b]) := hid_sameBut hs₇ List.mem_cons_self
        -- the item avoids the list that grows
        have ry' : Rep (hid h₆ [Lc, b]) y (enc (pool.getD (takeR ns (k + (i : Int)) c 7).toNat (0, 1))) := by
          cases ry with
          | tup ga r =>
            refine .tup (hid_mk (hid_of ga).1 fun z => ?_) ?_
            · rcases List.mem_cons.mp z with z | z
              · have := (hid_of ga).1
                rw [z, hL₆] at this
                have := congrArg Obj.cls (Option.some.inj this)
                simp [lstO, tupO] at this
              · exact (hid_of ga).2 z
            · cases r with
              | cons r1 r2 => cases r2 with
                | cons r2 r3 =>
                  cases r3; cases r1; cases r2
                  exact .cons (.int _ _) (.cons (.int _ _) .nil)
        exact (hR.mono ((q₅ _).trans ((k₆.sub (by simp)).trans s₇))).append (Reps.one (ry'.mono s₇))
      · obtain ⟨t₆', u₆', n₆', e₆⟩ := b₆
        exact ⟨t₆', u₆', n₆', by
          rw [show k + (((i + 1 : Nat)) : Int) = k + (i : Int) + 1 by omega]
          exact hs₇.extBut _ _ bL e₆⟩
    · have hin : i = m := by omega
      subst hin
      refine F.walks.done _ _ _ hst fun h₄ tk₄ hk₄ => ?_
      have hns₄ : h₄.Ns C m' := hns'.at' fun o e => hk₄ _ o hCw e
      refine ⟨m', hns₄, fun h₅ hs₅ => ?_⟩
      have up : ∀ a o, a ∉ wr → a ≠ C → h'.get? a = some o → h₅.get? a = some o := fun a o hbw hbC e => hs₅.extBut a o hbC (hk₄ a o hbw e)
      have k₅ : KeepB b s.heap h₅ := fun a o z e => up a o (fun q => by have e' := k₁ _ _ e; rw [F.isNew a q] at e'; cases e') (old (k₂ a o e)).2 (ks a o z e)
      have hL₅ : h₅.get? Lc = some (lstO vs n') := up Lc _ hLw hDC hL
      obtain ⟨t₅, u₅, n₅, eb₅⟩ := hB
      have eb₅ := up b _ wrb bC eb₅
      have r₅ : Reps (hid h₅ [Lc, b]) vs ((drawQ ns c k i).map enc) := hR.mono ((hid_wr (F.noseq i h' hst) hk₄).trans (hid_sameNs hns₄ hs₅))
      rw [hlen] at r₅ eb₅
      refine h (.ref Lc) h₅ tk₄ k₅ ⟨_, _, _, eb₅⟩ (.lst (hid_mk hL₅ fun z => bL (List.mem_singleton.mp z).symm) (r₅.mono (hid_fewer fun a q => List.mem_cons_of_mem _ q)))
  exact codeAny_compStart_list (loop _) (F.walks.self 0 _ _ _ (F.walks.frame _ _ _ F.st fun a _ o e => k₃ a o e) (loop _))
end
end Mine
namespace Mine
section
variable {prog : Program} {w : World} {A : Around} {E : Value → Shared → Prop} {s : Shared} {hb : Heap} {mg mb : Str → Option Value} {env : Env} {cb cp b : Addr} {vN : Value} {ns : List Int} {k c : Int} {ρ : Rho}
theorem pool_in {i : Nat} (h : i < 7) : pool.getD i (0, 1) ∈ pool := by
  rw [List.getD_eq_getElem?_getD, List.getElem?_eq_getElem (show i < pool.length from h)]
  exact List.getElem_mem _
theorem pool_in1 {i : Nat} (h1 : 1 ≤ i) (h : i < 7) : pool.getD i (0, 1) ∈ pool.drop 1 := by
  have : ∀ i : Fin 7, 1 ≤ i.val → pool.getD i.val (0, 1) ∈ pool.drop 1 := by decide
  exact this ⟨i, h⟩ h1
theorem drawQ_in (ns : List Int) (c k : Int) {n : Nat} (h : n = 1 ∨ n = 2) : drawQ ns c k n ∈ tls := by
  have f : ∀ k, (takeR ns k c 7).toNat < 7 := fun k => by have := takeR_lt ns k c (show (0 : Int) < 7 by decide); omega
  rcases h with rfl | rfl
  · exact List.mem_append_left _ (List.mem_map.mpr ⟨_, pool_in (f k), rfl⟩)
  · exact List.mem_append_right _ (List.mem_flatten.mpr ⟨_, List.mem_map.mpr ⟨_, pool_in (f k), rfl⟩, List.mem_map.mpr ⟨_, pool_in (f (k + 1)), rfl⟩⟩)
noncomputable def rS1 (n : Nat) : Rho := [("size", .int (n : Int))]
theorem put_pool (n : Nat) : put "pool" (encL pool) (rS1 n) = rSP n := by kernel_rfl
theorem put_zero (n : Nat) (z : List Q) (x : Str) (d : D) : get x (rA0 n z) = some d → get x (put "zero" (encL z) (rSP n)) = some d := by
  intro h
  unfold rA0 at h
  rw [get] at h
  split at h
  · rename_i e; cases h; subst e; kernel_rfl
  · rw [get] at h
    split at h
    · rename_i e; cases h; subst e; kernel_rfl
    · cases h
theorem start_ok {Q : Flow → Shared → Prop} {rest : List Stmt} {l : Addr} {vs : List Value} {ns : List Int} (G : Gd w.params hb mg mb) (L : LEnv w.params hb env cb cp) (ha : AOk A 1) (kb : Keep hb s.heap) (hloc : ∃ m, s.heap.Ns env.locals m)
    (hcells : ∀ x cc, env.cells.lookup x = some cc → ∃ v, s.heap.IsCell cc v) (ls : Look env s.heap "script" (.ref l)) (hl : s.heap.IsList l vs.toArray) (hi : IntsAre vs ns) (hn : ns.length ≤ 63)
    (h : ∀ s' b vN ns' k c n c0 t, (∃ h' tk', s' = { s with heap := h', toks := tk' }) → Mid hb env cb b vN ns' k c (rA0 n ((0, 1) :: c0 :: t)) s'.heap → ns'.length ≤ 24 → 0 ≤ k → k ≤ 10 → c0 ∈ pool.drop 1 → t ∈ tls → n = t.length + 2 → (n = 3 ∨ n = 4) →
      wpAny (model prog w) A (execs rest env) Q E s') :
    wpAny (model prog w) A (execs (lw w.params 0 :: lw w.params 1 :: lw w.params 2 :: lw w.params 3 :: rest) env) Q E s := by
  have K := tb0 (prog := prog) (w := w) G
  have ha0 : AOk A 0 := ha.less (by decide)
  have hsz : env.kindOf "size" = some .local := by show env.scope.names.lookup _ = _; rw [L.sc]; kernel_rfl
  have hzr : env.kindOf "zero" = some .local := by show env.scope.names.lookup _ = _; rw [L.sc]; kernel_rfl
  have hbxG : env.scope.names.lookup ("_law_box" : Str) = some .globalImplicit := by rw [L.sc]; kernel_rfl
  have htkG : env.scope.names.lookup ("_law_take" : Str) = some .globalImplicit := by rw [L.sc]; kernel_rfl
  have g0 : Good hb env s.heap [] [] [] [] := ⟨L.kind, L.gl, L.bl, kb, fun a q => (by cases q), fun a q => (by cases q), fun y d q => (by cases q), fun y d q => (by cases q)⟩
  -- box
  refine wpAny_execs_cons ?_
  rw [lw_0]
  refine wpAny_Assign_Name (call_by K scOk_self g0 (gl_fn hbxG (by decide) rfl (by kernel_rfl)) ⟨objOf w.params 210, fdOf w.params 210, G.X 210 _ (by kernel_rfl), by kernel_rfl⟩ (by simp) rfl (args_cons (wpAny_Name (ls.load L.kind (by decide) (args_nil ⟨kb, ?_⟩)) (by decide)) rfl))
  refine box_ok G ha kb hl hi hn fun b vN h₁ tk₁ c nb₀ k₁ b₁ r₁ => ?_
  obtain ⟨vb, hvb⟩ := hcells _ _ L.boxC
  refine wpAny_storeName_cell L.kind L.boxK L.boxC (hvb.keeps k₁) fun h₂ n₂ sb₂ => ?_
  dsimp only at n₂ sb₂ ⊢
  obtain ⟨m, hm⟩ := hloc
  have hbn : hb.get? b = Option.none := by
    cases q : hb.get? b with
    | none => rfl
    | some o => rw [kb _ _ q] at nb₀; cases nb₀
  have hbc : b ≠ cb := fun z => by
    obtain ⟨o, e, _⟩ := hvb
    rw [z, e] at nb₀; cases nb₀
  have ne₂ : ∀ {a o}, h₁.get? a = some o → a ≠ cb → h₂.get? a = some o := fun {a o} e q => (sb₂.2 a q).trans e
  have b₂ : BoxAt h₂ b vN 0 c := by
    obtain ⟨t, u, n, e⟩ := b₁
    exact ⟨t, u, n, ne₂ e hbc⟩
  have M₂ : Mid hb env cb b vN (boxL ns) 0 c [] h₂ := by
    refine ⟨⟨L.kind, L.gl, L.bl, fun a o e => ne₂ (k₁ _ _ (kb _ _ e)) fun z => (by rw [z, L.nb] at e; cases e), fun a q => ?_, fun a q => ?_, fun y d q => (by cases q), fun y d q => (by cases q)⟩, ⟨m, (hm.keeps k₁).sameBut sb₂ (cell_not_dict hvb hm).symm⟩, fun x cc q => ?_, ⟨b₂, r₁.mono (hid_sameCell (hvb.keeps k₁) sb₂), n₂⟩⟩
    · have q : a ∈ [b] := q
      rw [List.mem_singleton.mp q]; exact hbn
    · have q : a ∈ [b] := q
      rw [List.mem_singleton.mp q]
      obtain ⟨t, u, n, e⟩ := b₂
      exact ⟨_, e⟩
    · by_cases z : cc = cb
      · exact ⟨_, z ▸ n₂⟩
      · obtain ⟨v', hv'⟩ := hcells x cc q
        exact ⟨v', (hv'.keeps k₁).sameBut sb₂ z⟩
  have hns : (boxL ns).length ≤ 24 := by
    unfold boxL
    rw [List.length_map, List.length_take]; omega
  generalize boxL ns = bs at M₂ hns
  -- size
  refine wpAny_execs_cons ?_
  rw [lw_1]
  have lbx : ∀ {k' : Int} {ρ' : Rho} {h' : Heap}, Mid hb env cb b vN bs k' c ρ' h' → Look env h' "box" (.ref b) := fun M => .inr ⟨.inl L.boxK, cb, L.boxC, M.bx.cell⟩
  refine wpAny_Assign_Name (wpAny_BinOp (wpAny_Constant_int ?_))
  refine draw_e G ha scOk_self htkG ⟨L.kind, L.gl, L.bl, M₂.good.keep, fun a q => (by cases q), fun a q => (by cases q), fun y d q => (by cases q), fun y d q => (by cases q)⟩ (lbx M₂) hbn M₂.bx.box M₂.bx.rN hns (by decide) (by decide) fun t₃ h₃ tk₃ k₃ b₃ => ?_
  have M₃ := M₂.draw k₃ b₃
  have r2 := takeR_lt bs 0 c (show (0 : Int) < 2 by decide)
  generalize takeR bs 0 c 2 = r at r2
  refine PyProof.Rows.add_int ?_
  obtain ⟨m₃, hm₃⟩ := M₃.loc
  refine wpAny_storeName_local hsz hm₃ (fun h₄ n₄ sb₄ => ?_) (notCls L.kind)
  dsimp only at n₄ sb₄ ⊢
  have M₄ : Mid hb env cb b vN bs (0 + 1) c (put "size" (.int (3 + r)) []) h₄ := Mid.local (s := { s with heap := h₃, toks := 0 }) L M₃ hsz hm₃ (.int _ _) n₄ sb₄
  obtain ⟨n, hnr⟩ : ∃ n : Nat, 3 + r = (n : Int) := ⟨(3 + r).toNat, by omega⟩
  have hn34 : n = 3 ∨ n = 4 := by omega
  have e4 : put "size" (D.int (3 + r)) [] = rS1 n := by rw [hnr]; rfl
  rw [e4] at M₄
  -- pool
  refine wpAny_execs_cons ?_
  rw [lw_2]
  refine wpAny_Assign_Name ((sound_ev K 10).1 A E _ _ env env.scope [] [b] [] [] _ _ ha0 scOk_self (M₄.fewer (ρ' := []) fun x d e => by cases e).good (by rw [L.sc]; exact lw_2e _) fun vp h₅ tk₅ k₅ r₅ _ => ?_) (swapsNo (lw_2c _))
  have M₅ := M₄.on k₅
  obtain ⟨vq, hvq⟩ := M₅.cells _ _ L.poolC
  refine wpAny_storeName_cell L.kind L.poolK L.poolC hvq fun h₆ n₆ sb₆ => ?_
  dsimp only at n₆ sb₆ ⊢
  have M₆ : Mid hb env cb b vN bs (0 + 1) c (put "pool" (encL pool) (rS1 n)) h₆ := M₅.cellPut L.poolK L.poolC hvq L.np L.ne (fun y d hy q hc => by
    unfold rS1 at q
    rw [get] at q
    split at q
    · rename_i e
      subst e
      have hz : env.cells.lookup ("size" : Str) = Option.none ∨ env.cells.lookup ("size" : Str) ≠ some cp := by
        right; intro hc'
        exact L.sizeC hc'
      rcases hz with hz | hz
      · rw [hz] at hc; cases hc
      · exact hz hc
    · cases q) (by simpa using r₅) n₆ sb₆
  rw [put_pool] at M₆
  -- zero
  refine wpAny_execs_cons ?_
  rw [lw_3]
  have gE : ∀ {k' : Int} {ρ' : Rho} {h' : Heap}, Mid hb env cb b vN bs k' c ρ' h' → Good hb env h' [] [] [] [] := fun M => ⟨L.kind, L.gl, L.bl, M.good.keep, fun a q => (by cases q), fun a q => (by cases q), fun y d q => (by cases q), fun y d q => (by cases q)⟩
  refine wpAny_Assign_Name (wpAny_BinOp (wpAny_List ?_))
  refine args_cons ((sound_ev K 10).1 A E _ _ env env.scope [] [b] _ [] _ _ ha0 scOk_self M₆.good (by rw [L.sc]; exact (lw_3a _ _).1) fun v0 h₇ tk₇ k₇ r₇ _ => ?_) (starEach_cons (lw_3a _ (rSP n)).2)
  have M₇ := M₆.on k₇
  have r₇ : Rep (hid h₇ [b]) v0 (enc (0, 1)) := r₇
  obtain ⟨vp', lp, rp⟩ := M₇.good.val "pool" (encL pool) (by kernel_rfl)
  refine args_cons (pool_e (b := b) (l := pool) L.kind (by decide) (by rw [lw_3b]; rfl) lp (by simpa using rp) (by decide) ?_) rfl
  rw [lw_3b]
  refine wpAny_BinOp (wpAny_Constant_int ?_)
  refine draw_e G ha scOk_self htkG (gE M₇) (lbx M₇) hbn M₇.bx.box M₇.bx.rN hns (by decide) (by decide) fun t₈ h₈ tk₈ k₈ b₈ => ?_
  have M₈ := M₇.draw k₈ b₈
  have r6 := takeR_lt bs (0 + 1) c (show (0 : Int) < 6 by decide)
  generalize takeR bs (0 + 1) c 6 = r' at r6
  refine PyProof.Rows.add_int ⟨k₈, 1 + r', _, rfl, by omega, by show _ < ((7 : Nat) : Int); omega, fun v1 rv1 => ?_⟩
  refine args_nil ⟨by rw [sizeLine_eq]; show 2 ≤ _; decide, ?_⟩
  have c0in := pool_in1 (i := (1 + r').toNat) (by omega) (by omega)
  generalize pool.getD (1 + r').toNat (0, 1) = c0 at rv1 c0in
  dsimp only at rv1 ⊢
  have rl : Reps (hid h₈ [b]) [v0, v1] ([(0, 1), c0].map enc) := .cons (r₇.mono (k₈.sub (by simp))) (.cons rv1 .nil)
  have ltb : ∀ a ∈ [b], a < h₈.objs.size := fun a q => by
    rw [List.mem_singleton.mp q]
    obtain ⟨_, _, _, e⟩ := M₈.bx.box
    exact Heap.lt_size e
  have rL := Rep.new_lst ltb rl
  have M₉ := M₈.on (Keep.push (h := h₈) { cls := .type "list", data := .seq [v0, v1].toArray })
  refine zcomp G L ha M₉ (by omega) (by omega) hns (by decide) fun v2 h₁₀ tk₁₀ k₁₀ b₁₀ r₁₀ => ?_
  have M₁₀ := M₉.draw k₁₀ b₁₀
  have tin : drawQ bs c (0 + 1 + 1) (n - 2) ∈ tls := drawQ_in _ _ _ (by omega)
  have tl := drawQ_len bs c (n - 2) (0 + 1 + 1)
  generalize drawQ bs c (0 + 1 + 1) (n - 2) = t at r₁₀ tin tl
  have eadd : binD .Add (encL [(0, 1), c0]) (encL t) = some (encL ((0, 1) :: c0 :: t)) := add_s (a := [(0, 1), c0]) (b := t) (by simp) (by omega)
  refine sound_bin (O := [b]) (fun a q => ?_) eadd (rL.mono (k₁₀.sub (by simp))) r₁₀ fun v3 h₁₁ tk₁₁ k₁₁ r₁₁ => ?_
  · rw [List.mem_singleton.mp q]
    obtain ⟨_, _, _, e⟩ := M₁₀.bx.box
    exact Heap.lt_size e
  have M₁₁ := M₁₀.on k₁₁
  obtain ⟨m₁₁, hm₁₁⟩ := M₁₁.loc
  refine wpAny_storeName_local hzr hm₁₁ (fun h₁₂ n₁₂ sb₁₂ => ?_) (notCls L.kind)
  dsimp only at n₁₂ sb₁₂ ⊢
  have M₁₂ := Mid.local (s := { s with heap := h₁₁, toks := 0 }) L M₁₁ hzr hm₁₁ r₁₁ n₁₂ sb₁₂
  exact h _ b vN bs _ c n c0 t ⟨_, _, rfl⟩ (M₁₂.fewer (put_zero n _)) hns (by omega) (by omega) c0in tin (by omega) hn34
end
end Mine
namespace Mine
/-! ### the facts that the law asks for -/
noncomputable def fst3 (t : List Q) : List Q := (1, 1) :: t ++ [(1, 3)]
structure Facts : Prop where
  a : ∀ c0 ∈ pool.drop 1, ∀ t ∈ tls, chkA ((0, 1) :: c0 :: t) = true
  b : ∀ c0 ∈ pool.drop 1, ∀ t ∈ tls, chkB ((0, 1) :: c0 :: t) = true
  c : ∀ c0 ∈ pool.drop 1, ∀ t ∈ tls, chkC ((0, 1) :: c0 :: t) = true
  d : ∀ c0 ∈ pool.drop 1, ∀ t ∈ tls, chkD ((0, 1) :: c0 :: t) = true
  e : ∀ c0 ∈ pool.drop 1, ∀ t ∈ tls, chkE ((0, 1) :: c0 :: t) = true
  f : ∀ t ∈ tls, chkF (fst3 t) = true
  p : ∀ t ∈ tls, ∀ x b : Int, -3 ≤ x → x ≤ 3 → 1 ≤ b → b ≤ 3 → chkP (fst3 t) x b = true
  r : ∀ t ∈ tls, ∀ k : Nat, k ≤ 3 → chkR (fst3 t) k = true
theorem segA_of (P : Params) {n : Nat} {z f : List Q} (hn : z.length = n) (hn2 : 2 ≤ n) (hn4 : n ≤ 100) (hf : f = (1, 1) :: z.drop 2 ++ [(1, 3)]) (hA : chkA z = true) (hB : chkB z = true) (hC : chkC z = true) (hD : chkD z = true) (hF : chkF f = true) :
    ∃ back s c arcs dz dy, xs TZ mts 40 (lsc P) (rA0 n z) [] (lb P 4) = some (.next (rA5 n z f (oneL n) (letL n) back s c arcs) []) ∧ scM z = some (s, c) ∧ sderM z = some dz ∧ ltM dz c = some dy ∧ sderM s = some dy := by
  have h1 := isS_eq hA
  obtain ⟨back, h3, hB⟩ := okO_eq hB
  obtain ⟨h4, h5⟩ := Bool.and_eq_true_iff.mp hB
  have h4 := isS_eq h4
  have h5 := isS_eq h5
  obtain ⟨⟨s, c⟩, h6, hC⟩ := okO_eq hC
  obtain ⟨arcs, h7, hC⟩ := okO_eq hC
  obtain ⟨ss, h8, hC⟩ := okO_eq hC
  obtain ⟨oo, h9, hC⟩ := okO_eq hC
  obtain ⟨⟨sx, ox⟩, h11, hC⟩ := okO_eq hC
  obtain ⟨dz, h20, hC⟩ := okO_eq hC
  obtain ⟨y, h21, hC⟩ := okO_eq hC
  obtain ⟨hC, h22⟩ := Bool.and_eq_true_iff.mp hC
  obtain ⟨h10, h12⟩ := Bool.and_eq_true_iff.mp hC
  have h10 := isS_eq h10
  have h12 := isS_eq h12
  have h22 := isS_eq h22
  obtain ⟨e1, h13, hD⟩ := okO_eq hD
  obtain ⟨e2, h14, h15⟩ := okO_eq hD
  have h15 := isS_eq h15
  obtain ⟨h2, _⟩ := Bool.and_eq_true_iff.mp hF
  have h2 := isS_eq h2
  rw [hn] at h4 h5 h10 h15
  exact ⟨back, s, c, arcs, dz, y, segA P n z f back s c arcs e1 e2 sx ox ss oo dz dz hn hn2 hn4 hf h1 h2 h3 h4 h5 h6 h7 h8 h9 h10 h11 h12 h13 h14 h15, h6, h20, h21, h22⟩
theorem segB_of (P : Params) {n : Nat} {z f s c dz dy : List Q} {b t : Int} (hn : f.length = n) (ht : t.natAbs ≤ 100) (hE : chkE z = true) (hF : chkF f = true) (hP : chkP f t b = true) (hR : chkR f t.natAbs = true)
    (h13 : scM z = some (s, c)) (h14 : sderM z = some dz) (h15 : ltM dz c = some dy) (h16 : sderM s = some dy) :
    ∃ r, restB P 40 14 (rB f (oneL n) z c s b t) [] = some (.next (rBr f (oneL n) z c s b t r) []) := by
  have hE := isS_eq hE
  obtain ⟨e1, h11, h12⟩ := op1_eq hE
  obtain ⟨_, hF⟩ := Bool.and_eq_true_iff.mp hF
  obtain ⟨i, h9, h10⟩ := okO_eq hF
  have h10 := isS_eq h10
  obtain ⟨q, h1, hP⟩ := okO_eq hP
  obtain ⟨p, h2, hP⟩ := okO_eq hP
  obtain ⟨x, h3, h4⟩ := okO_eq hP
  have h4 := isS_eq h4
  obtain ⟨r, h5, hR⟩ := okO_eq hR
  obtain ⟨h6, hR⟩ := Bool.and_eq_true_iff.mp hR
  have h6 := isS_eq h6
  obtain ⟨y, h7, h8⟩ := okO_eq hR
  have h8 := isS_eq h8
  rw [hn] at h5 h8 h10
  exact ⟨r, segB P n z f s c r i y p p x dz dy e1 q b t ht h1 h2 h3 h4 h5 h6 h7 h8 h9 h10 h11 h12 h13 h14 h15 h16⟩
section
variable {M : Model} {A : Around} {E : Value → Shared → Prop} {s : Shared} {env : Env}
theorem execs_app_eq (env : Env) : ∀ l1 l2 : List Stmt, execs (l1 ++ l2) env = (execs l1 env >>= fun f => match f with | .next => execs l2 env | f => pure f)
  | [], l2 => rfl
  | st :: l1, l2 => by
    have ih := execs_app_eq env l1 l2
    rw [List.cons_append, execs_cons, execs_cons, bind_assoc]
    congr 1
    funext f
    cases f <;> first | exact ih | rfl
theorem execs_app {Q : Flow → Shared → Prop} {l1 l2 : List Stmt} (h : wpAny M A (execs l1 env) (fun f s' => match f with | .next => wpAny M A (execs l2 env) Q E s' | f => Q f s') E s) : wpAny M A (execs (l1 ++ l2) env) Q E s := by
  rw [execs_app_eq]
  refine wpAny_bind (wpAny_mono h (fun f s' x => ?_) fun _ _ e => e)
  cases f <;> first | exact x | exact wpAny_pure x
end
noncomputable abbrev tbV (P : Params) : Expr := asgV (lw P 13)
theorem lw_13 (P : Params) : lw P 13 = .Assign [.Tuple [elAt (asgX (lw P 13)) 0, elAt (asgX (lw P 13)) 1] 0 (exP (asgX (lw P 13)))] (.Tuple [.BinOp (.Call (.Name "_law_take" (exP (callF (binL (elAt (tbV P) 0))))) [.Name "box" (exP (arg1 (binL (elAt (tbV P) 0)))), .Constant (.int 7) 0 (exPc (arg2 (binL (elAt (tbV P) 0))))] [] (exP (binL (elAt (tbV P) 0)))) .Sub (.Constant (.int 3) 0 (exPc (binR (elAt (tbV P) 0)))) (exP (elAt (tbV P) 0)),
    .BinOp (.Constant (.int 1) 0 (exPc (binL (elAt (tbV P) 1)))) .Add (.Call (.Name "_law_take" (exP (callF (binR (elAt (tbV P) 1))))) [.Name "box" (exP (arg1 (binR (elAt (tbV P) 1)))), .Constant (.int 3) 0 (exPc (arg2 (binR (elAt (tbV P) 1))))] [] (exP (binR (elAt (tbV P) 1)))) (exP (elAt (tbV P) 1))] 0 (exP (tbV P))) (stP (lw P 13)) := by kernel_rfl
theorem lw_13s (P : Params) : swapB (lsc P) [elAt (asgX (lw P 13)) 0, elAt (asgX (lw P 13)) 1] [elAt (tbV P) 0, elAt (tbV P) 1] = true ∧ swapN (lsc P) [elAt (asgX (lw P 13)) 0, elAt (asgX (lw P 13)) 1] = (["top", "bottom"] : List Str) := ⟨by kernel_rfl, by kernel_rfl⟩
theorem lw_13e (P : Params) : elAt (tbV P) 0 = .BinOp (.Call (.Name "_law_take" (exP (callF (binL (elAt (tbV P) 0))))) [.Name "box" (exP (arg1 (binL (elAt (tbV P) 0)))), .Constant (.int 7) 0 (exPc (arg2 (binL (elAt (tbV P) 0))))] [] (exP (binL (elAt (tbV P) 0)))) .Sub (.Constant (.int 3) 0 (exPc (binR (elAt (tbV P) 0)))) (exP (elAt (tbV P) 0)) ∧
    elAt (tbV P) 1 = .BinOp (.Constant (.int 1) 0 (exPc (binL (elAt (tbV P) 1)))) .Add (.Call (.Name "_law_take" (exP (callF (binR (elAt (tbV P) 1))))) [.Name "box" (exP (arg1 (binR (elAt (tbV P) 1)))), .Constant (.int 3) 0 (exPc (arg2 (binR (elAt (tbV P) 1))))] [] (exP (binR (elAt (tbV P) 1)))) (exP (elAt (tbV P) 1)) := ⟨by kernel_rfl, by kernel_rfl⟩
noncomputable def rA6 (n : Nat) (z f o l bk s c a : List Q) (x y : Int) : Rho := [("size", .int (n : Int)), ("zero", encL z), ("first", encL f), ("one", encL o), ("letter", encL l), ("back", encL bk), ("arcs", encL a), ("others", encL c), ("sines", encL s), ("bottom", .int y), ("top", .int x)]
theorem put_tb (n : Nat) (z f o l bk s c a : List Q) (x y : Int) : (put "top" (.int x) (put "bottom" (.int y) (rA5 n z f o l bk s c a))) = rA6 n z f o l bk s c a x y := by kernel_rfl
theorem sub_nil {ρ : Rho} : ∀ x d, get x ([] : Rho) = some d → get x ρ = some d := fun x d h => by cases h
theorem sub_cons {ρ r : Rho} {y : Str} {d : D} (h1 : get y ρ = some d) (h2 : ∀ x e, get x r = some e → get x ρ = some e) : ∀ x e, get x ((y, d) :: r) = some e → get x ρ = some e := fun x e h => by
  rw [get] at h
  split at h
  · rename_i q; cases h; rw [q]; exact h1
  · exact h2 x e h
theorem sub_B (n : Nat) (z f o l bk s c a : List Q) (x y : Int) : ∀ v d, get v (rB f o z c s y x) = some d → get v (rA6 n z f o l bk s c a x y) = some d := by
  unfold rB
  exact sub_cons (by kernel_rfl) (sub_cons (by kernel_rfl) (sub_cons (by kernel_rfl) (sub_cons (by kernel_rfl) (sub_cons (by kernel_rfl) (sub_cons (by kernel_rfl) (sub_cons (by kernel_rfl) sub_nil))))))
noncomputable def rFZ (f z : List Q) : Rho := [("first", encL f), ("zero", encL z)]
theorem sub_FZ (f o z c s r : List Q) (b t : Int) : ∀ v d, get v (rFZ f z) = some d → get v (rBr f o z c s b t r) = some d := by
  unfold rFZ
  exact sub_cons (by kernel_rfl) (sub_cons (by kernel_rfl) sub_nil)
section
variable {prog : Program} {w : World} {A : Around} {E : Value → Shared → Prop} {s : Shared} {hb : Heap} {mg mb : Str → Option Value} {env : Env} {cb cp b : Addr} {vN : Value} {ns : List Int} {k c : Int} {ρ : Rho}
/-- a stretch by the evaluator -/
theorem stretch {T : Tb} {dep N : Nat} {l1 l2 : List Stmt} {ρ' : Rho} {σ' : Sig} {Q : Flow → Shared → Prop} (K : TbOk prog w T hb mg mb dep) (L : LEnv w.params hb env cb cp) (ha : AOk A dep) (M : Mid hb env cb b vN ns k c ρ s.heap) (hx : xs T mts N env.scope ρ [] l1 = some (.next ρ' σ'))
    (h : ∀ s', (∃ h' tk', s' = { s with heap := h', toks := tk' }) → Mid hb env cb b vN ns k c ρ' s'.heap → wpAny (model prog w) A (execs l2 env) Q E s') : wpAny (model prog w) A (execs (l1 ++ l2) env) Q E s := by
  refine execs_app (sound_X (mt := mts) K N A E _ s (hidL s env) env [] [b] ρ [] l1 _ ha (M.inv L) hx fun Own' s' I' st' => ?_)
  obtain ⟨h', tk', e⟩ := I'.same
  exact h s' ⟨h', tk', e⟩ (Inv.mid M I')
theorem tb_ok {Q : Flow → Shared → Prop} {rest : List Stmt} {n : Nat} {z f o l bk sn cs ar : List Mine.Q} (G : Gd w.params hb mg mb) (L : LEnv w.params hb env cb cp) (ha : AOk A 1) (M : Mid hb env cb b vN ns k c (rA5 n z f o l bk sn cs ar) s.heap) (hns : ns.length ≤ 24) (hk : 0 ≤ k ∧ k ≤ 50)
    (h : ∀ s' k' x y, (∃ h' tk', s' = { s with heap := h', toks := tk' }) → -3 ≤ x → x ≤ 3 → 1 ≤ y → y ≤ 3 → Mid hb env cb b vN ns k' c (rB f o z cs sn y x) s'.heap → wpAny (model prog w) A (execs rest env) Q E s') :
    wpAny (model prog w) A (execs (lw w.params 13 :: rest) env) Q E s := by
  have htkG : env.scope.names.lookup ("_law_take" : Str) = some .globalImplicit := by rw [L.sc]; kernel_rfl
  have htop : env.kindOf "top" = some .local := by show env.scope.names.lookup _ = _; rw [L.sc]; kernel_rfl
  have hbot : env.kindOf "bottom" = some .local := by show env.scope.names.lookup _ = _; rw [L.sc]; kernel_rfl
  have hbn : hb.get? b = Option.none := M.good.hidB b (by simp)
  have lbx : ∀ {k' : Int} {ρ' : Rho} {h' : Heap}, Mid hb env cb b vN ns k' c ρ' h' → Look env h' "box" (.ref b) := fun M => .inr ⟨.inl L.boxK, cb, L.boxC, M.bx.cell⟩
  have gE : ∀ {k' : Int} {ρ' : Rho} {h' : Heap}, Mid hb env cb b vN ns k' c ρ' h' → Good hb env h' [] [] [] [] := fun M => ⟨L.kind, L.gl, L.bl, M.good.keep, fun a q => (by cases q), fun a q => (by cases q), fun y d q => (by cases q), fun y d q => (by cases q)⟩
  obtain ⟨e0, e1⟩ := lw_13e w.params
  refine wpAny_execs_cons ?_
  rw [lw_13, ← e0, ← e1]
  have hsw : swapB env.scope [elAt (asgX (lw w.params 13)) 0, elAt (asgX (lw w.params 13)) 1] [elAt (tbV w.params) 0, elAt (tbV w.params) 1] = true := by rw [L.sc]; exact (lw_13s _).1
  have hsn : swapN env.scope [elAt (asgX (lw w.params 13)) 0, elAt (asgX (lw w.params 13)) 1] = (["top", "bottom"] : List Str) := by rw [L.sc]; exact (lw_13s _).2
  refine Assign_Tuple_swapped ?_ (by rfl) (swapped_of hsw L.kind)
  rw [hsn]
  refine wpAny_Tuple (args_cons ?_ (by rw [e0]; rfl))
  rw [e0]
  refine wpAny_BinOp (draw_e G ha scOk_self htkG (gE M) (lbx M) hbn M.bx.box M.bx.rN hns (by omega) (by decide) fun t₁ h₁ tk₁ k₁ b₁ => wpAny_Constant_int ?_)
  have M₁ := M.draw k₁ b₁
  have r7 := takeR_lt ns k c (show (0 : Int) < 7 by decide)
  generalize takeR ns k c 7 = x at r7
  refine PyProof.Rows.sub_int (args_cons ?_ (by rw [e1]; rfl))
  rw [e1]
  refine wpAny_BinOp (wpAny_Constant_int ?_)
  refine draw_e G ha scOk_self htkG (gE M₁) (lbx M₁) hbn M₁.bx.box M₁.bx.rN hns (by omega) (by decide) fun t₂ h₂ tk₂ k₂ b₂ => ?_
  have M₂ := M₁.draw k₂ b₂
  have r3 := takeR_lt ns (k + 1) c (show (0 : Int) < 3 by decide)
  generalize takeR ns (k + 1) c 3 = y at r3
  refine PyProof.Rows.add_int (args_nil ⟨by rw [sizeLine_eq]; show 2 ≤ _; decide, ?_⟩)
  dsimp only
  generalize hH : h₂.push { cls := .type "tuple", data := .seq [_, _].toArray } = H
  have M₃ : Mid hb env cb b vN ns (k + 1 + 1) c (rA5 n z f o l bk sn cs ar) H := by rw [← hH]; exact M₂.on (Keep.push _)
  refine wpAny_unpackItems_tuple (items := [_, _].toArray) ha.handled ⟨_, by rw [← hH]; exact Heap.get?_push_size _ rfl, rfl, 0, rfl⟩ fun h₃ e₃ => ?_
  dsimp only at e₃ ⊢
  have k₃ : Keep H h₃ := fun a o e => e₃ a o (Nat.ne_of_lt (Heap.lt_size e)) e
  have M₄ := M₃.on k₃
  obtain ⟨m₄, hm₄⟩ := M₄.loc
  show wpAny _ _ (do holding _ (bindName env "bottom" _); assignInOrder _ _) _ _ _
  refine wpAny_bind (wpAny_holding (wpAny_bindName (wpAny_storeName_local hbot hm₄ (fun h₅ n₅ sb₅ => ?_) (notCls L.kind))))
  dsimp only at n₅ sb₅ ⊢
  have M₅ := Mid.local (d := .int (1 + y)) (s := { s with heap := h₃, toks := 0 }) L M₄ hbot hm₄ (.int _ _) n₅ sb₅
  obtain ⟨m₅, hm₅⟩ := M₅.loc
  show wpAny _ _ (do holding _ (bindName env "top" _); assignInOrder _ _) _ _ _
  refine wpAny_bind (wpAny_holding (wpAny_bindName (wpAny_storeName_local htop hm₅ (fun h₆ n₆ sb₆ => ?_) (notCls L.kind))))
  dsimp only at n₆ sb₆ ⊢
  have M₆ := Mid.local (d := .int (x - 3)) (s := { s with heap := h₅, toks := 0 }) L M₅ htop hm₅ (.int _ _) n₆ sb₆
  rw [put_tb] at M₆
  refine wpAny_pure ?_
  exact h _ _ (x - 3) (1 + y) ⟨_, _, rfl⟩ (by omega) (by omega) (by omega) (by omega) (M₆.fewer (sub_B _ _ _ _ _ _ _ _ _ _ _))
end
end Mine
namespace Mine
section
variable {prog : Program} {w : World} {A : Around} {E : Value → Shared → Prop} {s : Shared} {hb : Heap} {mg mb : Str → Option Value} {env : Env} {cb cp b : Addr} {vN : Value} {ns : List Int} {k c : Int} {ρ : Rho}
theorem middle_ok {Q : Flow → Shared → Prop} {rest : List Stmt} {n : Nat} {c0 : Mine.Q} {t : List Mine.Q} (Fa : Facts) (G : Gd w.params hb mg mb) (L : LEnv w.params hb env cb cp) (ha : AOk A 27) (M : Mid hb env cb b vN ns k c (rA0 n ((0, 1) :: c0 :: t)) s.heap)
    (hc : c0 ∈ pool.drop 1) (ht : t ∈ tls) (hn : n = t.length + 2) (h34 : n = 3 ∨ n = 4) (hns : ns.length ≤ 24) (hk : 0 ≤ k ∧ k ≤ 50)
    (h : ∀ s' k', (∃ h' tk', s' = { s with heap := h', toks := tk' }) → Mid hb env cb b vN ns k' c (rFZ (fst3 t) ((0, 1) :: c0 :: t)) s'.heap → wpAny (model prog w) A (execs rest env) Q E s') :
    wpAny (model prog w) A (execs (lb w.params 4 ++ (lw w.params 13 :: (lc w.params 14 ++ rest))) env) Q E s := by
  obtain ⟨back, sn, cs, ar, dz, dy, hx, h13, h14, h15, h16⟩ := segA_of w.params (n := n) (z := (0, 1) :: c0 :: t) (f := fst3 t) (by simp [hn]) (by omega) (by omega) rfl (Fa.a c0 hc t ht) (Fa.b c0 hc t ht) (Fa.c c0 hc t ht) (Fa.d c0 hc t ht) (Fa.f t ht)
  refine stretch (tkZ G) L ha M (by rw [L.sc]; exact hx) fun s₁ e₁ M₁ => ?_
  obtain ⟨h₁, tk₁, rfl⟩ := e₁
  refine tb_ok G L (ha.less (by decide)) M₁ hns hk fun s₂ k₂ x y e₂ x1 x2 y1 y2 M₂ => ?_
  obtain ⟨h₂, tk₂, rfl⟩ := e₂
  obtain ⟨r, hy⟩ := segB_of w.params (n := n) (z := (0, 1) :: c0 :: t) (f := fst3 t) (b := y) (t := x) (by simp [fst3, hn]) (by omega) (Fa.e c0 hc t ht) (Fa.f t ht) (Fa.p t ht x y x1 x2 y1 y2) (Fa.r t ht x.natAbs (by omega)) h13 h14 h15 h16
  refine stretch (tkZ G) L ha M₂ (by rw [L.sc]; exact hy) fun s₃ e₃ M₃ => ?_
  obtain ⟨h₃, tk₃, rfl⟩ := e₃
  exact h _ _ ⟨_, _, rfl⟩ (M₃.fewer (sub_FZ _ _ _ _ _ _ _ _))
end
end Mine
namespace Mine
/-! ### an exception with a dict of its own, on its way -/
noncomputable def ExcAt (h B : Heap) (e D' : Addr) (C fl : Value) : Prop := ∃ oe vs, h.get? e = some oe ∧ oe.cls = C ∧ oe.dict = some D' ∧ oe.data = .fields vs ∧
  ((vs[1]? = some .none ∧ fl = .none) ∨ ∃ T oT ts, vs[1]? = some (.ref T) ∧ B.get? T = Option.none ∧ T ≠ e ∧ h.get? T = some oT ∧ oT.data = .fields ts ∧ ts[3]? = some fl)
structure Fly (B : Heap) (l : List Env) (e D' : Addr) (C fl : Value) (h : Heap) : Prop where
  stays : B.StaysIn h
  new : B.get? e = Option.none
  frames : h.FunFrames B l
  exc : ExcAt h B e D' C fl
theorem frames_weaken {base B h : Heap} (k : base.StaysIn B) : ∀ {l : List Env}, h.FunFrames B l → h.FunFrames base l
  | [], _ => trivial
  | _ :: _, ⟨hk, ⟨L, o, hf, hn, ho, hd⟩, hr⟩ => ⟨hk, ⟨L, o, hf, fresh_of_stays k hn, ho, hd⟩, frames_weaken k hr⟩
theorem Fly.base {base B h : Heap} {l : List Env} {e D' : Addr} {C fl : Value} (k : base.StaysIn B) (F : Fly B l e D' C fl h) : Fly base l e D' C fl h := by
  obtain ⟨f1, f2, f3, oe, vs, a1, a2, a3, a4, a5⟩ := F
  refine ⟨fun b o q => f1 b o (k b o q), fresh_of_stays k f2, frames_weaken k f3, oe, vs, a1, a2, a3, a4, ?_⟩
  rcases a5 with a5 | ⟨T, oT, ts, b1, b2, b3⟩
  · exact .inl a5
  · exact .inr ⟨T, oT, ts, b1, fresh_of_stays k b2, b3⟩
theorem Fly.pop {B h : Heap} {env : Env} {l : List Env} {e D' : Addr} {C fl : Value} (F : Fly B (env :: l) e D' C fl h) : Fly B l e D' C fl h := ⟨F.stays, F.new, F.frames.2.2, F.exc⟩
section
variable {M : Model} {A : Around} {E : Value → Shared → Prop} {s : Shared} {B : Heap} {env : Env} {outer l : List Env} {L e D' : Addr} {C fl : Value} {Q : Unit → Shared → Prop}
/-- what is no record stays, up to its slots -/
theorem uts_update {h : Heap} {a : Addr} {o : Obj} {vs : Array Value} (ho : h.get? a = some o) (hd : o.data = .fields vs) (f : Obj → Obj) : h.UpToSlots (h.update a f) := fun b o' e hn => ⟨o'.slots, (Heap.get?_update_other _ _ fun z => by rw [← z, ho] at e; cases e; exact hn vs hd).trans e⟩
theorem land_ok (F : Fly B l e D' C fl s.heap) (hQ : ∀ h', Fly B l e D' C .none h' → s.heap.UpToSlots h' → Q () { s with heap := h' }) : wpAny M A (setFlight (.ref e) Option.none) Q E s := by
  obtain ⟨f1, f2, f3, oe, vs, he, hc, hdi, hd, hT⟩ := F
  unfold setFlight
  rcases hT with ⟨h1, hfl⟩ | ⟨T, oT, ts, h1, hnT, hTe, hT, hdT, h3⟩
  · refine wpAny_bind (wpAny_field he hd h1 ?_)
    rw [if_neg (by decide)]
    exact wpAny_pure (hQ s.heap ⟨f1, f2, f3, oe, vs, he, hc, hdi, hd, .inl ⟨h1, rfl⟩⟩ (.refl _))
  · have hsz3 : 3 < ts.size := (Array.getElem?_eq_some_iff.mp h3).1
    refine wpAny_bind (wpAny_field he hd h1 ?_)
    rw [if_pos (show (Value.ref T != Value.none) = true from by simp)]
    have other : ∀ b, b ≠ T → ∀ f : Obj → Obj, (s.heap.update T f).get? b = s.heap.get? b := fun b hb f => Heap.get?_update_other _ _ (Ne.symm hb)
    refine wpAny_setField hT hdT hsz3 (hQ _ ⟨fun b o q => (other b (fun z => by rw [z, hnT] at q; cases q) _).trans (f1 b o q), f2, f3.of_keeps fun b o hb hnf => ⟨o, (other b (fun z => by rw [z, hT] at hb; cases hb; exact hnf ts hdT) _).trans hb, rfl⟩, oe, vs, (other e (Ne.symm hTe) _).trans he, hc, hdi, hd, ?_⟩ (uts_update hT hdT _))
    exact .inr ⟨T, _, _, h1, hnT, hTe, Heap.get?_update_self _ hT (Obj.isFreed_of_fields (Obj.data_mapFields hdT _)), Obj.data_mapFields hdT _, by simp [hsz3]⟩
/-- a new entry of the traceback -/
theorem entry_ok {oe : Obj} {vs : Array Value} {head : Value} {hadNext : Bool} (hfr : A.frames = some (env :: outer)) (hl : s.heap.FunFrames B (env :: outer)) (hf : env.frame = some L) (he : s.heap.get? e = some oe) (hkb : B.StaysIn s.heap) (hen : B.get? e = Option.none)
    (hc : oe.cls = C) (hdi : oe.dict = some D') (hd : oe.data = .fields vs) (hsz : 1 < vs.size) (h : ∀ h', Fly B (env :: outer) e D' C (rawInt L) h' → s.heap.UpToSlots h' → Q () { s with heap := h' }) :
    wpAny M A (do let a ← frameOf env; let pl ← entryPlaceOf L hadNext; let b ← EntryCells.newEntry head a .none (rawInt L) .none pl; setField (.ref e) 1 b) Q E s := by
  have hene : e ∉ (env :: outer).filterMap (·.frame) := fun hm => by
    obtain ⟨_, o, ho, hnf⟩ := hl.mem hm
    rw [he] at ho; cases ho; exact hnf vs hd
  refine wpAny_bind (wpAny_frameOf_fun hfr hl hf fun h₁ hs₁ => wpAny_bind (wpAny_entryPlaceOf fun pl hpl => ?_))
  unfold EntryCells.newEntry newFields
  refine wpAny_bind (wpAny_newObj_type ?_ (hpl.sizeOk5 _ _ _ _ _))
  dsimp only
  generalize hN : ({ cls := .type "traceback", dict := Option.none, data := .fields ([head, .ref L, .none, rawInt L, .none] ++ (if pl.isEmpty then List.replicate 6 Value.none else pl)).toArray } : Obj) = oN
  have he₁ : h₁.get? e = some oe := (hs₁.2.1 e hene).trans he
  have kb₁ : B.StaysIn h₁ := fun b o hbo => (hs₁.2.1 b fun hm => by rw [(hl.mem hm).1] at hbo; cases hbo).trans (hkb b o hbo)
  have he₂ : (h₁.push oN).get? e = some oe := Heap.get?_push_of_some _ he₁
  have hTe : h₁.objs.size ≠ e := Nat.ne_of_gt (Heap.lt_size he₁)
  have hd₃ := Obj.data_mapFields hd (·.setIfInBounds 1 (Value.ref h₁.objs.size))
  have he₃ := Heap.get?_update_self (Obj.mapFields (·.setIfInBounds 1 (Value.ref h₁.objs.size))) he₂ (Obj.isFreed_of_fields hd₃)
  have hT₃ : ((h₁.push oN).update e (Obj.mapFields (·.setIfInBounds 1 (Value.ref h₁.objs.size)))).get? h₁.objs.size = some oN := (Heap.get?_update_other _ _ (Ne.symm hTe)).trans (Heap.get?_push_size h₁ (by rw [← hN]; rfl))
  have keep : ∀ b o, b ≠ e → h₁.get? b = some o → ((h₁.push oN).update e (Obj.mapFields (·.setIfInBounds 1 (Value.ref h₁.objs.size)))).get? b = some o := fun b o hbe hb => (Heap.get?_update_other _ _ (Ne.symm hbe)).trans (Heap.get?_push_of_some _ hb)
  have noRec : ∀ b o, s.heap.get? b = some o → (∀ vs, o.data ≠ .fields vs) → b ≠ e := fun b o hb hnf q => by rw [q, he] at hb; cases hb; exact hnf vs hd
  have cl : (Obj.mapFields (·.setIfInBounds 1 (Value.ref h₁.objs.size)) oe).dict = oe.dict := by cases oe; cases hd; rfl
  refine wpAny_setField he₂ hd hsz (h _ ⟨fun b o hbo => keep b o (fun q => by rw [q, hen] at hbo; cases hbo) (kb₁ b o hbo), hen, hl.of_keeps fun b o hb hnf => ?_, _, _, he₃, (Obj.cls_mapFields _ _).trans hc, cl.trans hdi, hd₃, .inr ⟨h₁.objs.size, oN, _, by simp [hsz], kb₁.fresh, hTe, hT₃, by rw [← hN], by first | (simp; done) | (rcases hpl with rfl | ⟨_, _, _, _, _, _, _, rfl⟩ <;> simp)⟩⟩ fun b o hb hnf => ?_)
  · obtain ⟨sl, hs⟩ := hs₁.2.2 b o hb
    exact ⟨_, keep b _ (noRec b o hb hnf) hs, rfl⟩
  · obtain ⟨sl, hs⟩ := hs₁.2.2 b o hb
    exact ⟨sl, keep b _ (noRec b o hb hnf) hs⟩
theorem note_ok (hfr : A.frames = some (env :: outer)) (hf : env.frame = some L) (F : Fly B (env :: outer) e D' C .none s.heap) (hQ : ∀ h', Fly B (env :: outer) e D' C (rawInt L) h' → s.heap.UpToSlots h' → Q () { s with heap := h' }) :
    wpAny M A (noteFrame (.ref e) env) Q E s := by
  obtain ⟨f1, f2, f3, oe, vs, he, hc, hdi, hd, hT⟩ := F
  unfold noteFrame
  simp only [hf]
  rcases hT with ⟨h1, _⟩ | ⟨T, oT, ts, h1, hnT, hTe, hT, hdT, h3⟩
  · refine wpAny_bind (wpAny_field he hd h1 ?_)
    rw [if_neg (by decide)]
    exact entry_ok hfr f3 hf he f1 f2 hc hdi hd (Array.getElem?_eq_some_iff.mp h1).1 hQ
  · refine wpAny_bind (wpAny_field he hd h1 ?_)
    rw [if_pos (show (Value.ref T != Value.none) = true from by simp)]
    refine wpAny_bind (wpAny_field hT hdT h3 ?_)
    rw [if_neg (show ¬ ((Value.none == rawInt L) = true) from by simp [rawInt])]
    refine wpAny_bind (wpAny_setField hT hdT (Array.getElem?_eq_some_iff.mp h3).1 ?_)
    have other : ∀ b, b ≠ T → ∀ f : Obj → Obj, (s.heap.update T f).get? b = s.heap.get? b := fun b hb f => Heap.get?_update_other _ _ (Ne.symm hb)
    have ut := uts_update hT hdT (Obj.mapFields (·.setIfInBounds 3 Value.none))
    exact entry_ok hfr (f3.of_keeps fun b o hb hnf => ⟨o, (other b (fun z => by rw [z, hT] at hb; cases hb; exact hnf ts hdT) _).trans hb, rfl⟩) hf ((other e (Ne.symm hTe) _).trans he) (fun b o q => (other b (fun z => by rw [z, hnT] at q; cases q) _).trans (f1 b o q)) f2 hc hdi hd
      (Array.getElem?_eq_some_iff.mp h1).1 fun h' x y => hQ h' x (ut.trans y)
theorem leave_ok (hfr : A.frames = some (env :: outer)) (hf : env.frame = some L) (F : Fly B (env :: outer) e D' C .none s.heap) (hQ : ∀ h', Fly B outer e D' C .none h' → s.heap.UpToSlots h' → Q () { s with heap := h' }) :
    wpAny M A (leaving env (.ref e)) Q E s := by
  unfold leaving
  exact wpAny_bind (note_ok hfr hf F fun h₁ F₁ u₁ => land_ok F₁ fun h₂ F₂ u₂ => hQ h₂ F₂.pop (u₁.trans u₂))
end
end Mine
open Builtin.ObjectAttr
namespace Mine
/-! ### CasFail's making: the parts -/
noncomputable abbrev KF (P : Params) : Frag := hd.heap_39 P
theorem cas_obj (P : Params) : (KF P).lookup 31 = some (excClassObj "CasFail" "CasFail" 31 30 [.type "Exception"] [.type "Exception", .type "BaseException", .type "object"] true [] [] false Option.none Option.none (some (.ref 15)) Option.none (some (.str "CasFail" 189)) (some (.str "CasFail" 197)) (some (.bool true)) "Exception.__new__") := by kernel_rfl
theorem cas_init (P : Params) : nsIn (KF P) 30 "__init__" = some (some (.ref 28)) := by kernel_rfl
section
variable {prog : Program} {w : World} {A : Around} {E : Value → Shared → Prop} {s : Shared} {hb : Heap} {mg mb : Str → Option Value}
theorem method_type {c : Value} {name : Str} {pl : Sem Bool} {Q : Value × List Value → Shared → Prop} (hg : Looks (model prog w) s.heap (specialOf c "__getattribute__") (some (.builtin "type.__getattribute__")))
    (h : wpAny (model prog w) A (getAttr c name) (fun v => Q (v, [])) E s) : wpAny (model prog w) A (getMethod c name pl) Q E s := by
  unfold getMethod
  refine wpAny_bind (hg.here ?_)
  dsimp only
  rw [if_pos canon_tga]
  exact wpAny_bind (wpAny_mono h (fun _ _ z => wpAny_pure z) fun _ _ z => z)
theorem exc_type {h : Heap} : Looks (model prog w) h (typeOf (.type "Exception")) (.type "type") := Looks.of_pure (by kernel_rfl)
theorem init_attr {P : Params} {Q : Value → Shared → Prop} (X : (KF P).In s.heap) (h : Q (.builtin "Exception.__init__") { s with toks := s.toks + 1 }) : wpAny (model prog w) A (getAttr (.type "Exception") "__init__") Q E s := by
  refine cls_open (c := .type "Exception") (mc := .type "type") (r := .val (.builtin "Exception.__init__")) (hook := Option.none) X (Looks.of_pure (by kernel_rfl)) exc_type (by kernel_rfl) (looks_hook X (by kernel_rfl)) (by kernel_rfl) (by kernel_rfl) ?_
  exact wpAny_pure (handed_on (by kernel_rfl) h)
theorem init_method {P : Params} {pl : Sem Bool} {Q : Value × List Value → Shared → Prop} (X : (KF P).In s.heap) (h : Q (.builtin "Exception.__init__", []) { s with toks := s.toks + 1 }) : wpAny (model prog w) A (getMethod (.type "Exception") "__init__" pl) Q E s :=
  method_type (exc_type.andThen (looks_findIn X (by kernel_rfl))) (init_attr X h)
noncomputable def excO (D' : Option Addr) (t : Addr) : Obj := { cls := .ref 31, dict := D', data := .fields #[.ref t, .none, .none, .none, .bool false, .none] }
/-- Exception.__init__(self, text) -/
theorem super_init {P : Params} {e t : Addr} {v : Value} {Q : Value → Shared → Prop} (X : (KF P).In s.heap) (he : s.heap.get? e = some (excO Option.none t))
    (h : ∀ h' t', (∀ b o, b ≠ e → s.heap.get? b = some o → h'.get? b = some o) → h'.get? e = some (excO Option.none t') → Q .none { s with heap := h' }) : wpAny (model prog w) A (call (.builtin "Exception.__init__") [.ref e, v]) Q E s := by
  have F := PySem.F.excBase_Exception
  have hC := X _ _ (cas_obj P)
  obtain ⟨hp, g, d, tk, os⟩ := s
  refine wpAny_call (codeAny_call_builtin F.init.plain F.initEntry (wpAny_check_init_sub F hC he rfl ?_))
  wp_walk
  dsimp only at he h ⊢
  have hne : e ≠ hp.objs.size := Nat.ne_of_lt (Heap.lt_size he)
  refine h _ hp.objs.size (fun b o q z => (Heap.get?_update_other _ _ (Ne.symm q)).trans (Heap.get?_push_of_some _ z)) ?_
  rw [Heap.get?_update_self _ (Heap.get?_push_of_some _ he) rfl]
  rfl
/-! ### self.kind = kind -/
theorem cas_cls (P : Params) : clsIn (KF P) 31 = some { name := "CasFail", bases := [.type "Exception"], mro := [.ref 31, .type "Exception", .type "BaseException", .type "object"], ns := 30, qualname := "CasFail" } := by kernel_rfl
theorem cas_refuse (self : Value) : refuseLoop self "__setattr__" [.ref 31, .type "Exception", .type "BaseException", .type "object"] = pure () := by kernel_rfl
theorem osa_exc {P : Params} {x : Addr} {ox : Obj} {od : Option Obj} {name : Str} {tk : Tok} {v : Value} {R : Result → Shared → Prop} (X : (KF P).In s.heap) (I : InstAt s.heap x ox 31 od) (hf : findIn (KF P) (.ref 31) name = some Option.none)
    (h : wpAny (model prog w) A.in1 (storeInOwnDict (.ref x) (.ref 31) (.str name tk) name v false) (fun fin s' => match fin with | .done f => R (.ok f) s' | .again c' => c'.quiet = true ∧ codeAny (model prog w) A c' R s') (fun e s' => R (.error e) s') s) :
    codeAny (model prog w) A (.call (.builtin "object.__setattr__") ⟨[.ref x, .str name tk, v], []⟩) R s := by
  have SF := PySem.F.store_object
  have sub : Looks (model prog w) s.heap (isInstance (.ref x) (.type "object")) true := I.type.andThen (looks_mroIn X (by kernel_rfl))
  refine codeAny_call_builtin SF.slot.plain SF.entry (@check_slot (model prog w) _ _ s "object.__setattr__" "object" "__setattr__" (.ref x) [.str name tk, v] [] _ SF.kind SF.split sub (SF.args (.ref x) (.str name tk) v) ?_)
  have hm : Looks (model prog w) s.heap (mroOf (.ref 31)) [.ref 31, .type "Exception", .type "BaseException", .type "object"] := (looks_clsIn X (cas_cls P)).andThen .now
  have L3 : Looks (model prog w) s.heap (storeTaker? Option.none) Option.none := .now
  rw [osa_eq, refuse_eq]
  refine wpAny_bind (wpAny_bind (I.type.here (wpAny_bind (hm.here ?_))))
  rw [cas_refuse]
  refine wpAny_pure (wpAny_bind (I.type.here (wpAny_bind ((looks_findIn X hf).here (wpAny_bind (L3.here ?_))))))
  exact h
noncomputable def dO (es : List DictEntry) (n : Nat) : Obj := { cls := .type "dict", data := .dict es.toArray n }
/-- a store into a dict that is written out -/
theorem put_dict {D' : Addr} {od od' : Obj} {es es' : List DictEntry} {n n' : Nat} {name : Str} {v : Value} {Q : Unit → Shared → Prop} (hD : s.heap.get? D' = some od) (e0 : od = dO es n) (hk : (es.any (·.refKey)) = false)
    (e : Obj.putName name (PyData.keyHash w.params name) (.str name s.toks) v od = od') (_e1 : od' = dO es' n')
    (h : ∀ h', h'.get? D' = some od' → Heap.SameBut D' s.heap h' → Q () { s with heap := h', toks := s.toks + 1 }) : wpAny (model prog w) A (nsSet D' name v) Q E s := by
  unfold nsSet
  refine wpAny_bind (wpAny_bind (wpAny_askSetting (wpAny_pure (wpAny_bind (wpAny_mkText (wpAny_bind (wpAny_loadPart hD ?_)))))))
  subst e0
  dsimp only [dO]
  have c : (!es.toArray.any (·.key.isStr name) && es.toArray.any (·.refKey)) = false := by
    rw [← Array.any_toList, ← Array.any_toList, hk, Bool.and_false]
  rw [aRefKeyMayBeTheName_at, c]
  refine wpAny_updatePart hD ?_
  refine h _ ?_ (Heap.SameBut.update ..)
  have u := Heap.get?_update_self (Obj.putName name (PyData.keyHash w.params name) (.str name s.toks) v) hD (by rw [e, _e1]; rfl)
  rw [e] at u
  exact u
end
end Mine
namespace Mine
section
variable {prog : Program} {w : World} {A : Around} {E : Value → Shared → Prop} {s : Shared} {hb : Heap} {mg mb : Str → Option Value}
theorem store_first {P : Params} {x t : Addr} {name : Str} {tk : Tok} {v : Value} {Q : Fin → Shared → Prop} (X : (KF P).In s.heap) (hx : s.heap.get? x = some (excO Option.none t))
    (h : wpAny (model prog w) A (storeInDict s.heap.objs.size (.str name tk) name v) Q E { s with heap := (s.heap.push (dO [] 0)).update x fun o => { o with dict := some s.heap.objs.size } }) :
    wpAny (model prog w) A (storeInOwnDict (.ref x) (.ref 31) (.str name tk) name v false) Q E s := by
  have L := looks_clsIn (M := model prog w) X (cas_cls P)
  refine wpAny_bind (wpAny_pure (wpAny_bind (wpAny_bind (wpAny_loadPart hx (wpAny_bind (L.here ?_))))))
  rw [if_neg (by decide)]
  show wpAny _ _ (alloc { cls := .type "dict", data := .dict #[] } >>= fun d => update x (fun o => { o with dict := some d }) >>= fun _ => dictMade (.ref 31) x d) _ _ _
  exact wpAny_bind (wpAny_alloc (wpAny_bind (wpAny_update (Heap.get?_push_of_some _ hx) (wpAny_pure h))))
theorem store_more {P : Params} {x t D' : Addr} {name : Str} {tk : Tok} {v : Value} {Q : Fin → Shared → Prop} (X : (KF P).In s.heap) (hx : s.heap.get? x = some (excO (some D') t))
    (h : wpAny (model prog w) A (storeInDict D' (.str name tk) name v) Q E s) : wpAny (model prog w) A (storeInOwnDict (.ref x) (.ref 31) (.str name tk) name v false) Q E s := by
  have L := looks_clsIn (M := model prog w) X (cas_cls P)
  refine wpAny_bind (wpAny_pure (wpAny_bind (wpAny_bind (wpAny_loadPart hx (wpAny_bind (L.here ?_))))))
  rw [if_neg (by decide)]
  exact wpAny_pure h
theorem store_in {D' : Addr} {es es' : List DictEntry} {n n' : Nat} {name : Str} {tk : Tok} {v : Value} {Q : Fin → Shared → Prop} (hD : s.heap.get? D' = some (dO es n)) (hk : (es.any (·.refKey)) = false)
    (e : Obj.putName name (PyData.keyHash w.params name) (.str name s.toks) v (dO es n) = dO es' n') (hz : es'.length ≤ 1000)
    (h : ∀ h', h'.get? D' = some (dO es' n') → Heap.SameBut D' s.heap h' → Q (.done (.ret .none)) { s with heap := h', toks := s.toks + 1 }) : wpAny (model prog w) A (storeInDict D' (.str name tk) name v) Q E s := by
  unfold storeInDict
  refine wpAny_bind (wpAny_pure (wpAny_bind (put_dict hD rfl hk e rfl fun h' e' sb => ?_)))
  exact wpAny_bind (wpAny_lookBehind e' (pastItsLine_dict (by rw [List.size_toArray, sizeLine_eq]; omega)) (wpAny_pure (h h' e' sb)))
theorem cas_inst0 {h : Heap} {x t : Addr} (hx : h.get? x = some (excO Option.none t)) : InstAt h x (excO Option.none t) 31 Option.none := ⟨hx, rfl, rfl, trivial⟩
theorem cas_inst1 {h : Heap} {x t D' : Addr} {o : Obj} (hx : h.get? x = some (excO (some D') t)) (hd : h.get? D' = some o) : InstAt h x (excO (some D') t) 31 (some o) := ⟨hx, rfl, rfl, hd⟩
noncomputable def kindE (P : Params) (tk : Tok) (v : Value) : DictEntry := ⟨PyData.keyHash P "kind", .str "kind" tk, v⟩
noncomputable def textE (P : Params) (tk : Tok) (v : Value) : DictEntry := ⟨PyData.keyHash P "text", .str "text" tk, v⟩
theorem set_kind {P : Params} {x t : Addr} {v : Value} {Q : Unit → Shared → Prop} (hP : P = w.params) (X : (KF P).In s.heap) (hx : s.heap.get? x = some (excO Option.none t))
    (h : ∀ h' D' tk tk', (∀ b o, b ≠ x → s.heap.get? b = some o → h'.get? b = some o) → s.heap.get? D' = Option.none → h'.get? x = some (excO (some D') t) → h'.get? D' = some (dO [kindE P tk v] 1) → Q () { s with heap := h', toks := tk' }) :
    wpAny (model prog w) A (setAttr (.ref x) "kind" v) Q E s := by
  subst hP
  refine set_plain X (cas_inst0 hx) (by kernel_rfl) (osa_exc X (cas_inst0 hx) (by kernel_rfl) (store_first X hx ?_))
  have hne : x ≠ s.heap.objs.size := Nat.ne_of_lt (Heap.lt_size hx)
  have hD : ((s.heap.push (dO [] 0)).update x fun o => { o with dict := some s.heap.objs.size }).get? s.heap.objs.size = some (dO [] 0) := (Heap.get?_update_other _ _ hne).trans (Heap.get?_push_size _ rfl)
  have hx' : ((s.heap.push (dO [] 0)).update x fun o => { o with dict := some s.heap.objs.size }).get? x = some (excO (some s.heap.objs.size) t) := Heap.get?_update_self _ (Heap.get?_push_of_some _ hx) rfl
  refine store_in (es' := [kindE w.params (s.toks + 1) v]) (n' := 1) hD rfl (by kernel_rfl) (by show 1 ≤ 1000; decide) fun h' e' sb => ?_
  refine h h' s.heap.objs.size _ _ (fun b o q z => ?_) (none_size _) ((sb.2 x hne).trans hx') e'
  exact (sb.2 b (Nat.ne_of_lt (Heap.lt_size z))).trans ((Heap.get?_update_other _ _ (Ne.symm q)).trans (Heap.get?_push_of_some _ z))
theorem set_text {P : Params} {x t D' : Addr} {v u : Value} {tk : Tok} {Q : Unit → Shared → Prop} (hP : P = w.params) (X : (KF P).In s.heap) (hx : s.heap.get? x = some (excO (some D') t)) (hD : s.heap.get? D' = some (dO [kindE P tk v] 1))
    (h : ∀ h' tk2 tk', (∀ b o, b ≠ D' → s.heap.get? b = some o → h'.get? b = some o) → h'.get? D' = some (dO [kindE P tk v, textE P tk2 u] 2) → Q () { s with heap := h', toks := tk' }) :
    wpAny (model prog w) A (setAttr (.ref x) "text" u) Q E s := by
  subst hP
  refine set_plain X (cas_inst1 hx hD) (by kernel_rfl) (osa_exc X (cas_inst1 hx hD) (by kernel_rfl) (store_more X hx ?_))
  refine store_in (es' := [kindE w.params tk v, textE w.params (s.toks + 1) u]) (n' := 2) hD rfl (by kernel_rfl) (by show 2 ≤ 1000; decide) fun h' e' sb => ?_
  exact h h' _ _ (fun b o q z => (sb.2 b q).trans z) e'
end
end Mine
namespace Mine
/-! ### CasFail.__init__ -/
noncomputable def exE : Stmt → Expr
  | .Expr e _ => e
  | _ => .Name "x" default
noncomputable def atV : Expr → Expr
  | .Attribute v _ _ => v
  | e => e
noncomputable abbrev ini (P : Params) (i : Nat) : Stmt := stAt (bd P 28) i
noncomputable abbrev i0C (P : Params) : Expr := exE (ini P 0)
theorem ini_bd (P : Params) : (fdOf P 28).body = .stmts [ini P 0, ini P 1, ini P 2] := by kernel_rfl
theorem ini_0 (P : Params) : ini P 0 = .Expr (.Call (.Attribute (.Name "Exception" (exP (atV (callF (i0C P))))) "__init__" (exP (callF (i0C P)))) [.Name "self" (exP (arg1 (i0C P))), .BinOp (.BinOp (.Name "kind" (exP (binL (binL (arg2 (i0C P)))))) .Add (.Constant (.str ": ") 0 (exPc (binR (binL (arg2 (i0C P)))))) (exP (binL (arg2 (i0C P))))) .Add (.Name "text" (exP (binR (arg2 (i0C P))))) (exP (arg2 (i0C P)))] [] (exP (i0C P))) (stP (ini P 0)) := by kernel_rfl
theorem ini_0l (P : Params) : ((exP (callF (i0C P))).endLine == (exP (i0C P)).line) = true := by kernel_rfl
theorem ini_1 (P : Params) : ini P 1 = .Assign [.Attribute (.Name "self" (exP (atV (asgX (ini P 1))))) "kind" (exP (asgX (ini P 1)))] (.Name "kind" (exP (asgV (ini P 1)))) (stP (ini P 1)) := by kernel_rfl
theorem ini_2 (P : Params) : ini P 2 = .Assign [.Attribute (.Name "self" (exP (atV (asgX (ini P 2))))) "text" (exP (asgX (ini P 2)))] (.Name "text" (exP (asgV (ini P 2)))) (stP (ini P 2)) := by kernel_rfl
section
variable {prog : Program} {w : World} {A : Around} {E : Value → Shared → Prop} {s : Shared} {hb : Heap} {mg mb : Str → Option Value}
theorem Gd.inK {h : Heap} {P : Params} (G : Gd P hb mg mb) (k : Keep hb h) : (KF P).In h := fun a o e => k _ _ (G.X a o e)
theorem init_ok {Q : Value → Shared → Prop} {e t : Addr} {κ tx : Str} {tκ tt : Tok} (G : Gd w.params hb mg mb) (hroom : A.depth < recursionLimit) (kb : Keep hb s.heap) (he : s.heap.get? e = some (excO Option.none t)) (hne : hb.get? e = Option.none) (hκ : κ.length ≤ 100) (htx : tx.length ≤ 100)
    (h : ∀ h' D' t' tk tk2 tk', (∀ b o, b ≠ e → s.heap.get? b = some o → h'.get? b = some o) → s.heap.get? D' = Option.none → h'.get? e = some (excO (some D') t') → h'.get? D' = some (dO [kindE w.params tk (.str κ tκ), textE w.params tk2 (.str tx tt)] 2) → Q .none { s with heap := h', toks := tk' }) :
    wpAny (model prog w) A (call (.ref 28) [.ref e, .str κ tκ, .str tx tt]) Q E s := by
  refine enter (fd := fdOf w.params 28) (pn := ["self", "kind", "text"]) (gd_fn G (by kernel_rfl) (bind3 fun _ _ _ => by kernel_rfl)) (ini_bd _) hroom kb rfl fun s₁ x => ?_
  have hL : (callEnvC (fdOf w.params 28) s.heap.objs.size 28).locals = s.heap.objs.size := rfl
  have k1 : Keep s.heap s₁.heap := x.toInCall.keep
  have ls : Look (callEnvC (fdOf w.params 28) s.heap.objs.size 28) s₁.heap "self" (.ref e) := .inl ⟨by kernel_rfl, _, x.toInCall.ns, by kernel_rfl⟩
  have lk : Look (callEnvC (fdOf w.params 28) s.heap.objs.size 28) s₁.heap "kind" (.str κ tκ) := .inl ⟨by kernel_rfl, _, x.toInCall.ns, by kernel_rfl⟩
  have lt : Look (callEnvC (fdOf w.params 28) s.heap.objs.size 28) s₁.heap "text" (.str tx tt) := .inl ⟨by kernel_rfl, _, x.toInCall.ns, by kernel_rfl⟩
  have gk : (callEnvC (fdOf w.params 28) s.heap.objs.size 28).scope.kind = .function := by kernel_rfl
  have gg : (callEnvC (fdOf w.params 28) s.heap.objs.size 28).globals = mainGlobals := by kernel_rfl
  have gb : (callEnvC (fdOf w.params 28) s.heap.objs.size 28).builtins = builtinsNs := by kernel_rfl
  have hx : (callEnvC (fdOf w.params 28) s.heap.objs.size 28).scope.names.lookup ("Exception" : Str) = some .globalImplicit := by kernel_rfl
  obtain ⟨m1, hm1⟩ : ∃ m, s₁.heap.Ns (callEnvC (fdOf w.params 28) s.heap.objs.size 28).locals m := ⟨_, x.toInCall.ns⟩
  obtain ⟨hs1, ht1, es1⟩ := x.toInCall.same
  generalize callEnvC (fdOf w.params 28) s.heap.objs.size 28 = env at *
  have K := tb0 (prog := prog) (w := w) G
  have g1 : Good hb env s₁.heap [] [] [] [] := ⟨gk, gg, gb, kb.trans k1, fun a q => (by cases q), fun a q => (by cases q), fun y d q => (by cases q), fun y d q => (by cases q)⟩
  have kx : ∀ {h' : Heap}, (∀ b o, b ≠ e → s₁.heap.get? b = some o → h'.get? b = some o) → Keep hb h' := fun {h'} q a o z => q a o (fun y => by rw [y, hne] at z; cases z) (k1 _ _ (kb _ _ z))
  have lkx : ∀ {h' : Heap} {y : Str} {u : Value}, (∀ b o, b ≠ e → s₁.heap.get? b = some o → h'.get? b = some o) → Look env s₁.heap y u → Look env h' y u := fun {h' y u} q l => by
    rcases l with ⟨hk, m, hn, hm⟩ | ⟨hk, cc, hc, ov, ho, hd⟩
    · refine .inl ⟨hk, m, hn.at' fun o z => q _ o (fun y => ?_) z, hm⟩
      obtain ⟨o', _, _, z1, z2, _⟩ := hn
      rw [y, k1 _ _ he] at z1
      cases z1; cases z2
    · refine .inr ⟨hk, cc, hc, ov, q _ _ (fun y => ?_) ho, hd⟩
      rw [y, k1 _ _ he] at ho
      cases ho; cases hd
  refine wpAny_execs_cons ?_
  rw [ini_0]
  refine wpAny_Expr ?_ (interactive_no gk) rfl
  rw [arm_eval_Call]
  refine wpAny_bind ?_
  show wpAny _ _ (eval (.Name "Exception" _) env) _ _ _
  refine load_bi (v := .type "Exception") K scOk_self g1 hx (gd_none G (by kernel_rfl)) (gd_built G (by decide) (by kernel_rfl)) (by decide) ?_
  refine wpAny_bind (wpAny_standAt ?_)
  unfold methodCall
  have hpos : methodCallPos true (.Name "Exception" (exP (atV (callF (i0C w.params))))) env (exP (callF (i0C w.params))) (exP (i0C w.params)) = pure (exP (i0C w.params)) := by unfold methodCallPos; simp [ini_0l]
  have X1 : (KF w.params).In s₁.heap := G.inK (kb.trans k1)
  refine wpAny_bind (wpAny_holding ?_)
  show wpAny _ _ (calleeOf true _ _ _ _) _ _ _
  unfold calleeOf
  rw [if_pos rfl]
  refine init_method X1 ?_
  refine wpAny_bind ?_
  show wpAny _ _ (methodCallPos true _ _ _ _) _ _ _
  rw [hpos]
  refine wpAny_pure ?_
  show wpAny _ _ (callWith _ (.builtin "Exception.__init__") [] (backTo _ (starEach _ env)) []) _ _ _
  have hst : ∀ (a b : Expr), notStar a = true → notStar b = true → ([a, b] : List Expr).all notStar = true := fun a b h1 h2 => by simp [h1, h2]
  refine callWith_args (hb := hb) (by simp) (hst _ _ rfl rfl) (.inr (.inl ⟨_, rfl⟩)) ?_
  refine args_cons (wpAny_Name (ls.load gk (by decide) ?_) (by decide)) rfl
  refine args_cons (wpAny_BinOp (wpAny_BinOp (wpAny_Name (lk.load gk (by decide) (wpAny_Constant_str ?_)) (by decide)))) rfl
  have lc : Str.length (": " : Str) = 2 := by decide
  refine PyProof.Rows.add_str (fun t₂ tk₂ => ?_) (by rw [sizeLine_eq, lc]; omega)
  refine wpAny_Name (lt.load gk (by decide) ?_) (by decide)
  have lcat : Str.length (κ ++ (": " : Str)) = κ.length + 2 := by rw [Str.length_append, lc]
  refine PyProof.Rows.add_str (fun t₃ tk₃ => args_nil ⟨kb.trans k1, ?_⟩) (by rw [sizeLine_eq, lcat]; omega)
  refine super_init X1 (k1 _ _ he) fun h₂ t₂' q₂ e₂ => ?_
  have X2 : (KF w.params).In h₂ := G.inK (kx q₂)
  -- self.kind
  refine wpAny_execs_cons ?_
  rw [ini_1]
  refine plainObj_wpAny_Assign_Attribute (wpAny_Name ((lkx q₂ lk).load gk (by decide) (wpAny_Name ((lkx q₂ ls).load gk (by decide) ?_) (by decide))) (by decide)) rfl
  refine set_kind rfl X2 e₂ fun h₃ D' tk₃ tk₃' q₃ nD e₃ eD => ?_
  have q₃' : ∀ b o, b ≠ e → s₁.heap.get? b = some o → h₃.get? b = some o := fun b o y z => q₃ b o y (q₂ b o y z)
  have X3 : (KF w.params).In h₃ := G.inK (kx q₃')
  refine wpAny_execs_cons ?_
  rw [ini_2]
  refine plainObj_wpAny_Assign_Attribute (wpAny_Name ((lkx q₃' lt).load gk (by decide) (wpAny_Name ((lkx q₃' ls).load gk (by decide) ?_) (by decide))) (by decide)) rfl
  have nDs : s₁.heap.get? D' = Option.none := by
    cases z : s₁.heap.get? D' with
    | none => rfl
    | some o =>
      by_cases y : D' = e
      · rw [y, e₂] at nD; cases nD
      · have := q₂ D' o y z
        rw [nD] at this; cases this
  refine set_text rfl X3 e₃ eD fun h₄ tk₄ tk₄' q₄ eD₄ => wpAny_execs_nil ?_
  have hDe : e ≠ D' := fun y => by rw [← y, e₂] at nD; cases nD
  subst es1
  refine h h₄ D' t₂' tk₃ tk₄ _ (fun b o y z => q₄ b o (fun y' => ?_) (q₃' b o y (k1 _ _ z))) ?_ (q₄ _ _ hDe e₃) eD₄
  · rw [y'] at z
    have := k1 _ _ z
    rw [nDs] at this; cases this
  · cases z : s.heap.get? D' with
    | none => rfl
    | some o => have := k1 _ _ z; rw [nDs] at this; cases this
end
end Mine
namespace Mine
section
variable {prog : Program} {w : World} {A : Around} {E : Value → Shared → Prop} {s : Shared} {hb : Heap} {mg mb : Str → Option Value}
theorem cas_ns {P : Params} {h : Heap} (X : (KF P).In h) : h.Ns 30 (h.nsMap 30) ∧ h.nsMap 30 "__init__" = some (.ref 28) := by
  refine ⟨.of_isNs (isNs_of_in X (by kernel_rfl)), ?_⟩
  unfold Heap.nsMap
  rw [X 30 (objOf P 30) (by kernel_rfl)]
  kernel_rfl
/-- an exception of the text's own class, made -/
structure Made (P : Params) (h h' : Heap) (e : Addr) (κ : Str) : Prop where
  keep : Keep h h'
  new : h.get? e = Option.none
  there : ∃ D' t tk tk2 tκ tx tt, h.get? D' = Option.none ∧ h'.get? e = some (excO (some D') t) ∧ h'.get? D' = some (dO [kindE P tk (.str κ tκ), textE P tk2 (.str tx tt)] 2)
theorem make_exc {Q : Value → Shared → Prop} {κ tx : Str} {tκ tt : Tok} (G : Gd w.params hb mg mb) (hroom : A.depth + 3 < recursionLimit) (kb : Keep hb s.heap) (hκ : κ.length ≤ 100) (htx : tx.length ≤ 100)
    (h : ∀ h' e tk', Made w.params s.heap h' e κ → Q (.ref e) { s with heap := h', toks := tk' }) : wpAny (model prog w) A (call (.ref 31) [.str κ tκ, .str tx tt]) Q E s := by
  have X := G.inK kb
  obtain ⟨n1, n2⟩ := cas_ns X
  have hC := X _ _ (cas_obj w.params)
  obtain ⟨hp, g, d, tk, os⟩ := s
  dsimp only at kb X n1 n2 hC
  have hfn : (KF w.params).lookup 28 = some (objOf w.params 28) := by kernel_rfl
  refine wpAny_call_exc_init (fI := 28) (oI := objOf w.params 28) PySem.F.excBase_Exception hC n1 n2 (X _ _ hfn) (by kernel_rfl) (fun h₁ e M => ?_) (by show 2 ≤ _; rw [sizeLine_eq]; decide)
  have hw : ∀ l : List Value, (Code.builtin "type.__call__" ⟨l, []⟩).weight ≤ 2 := fun l => by
    unfold Code.weight
    have h1 : (Code.builtin "type.__call__" ⟨l, []⟩).frames = 0 := by kernel_rfl
    have h2 : (Code.builtin "type.__call__" ⟨l, []⟩).isCaller = false := by kernel_rfl
    rw [h1, h2]
    split <;> split <;> simp
  obtain ⟨t, he, nt, ht⟩ := M.there
  have hne : hb.get? e = Option.none := by
    cases z : hb.get? e with
    | none => rfl
    | some o => have := kb _ _ z; have n := M.new; rw [this] at n; cases n
  refine init_ok (t := t) G (by have := hw [.ref 31, .str κ tκ, .str tx tt]; show A.depth + _ < _; omega) (kb.trans M.keeps) he hne hκ htx fun h' D' t' tk₁ tk₂ tk' q nD e' eD => ⟨rfl, ?_⟩
  refine h h' e tk' ⟨fun b o z => q b o (fun y => ?_) (M.keeps b o z), M.new, D', t', tk₁, tk₂, tκ, tx, tt, ?_, e', eD⟩
  · have n := M.new; rw [← y, z] at n; cases n
  · cases z : hp.get? D' with
    | none => rfl
    | some o => have := M.keeps _ _ z; dsimp only at nD; rw [nD] at this; cases this
end
end Mine
namespace Mine
section
variable {prog : Program} {w : World} {A : Around} {E : Value → Shared → Prop} {s : Shared} {hb : Heap} {mg mb : Str → Option Value} {env : Env}
theorem raise_made {P : Params} {x : Sem Value} {Q : Flow → Shared → Prop} (hh : A.handled = Option.none)
    (h : wpAny (model prog w) A x (fun v s₁ => ∃ e D' t, v = .ref e ∧ (KF P).In s₁.heap ∧ s₁.heap.get? e = some (excO (some D') t) ∧ E (.ref e) s₁) E s) :
    wpAny (model prog w) A (raiseStmt env (some x) Option.none) Q E s := by
  unfold raiseStmt
  refine wpAny_bind (wpAny_mono h (fun v s₁ h₁ => ?_) fun _ _ x => x)
  obtain ⟨e, D', t, rfl, X, he, hE⟩ := h₁
  have hC := X _ _ (cas_obj P)
  obtain ⟨hp, g, d, tk, os⟩ := s₁
  have he : hp.get? e = some { cls := .ref 31, dict := some D', data := .fields #[.ref t, .none, .none, .none, .bool false, .none] } := he
  have hC : hp.get? 31 = some _ := hC
  have hcB : ([Value.ref 31, .type "Exception", .type "BaseException", .type "object"] : List Value).contains (.type "BaseException") = true := by decide +kernel
  repeat (first | with_reducible refine wpAny_loadPart_at he ?_ | with_reducible refine wpAny_loadPart_at hC ?_ | (with_reducible refine wpAny_isSubtype_exc hC ?_; rw [hcB]) | wp_step)
  exact wpAny_raiseNew_none hh hE
/-- the statement raise CasFail(.., ..) -/
theorem raise_ok {κ : Str} {a b : Expr} {np cpos pos : Pos} {Q : Flow → Shared → Prop} (G : Gd w.params hb mg mb) (hh : A.handled = Option.none) (hroom : A.depth + 3 < recursionLimit) (hκ : κ.length ≤ 100)
    (g : Good hb env s.heap [] [] [] []) (hx : env.scope.names.lookup ("CasFail" : Str) = some .globalImplicit) (ha : notStar a = true) (hb' : notStar b = true)
    (hargs : wpAny (model prog w) A (spliced (backTo cpos (starEach [a, b] env))) (fun vs s₁ => (∃ tκ tx tt, vs = [.str κ tκ, .str tx tt] ∧ tx.length ≤ 100) ∧ Keep s.heap s₁.heap ∧ (∃ h' tk', s₁ = { s with heap := h', toks := tk' })) E s)
    (h : ∀ h' e tk', Made w.params s.heap h' e κ → E (.ref e) { s with heap := h', toks := tk' }) :
    wpAny (model prog w) A (exec (.Raise (some (.Call (.Name "CasFail" np) [a, b] [] cpos)) Option.none pos) env) Q E s := by
  rw [arm_exec_Raise]
  refine wpAny_bind (wpAny_standAt ?_)
  show wpAny _ _ (raiseStmt env (some (eval (.Call (.Name "CasFail" np) [a, b] [] cpos) env >>= fun v => standAt pos >>= fun _ => pure v)) Option.none) _ _ _
  refine raise_made (P := w.params) hh (wpAny_bind ?_)
  have ok' : (("CasFail" : Str) == ("__debug__" : Str)) = false := by decide
  have hn : s.heap.Ns env.globals mg := by rw [g.gl]; exact G.g.keeps g.keep
  refine Call_ (Name_function_global g.kind hx (loadGlobal_global hn (gd_some G (by kernel_rfl : nsIn (hd.heap_39 w.params) mainGlobals "CasFail" = some (some (.ref 31)))) ?_) ok')
  have es : starEach [a, b] env = (false, eval a env) :: starEach [b] env := starEach_cons ha
  have hplain : (backTo cpos (starEach [a, b] env)).any (·.1) = false := by
    rw [es, starEach_cons hb']; rfl
  unfold callWith
  refine wpAny_bind (wpAny_holding (wpAny_mono (show wpAny (model prog w) A (evalArgs (.ref 31) true (backTo cpos (starEach [a, b] env)) []) (fun x s₁ => (∃ tκ tx tt, x = ⟨[.str κ tκ, .str tx tt], []⟩ ∧ tx.length ≤ 100) ∧ Keep s.heap s₁.heap ∧ (∃ h' tk', s₁ = { s with heap := h', toks := tk' })) E s from ?_) (fun x s₁ h₁ => wpAny_bind (wpAny_standAt ?_)) fun _ _ x => x))
  · rw [es] at hargs ⊢
    exact Calls.evalArgs_plain (wpAny_mono hargs (fun vs s' q => ⟨let ⟨u1, u2, u3, u4, u5⟩ := q.1; ⟨u1, u2, u3, by rw [u4], u5⟩, q.2⟩) fun _ _ x => x)
  · obtain ⟨⟨tκ, tx, tt, rfl, htx⟩, k₁, h₁, tk₁, rfl⟩ := h₁
    have X := G.inK (g.keep.trans k₁)
    have hC := X _ _ (cas_obj w.params)
    simp only [hplain]
    refine wpAny_bind (wpAny_keeperOf_exc hC ?_)
    refine wpAny_bind (make_exc (κ := κ) (tx := tx) (tκ := tκ) (tt := tt) G hroom (g.keep.trans k₁) hκ htx fun h' e tk' M => wpAny_bind (wpAny_holding (wpAny_point (wpAny_pure ?_))))
    refine wpAny_bind (wpAny_standAt (wpAny_pure ?_))
    obtain ⟨D', t, tk, tk2, tκ', tx', tt', nD, he, hD⟩ := M.there
    have new : ∀ {a : Addr}, h₁.get? a = Option.none → s.heap.get? a = Option.none := fun {a} n => by
      cases z : s.heap.get? a with
      | none => rfl
      | some o => have := k₁ _ _ z; dsimp only at this; rw [n] at this; cases this
    exact ⟨e, D', t, rfl, G.inK (g.keep.trans (k₁.trans M.keep)), he, h h' e tk' ⟨k₁.trans M.keep, new M.new, D', t, tk, tk2, tκ', tx', tt', new nD, he, hD⟩⟩
end
end Mine
namespace Mine
/-! ### frames that an exception leaves -/
noncomputable def frs (l : List Env) : List Addr := l.filterMap (·.frame)
structure Flew (P : Params) (h₀ : Heap) (l : List Env) (e : Addr) (h' : Heap) : Prop where
  all : ∃ D' κ tk tk2 tκ tx tt sl, Fly (hideAll h₀ (frs l)) l e D' (.ref 31) .none h' ∧ h₀.UpToSlots h' ∧ h'.get? D' = some { dO [kindE P tk (.str κ tκ), textE P tk2 (.str tx tt)] 2 with slots := sl } ∧ (κ = ("domain" : Str) ∨ κ = ("division by zero" : Str)) ∧ h₀.get? D' = Option.none
theorem frames_hidden {hb h h' : Heap} {as : List Addr} : ∀ {l : List Env}, h'.FunFrames hb l → (∀ a ∈ frs l, a ∈ as) → h'.FunFrames (hideAll h as) l
  | [], _, _ => trivial
  | env :: l, ⟨hk, ⟨L, o, hf, _, ho, hd⟩, hr⟩, q => ⟨hk, ⟨L, o, hf, hideAll_none _ (q L (by unfold frs; rw [List.filterMap_cons, hf]; exact List.mem_cons_self)), ho, hd⟩, frames_hidden hr fun a m => q a (by
      unfold frs
      rw [List.filterMap_cons]
      split <;> first | exact m | exact List.mem_cons_of_mem _ m)⟩
theorem stays_hide {h h' : Heap} {as bs : List Addr} (k : ∀ b o, h.get? b = some o → b ∉ as → h'.get? b = some o ∧ b ∉ bs) : (hideAll h as).StaysIn (hideAll h' bs) := fun b o q => by
  have nb : b ∉ as := fun z => by rw [hideAll_none _ z] at q; cases q
  have := k b o (of_hideAll _ q) nb
  exact hideAll_get _ this.1 this.2
theorem Flew.older {P : Params} {h₀ h₁ h' : Heap} {l : List Env} {e : Addr} (k : Keep h₀ h₁) (F : Flew P h₁ l e h') : Flew P h₀ l e h' := by
  obtain ⟨D', κ, tk, tk2, tκ, tx, tt, sl, f, u, d, q, nd⟩ := F.all
  exact ⟨D', κ, tk, tk2, tκ, tx, tt, sl, f.base (stays_hide fun b o z n => ⟨k _ _ z, n⟩), (Heap.UpToSlots.of_keeps k).trans u, d, q, fresh_of_stays (fun b o z => k b o z) nd⟩
/-- just raised -/
theorem Made.flew {P : Params} {hb h₀ h' : Heap} {l : List Env} {e : Addr} {κ : Str} (hq : κ = ("domain" : Str) ∨ κ = ("division by zero" : Str)) (fr : h₀.FunFrames hb l) (M : Made P h₀ h' e κ) : Flew P h₀ l e h' := by
  obtain ⟨D', t, tk, tk2, tκ, tx, tt, nD, he, hD⟩ := M.there
  refine ⟨D', κ, tk, tk2, tκ, tx, tt, #[], ⟨fun b o q => M.keep _ _ (of_hideAll _ q), ?_, frames_hidden (fr.of_keeps fun b o z _ => ⟨o, M.keep _ _ z, rfl⟩) fun _ m => m, _, _, he, rfl, rfl, rfl, .inl ⟨rfl, rfl⟩⟩, .of_keeps M.keep, hD, hq, nD⟩
  cases z : (hideAll h₀ (frs l)).get? e with
  | none => rfl
  | some o => have := of_hideAll _ z; rw [M.new] at this; cases this
section
variable {prog : Program} {w : World} {A : Around} {E : Value → Shared → Prop} {s : Shared} {hb : Heap} {mg mb : Str → Option Value}
theorem frame_raises {Q : Value → Shared → Prop} {a : Addr} {fd : FuncData} {pn : List Str} {body : List Stmt} {vs : List Value} {outer : List Env} {P : Params} (O : FdOk hb a fd pn) (hbody : fd.body = .stmts body) (hroom : A.depth < recursionLimit) (kb : Keep hb s.heap) (hvl : vs.length = pn.length)
    (hfr : A.frames = some outer) (hfu : s.heap.FunFrames hb outer)
    (h : ∀ s₁, InCallC s (callEnvC fd s.heap.objs.size a).locals (bindL (callEnvC fd s.heap.objs.size a).kindOf (pn.zip vs) fun _ => Option.none) (callEnvC fd s.heap.objs.size a).cells
        (bindC (callEnvC fd s.heap.objs.size a).kindOf (pn.zip vs) fun _ => Option.none) s₁ → s₁.heap.FunFrames hb (callEnvC fd s.heap.objs.size a :: outer) →
      wpAny (model prog w) (A.deeper (callEnvC fd s.heap.objs.size a)) (execs body (callEnvC fd s.heap.objs.size a)) (fun _ _ => False)
        (fun e s' => ∃ e' h' tk', e = .ref e' ∧ s' = { s₁ with heap := h', toks := tk' } ∧ Flew P s₁.heap (callEnvC fd s.heap.objs.size a :: outer) e' h') s₁)
    (hE : ∀ e h' tk', Flew P s.heap outer e h' → E (.ref e) { s with heap := h', toks := tk' }) : wpAny (model prog w) A (call (.ref a) vs) Q E s := by
  refine enter O hbody hroom kb hvl fun s₁ x => ?_
  have hL : (callEnvC fd s.heap.objs.size a).locals = s.heap.objs.size := rfl
  have hF : (callEnvC fd s.heap.objs.size a).frame = some s.heap.objs.size := rfl
  have k1 : Keep s.heap s₁.heap := x.toInCall.keep
  have fr1 : s₁.heap.FunFrames hb (callEnvC fd s.heap.objs.size a :: outer) := .cons (by rw [show (callEnvC fd s.heap.objs.size a).scope.kind = .function from O.kind]; decide) hF x.toInCall.ns (by
    cases z : hb.get? (callEnvC fd s.heap.objs.size a).locals with
    | none => exact z
    | some o => have := kb _ _ z; rw [hL, none_size] at this; cases this) (hfu.of_keeps fun b o z _ => ⟨o, k1 _ _ z, rfl⟩)
  refine wpAny_mono (h s₁ x fr1) (fun _ _ z => z.elim) fun e s' z => ?_
  obtain ⟨e', h', tk', rfl, rfl, F⟩ := z
  obtain ⟨D', κ, tk, tk2, tκ, tx, tt, sl, f, u, d, q, nd⟩ := F.all
  refine leave_ok (Around.frames_deeper hfr) hF f fun h'' f'' u'' => ?_
  obtain ⟨hs1, ht1, es1⟩ := x.toInCall.same
  subst es1
  refine hE e' h'' tk' ⟨D', κ, tk, tk2, tκ, tx, tt, ?_⟩
  obtain ⟨sl', d'⟩ := u'' D' _ d fun vs z => by cases z
  refine ⟨sl', f''.base (stays_hide fun b o z n => ⟨k1 _ _ z, fun m => ?_⟩), (Heap.UpToSlots.of_keeps k1).trans (u.trans u''), d', q, fresh_of_stays (fun b o z => k1 b o z) nd⟩
  unfold frs at m
  rw [List.filterMap_cons, hF] at m
  rcases List.mem_cons.mp m with m | m
  · rw [m, none_size] at z; cases z
  · exact n m
end
end Mine
namespace Mine
/-! ### need_begin refuses -/
noncomputable def RaiseOK (prog : Program) (w : World) (hb : Heap) (dep : Nat) (a : Addr) (ds : List D) : Prop :=
  ∀ (A : Around) (E Q : Value → Shared → Prop) (s : Shared) (vs : List Value) (outer : List Env), AOk A dep → A.frames = some outer → s.heap.FunFrames hb outer → Keep hb s.heap → Reps (hid s.heap []) vs ds →
    (∀ e h' tk', Flew w.params s.heap outer e h' → E (.ref e) { s with heap := h', toks := tk' }) → wpAny (model prog w) A (call (.ref a) vs) Q E s
noncomputable def raiC : Stmt → Expr
  | .Raise (some c) _ _ => c
  | _ => .Name "x" default
noncomputable def raiP : Stmt → Pos
  | .Raise _ _ p => p
  | _ => default
noncomputable abbrev nb0 (P : Params) : Stmt := stAt (bd P 128) 0
noncomputable abbrev nbR (P : Params) : Stmt := stAt (thB (nb0 P)) 0
noncomputable abbrev nbC (P : Params) : Expr := raiC (nbR P)
theorem nb_bd (P : Params) : (fdOf P 128).body = .stmts [nb0 P] := by kernel_rfl
theorem nb_0 (P : Params) : nb0 P = .If (ifT (nb0 P)) [nbR P] [] (stP (nb0 P)) := by kernel_rfl
theorem nb_r (P : Params) : nbR P = .Raise (some (.Call (.Name "CasFail" (exP (callF (nbC P)))) [.Constant (.str "domain") 0 (exPc (arg1 (nbC P))), .BinOp (.Constant (.str "a series has to begin with ") 0 (exPc (binL (arg2 (nbC P))))) .Add
    (.Call (.Name "str" (exP (callF (binR (arg2 (nbC P)))))) [arg1 (binR (arg2 (nbC P)))] [] (exP (binR (arg2 (nbC P))))) (exP (arg2 (nbC P)))] [] (exP (nbC P)))) Option.none (raiP (nbR P)) := by kernel_rfl
noncomputable def rNb (a : List Q) (q : Q) : Rho := [("a", encL a), ("number", enc q)]
theorem nb_t (P : Params) (a : List Q) (q : Q) : (ev (tbOf gl tabA) 10).T (fdOf P 128).scope (rNb a q) [] (ifT (nb0 P)) = andO (op2 (cmpD .Gt) (bCall .len [encL a]) (some (.int 0))) (op2 (cmpD .NotEq) (op1 f_rcompare (consO (itemOf (encL a) (.int 0)) (consO (some (enc q)) (some [])))) (some (.int 0))) := by kernel_rfl
theorem nb_n (P : Params) (a : List Q) (q : Q) : (ev (tbOf gl tabA) 10).E (fdOf P 128).scope (rNb a q) [] (arg1 (binR (arg2 (nbC P)))) = some (.int q.1) ∧ notStar (arg1 (binR (arg2 (nbC P)))) = true := ⟨by kernel_rfl, by kernel_rfl⟩
theorem nb_s (P : Params) : (fdOf P 128).scope.names.lookup ("CasFail" : Str) = some .globalImplicit ∧ (fdOf P 128).scope.names.lookup ("str" : Str) = some .globalImplicit := ⟨by kernel_rfl, by kernel_rfl⟩
section
variable {prog : Program} {w : World} {A : Around} {E : Value → Shared → Prop} {s : Shared} {hb : Heap} {mg mb : Str → Option Value}
theorem hid_nil {h : Heap} : Sub h.get? (hid h []) := fun a o _ e => hid_mk e (by simp)
/-- what the parameters of a frame hold -/
theorem params_good {a : Addr} {fd : FuncData} {pn : List Str} {vs : List Value} {ds : List D} {s₁ : Shared} (O : FdOk hb a fd pn) (kb : Keep hb s.heap) (hvl : vs.length = pn.length) (hr : Reps (hid s.heap []) vs ds)
    (x : InCallC s (callEnvC fd s.heap.objs.size a).locals (bindL (callEnvC fd s.heap.objs.size a).kindOf (pn.zip vs) fun _ => Option.none) (callEnvC fd s.heap.objs.size a).cells (bindC (callEnvC fd s.heap.objs.size a).kindOf (pn.zip vs) fun _ => Option.none) s₁) :
    Good hb (callEnvC fd s.heap.objs.size a) s₁.heap [] [] (pn.zip ds) [] := by
  have k1 : Keep s.heap s₁.heap := x.toInCall.keep
  refine ⟨O.kind, O.gl, O.bl, kb.trans k1, fun a q => (by cases q), fun a q => (by cases q), fun y e q => ?_, fun y d q => (by cases q)⟩
  obtain ⟨v, rv, hm, h1, h2⟩ := bind_get (kf := (callEnvC fd s.heap.objs.size a).kindOf) pn vs ds (fun _ => Option.none) (fun _ => Option.none) y e O.nodup hvl hr q
  refine ⟨v, ?_, rv.mono (hid_keep k1)⟩
  rcases O.names y hm with z | z
  · exact .inl ⟨z, _, x.toInCall.ns, h1 z⟩
  · have hz : ((cellsFrom (s.heap.objs.size + 1) fd.scope.names []).lookup y).isSome = true := cellsFrom_some _ _ _ (.inl z)
    obtain ⟨c, hc⟩ := Option.isSome_iff_exists.mp hz
    refine .inr ⟨.inl z, c, hc, ?_⟩
    have := x.cell y c hc
    rwa [h2 (by show fd.scope.names.lookup y ≠ _; rw [z]; decide)] at this
theorem need_raises {c q : Q} {r : List Q} (G : Gd w.params hb mg mb) (hf : fit (c :: r) = true) (hs : (smQ c && smQ q) = true) (hne : rcmp c q ≠ 0) (h01 : q.1 = 0 ∨ q.1 = 1) : RaiseOK prog w hb 12 128 [encL (c :: r), enc q] := by
  intro A E Q s vs outer ha hfr hfu kb hr hE
  have O := fo_128 (P := w.params) G
  have hvl : vs.length = 2 := hr.length
  refine frame_raises (P := w.params) O (nb_bd _) (by have := ha.depth; omega) kb hvl hfr hfu (fun s₁ x fr₁ => ?_) hE
  have g₁ := params_good O kb hvl hr x
  have ha' : AOk (A.deeper (callEnvC (fdOf w.params 128) s.heap.objs.size 128)) 11 := deeper_ok ha
  have hsc : (callEnvC (fdOf w.params 128) s.heap.objs.size 128).scope = (fdOf w.params 128).scope := rfl
  generalize callEnvC (fdOf w.params 128) s.heap.objs.size 128 = env at *
  obtain ⟨c1, c2⟩ := nb_s w.params
  have e0 := item_n (l := c :: r) (i := 0) rfl (by omega)
  have e0 : itemOf (encL (c :: r)) (.int 0) = some (enc c) := e0
  have hT : (ev (tbOf gl tabA) 10).T env.scope (rNb (c :: r) q) [] (ifT (nb0 w.params)) = some true := by
    rw [hsc, nb_t, len_s hf, e0]
    have h0 : (0 : Int) < ((c :: r).length : Int) := by simp
    simp only [consO_s, op1_s, rcmp_s hs, op2_s, ne_int, gt_int, decide_eq_true h0, andO_t]
    simpa using hne
  refine wpAny_execs_cons ?_
  rw [nb_0]
  refine wpAny_If ((sound_ev (tkA G) 10).2 _ _ _ s₁ env env.scope [] [] (rNb (c :: r) q) [] _ _ (ha'.less (by decide)) scOk_self g₁ hT fun h₂ tk₂ k₂ => ?_)
  rw [if_pos rfl]
  have g₂ := g₁.on k₂
  refine wpAny_execs_cons ?_
  rw [nb_r]
  have gE : Good hb env h₂ [] [] [] [] := ⟨g₂.kind, g₂.gl, g₂.bl, g₂.keep, fun a q => (by cases q), fun a q => (by cases q), fun y d q => (by cases q), fun y d q => (by cases q)⟩
  refine raise_ok (κ := "domain") G ha'.handled (by have := ha'.depth; omega) (by decide) gE (by rw [hsc]; exact c1) rfl rfl ?_ fun h₃ e tk₃ M => ⟨e, h₃, tk₃, rfl, rfl, (M.flew (.inl rfl) (fr₁.of_keeps fun b o z _ => ⟨o, k₂ _ _ z, rfl⟩)).older k₂⟩
  refine args_cons (wpAny_Constant_str ?_) rfl
  refine args_cons (wpAny_BinOp (wpAny_Constant_str ?_)) rfl
  refine Call_ (load_bi (v := .type "str") (tkA (prog := prog) (w := w) G) scOk_self gE (by rw [hsc]; exact c2) (gd_none G (by kernel_rfl)) (gd_built G (by decide) (by kernel_rfl)) (by decide) ?_)
  obtain ⟨en, st⟩ := nb_n w.params (c :: r) q
  refine callWith_args (hb := hb) (by simp) (by simp [st]) (.inr (.inr ⟨_, rfl⟩)) (args_cons ((sound_ev (tkA G) 10).1 _ _ _ _ env env.scope [] [] (rNb (c :: r) q) [] _ _ (ha'.less (by decide)) scOk_self g₂ (by rw [hsc]; exact en) fun v h₃ tk₃ k₃ r₃ _ => ?_) (starEach_cons st))
  cases r₃
  refine args_nil ⟨(g₂.on k₃).keep, ?_⟩
  have lq : (Str.ofString (toString q.1)).length = 1 := by rcases h01 with z | z <;> rw [z] <;> decide
  have lp : Str.length ("a series has to begin with " : Str) = 27 := by decide
  have lg : q.1.natAbs.log2 < 1920 := by rcases h01 with z | z <;> rw [z] <;> decide +kernel
  refine PySem.P.str_of_int lg ?_
  have lcat : Str.length (("a series has to begin with " : Str) ++ Str.ofString (toString q.1)) = 28 := by rw [Str.length_append, lp, lq]
  refine PyProof.Rows.add_str (fun t₄ tk₄ => args_nil ⟨⟨_, _, _, rfl, by rw [lcat]; decide⟩, k₃, ⟨_, _, rfl⟩⟩) (by rw [sizeLine_eq, lp, lq]; decide)
end
end Mine
namespace Mine
section
variable {prog : Program} {w : World} {A : Around} {E : Value → Shared → Prop} {s : Shared} {hb : Heap} {mg mb : Str → Option Value} {env : Env}
/-- a call by name that raises, in a frame -/
theorem call_raises {T : Tb} {dep dep' : Nat} {x : Str} {a : Addr} {args : List Expr} {ds : List D} {ρ : Rho} {p pos : Pos} {outer : List Env} {Q : Value → Shared → Prop} (K : TbOk prog w T hb mg mb dep) (R : RaiseOK prog w hb dep' a ds) (ha : AOk A dep) (ha' : AOk A dep') (hfr : A.frames = some outer) (hfu : s.heap.FunFrames hb outer)
    (g : Good hb env s.heap [] [] ρ []) (hn : evName T env.scope ρ x = some (.fn a)) (fo : ∃ o fd, hb.get? a = some o ∧ o.data = .func fd) (hne : args ≠ []) (hst : args.all notStar = true) (he : evs ((ev T 10).E env.scope ρ []) args = some ds)
    (hE : ∀ e h' tk', Flew w.params s.heap outer e h' → E (.ref e) { s with heap := h', toks := tk' }) : wpAny (model prog w) A (eval (.Call (.Name x p) args [] pos) env) Q E s := by
  refine call_by K scOk_self g hn fo hne hst (sound_list pos (fun E Q s e d g q h => (sound_ev K 10).1 A E Q s env env.scope [] [] ρ [] e d ha scOk_self g q fun v h' tk' k r _ => h v h' tk' k r) args ds s _ g hst he fun vs h₁ tk₁ k₁ r₁ => ⟨g.keep.trans k₁, ?_⟩)
  exact R A E Q _ vs outer ha' hfr (hfu.of_keeps fun b o z _ => ⟨o, k₁ _ _ z, rfl⟩) (g.keep.trans k₁) r₁ fun e h' tk' F => hE e h' tk' (F.older k₁)
/-- a def whose first statement is a call that raises -/
theorem first_raises {a a' : Addr} {pn : List Str} {rest : List Stmt} {x : Str} {args : List Expr} {ds ds' : List D} {p cpos pos : Pos} {dep depK : Nat} {T : Tb} {st : Stmt} (hk : depK ≤ dep) (O : FdOk hb a (fdOf w.params a) pn) (hbody : (fdOf w.params a).body = .stmts (st :: rest)) (h0 : st = .Expr (.Call (.Name x p) args [] cpos) pos)
    (K : TbOk prog w T hb mg mb depK) (R : RaiseOK prog w hb dep a' ds') (hn : evName T (fdOf w.params a).scope (pn.zip ds) x = some (.fn a')) (fo : ∃ o fd, hb.get? a' = some o ∧ o.data = .func fd) (hne : args ≠ []) (hst : args.all notStar = true) (he : evs ((ev T 10).E (fdOf w.params a).scope (pn.zip ds) []) args = some ds')
    (hl : ds.length = pn.length) : RaiseOK prog w hb (dep + 1) a ds := by
  intro A E Q s vs outer ha hfr hfu kb hr hE
  have hvl : vs.length = pn.length := by rw [hr.length, hl]
  refine frame_raises (P := w.params) O hbody (by have := ha.depth; omega) kb hvl hfr hfu (fun s₁ x₁ fr₁ => ?_) hE
  have g₁ := params_good O kb hvl hr x₁
  have ha' : AOk (A.deeper (callEnvC (fdOf w.params a) s.heap.objs.size a)) dep := deeper_ok ha
  have hsc : (callEnvC (fdOf w.params a) s.heap.objs.size a).scope = (fdOf w.params a).scope := rfl
  have hf1 := Around.frames_deeper (env := callEnvC (fdOf w.params a) s.heap.objs.size a) hfr
  generalize callEnvC (fdOf w.params a) s.heap.objs.size a = env at *
  refine wpAny_execs_cons ?_
  rw [h0]
  refine wpAny_Expr (call_raises (ρ := pn.zip ds) K R (ha'.less hk) ha' hf1 fr₁ g₁ (by rw [hsc]; exact hn) fo hne hst (by rw [hsc]; exact he) fun e h' tk' F => ⟨e, h', tk', rfl, rfl, F⟩) (interactive_no g₁.kind) rfl
/-- a def that returns an item of a call that raises -/
theorem item_raises {a a' : Addr} {pn : List Str} {x : Str} {args : List Expr} {ds ds' : List D} {p cpos spos pos : Pos} {i : Expr} {dep depK : Nat} {T : Tb} {st : Stmt} (hk : depK ≤ dep) (O : FdOk hb a (fdOf w.params a) pn) (hbody : (fdOf w.params a).body = .stmts [st]) (h0 : st = .Return (some (.Subscript (.Call (.Name x p) args [] cpos) i spos)) pos)
    (K : TbOk prog w T hb mg mb depK) (R : RaiseOK prog w hb dep a' ds') (hn : evName T (fdOf w.params a).scope (pn.zip ds) x = some (.fn a')) (fo : ∃ o fd, hb.get? a' = some o ∧ o.data = .func fd) (hne : args ≠ []) (hst : args.all notStar = true) (he : evs ((ev T 10).E (fdOf w.params a).scope (pn.zip ds) []) args = some ds')
    (hl : ds.length = pn.length) : RaiseOK prog w hb (dep + 1) a ds := by
  intro A E Q s vs outer ha hfr hfu kb hr hE
  have hvl : vs.length = pn.length := by rw [hr.length, hl]
  refine frame_raises (P := w.params) O hbody (by have := ha.depth; omega) kb hvl hfr hfu (fun s₁ x₁ fr₁ => ?_) hE
  have g₁ := params_good O kb hvl hr x₁
  have ha' : AOk (A.deeper (callEnvC (fdOf w.params a) s.heap.objs.size a)) dep := deeper_ok ha
  have hsc : (callEnvC (fdOf w.params a) s.heap.objs.size a).scope = (fdOf w.params a).scope := rfl
  have hf1 := Around.frames_deeper (env := callEnvC (fdOf w.params a) s.heap.objs.size a) hfr
  generalize callEnvC (fdOf w.params a) s.heap.objs.size a = env at *
  refine wpAny_execs_cons ?_
  rw [h0]
  exact wpAny_Return_some (Subscript_ (call_raises (ρ := pn.zip ds) K R (ha'.less hk) ha' hf1 fr₁ g₁ (by rw [hsc]; exact hn) fo hne hst (by rw [hsc]; exact he) fun e h' tk' F => ⟨e, h', tk', rfl, rfl, F⟩))
end
noncomputable def callAs : Expr → List Expr
  | .Call _ as _ _ => as
  | _ => []
noncomputable def exPos : Stmt → Pos
  | .Expr _ p => p
  | .Return _ p => p
  | _ => default
noncomputable abbrev f0 (P : Params) (a : Addr) : Stmt := stAt (bd P a) 0
noncomputable abbrev f0C (P : Params) (a : Addr) : Expr := exE (f0 P a)
theorem ne_nil {α : Type} {l : List α} {n : Nat} (h : l.length = n + 1) : l ≠ [] := fun e => by rw [e] at h; cases h
theorem fb_149 (P : Params) : (fdOf P 149).body = .stmts (f0 P 149 :: (bd P 149).drop 1) ∧ f0 P 149 = .Expr (.Call (.Name "need_begin" (exP (callF (f0C P 149)))) (callAs (f0C P 149)) [] (exP (f0C P 149))) (exPos (f0 P 149)) := ⟨by kernel_rfl, by kernel_rfl⟩
theorem fe_149 (P : Params) (a : List Q) : evName (tbOf gl tabA) (fdOf P 149).scope ((["a"] : List Str).zip [encL a]) "need_begin" = some (.fn 128) ∧ (callAs (f0C P 149)).length = 1 + 1 ∧ (callAs (f0C P 149)).all notStar = true ∧ evs ((ev (tbOf gl tabA) 10).E (fdOf P 149).scope ((["a"] : List Str).zip [encL a]) []) (callAs (f0C P 149)) = some [encL a, enc (0, 1)] := ⟨by kernel_rfl, by kernel_rfl, by kernel_rfl, by kernel_rfl⟩
theorem fb_142 (P : Params) : (fdOf P 142).body = .stmts (f0 P 142 :: (bd P 142).drop 1) ∧ f0 P 142 = .Expr (.Call (.Name "need_begin" (exP (callF (f0C P 142)))) (callAs (f0C P 142)) [] (exP (f0C P 142))) (exPos (f0 P 142)) := ⟨by kernel_rfl, by kernel_rfl⟩
theorem fe_142 (P : Params) (a : List Q) : evName (tbOf gl tabA) (fdOf P 142).scope ((["a"] : List Str).zip [encL a]) "need_begin" = some (.fn 128) ∧ (callAs (f0C P 142)).length = 1 + 1 ∧ (callAs (f0C P 142)).all notStar = true ∧ evs ((ev (tbOf gl tabA) 10).E (fdOf P 142).scope ((["a"] : List Str).zip [encL a]) []) (callAs (f0C P 142)) = some [encL a, enc (0, 1)] := ⟨by kernel_rfl, by kernel_rfl, by kernel_rfl, by kernel_rfl⟩
theorem fb_156 (P : Params) : (fdOf P 156).body = .stmts (f0 P 156 :: (bd P 156).drop 1) ∧ f0 P 156 = .Expr (.Call (.Name "need_begin" (exP (callF (f0C P 156)))) (callAs (f0C P 156)) [] (exP (f0C P 156))) (exPos (f0 P 156)) := ⟨by kernel_rfl, by kernel_rfl⟩
theorem fe_156 (P : Params) (a : List Q) : evName (tbOf gl tabA) (fdOf P 156).scope ((["a"] : List Str).zip [encL a]) "need_begin" = some (.fn 128) ∧ (callAs (f0C P 156)).length = 1 + 1 ∧ (callAs (f0C P 156)).all notStar = true ∧ evs ((ev (tbOf gl tabA) 10).E (fdOf P 156).scope ((["a"] : List Str).zip [encL a]) []) (callAs (f0C P 156)) = some [encL a, enc (1, 1)] := ⟨by kernel_rfl, by kernel_rfl, by kernel_rfl, by kernel_rfl⟩
theorem fb_163 (P : Params) : (fdOf P 163).body = .stmts (f0 P 163 :: (bd P 163).drop 1) ∧ f0 P 163 = .Expr (.Call (.Name "need_begin" (exP (callF (f0C P 163)))) (callAs (f0C P 163)) [] (exP (f0C P 163))) (exPos (f0 P 163)) := ⟨by kernel_rfl, by kernel_rfl⟩
theorem fe_163 (P : Params) (a : List Q) : evName (tbOf gl tabA) (fdOf P 163).scope ((["a"] : List Str).zip [encL a]) "need_begin" = some (.fn 128) ∧ (callAs (f0C P 163)).length = 1 + 1 ∧ (callAs (f0C P 163)).all notStar = true ∧ evs ((ev (tbOf gl tabA) 10).E (fdOf P 163).scope ((["a"] : List Str).zip [encL a]) []) (callAs (f0C P 163)) = some [encL a, enc (0, 1)] := ⟨by kernel_rfl, by kernel_rfl, by kernel_rfl, by kernel_rfl⟩
theorem fb_184 (P : Params) : (fdOf P 184).body = .stmts (f0 P 184 :: (bd P 184).drop 1) ∧ f0 P 184 = .Expr (.Call (.Name "need_begin" (exP (callF (f0C P 184)))) (callAs (f0C P 184)) [] (exP (f0C P 184))) (exPos (f0 P 184)) := ⟨by kernel_rfl, by kernel_rfl⟩
theorem fe_184 (P : Params) (a : List Q) : evName (tbOf gl tabA) (fdOf P 184).scope ((["a"] : List Str).zip [encL a]) "need_begin" = some (.fn 128) ∧ (callAs (f0C P 184)).length = 1 + 1 ∧ (callAs (f0C P 184)).all notStar = true ∧ evs ((ev (tbOf gl tabA) 10).E (fdOf P 184).scope ((["a"] : List Str).zip [encL a]) []) (callAs (f0C P 184)) = some [encL a, enc (0, 1)] := ⟨by kernel_rfl, by kernel_rfl, by kernel_rfl, by kernel_rfl⟩
section
variable {prog : Program} {w : World} {hb : Heap} {mg mb : Str → Option Value}
theorem RaiseOK.more {a : Addr} {ds : List D} {i j : Nat} (R : RaiseOK prog w hb i a ds) (h : i ≤ j) : RaiseOK prog w hb j a ds := fun A E Q s vs outer ha => R A E Q s vs outer (ha.less h)
theorem rs_149 {r : List Q} (G : Gd w.params hb mg mb) (hf : fit ((1, 1) :: r) = true) : RaiseOK prog w hb 13 149 [encL ((1, 1) :: r)] := by
  obtain ⟨b1, b2⟩ := fb_149 w.params
  obtain ⟨e1, e2, e3, e4⟩ := fe_149 w.params ((1, 1) :: r)
  exact first_raises (by decide) (fo_149 G) b1 b2 (tkA G) (need_raises G hf (by decide) (by decide) (.inl rfl)) e1 (fo_128 G).has (ne_nil e2) e3 e4 rfl
theorem rs_142 {r : List Q} (G : Gd w.params hb mg mb) (hf : fit ((1, 1) :: r) = true) : RaiseOK prog w hb 13 142 [encL ((1, 1) :: r)] := by
  obtain ⟨b1, b2⟩ := fb_142 w.params
  obtain ⟨e1, e2, e3, e4⟩ := fe_142 w.params ((1, 1) :: r)
  exact first_raises (by decide) (fo_142 G) b1 b2 (tkA G) (need_raises G hf (by decide) (by decide) (.inl rfl)) e1 (fo_128 G).has (ne_nil e2) e3 e4 rfl
theorem rs_163 {r : List Q} (G : Gd w.params hb mg mb) (hf : fit ((1, 1) :: r) = true) : RaiseOK prog w hb 13 163 [encL ((1, 1) :: r)] := by
  obtain ⟨b1, b2⟩ := fb_163 w.params
  obtain ⟨e1, e2, e3, e4⟩ := fe_163 w.params ((1, 1) :: r)
  exact first_raises (by decide) (fo_163 G) b1 b2 (tkA G) (need_raises G hf (by decide) (by decide) (.inl rfl)) e1 (fo_128 G).has (ne_nil e2) e3 e4 rfl
theorem rs_184 {r : List Q} (G : Gd w.params hb mg mb) (hf : fit ((1, 1) :: r) = true) : RaiseOK prog w hb 13 184 [encL ((1, 1) :: r)] := by
  obtain ⟨b1, b2⟩ := fb_184 w.params
  obtain ⟨e1, e2, e3, e4⟩ := fe_184 w.params ((1, 1) :: r)
  exact first_raises (by decide) (fo_184 G) b1 b2 (tkA G) (need_raises G hf (by decide) (by decide) (.inl rfl)) e1 (fo_128 G).has (ne_nil e2) e3 e4 rfl
theorem rs_156 {r : List Q} (G : Gd w.params hb mg mb) (hf : fit ((0, 1) :: r) = true) : RaiseOK prog w hb 13 156 [encL ((0, 1) :: r)] := by
  obtain ⟨b1, b2⟩ := fb_156 w.params
  obtain ⟨e1, e2, e3, e4⟩ := fe_156 w.params ((0, 1) :: r)
  exact first_raises (by decide) (fo_156 G) b1 b2 (tkA G) (need_raises G hf (by decide) (by decide) (.inr rfl)) e1 (fo_128 G).has (ne_nil e2) e3 e4 rfl
theorem fb_170 (P : Params) : (fdOf P 170).body = .stmts [f0 P 170] ∧ f0 P 170 = .Return (some (.Subscript (.Call (.Name "ssin_cos" (exP (callF (subV (retE (f0 P 170)))))) (callAs (subV (retE (f0 P 170)))) [] (exP (subV (retE (f0 P 170))))) (subI (retE (f0 P 170))) (exP (retE (f0 P 170))))) (exPos (f0 P 170)) := ⟨by kernel_rfl, by kernel_rfl⟩
theorem fe_170 (P : Params) (a : List Q) : evName (tbOf gl tabA) (fdOf P 170).scope ((["a"] : List Str).zip [encL a]) "ssin_cos" = some (.fn 163) ∧ (callAs (subV (retE (f0 P 170)))).length = 0 + 1 ∧ (callAs (subV (retE (f0 P 170)))).all notStar = true ∧ evs ((ev (tbOf gl tabA) 10).E (fdOf P 170).scope ((["a"] : List Str).zip [encL a]) []) (callAs (subV (retE (f0 P 170)))) = some [encL a] := ⟨by kernel_rfl, by kernel_rfl, by kernel_rfl, by kernel_rfl⟩
theorem rs_170 {r : List Q} (G : Gd w.params hb mg mb) (hf : fit ((1, 1) :: r) = true) : RaiseOK prog w hb 14 170 [encL ((1, 1) :: r)] := by
  obtain ⟨b1, b2⟩ := fb_170 w.params
  obtain ⟨e1, e2, e3, e4⟩ := fe_170 w.params ((1, 1) :: r)
  exact item_raises (by decide) (fo_170 G) b1 b2 (tkA G) (rs_163 G hf) e1 (fo_163 G).has (ne_nil e2) e3 e4 rfl
theorem fb_177 (P : Params) : (fdOf P 177).body = .stmts [f0 P 177] ∧ f0 P 177 = .Return (some (.Subscript (.Call (.Name "ssin_cos" (exP (callF (subV (retE (f0 P 177)))))) (callAs (subV (retE (f0 P 177)))) [] (exP (subV (retE (f0 P 177))))) (subI (retE (f0 P 177))) (exP (retE (f0 P 177))))) (exPos (f0 P 177)) := ⟨by kernel_rfl, by kernel_rfl⟩
theorem fe_177 (P : Params) (a : List Q) : evName (tbOf gl tabA) (fdOf P 177).scope ((["a"] : List Str).zip [encL a]) "ssin_cos" = some (.fn 163) ∧ (callAs (subV (retE (f0 P 177)))).length = 0 + 1 ∧ (callAs (subV (retE (f0 P 177)))).all notStar = true ∧ evs ((ev (tbOf gl tabA) 10).E (fdOf P 177).scope ((["a"] : List Str).zip [encL a]) []) (callAs (subV (retE (f0 P 177)))) = some [encL a] := ⟨by kernel_rfl, by kernel_rfl, by kernel_rfl, by kernel_rfl⟩
theorem rs_177 {r : List Q} (G : Gd w.params hb mg mb) (hf : fit ((1, 1) :: r) = true) : RaiseOK prog w hb 14 177 [encL ((1, 1) :: r)] := by
  obtain ⟨b1, b2⟩ := fb_177 w.params
  obtain ⟨e1, e2, e3, e4⟩ := fe_177 w.params ((1, 1) :: r)
  exact item_raises (by decide) (fo_177 G) b1 b2 (tkA G) (rs_163 G hf) e1 (fo_163 G).has (ne_nil e2) e3 e4 rfl
end
end Mine
namespace Mine
section
variable {prog : Program} {w : World} {A : Around} {E : Value → Shared → Prop} {s : Shared} {hb : Heap} {mg mb : Str → Option Value} {env : Env}
/-! ### e.kind -/
theorem slot_bga : Slot "Exception" "__getattribute__" "BaseException.__getattribute__" := PySem.F.attr_Exception.ga
theorem kind_attr {P : Params} {e : Addr} {ox od : Obj} {v : Value} {expr : Bool} {Q : Value → Shared → Prop} (X : (KF P).In s.heap) (I : InstAt s.heap e ox 31 (some od)) (hf : findObj (KF P) 31 (some od) "kind" = some (.value v)) (hh : handedIn v = true)
    (h : Q v { s with toks := s.toks + 1 }) : wpAny (model prog w) A (getAttr (.ref e) "kind" expr) Q E s := by
  obtain ⟨hp, g, d, t, os⟩ := s
  have L0 := I.type (M := model prog w)
  have L1 := looks_findIn (M := model prog w) X (show findIn (KF P) (.ref 31) "__getattribute__" = some (some (.builtin "BaseException.__getattribute__")) by kernel_rfl)
  have L2 := looks_findIn (M := model prog w) X (show findIn (KF P) (.ref 31) "__getattr__" = some Option.none by kernel_rfl)
  have L3 := looks_find (M := model prog w) X I hf
  have Lb : Looks (model prog w) hp (isInstance (.ref e) (.type "BaseException")) true := L0.andThen (looks_mroIn X (by kernel_rfl))
  have hk : builtinKind "BaseException.__getattribute__" = some .slot := by decide +kernel
  have hsplit : splitId "BaseException.__getattribute__" = some ("BaseException", "__getattribute__") := by decide +kernel
  unfold getAttr getAttrBy
  refine wpAny_bind (wpAny_mkText (wpAny_holding (wpAny_bind (L0.at (wpAny_bind (L1.at ?_))))))
  dsimp only
  rw [show (onTheHeap (.ref 31) && Value.builtin "BaseException.__getattribute__" == Value.builtin "object.__getattribute__") = false from by rw [show (Value.builtin "BaseException.__getattribute__" == Value.builtin "object.__getattribute__") = false from by decide +kernel, Bool.and_false], if_neg (by decide)]
  unfold getAttrByItsOwn
  refine wpAny_bind (L2.at (wpAny_bind (wpAny_attempt (wpAny_holding ?_))))
  unfold callGetattribute
  rw [show (expr && onTheHeap (Value.builtin "BaseException.__getattribute__")) = false from Bool.and_false _, if_neg (by decide)]
  unfold boundAndCalled
  rw [slot_bga.bind]
  refine wpAny_bind (wpAny_pure ?_)
  show wpAny _ _ (call (.builtin "BaseException.__getattribute__") [.ref e, .str "kind" t]) _ _ _
  refine wpAny_call (codeAny_call_builtin slot_bga.plain PySem.F.entry_bexc_ga (@check_slot (model prog w) _ _ ⟨hp, g, d, t + 1, os⟩ "BaseException.__getattribute__" "BaseException" "__getattribute__" (.ref e) [.str "kind" t] [] _ hk hsplit Lb (PySem.F.args_bexc_ga _ _) ?_))
  refine wpAny_bind (wpAny_pure (wpAny_bind (wpAny_pure (wpAny_bind (L0.at (wpAny_bind (L3.at ?_)))))))
  refine wpAny_pure ?_
  show wpAny _ _ (handedOut v) _ _ _
  rw [handedOut_of hh]
  exact wpAny_pure h
/-! ### sinverse refuses -/
noncomputable abbrev siR (P : Params) : Stmt := stAt (thB (f0 P 111)) 0
noncomputable abbrev siRC (P : Params) : Expr := raiC (siR P)
theorem si_bd (P : Params) : (fdOf P 111).body = .stmts (f0 P 111 :: (bd P 111).drop 1) := by kernel_rfl
theorem si_0 (P : Params) : f0 P 111 = .If (ifT (f0 P 111)) [siR P] [] (stP (f0 P 111)) := by kernel_rfl
theorem si_r (P : Params) : siR P = .Raise (some (.Call (.Name "CasFail" (exP (callF (siRC P)))) [.Constant (.str "division by zero") 0 (exPc (arg1 (siRC P))), .Constant (.str "a series that begins with 0") 0 (exPc (arg2 (siRC P)))] [] (exP (siRC P)))) Option.none (raiP (siR P)) := by kernel_rfl
theorem si_t (P : Params) (a : List Q) : (ev (tbOf gl tabA) 10).T (fdOf P 111).scope ((["a"] : List Str).zip [encL a]) [] (ifT (f0 P 111)) = andO (op2 (cmpD .Gt) (bCall .len [encL a]) (some (.int 0))) (op2 (cmpD .Eq) (itemOf (encL a) (.int 0)) (some R0)) := by kernel_rfl
theorem si_s (P : Params) : (fdOf P 111).scope.names.lookup ("CasFail" : Str) = some .globalImplicit := by kernel_rfl
theorem rs_111 {r : List Q} (G : Gd w.params hb mg mb) (hf : fit ((0, 1) :: r) = true) : RaiseOK prog w hb 13 111 [encL ((0, 1) :: r)] := by
  intro A E Q s vs outer ha hfr hfu kb hr hE
  have O := fo_111 (P := w.params) G
  have hvl : vs.length = 1 := hr.length
  refine frame_raises (P := w.params) O (si_bd _) (by have := ha.depth; omega) kb hvl hfr hfu (fun s₁ x fr₁ => ?_) hE
  have g₁ := params_good O kb hvl hr x
  have ha' : AOk (A.deeper (callEnvC (fdOf w.params 111) s.heap.objs.size 111)) 12 := deeper_ok ha
  have hsc : (callEnvC (fdOf w.params 111) s.heap.objs.size 111).scope = (fdOf w.params 111).scope := rfl
  generalize callEnvC (fdOf w.params 111) s.heap.objs.size 111 = env at *
  have e0 := item_n (l := (0, 1) :: r) (i := 0) rfl (by omega)
  have e0 : itemOf (encL ((0, 1) :: r)) (.int 0) = some (enc (0, 1)) := e0
  have hT : (ev (tbOf gl tabA) 10).T env.scope ((["a"] : List Str).zip [encL ((0, 1) :: r)]) [] (ifT (f0 w.params 111)) = some true := by
    rw [hsc, si_t, len_s hf, e0]
    have h0 : (0 : Int) < (((0, 1) :: r : List Mine.Q).length : Int) := by simp
    simp only [op2_s, gt_int, R0, eq_enc', decide_eq_true h0, andO_t]
    rfl
  refine wpAny_execs_cons ?_
  rw [si_0]
  refine wpAny_If ((sound_ev (tkA G) 10).2 _ _ _ s₁ env env.scope [] [] _ [] _ _ (ha'.less (by decide)) scOk_self g₁ hT fun h₂ tk₂ k₂ => ?_)
  rw [if_pos rfl]
  have g₂ := g₁.on k₂
  refine wpAny_execs_cons ?_
  rw [si_r]
  have gE : Good hb env h₂ [] [] [] [] := ⟨g₂.kind, g₂.gl, g₂.bl, g₂.keep, fun a q => (by cases q), fun a q => (by cases q), fun y d q => (by cases q), fun y d q => (by cases q)⟩
  refine raise_ok (κ := "division by zero") G ha'.handled (by have := ha'.depth; omega) (by decide) gE (by rw [hsc]; exact si_s _) rfl rfl ?_ fun h₃ e tk₃ M => ⟨e, h₃, tk₃, rfl, rfl, (M.flew (.inr rfl) (fr₁.of_keeps fun b o z _ => ⟨o, k₂ _ _ z, rfl⟩)).older k₂⟩
  exact args_cons (wpAny_Constant_str (args_cons (wpAny_Constant_str (args_nil ⟨⟨_, _, _, rfl, by decide⟩, Keep.refl _, ⟨_, _, rfl⟩⟩)) rfl)) rfl
end
end Mine
namespace Mine
/-! ### _law_refused -/
noncomputable def trB : Stmt → List Stmt
  | .Try b _ _ _ _ => b
  | _ => []
noncomputable def trH : Stmt → List ExceptHandler
  | .Try _ h _ _ _ => h
  | _ => []
noncomputable def trP : Stmt → Pos
  | .Try _ _ _ _ p => p
  | _ => default
noncomputable def hdB : List ExceptHandler → List Stmt
  | .ExceptHandler _ _ b _ :: _ => b
  | _ => []
noncomputable def hdP : List ExceptHandler → Pos
  | .ExceptHandler _ _ _ p :: _ => p
  | _ => default
noncomputable def hdT : List ExceptHandler → Expr
  | .ExceptHandler (some t) _ _ _ :: _ => t
  | _ => .Name "x" default
noncomputable def cmR : Expr → Expr
  | .Compare _ _ (r :: _) _ => r
  | _ => .Name "x" default
noncomputable def cmP : Expr → Pos
  | .Compare _ _ _ p => p
  | _ => default
noncomputable abbrev rfT (P : Params) : Stmt := stAt (bd P 236) 0
noncomputable abbrev rfS (P : Params) : Stmt := stAt (trB (rfT P)) 0
noncomputable abbrev rfH (P : Params) : Stmt := stAt (hdB (trH (rfT P))) 0
noncomputable abbrev rfC (P : Params) : Expr := retE (rfH P)
theorem rf_bd (P : Params) : (fdOf P 236).body = .stmts [rfT P, stAt (bd P 236) 1] := by kernel_rfl
theorem rf_t (P : Params) : rfT P = .Try [rfS P] [.ExceptHandler (some (.Name "CasFail" (exP (hdT (trH (rfT P)))))) (some "e") [rfH P] (hdP (trH (rfT P)))] [] [] (trP (rfT P)) := by kernel_rfl
theorem rf_s (P : Params) : rfS P = .Expr (.Call (.Name "work" (exP (callF (exE (rfS P))))) (callAs (exE (rfS P))) [] (exP (exE (rfS P)))) (exPos (rfS P)) := by kernel_rfl
theorem rf_h (P : Params) : rfH P = .Return (some (.Compare (.Attribute (.Name "e" (exP (atV (cmpL (rfC P))))) "kind" (exP (cmpL (rfC P)))) [.In] [.Tuple [.Constant (.str "domain") 0 (exPc (elAt (cmR (rfC P)) 0)), .Constant (.str "division by zero") 0 (exPc (elAt (cmR (rfC P)) 1))] 0 (exP (cmR (rfC P)))] (cmP (rfC P)))) (exPos (rfH P)) := by kernel_rfl
theorem rf_e (P : Params) (a : Addr) (d : D) : evName (tbOf gl tabA) (fdOf P 236).scope ((["work", "told"] : List Str).zip [.fn a, d]) "work" = some (.fn a) ∧ (callAs (exE (rfS P))).length = 0 + 1 ∧ (callAs (exE (rfS P))).all notStar = true ∧ evs ((ev (tbOf gl tabA) 10).E (fdOf P 236).scope ((["work", "told"] : List Str).zip [.fn a, d]) []) (callAs (exE (rfS P))) = some [d] := ⟨by kernel_rfl, by kernel_rfl, by kernel_rfl, by kernel_rfl⟩
theorem rf_n (P : Params) : (fdOf P 236).scope.names.lookup ("CasFail" : Str) = some .globalImplicit ∧ (fdOf P 236).scope.names.lookup ("e" : Str) = some .local := ⟨by kernel_rfl, by kernel_rfl⟩
theorem fo_236 {P : Params} {hb : Heap} {mg mb : Str → Option Value} (G : Gd P hb mg mb) : FdOk hb 236 (fdOf P 236) ["work", "told"] := gd_fn G (by kernel_rfl) (bind2 fun _ _ => by kernel_rfl)
theorem kind_of (P : Params) (tk tk2 : Tok) (v v2 : Value) (sl : Array (Option Value)) : findObj (KF P) 31 (some { dO [kindE P tk v, textE P tk2 v2] 2 with slots := sl }) "kind" = some (.value v) := by kernel_rfl
section
variable {prog : Program} {w : World} {A : Around} {E : Value → Shared → Prop} {s : Shared} {hb : Heap} {mg mb : Str → Option Value}
/-- the clause, once the exception is caught -/
theorem clause_ok {P : Params} {B : Heap} {env : Env} {outer : List Env} {e D' : Addr} {m : Str → Option Value} {κ tx : Str} {tk tk2 tκ tt : Tok} {sl : Array (Option Value)} {Q : Flow → Shared → Prop} {np p1 p2 p3 p4 p5 p6 p7 p8 : Pos} (hP : P = w.params) (G : Gd P hb mg mb)
    (f : Fly B (env :: outer) e D' (.ref 31) .none s.heap) (kb : hb.StaysIn B) (hn : s.heap.Ns env.locals m) (hD : s.heap.get? D' = some { dO [kindE P tk (.str κ tκ), textE P tk2 (.str tx tt)] 2 with slots := sl }) (hne : D' ≠ env.locals) (hbn : hb.get? env.locals = Option.none)
    (hκ : κ = ("domain" : Str) ∨ κ = ("division by zero" : Str)) (hk : env.scope.kind = .function) (hg : env.globals = mainGlobals) (hx : env.kindOf ("CasFail" : Str) = some .globalImplicit) (he : env.kindOf ("e" : Str) = some .local)
    (h : ∀ h' tk', (∀ b o, b ≠ env.locals → B.get? b = some o → h'.get? b = some o) → (∀ b o, b ≠ env.locals → s.heap.get? b = some o → (∀ vs, o.data ≠ .fields vs) → ∃ sl, h'.get? b = some { o with slots := sl }) → Q (.ret (.bool true)) { s with heap := h', toks := tk' }) :
    wpAny (model prog w) A (handleBy (.ref e) env [.ExceptHandler (some (.Name "CasFail" np)) (some "e") [.Return (some (.Compare (.Attribute (.Name "e" p1) "kind" p2) [.In] [.Tuple [.Constant (.str "domain") 0 p3, .Constant (.str "division by zero") 0 p4] 0 p5] p6)) p7] p8]) Q E s := by
  subst hP
  have hsb : (env.scope.kind == .class || (env.scope.kind == .module && env.locals != env.globals)) = false := by rw [hk]; rfl
  have kh : Keep hb s.heap := fun b o q => f.stays b o (kb b o q)
  have hC := G.inK kh _ _ (cas_obj w.params)
  have hng : s.heap.Ns env.globals mg := by rw [hg]; exact G.g.keeps kh
  obtain ⟨oe, ws, x1, x2, x3, x4, x5⟩ := id f.exc
  refine wpAny_handleBy_cons (codeAny_handlers_test (Name_function_global hk hx (loadGlobal_global hng (gd_some G (by kernel_rfl : nsIn (hd.heap_39 w.params) mainGlobals "CasFail" = some (some (.ref 31)))) ?_) (by decide))) (by intro q; cases q)
  obtain ⟨hp, g, dr, t, os⟩ := s
  refine wpAny_excMatches_sub_self hC x1 x2 (by decide +kernel) ?_
  rw [if_pos rfl]
  refine codeAny_handlers_suite_as ?_
  refine land_ok f fun h₄ f₄ u₄ => ?_
  have n₄ := u₄.ns hn
  refine wpAny_storeName_local he n₄ (fun h₅ n₅ sb₅ => ?_) hsb
  have k₅ : ∀ b o, b ≠ env.locals → B.get? b = some o → h₅.get? b = some o := fun b o q z => (sb₅.2 b q).trans (f₄.stays b o z)
  have kh₅ : Keep hb h₅ := fun b o q => k₅ b o (fun z => by rw [z, hbn] at q; cases q) (kb b o q)
  obtain ⟨oe, ws, x1, x2, x3, x4, x5⟩ := id f₄.exc
  have neL : e ≠ env.locals := fun z => by
    obtain ⟨o, es, ep, ho, hd, _⟩ := n₄
    rw [← z, x1] at ho; cases ho
    rw [x4] at hd; cases hd
  obtain ⟨sl', d₄⟩ := u₄ D' _ hD fun vs z => by cases z
  have I : InstAt h₅ e oe 31 (some { dO [kindE w.params tk (.str κ tκ), textE w.params tk2 (.str tx tt)] 2 with slots := sl' }) := ⟨(sb₅.2 e neL).trans x1, x2, by obtain ⟨_, _, _, _⟩ := oe; cases x4; rfl, by rw [x3]; exact (sb₅.2 D' hne).trans d₄⟩
  refine wpAny_execs_cons (wpAny_Return_some (wpAny_Compare1 (Attribute_Name_ (wpAny_Name (wpAny_loadName_local hk he n₅ (if_pos rfl) ?_) (by decide)))))
  refine kind_attr (P := w.params) (G.inK kh₅) I (kind_of _ _ _ _ _ _) rfl ?_
  refine wpAny_Tuple (args_cons (wpAny_Constant_str (args_cons (wpAny_Constant_str (args_nil ⟨show 2 ≤ _ by decide, ?_⟩)) rfl)) rfl)
  refine in_tuple_strs (items := #[.str "domain" _, .str "division by zero" _]) (ys := ["domain", "division by zero"]) ⟨_, Heap.get?_push_size _ rfl, rfl, _, rfl⟩ (.cons _ _ (.cons _ _ .nil)) ?_
  have hb' : (([("domain" : Str), ("division by zero" : Str)] : List Str).any (· == κ)) = true := by rcases hκ with z | z <;> rw [z] <;> decide
  rw [hb']
  dsimp only
  refine wpAny_nameGoes he (n₅.keeps fun b o q => Heap.get?_push_of_some _ q) hsb fun h₆ m₆ n₆ sb₆ => h h₆ _ (fun b o q z => (sb₆.2 b q).trans (Heap.get?_push_of_some _ (k₅ b o q z))) fun b o q z nf => ?_
  obtain ⟨sl₂, z₂⟩ := u₄ b o z nf
  exact ⟨sl₂, (sb₆.2 b q).trans (Heap.get?_push_of_some _ ((sb₅.2 b q).trans z₂))⟩
end
end Mine
namespace Mine
section
variable {prog : Program} {w : World} {A : Around} {E : Value → Shared → Prop} {s : Shared} {hb : Heap} {mg mb : Str → Option Value}
theorem frames_fresh {base h : Heap} {l : List Env} (f : h.FunFrames base l) {b : Addr} (m : b ∈ frs l) : base.get? b = Option.none := (f.mem m).1
/-- _law_refused(work, told), where the work raises -/
theorem refused_ok {a : Addr} {d : D} {dep : Nat} {v : Value} {outer : List Env} {Q : Value → Shared → Prop} (G : Gd w.params hb mg mb) (hdep : 10 ≤ dep) (R : RaiseOK prog w hb dep a [d]) (fo : ∃ o fd, hb.get? a = some o ∧ o.data = .func fd)
    (ha : AOk A (dep + 1)) (hfr : A.frames = some outer) (hfu : s.heap.FunFrames hb outer) (kb : Keep hb s.heap) (rv : Rep (hid s.heap []) v d)
    (h : ∀ h' tk', (hideAll s.heap (frs outer)).StaysIn h' → s.heap.UpToSlots h' → Q (.bool true) { s with heap := h', toks := tk' }) :
    wpAny (model prog w) A (call (.ref 236) [.ref a, v]) Q E s := by
  have O := fo_236 (P := w.params) G
  refine enter O (rf_bd _) (by have := ha.depth; omega) kb rfl fun s₁ x => ?_
  have hL : (callEnvC (fdOf w.params 236) s.heap.objs.size 236).locals = s.heap.objs.size := rfl
  have hF : (callEnvC (fdOf w.params 236) s.heap.objs.size 236).frame = some s.heap.objs.size := rfl
  have k1 : Keep s.heap s₁.heap := x.toInCall.keep
  have fL : s.heap.get? s.heap.objs.size = Option.none := none_size _
  have bL : hb.get? s.heap.objs.size = Option.none := by
    cases z : hb.get? s.heap.objs.size with
    | none => rfl
    | some o => have := kb _ _ z; rw [fL] at this; cases this
  have fr1 : s₁.heap.FunFrames hb (callEnvC (fdOf w.params 236) s.heap.objs.size 236 :: outer) := .cons (by rw [show (callEnvC (fdOf w.params 236) s.heap.objs.size 236).scope.kind = .function from O.kind]; decide) hF x.toInCall.ns bL (hfu.of_keeps fun b o z _ => ⟨o, k1 _ _ z, rfl⟩)
  have g₁ := params_good O kb rfl (.cons (.fn a) (.cons rv .nil)) x
  have n₁ := x.toInCall.ns
  obtain ⟨hs1, ht1, es1⟩ := x.toInCall.same
  have ha' : AOk (A.deeper (callEnvC (fdOf w.params 236) s.heap.objs.size 236)) dep := deeper_ok ha
  have hsc : (callEnvC (fdOf w.params 236) s.heap.objs.size 236).scope = (fdOf w.params 236).scope := rfl
  have hf1 := Around.frames_deeper (env := callEnvC (fdOf w.params 236) s.heap.objs.size 236) hfr
  rw [hL] at n₁
  clear x
  generalize callEnvC (fdOf w.params 236) s.heap.objs.size 236 = env at *
  obtain ⟨e1, e2, e3, e4⟩ := rf_e w.params a d
  obtain ⟨c1, c2⟩ := rf_n w.params
  subst es1
  refine wpAny_execs_cons ?_
  rw [rf_t]
  refine wpAny_Try_except (wpAny_execs_cons ?_)
  rw [rf_s]
  refine wpAny_Expr (call_raises (ρ := (["work", "told"] : List Str).zip [.fn a, d]) (tkA G) R (ha'.less hdep) ha' hf1 fr1 g₁ (by rw [hsc]; exact e1) fo (ne_nil e2) e3 (by rw [hsc]; exact e4) fun e h' tk' F => ?_) (interactive_no g₁.kind) rfl
  obtain ⟨D', κ, tk, tk2, tκ, tx, tt, sl, f, u, dd, q, nd⟩ := F.all
  refine note_ok hf1 hF f fun h₂ f₂ u₂ => land_ok f₂ fun h₃ f₃ u₃ => ?_
  obtain ⟨sl', d₃⟩ := (u₂.trans u₃) D' _ dd fun vs z => by cases z
  have kB : hb.StaysIn (hideAll hs1 (frs (env :: outer))) := fun b o z => hideAll_get _ (g₁.keep b o z) fun m => by have := frames_fresh fr1 m; rw [z] at this; cases this
  have nLs : ∃ o, hs1.get? s.heap.objs.size = some o := let ⟨o, _, _, e, _⟩ := n₁; ⟨o, e⟩
  refine clause_ok rfl G f₃ kB (by rw [hL]; exact (u.trans (u₂.trans u₃)).ns n₁) d₃ (fun z => by obtain ⟨o, e⟩ := nLs; rw [← hL, ← z, nd] at e; cases e) (by rw [hL]; exact bL) q g₁.kind g₁.gl (by unfold Env.kindOf; rw [hsc]; exact c1) (by unfold Env.kindOf; rw [hsc]; exact c2) fun h₄ tk₄ p₄ u₄ => ?_
  rw [hL] at p₄ u₄
  have ne : ∀ {b o}, s.heap.get? b = some o → b ≠ s.heap.objs.size := fun {b o} z y => by rw [y, fL] at z; cases z
  refine h h₄ tk₄ (fun b o z => ?_) fun b o z nf => ?_
  · have z' := of_hideAll _ z
    refine p₄ b o (ne z') (hideAll_get _ (k1 _ _ z') fun m => ?_)
    unfold frs at m
    rw [List.filterMap_cons, hF] at m
    rcases List.mem_cons.mp m with m | m
    · exact ne z' m
    · rw [hideAll_none _ (show b ∈ frs outer from m)] at z; cases z
  · obtain ⟨sl₁, y₁⟩ := (u.trans (u₂.trans u₃)) b o (k1 _ _ z) nf
    obtain ⟨sl₂, y₂⟩ := u₄ b _ (ne z) y₁ nf
    exact ⟨sl₂, y₂⟩
end
end Mine
namespace Mine
section
variable {prog : Program} {w : World} {A : Around} {E : Value → Shared → Prop} {s : Shared} {hb : Heap} {mg mb : Str → Option Value} {env : Env} {cb cp b : Addr} {vN : Value} {ns : List Int} {k c : Int} {ρ : Rho}
/-- a call that caught an exception changes nothing that the frame holds -/
theorem Inv.fly {s s₀ : Shared} {env : Env} {Own Oc : List Addr} {ρ : Rho} {σ : Sig} {h' : Heap} {tk : Nat} (I : Inv hb s₀ env Own Oc ρ σ s) (st : (hideAll s.heap [env.locals]).StaysIn h') (u : s.heap.UpToSlots h') : Inv hb s₀ env Own Oc ρ σ { s with heap := h', toks := tk } := by
  have hk : ∀ b o, b ≠ env.locals → s.heap.get? b = some o → h'.get? b = some o := fun b o q e => st b o (hideAll_get _ e fun m => q (List.mem_singleton.mp m))
  obtain ⟨m, hm⟩ := I.loc
  have hm' := u.ns hm
  have su : ∀ O, Sub (hid s.heap O) (hid h' O) := fun O a o q e => hid_mk (hk a o (fun z => not_dict hm q (z ▸ (hid_of e).1)) (hid_of e).1) (hid_of e).2
  have cne : ∀ {x c}, env.cells.lookup x = some c → c ≠ env.locals := fun {x c} hc => by
    obtain ⟨v, hv⟩ := I.cells _ _ hc
    exact cell_not_dict hv hm
  have lk : ∀ {y v}, Look env s.heap y v → Look env h' y v := fun {y v} l => by
    rcases l with ⟨k, m₁, n₁, r⟩ | ⟨k, c, hc', ov, ho, hd⟩
    · exact .inl ⟨k, m₁, u.ns n₁, r⟩
    · exact .inr ⟨k, c, hc', ov, hk _ _ (cne hc') ho, hd⟩
  have bk : ∀ {y v}, Look env h' y v → Look env s.heap y v := fun {y v} l => by
    rcases l with ⟨k, m₁, n₁, r⟩ | ⟨k, c, hc', hv⟩
    · exact .inl ⟨k, m, hm, by rw [hm'.agree n₁ y, r]⟩
    · obtain ⟨w, hw⟩ := I.cells _ _ hc'
      obtain ⟨o1, h1, d1⟩ := id hw
      obtain ⟨o2, h2, d2⟩ := hv
      rw [hk _ _ (cne hc') h1] at h2; cases h2
      rw [d1] at d2; cases d2
      exact .inr ⟨k, c, hc', hw⟩
  have n0 : ∀ {b o}, s₀.heap.get? b = some o → b ≠ env.locals := fun {b o} e z => by rw [z, I.loc0] at e; cases e
  refine ⟨let ⟨_, _, e⟩ := I.same; ⟨h', tk, by rw [e]⟩, ⟨I.good.kind, I.good.gl, I.good.bl, fun b o e => hk b o (n0 (I.base0 b o e)) (I.good.keep b o e), I.good.hidB, fun b mm => ?_, fun y d q => ?_, fun y es q => ?_⟩, ⟨m, hm'⟩, I.loc0,
    fun y c q => ?_, fun b o e => hk b o (n0 e) (I.keep0 b o e), I.base0, I.own0, I.oc0, fun y z ds₁ es b hy hz ly lz => I.apart y z ds₁ es b hy hz (bk ly) (bk lz)⟩
  · obtain ⟨o, e⟩ := I.good.hidS b mm
    by_cases z : b = env.locals
    · obtain ⟨o', _, _, e', _⟩ := hm'
      exact ⟨o', z ▸ e'⟩
    · exact ⟨o, hk _ _ z e⟩
  · obtain ⟨v, lu, ru⟩ := I.good.val _ _ q
    exact ⟨v, lk lu, ru.mono (su _)⟩
  · obtain ⟨b, ws, j, lb, mm, eb, rb⟩ := I.good.own _ _ q
    exact ⟨b, ws, j, lk lb, mm, hk _ _ (fun z => not_dict hm isSeq_lst (z ▸ eb)) eb, rb.mono (su _)⟩
  · obtain ⟨w, o1, h1, d1⟩ := I.cells _ _ q
    exact ⟨w, o1, hk _ _ (cne q) h1, d1⟩
theorem Stp.fly {Own : List Addr} {h h' : Heap} (st : (hideAll h [env.locals]).StaysIn h') (u : h.UpToSlots h') (hl : ∃ m, h.Ns env.locals m) : Stp env [] Own Own h h' :=
  ⟨fun b o e _ q _ => st b o (hideAll_get _ e fun m => q (List.mem_singleton.mp m)), fun b o e => by
    by_cases z : b = env.locals
    · obtain ⟨m, hm⟩ := hl
      obtain ⟨o', _, _, e', _⟩ := u.ns hm
      exact ⟨o', z ▸ e'⟩
    · exact ⟨o, st b o (hideAll_get _ e fun m => z (List.mem_singleton.mp m))⟩, fun _ m => .inl m⟩
/-- the law's call of _law_refused -/
theorem ref_call {a : Addr} {d : D} {dep : Nat} {args : List Expr} {p pos : Pos} {Own Oc : List Addr} {σ : Sig} {s₀ : Shared} {Q : Value → Shared → Prop} (G : Gd w.params hb mg mb) (hdep : 10 ≤ dep) (R : RaiseOK prog w hb dep a [d]) (fo : ∃ o fd, hb.get? a = some o ∧ o.data = .func fd)
    (ha : AOk A (dep + 1)) (hfr : A.frames = some [env]) (hF : env.frame = some env.locals) (hnL : hb.get? env.locals = Option.none) (I : Inv hb s₀ env Own Oc ρ σ s) (hx : evName (tbOf gl tabA) env.scope ρ "_law_refused" = some (.fn 236))
    (hne : args ≠ []) (hst : args.all notStar = true) (he : evs ((ev (tbOf gl tabA) 10).E env.scope ρ σ) args = some [.fn a, d])
    (h : ∀ h' tk', Inv hb s₀ env Own Oc ρ σ { s with heap := h', toks := tk' } → Stp env [] Own Own s.heap h' → Q (.bool true) { s with heap := h', toks := tk' }) : wpAny (model prog w) A (eval (.Call (.Name "_law_refused" p) args [] pos) env) Q E s := by
  have K := tkA (prog := prog) (w := w) G
  refine call_by K scOk_self I.good hx (fo_236 (P := w.params) G).has hne hst (sound_list pos (fun E Q s e d g q h => (sound_ev K 10).1 A E Q s env env.scope Own Oc ρ σ e d (ha.less (by omega)) scOk_self g q fun v h' tk' k r _ => h v h' tk' k r) args _ s _ I.good hst he fun vs h₁ tk₁ k₁ r₁ => ⟨I.good.keep.trans k₁, ?_⟩)
  have I₁ : Inv hb s₀ env Own Oc ρ σ { s with heap := h₁, toks := tk₁ } := I.on k₁
  obtain ⟨m, hm⟩ := I.loc
  cases r₁ with
  | cons rf r₁ => cases r₁ with
    | cons rv r₁ =>
      cases r₁
      cases rf
      have hfu : h₁.FunFrames hb [env] := .cons (by rw [I.good.kind]; decide) hF (hm.keeps k₁) hnL trivial
      refine refused_ok G hdep R fo ha hfr hfu (I.good.keep.trans k₁) (rv.mono (hid_fewer fun a q => by cases q)) fun h₂ tk₂ st u => ?_
      have fe : frs [env] = [env.locals] := by unfold frs; rw [List.filterMap_cons, hF]; rfl
      rw [fe] at st
      refine h h₂ tk₂ (I₁.fly st u) (Stp.fly (fun b o e => st b o (hideAll_get _ (k₁ _ _ (of_hideAll _ e)) fun m => by rw [hideAll_none _ m] at e; cases e)) ((Heap.UpToSlots.of_keeps k₁).trans u) ⟨m, hm⟩)
end
end Mine
namespace Mine
/-! ### the law's end -/
noncomputable def frX : Stmt → Expr
  | .For x _ _ _ _ => x
  | _ => .Name "x" default
noncomputable def frI : Stmt → Expr
  | .For _ i _ _ _ => i
  | _ => .Name "x" default
noncomputable def frP : Stmt → Pos
  | .For _ _ _ _ p => p
  | _ => default
noncomputable def unV : Expr → Expr
  | .UnaryOp _ v _ => v
  | _ => .Name "x" default
noncomputable def unP : Expr → Pos
  | .UnaryOp _ _ p => p
  | _ => default
noncomputable def boL : Expr → Expr
  | .BoolOp _ (a :: _) _ => a
  | _ => .Name "x" default
noncomputable def boP : Expr → Pos
  | .BoolOp _ _ p => p
  | _ => default
noncomputable abbrev leF (P : Params) : Stmt := lw P 20
noncomputable abbrev leB (P : Params) : Stmt := stAt (inB (leF P)) 0
noncomputable abbrev leC (P : Params) : Expr := unV (ifT (leB P))
noncomputable abbrev leR (P : Params) : Expr := retE (lw P 21)
theorem le_f (P : Params) : lw P 20 = .For (.Name "work" (exP (frX (leF P)))) (frI (leF P)) [leB P] [] (frP (leF P)) := by kernel_rfl
theorem le_b (P : Params) : leB P = .If (.UnaryOp .Not (.Call (.Name "_law_refused" (exP (callF (leC P)))) (callAs (leC P)) [] (exP (leC P))) (unP (ifT (leB P)))) (thB (leB P)) [] (stP (leB P)) := by kernel_rfl
theorem le_r (P : Params) : lw P 21 = .Return (some (.BoolOp .And [.Call (.Name "_law_refused" (exP (callF (boL (leR P))))) (callAs (boL (leR P))) [] (exP (boL (leR P))), .Call (.Name "_law_refused" (exP (callF (orR (leR P))))) (callAs (orR (leR P))) [] (exP (orR (leR P)))] (boP (leR P)))) (exPos (lw P 21)) := by kernel_rfl
noncomputable def rWk (f z : List Q) (a : Addr) : Rho := [("first", encL f), ("zero", encL z), ("work", .fn a)]
noncomputable def wl : List Addr := [149, 170, 177, 184, 142]
theorem le_i (P : Params) (f z : List Q) : iterD (tbOf gl tabA) ((ev (tbOf gl tabA) 10).E (lsc P) (rFZ f z) []) (lsc P) (rFZ f z) (frI (leF P)) = some (wl.map .fn) := by kernel_rfl
theorem le_e (P : Params) (f z : List Q) (a : Addr) : evName (tbOf gl tabA) (lsc P) (rWk f z a) "_law_refused" = some (.fn 236) ∧ (callAs (leC P)).length = 1 + 1 ∧ (callAs (leC P)).all notStar = true ∧ evs ((ev (tbOf gl tabA) 10).E (lsc P) (rWk f z a) []) (callAs (leC P)) = some [.fn a, encL f] := ⟨by kernel_rfl, by kernel_rfl, by kernel_rfl, by kernel_rfl⟩
theorem le_1 (P : Params) (f z : List Q) (a : Addr) : (callAs (boL (leR P))).length = 1 + 1 ∧ (callAs (boL (leR P))).all notStar = true ∧ evs ((ev (tbOf gl tabA) 10).E (lsc P) (rWk f z a) []) (callAs (boL (leR P))) = some [.fn 156, encL z] := ⟨by kernel_rfl, by kernel_rfl, by kernel_rfl⟩
theorem le_2 (P : Params) (f z : List Q) (a : Addr) : (callAs (orR (leR P))).length = 1 + 1 ∧ (callAs (orR (leR P))).all notStar = true ∧ evs ((ev (tbOf gl tabA) 10).E (lsc P) (rWk f z a) []) (callAs (orR (leR P))) = some [.fn 111, encL z] := ⟨by kernel_rfl, by kernel_rfl, by kernel_rfl⟩
open Classical in
noncomputable def fbW (f z : List Q) : Rho → Sig → Option Out := fun ρ σ => if (∃ a ∈ wl, ρ = rWk f z a) ∧ σ = [] then some (.next ρ σ) else Option.none
noncomputable def ksW : List Str := ["first", "zero", "work"]
theorem forS (f z : List Q) {a : Addr} {l : List Addr} {ρ : Rho} {o : Option Out} (ha : a ∈ wl) (hp : put "work" (.fn a) ρ = rWk f z a) (h : forD ksW (fbW f z) "work" (l.map .fn) (rWk f z a) [] = o) : forD ksW (fbW f z) "work" ((a :: l).map .fn) ρ [] = o := by
  rw [List.map_cons, forD, hp]
  have e : keepK ksW (rWk f z a) = rWk f z a := by kernel_rfl
  have e2 : fbW f z (rWk f z a) (del "work" []) = some (.next (rWk f z a) []) := by
    unfold fbW
    rw [if_pos ⟨⟨a, ha, rfl⟩, rfl⟩]
    rfl
  rw [e2]
  show forD ksW (fbW f z) "work" (l.map .fn) (keepK ksW (rWk f z a)) (keepK ksW ([] : Sig)) = _
  rw [e]
  exact h
theorem forW (f z : List Q) : ∀ (l : List Addr) (a : Addr), (∀ a ∈ l, a ∈ wl) → a ∈ wl → ∃ b ∈ wl, forD ksW (fbW f z) "work" (l.map .fn) (rWk f z a) [] = some (.next (rWk f z b) [])
  | [], a, _, ha => ⟨a, ha, by rw [List.map_nil, forD]; kernel_rfl⟩
  | a :: l, a0, hl, _ => by
    have ha := hl a List.mem_cons_self
    obtain ⟨b, hb, h⟩ := forW f z l a (fun b m => hl b (List.mem_cons_of_mem _ m)) ha
    exact ⟨b, hb, forS f z ha (by kernel_rfl) h⟩
theorem forW0 (f z : List Q) : ∃ b ∈ wl, forD ksW (fbW f z) "work" (wl.map .fn) (rFZ f z) [] = some (.next (rWk f z b) []) := by
  obtain ⟨b, hb, h⟩ := forW f z [170, 177, 184, 142] 149 (by decide) (by decide)
  exact ⟨b, hb, forS f z (by decide) (by kernel_rfl) h⟩
theorem fit_f : ∀ t ∈ tls, fit (fst3 t) = true := by decide +kernel
theorem fit_z : ∀ c ∈ pool.drop 1, ∀ t ∈ tls, fit ((0, 1) :: c :: t) = true := by decide +kernel
section
variable {prog : Program} {w : World} {A : Around} {E : Value → Shared → Prop} {s : Shared} {hb : Heap} {mg mb : Str → Option Value} {env : Env} {cb cp b : Addr} {vN : Value} {ns : List Int} {k c : Int} {ρ : Rho}
theorem rs_w {r : List Mine.Q} (G : Gd w.params hb mg mb) (hf : fit ((1, 1) :: r) = true) {a : Addr} (h : a ∈ wl) : RaiseOK prog w hb 14 a [encL ((1, 1) :: r)] ∧ ∃ o fd, hb.get? a = some o ∧ o.data = .func fd := by
  unfold wl at h
  simp only [List.mem_cons, List.not_mem_nil, or_false] at h
  rcases h with rfl | rfl | rfl | rfl | rfl
  · exact ⟨(rs_149 G hf).more (by decide), (fo_149 (P := w.params) G).has⟩
  · exact ⟨rs_170 G hf, (fo_170 (P := w.params) G).has⟩
  · exact ⟨rs_177 G hf, (fo_177 (P := w.params) G).has⟩
  · exact ⟨(rs_184 G hf).more (by decide), (fo_184 (P := w.params) G).has⟩
  · exact ⟨(rs_142 G hf).more (by decide), (fo_142 (P := w.params) G).has⟩
theorem end_ok {Q : Flow → Shared → Prop} {c0 : Mine.Q} {t : List Mine.Q} (G : Gd w.params hb mg mb) (L : LEnv w.params hb env cb cp) (ha : AOk A 27) (hfr : A.frames = some [env]) (hF : env.frame = some env.locals) (M : Mid hb env cb b vN ns k c (rFZ (fst3 t) ((0, 1) :: c0 :: t)) s.heap)
    (hc : c0 ∈ pool.drop 1) (ht : t ∈ tls) (h : ∀ h' tk', Keep hb h' → Q (.ret (.bool true)) { s with heap := h', toks := tk' }) :
    wpAny (model prog w) A (execs [lw w.params 20, lw w.params 21] env) Q E s := by
  have hff := fit_f t ht
  have hfz := fit_z c0 hc t ht
  have ha15 : AOk A (14 + 1) := ha.less (by decide)
  have ha10 : AOk A 10 := ha.less (by decide)
  obtain ⟨a, hw, hq⟩ := forW0 (fst3 t) ((0, 1) :: c0 :: t)
  refine wpAny_execs_cons ?_
  rw [le_f]
  have hwk : env.kindOf "work" = some .local := by show env.scope.names.lookup _ = _; rw [L.sc]; kernel_rfl
  refine sound_for (T := tbOf gl tabA) (tkA G) ha10 (M.inv L) hwk (f := (ev (tbOf gl tabA) 10).E env.scope (rFZ (fst3 t) ((0, 1) :: c0 :: t)) []) (fun E Q s e d g q h => (sound_ev (tkA G) 10).1 A E Q s env env.scope [] [b] _ [] e d ha10 scOk_self g q fun v h' tk' k r _ => h v h' tk' k r)
    (fun E Q s Own ρ σ o I hf hp => ?_) (by rw [L.sc]; exact le_i _ _ _) hq fun Own' s' I' st' => ?_
  · unfold fbW at hf
    split at hf
    · rename_i q
      obtain ⟨⟨a, hw, rfl⟩, rfl⟩ := q
      cases hf
      obtain ⟨R, fo⟩ := rs_w (prog := prog) G hff hw
      obtain ⟨e1, e2, e3, e4⟩ := le_e w.params (fst3 t) ((0, 1) :: c0 :: t) a
      refine wpAny_execs_cons ?_
      rw [le_b]
      refine wpAny_If (wpAny_isTrue_Not (wpAny_isTrue_value (ref_call G (by decide) R fo ha15 hfr hF L.nL I (by rw [L.sc]; exact e1) (ne_nil e2) e3 (by rw [L.sc]; exact e4) fun h' tk' I' st' => wpAny_truthy_bool ?_)))
      rw [if_neg (by decide)]
      exact wpAny_execs_nil (wpAny_execs_nil (hp Own _ I' st'))
    · cases hf
  · · obtain ⟨e1, _, _, _⟩ := le_e w.params (fst3 t) ((0, 1) :: c0 :: t) a
      obtain ⟨e2, e3, e4⟩ := le_1 w.params (fst3 t) ((0, 1) :: c0 :: t) a
      obtain ⟨f2, f3, f4⟩ := le_2 w.params (fst3 t) ((0, 1) :: c0 :: t) a
      refine wpAny_execs_cons ?_
      rw [le_r]
      refine wpAny_Return_some (wpAny_And2 (ref_call G (by decide) ((rs_156 G hfz).more (j := 14) (by decide)) (fo_156 (P := w.params) G).has ha15 hfr hF L.nL I' (by rw [L.sc]; exact e1) (ne_nil e2) e3 (by rw [L.sc]; exact e4) fun h₁ tk₁ I₁ st₁ => wpAny_truthy_bool ?_))
      rw [if_pos rfl]
      refine ref_call G (by decide) ((rs_111 G hfz).more (j := 14) (by decide)) (fo_111 (P := w.params) G).has ha15 hfr hF L.nL I₁ (by rw [L.sc]; exact e1) (ne_nil f2) f3 (by rw [L.sc]; exact f4) fun h₂ tk₂ I₂ st₂ => ?_
      obtain ⟨_, _, es⟩ := I'.same
      subst es
      exact h _ _ I₂.good.keep
end
end Mine
namespace Mine
theorem fo_241 {P : Params} {hb : Heap} {mg mb : Str → Option Value} (G : Gd P hb mg mb) : FdOk hb 241 (fdOf P 241) ["script"] := gd_fn G (by kernel_rfl) (bind1 fun _ => by kernel_rfl)
theorem le_cells (P : Params) (n : Nat) : (callEnvC (fdOf P 241) n 241).cells.lookup ("box" : Str) = some (n + 1) ∧ (callEnvC (fdOf P 241) n 241).cells.lookup ("pool" : Str) = some (n + 2) ∧ (callEnvC (fdOf P 241) n 241).cells.lookup ("size" : Str) = Option.none ∧ (callEnvC (fdOf P 241) n 241).kindOf ("box" : Str) = some .cell ∧ (callEnvC (fdOf P 241) n 241).kindOf ("pool" : Str) = some .cell ∧ (callEnvC (fdOf P 241) n 241).kindOf ("script" : Str) = some .local := ⟨by kernel_rfl, by kernel_rfl, by kernel_rfl, by kernel_rfl, by kernel_rfl, by kernel_rfl⟩
theorem le_bind (P : Params) (n : Nat) (v : Value) : bindL (callEnvC (fdOf P 241) n 241).kindOf ((["script"] : List Str).zip [v]) (fun _ => Option.none) "script" = some v := by kernel_rfl
section
variable {prog : Program} {w : World} {A : Around} {E : Value → Shared → Prop} {s : Shared} {mg mb : Str → Option Value}
theorem law_ok {Q : Value → Shared → Prop} {l : Addr} {vs : List Value} {ns : List Int} (Fa : Facts) (G : Gd w.params s.heap mg mb) (ha : AOk A 28) (hfr : A.frames = some []) (hl : s.heap.IsList l vs.toArray) (hi : IntsAre vs ns) (hn : ns.length ≤ 63)
    (h : ∀ h' tk', Keep s.heap h' → Q (.bool true) { s with heap := h', toks := tk' }) : wpAny (model prog w) A (call (.ref 241) [.ref l]) Q E s := by
  have O := fo_241 (P := w.params) G
  refine enter O (lw_bd _) (by have := ha.depth; omega) (Keep.refl _) rfl fun s₁ x => ?_
  obtain ⟨c1, c2, c3, c4, c5, c6⟩ := le_cells w.params s.heap.objs.size
  have L : LEnv w.params s.heap (callEnvC (fdOf w.params 241) s.heap.objs.size 241) (s.heap.objs.size + 1) (s.heap.objs.size + 2) :=
    ⟨O.kind, O.gl, O.bl, rfl, c4, c5, c1, c2, Nat.ne_of_lt (Nat.lt_succ_self _), by rw [c3]; simp, none_size _, none_ge (Nat.le_add_right _ _), none_ge (Nat.le_add_right _ _)⟩
  have k1 : Keep s.heap s₁.heap := x.toInCall.keep
  have hF : (callEnvC (fdOf w.params 241) s.heap.objs.size 241).frame = some (callEnvC (fdOf w.params 241) s.heap.objs.size 241).locals := rfl
  have ha' : AOk (A.deeper (callEnvC (fdOf w.params 241) s.heap.objs.size 241)) 27 := deeper_ok ha
  have hfr' := Around.frames_deeper (env := callEnvC (fdOf w.params 241) s.heap.objs.size 241) hfr
  have ls : Look (callEnvC (fdOf w.params 241) s.heap.objs.size 241) s₁.heap "script" (.ref l) := .inl ⟨c6, _, x.toInCall.ns, le_bind _ _ _⟩
  have hloc : ∃ m, s₁.heap.Ns (callEnvC (fdOf w.params 241) s.heap.objs.size 241).locals m := ⟨_, x.toInCall.ns⟩
  have hcells : ∀ y cc, (callEnvC (fdOf w.params 241) s.heap.objs.size 241).cells.lookup y = some cc → ∃ v, s₁.heap.IsCell cc v := fun y cc q => ⟨_, x.cell y cc q⟩
  obtain ⟨hs1, ht1, es1⟩ := x.toInCall.same
  clear x
  generalize callEnvC (fdOf w.params 241) s.heap.objs.size 241 = env at *
  subst es1
  refine start_ok G L (ha'.less (by decide)) k1 hloc hcells ls (let ⟨o, e, r⟩ := hl; ⟨o, k1 _ _ e, r⟩) hi hn fun s₂ b vN ns' k c n c0 t e₂ M₂ hns hk0 hk hc ht hnt h34 => ?_
  obtain ⟨h₂, tk₂, rfl⟩ := e₂
  refine middle_ok Fa G L ha' M₂ hc ht hnt h34 hns ⟨hk0, by omega⟩ fun s₃ k' e₃ M₃ => ?_
  obtain ⟨h₃, tk₃, rfl⟩ := e₃
  exact end_ok G L ha' hfr' hF M₃ hc ht fun h₄ tk₄ k₄ => h h₄ tk₄ k₄
end
end Mine
namespace Mine
/-! ### the facts by blocks -/
noncomputable def tb (k i : Nat) : List (List Q) := (tls.drop (k * i)).take k
theorem blk (k : Nat) {p : List Q → Bool} : ∀ (n : Nat) (l : List (List Q)), l.length ≤ k * n → (∀ i, i < n → ((l.drop (k * i)).take k).all p = true) → ∀ x ∈ l, p x = true
  | 0, l, h, _, x, m => by
    rw [Nat.mul_zero] at h
    rw [List.length_eq_zero_iff.mp (Nat.le_zero.mp h)] at m
    cases m
  | n + 1, l, h, q, x, m => by
    rw [← List.take_append_drop k l] at m
    rcases List.mem_append.mp m with m | m
    · have := q 0 (Nat.succ_pos n)
      rw [Nat.mul_zero, List.drop_zero] at this
      exact List.all_eq_true.mp this x m
    · refine blk k n (l.drop k) ?_ (fun i hi => ?_) x m
      · rw [List.length_drop]; rw [Nat.mul_add, Nat.mul_one] at h; omega
      · have := q (i + 1) (Nat.succ_lt_succ hi)
        rw [List.drop_drop, show k + k * i = k * (i + 1) by rw [Nat.mul_add, Nat.mul_one, Nat.add_comm]]
        exact this
theorem tls_len : tls.length = 56 := by decide +kernel
theorem blk7 {p : List Q → Bool} (h0 : (tb 7 0).all p = true) (h1 : (tb 7 1).all p = true) (h2 : (tb 7 2).all p = true) (h3 : (tb 7 3).all p = true) (h4 : (tb 7 4).all p = true) (h5 : (tb 7 5).all p = true) (h6 : (tb 7 6).all p = true) (h7 : (tb 7 7).all p = true) : ∀ t ∈ tls, p t = true :=
  blk 7 8 tls (by rw [tls_len]; decide) fun i hi => match i, hi with
    | 0, _ => h0
    | 1, _ => h1
    | 2, _ => h2
    | 3, _ => h3
    | 4, _ => h4
    | 5, _ => h5
    | 6, _ => h6
    | 7, _ => h7
    | _ + 8, h => absurd h (by omega)
noncomputable def chkP1 (f : List Q) (x b : Int) (r : Q) : Bool := okO (spowM f r) fun p => okO (swpM p b) fun y => isS (swpM f x) y
noncomputable def xrs : List (Int × List (Int × Q)) := [(-3, [(1, (-3, 1)), (2, (-3, 2)), (3, (-1, 1))]), (-2, [(1, (-2, 1)), (2, (-1, 1)), (3, (-2, 3))]), (-1, [(1, (-1, 1)), (2, (-1, 2)), (3, (-1, 3))]), (0, [(1, (0, 1)), (2, (0, 1)), (3, (0, 1))]), (1, [(1, (1, 1)), (2, (1, 2)), (3, (1, 3))]), (2, [(1, (2, 1)), (2, (1, 1)), (3, (2, 3))]), (3, [(1, (3, 1)), (2, (3, 2)), (3, (1, 1))])]
noncomputable def chkPs (t : List Q) : Bool := xrs.all fun | (x, l) => l.all fun | (b, r) => chkP1 (fst3 t) x b r
theorem xrs_all : ∀ x b : Int, -3 ≤ x → x ≤ 3 → 1 ≤ b → b ≤ 3 → ∃ e ∈ xrs, e.1 = x ∧ ∃ br ∈ e.2, br.1 = b ∧ lowM x b = some br.2 := by
  intro x b h1 h2 h3 h4
  have hx : x = -3 ∨ x = -2 ∨ x = -1 ∨ x = 0 ∨ x = 1 ∨ x = 2 ∨ x = 3 := by omega
  have hb : b = 1 ∨ b = 2 ∨ b = 3 := by omega
  rcases hx with rfl | rfl | rfl | rfl | rfl | rfl | rfl <;> rcases hb with rfl | rfl | rfl <;> decide +kernel
theorem chkP_of {t : List Q} (h : chkPs t = true) {x b : Int} (h1 : -3 ≤ x) (h2 : x ≤ 3) (h3 : 1 ≤ b) (h4 : b ≤ 3) : chkP (fst3 t) x b = true := by
  obtain ⟨⟨x', l⟩, he, ex, ⟨b', r⟩, hr, eb, hl⟩ := xrs_all x b h1 h2 h3 h4
  have a := List.all_eq_true.mp h _ he
  have a2 := List.all_eq_true.mp a _ hr
  have a3 : chkP1 (fst3 t) x' b' r = true := a2
  have ex : x' = x := ex
  have eb : b' = b := eb
  subst ex eb
  unfold chkP
  rw [hl]
  exact a3
noncomputable def chkRs (t : List Q) : Bool := [0, 1, 2, 3].all fun k => chkR (fst3 t) k
end Mine
namespace Mine
theorem gA0_a : (tb 7 0).all (fun t => chkA ((0, 1) :: (1, 1) :: t)) = true := by decide +kernel
theorem gA0_b : (tb 7 1).all (fun t => chkA ((0, 1) :: (1, 1) :: t)) = true := by decide +kernel
theorem gA0_c : (tb 7 2).all (fun t => chkA ((0, 1) :: (1, 1) :: t)) = true := by decide +kernel
theorem gA0_d : (tb 7 3).all (fun t => chkA ((0, 1) :: (1, 1) :: t)) = true := by decide +kernel
theorem gA0_e : (tb 7 4).all (fun t => chkA ((0, 1) :: (1, 1) :: t)) = true := by decide +kernel
theorem gA0_f : (tb 7 5).all (fun t => chkA ((0, 1) :: (1, 1) :: t)) = true := by decide +kernel
theorem gA0_g : (tb 7 6).all (fun t => chkA ((0, 1) :: (1, 1) :: t)) = true := by decide +kernel
theorem gA0_h : (tb 7 7).all (fun t => chkA ((0, 1) :: (1, 1) :: t)) = true := by decide +kernel
theorem gA0 : ∀ t ∈ tls, chkA ((0, 1) :: (1, 1) :: t) = true := blk7 gA0_a gA0_b gA0_c gA0_d gA0_e gA0_f gA0_g gA0_h
theorem gB0_a : (tb 7 0).all (fun t => chkB ((0, 1) :: (1, 1) :: t)) = true := by decide +kernel
theorem gB0_b : (tb 7 1).all (fun t => chkB ((0, 1) :: (1, 1) :: t)) = true := by decide +kernel
theorem gB0_c : (tb 7 2).all (fun t => chkB ((0, 1) :: (1, 1) :: t)) = true := by decide +kernel
theorem gB0_d : (tb 7 3).all (fun t => chkB ((0, 1) :: (1, 1) :: t)) = true := by decide +kernel
theorem gB0_e : (tb 7 4).all (fun t => chkB ((0, 1) :: (1, 1) :: t)) = true := by decide +kernel
theorem gB0_f : (tb 7 5).all (fun t => chkB ((0, 1) :: (1, 1) :: t)) = true := by decide +kernel
theorem gB0_g : (tb 7 6).all (fun t => chkB ((0, 1) :: (1, 1) :: t)) = true := by decide +kernel
theorem gB0_h : (tb 7 7).all (fun t => chkB ((0, 1) :: (1, 1) :: t)) = true := by decide +kernel
theorem gB0 : ∀ t ∈ tls, chkB ((0, 1) :: (1, 1) :: t) = true := blk7 gB0_a gB0_b gB0_c gB0_d gB0_e gB0_f gB0_g gB0_h
theorem gC0_a : (tb 7 0).all (fun t => chkC ((0, 1) :: (1, 1) :: t)) = true := by decide +kernel
theorem gC0_b : (tb 7 1).all (fun t => chkC ((0, 1) :: (1, 1) :: t)) = true := by decide +kernel
theorem gC0_c : (tb 7 2).all (fun t => chkC ((0, 1) :: (1, 1) :: t)) = true := by decide +kernel
theorem gC0_d : (tb 7 3).all (fun t => chkC ((0, 1) :: (1, 1) :: t)) = true := by decide +kernel
theorem gC0_e : (tb 7 4).all (fun t => chkC ((0, 1) :: (1, 1) :: t)) = true := by decide +kernel
theorem gC0_f : (tb 7 5).all (fun t => chkC ((0, 1) :: (1, 1) :: t)) = true := by decide +kernel
theorem gC0_g : (tb 7 6).all (fun t => chkC ((0, 1) :: (1, 1) :: t)) = true := by decide +kernel
theorem gC0_h : (tb 7 7).all (fun t => chkC ((0, 1) :: (1, 1) :: t)) = true := by decide +kernel
theorem gC0 : ∀ t ∈ tls, chkC ((0, 1) :: (1, 1) :: t) = true := blk7 gC0_a gC0_b gC0_c gC0_d gC0_e gC0_f gC0_g gC0_h
theorem gD0_a : (tb 7 0).all (fun t => chkD ((0, 1) :: (1, 1) :: t)) = true := by decide +kernel
theorem gD0_b : (tb 7 1).all (fun t => chkD ((0, 1) :: (1, 1) :: t)) = true := by decide +kernel
theorem gD0_c : (tb 7 2).all (fun t => chkD ((0, 1) :: (1, 1) :: t)) = true := by decide +kernel
theorem gD0_d : (tb 7 3).all (fun t => chkD ((0, 1) :: (1, 1) :: t)) = true := by decide +kernel
theorem gD0_e : (tb 7 4).all (fun t => chkD ((0, 1) :: (1, 1) :: t)) = true := by decide +kernel
theorem gD0_f : (tb 7 5).all (fun t => chkD ((0, 1) :: (1, 1) :: t)) = true := by decide +kernel
theorem gD0_g : (tb 7 6).all (fun t => chkD ((0, 1) :: (1, 1) :: t)) = true := by decide +kernel
theorem gD0_h : (tb 7 7).all (fun t => chkD ((0, 1) :: (1, 1) :: t)) = true := by decide +kernel
theorem gD0 : ∀ t ∈ tls, chkD ((0, 1) :: (1, 1) :: t) = true := blk7 gD0_a gD0_b gD0_c gD0_d gD0_e gD0_f gD0_g gD0_h
theorem gE0_a : (tb 7 0).all (fun t => chkE ((0, 1) :: (1, 1) :: t)) = true := by decide +kernel
theorem gE0_b : (tb 7 1).all (fun t => chkE ((0, 1) :: (1, 1) :: t)) = true := by decide +kernel
theorem gE0_c : (tb 7 2).all (fun t => chkE ((0, 1) :: (1, 1) :: t)) = true := by decide +kernel
theorem gE0_d : (tb 7 3).all (fun t => chkE ((0, 1) :: (1, 1) :: t)) = true := by decide +kernel
theorem gE0_e : (tb 7 4).all (fun t => chkE ((0, 1) :: (1, 1) :: t)) = true := by decide +kernel
theorem gE0_f : (tb 7 5).all (fun t => chkE ((0, 1) :: (1, 1) :: t)) = true := by decide +kernel
theorem gE0_g : (tb 7 6).all (fun t => chkE ((0, 1) :: (1, 1) :: t)) = true := by decide +kernel
theorem gE0_h : (tb 7 7).all (fun t => chkE ((0, 1) :: (1, 1) :: t)) = true := by decide +kernel
theorem gE0 : ∀ t ∈ tls, chkE ((0, 1) :: (1, 1) :: t) = true := blk7 gE0_a gE0_b gE0_c gE0_d gE0_e gE0_f gE0_g gE0_h
theorem gA1_a : (tb 7 0).all (fun t => chkA ((0, 1) :: (-1, 1) :: t)) = true := by decide +kernel
theorem gA1_b : (tb 7 1).all (fun t => chkA ((0, 1) :: (-1, 1) :: t)) = true := by decide +kernel
theorem gA1_c : (tb 7 2).all (fun t => chkA ((0, 1) :: (-1, 1) :: t)) = true := by decide +kernel
theorem gA1_d : (tb 7 3).all (fun t => chkA ((0, 1) :: (-1, 1) :: t)) = true := by decide +kernel
theorem gA1_e : (tb 7 4).all (fun t => chkA ((0, 1) :: (-1, 1) :: t)) = true := by decide +kernel
theorem gA1_f : (tb 7 5).all (fun t => chkA ((0, 1) :: (-1, 1) :: t)) = true := by decide +kernel
theorem gA1_g : (tb 7 6).all (fun t => chkA ((0, 1) :: (-1, 1) :: t)) = true := by decide +kernel
theorem gA1_h : (tb 7 7).all (fun t => chkA ((0, 1) :: (-1, 1) :: t)) = true := by decide +kernel
theorem gA1 : ∀ t ∈ tls, chkA ((0, 1) :: (-1, 1) :: t) = true := blk7 gA1_a gA1_b gA1_c gA1_d gA1_e gA1_f gA1_g gA1_h
theorem gB1_a : (tb 7 0).all (fun t => chkB ((0, 1) :: (-1, 1) :: t)) = true := by decide +kernel
theorem gB1_b : (tb 7 1).all (fun t => chkB ((0, 1) :: (-1, 1) :: t)) = true := by decide +kernel
theorem gB1_c : (tb 7 2).all (fun t => chkB ((0, 1) :: (-1, 1) :: t)) = true := by decide +kernel
theorem gB1_d : (tb 7 3).all (fun t => chkB ((0, 1) :: (-1, 1) :: t)) = true := by decide +kernel
theorem gB1_e : (tb 7 4).all (fun t => chkB ((0, 1) :: (-1, 1) :: t)) = true := by decide +kernel
theorem gB1_f : (tb 7 5).all (fun t => chkB ((0, 1) :: (-1, 1) :: t)) = true := by decide +kernel
theorem gB1_g : (tb 7 6).all (fun t => chkB ((0, 1) :: (-1, 1) :: t)) = true := by decide +kernel
theorem gB1_h : (tb 7 7).all (fun t => chkB ((0, 1) :: (-1, 1) :: t)) = true := by decide +kernel
theorem gB1 : ∀ t ∈ tls, chkB ((0, 1) :: (-1, 1) :: t) = true := blk7 gB1_a gB1_b gB1_c gB1_d gB1_e gB1_f gB1_g gB1_h
theorem gC1_a : (tb 7 0).all (fun t => chkC ((0, 1) :: (-1, 1) :: t)) = true := by decide +kernel
theorem gC1_b : (tb 7 1).all (fun t => chkC ((0, 1) :: (-1, 1) :: t)) = true := by decide +kernel
theorem gC1_c : (tb 7 2).all (fun t => chkC ((0, 1) :: (-1, 1) :: t)) = true := by decide +kernel
theorem gC1_d : (tb 7 3).all (fun t => chkC ((0, 1) :: (-1, 1) :: t)) = true := by decide +kernel
theorem gC1_e : (tb 7 4).all (fun t => chkC ((0, 1) :: (-1, 1) :: t)) = true := by decide +kernel
theorem gC1_f : (tb 7 5).all (fun t => chkC ((0, 1) :: (-1, 1) :: t)) = true := by decide +kernel
theorem gC1_g : (tb 7 6).all (fun t => chkC ((0, 1) :: (-1, 1) :: t)) = true := by decide +kernel
theorem gC1_h : (tb 7 7).all (fun t => chkC ((0, 1) :: (-1, 1) :: t)) = true := by decide +kernel
theorem gC1 : ∀ t ∈ tls, chkC ((0, 1) :: (-1, 1) :: t) = true := blk7 gC1_a gC1_b gC1_c gC1_d gC1_e gC1_f gC1_g gC1_h
theorem gD1_a : (tb 7 0).all (fun t => chkD ((0, 1) :: (-1, 1) :: t)) = true := by decide +kernel
theorem gD1_b : (tb 7 1).all (fun t => chkD ((0, 1) :: (-1, 1) :: t)) = true := by decide +kernel
theorem gD1_c : (tb 7 2).all (fun t => chkD ((0, 1) :: (-1, 1) :: t)) = true := by decide +kernel
theorem gD1_d : (tb 7 3).all (fun t => chkD ((0, 1) :: (-1, 1) :: t)) = true := by decide +kernel
theorem gD1_e : (tb 7 4).all (fun t => chkD ((0, 1) :: (-1, 1) :: t)) = true := by decide +kernel
theorem gD1_f : (tb 7 5).all (fun t => chkD ((0, 1) :: (-1, 1) :: t)) = true := by decide +kernel
theorem gD1_g : (tb 7 6).all (fun t => chkD ((0, 1) :: (-1, 1) :: t)) = true := by decide +kernel
theorem gD1_h : (tb 7 7).all (fun t => chkD ((0, 1) :: (-1, 1) :: t)) = true := by decide +kernel
theorem gD1 : ∀ t ∈ tls, chkD ((0, 1) :: (-1, 1) :: t) = true := blk7 gD1_a gD1_b gD1_c gD1_d gD1_e gD1_f gD1_g gD1_h
theorem gE1_a : (tb 7 0).all (fun t => chkE ((0, 1) :: (-1, 1) :: t)) = true := by decide +kernel
theorem gE1_b : (tb 7 1).all (fun t => chkE ((0, 1) :: (-1, 1) :: t)) = true := by decide +kernel
theorem gE1_c : (tb 7 2).all (fun t => chkE ((0, 1) :: (-1, 1) :: t)) = true := by decide +kernel
theorem gE1_d : (tb 7 3).all (fun t => chkE ((0, 1) :: (-1, 1) :: t)) = true := by decide +kernel
theorem gE1_e : (tb 7 4).all (fun t => chkE ((0, 1) :: (-1, 1) :: t)) = true := by decide +kernel
theorem gE1_f : (tb 7 5).all (fun t => chkE ((0, 1) :: (-1, 1) :: t)) = true := by decide +kernel
theorem gE1_g : (tb 7 6).all (fun t => chkE ((0, 1) :: (-1, 1) :: t)) = true := by decide +kernel
theorem gE1_h : (tb 7 7).all (fun t => chkE ((0, 1) :: (-1, 1) :: t)) = true := by decide +kernel
theorem gE1 : ∀ t ∈ tls, chkE ((0, 1) :: (-1, 1) :: t) = true := blk7 gE1_a gE1_b gE1_c gE1_d gE1_e gE1_f gE1_g gE1_h
end Mine
namespace Mine
theorem gA2_a : (tb 7 0).all (fun t => chkA ((0, 1) :: (1, 2) :: t)) = true := by decide +kernel
theorem gA2_b : (tb 7 1).all (fun t => chkA ((0, 1) :: (1, 2) :: t)) = true := by decide +kernel
theorem gA2_c : (tb 7 2).all (fun t => chkA ((0, 1) :: (1, 2) :: t)) = true := by decide +kernel
theorem gA2_d : (tb 7 3).all (fun t => chkA ((0, 1) :: (1, 2) :: t)) = true := by decide +kernel
theorem gA2_e : (tb 7 4).all (fun t => chkA ((0, 1) :: (1, 2) :: t)) = true := by decide +kernel
theorem gA2_f : (tb 7 5).all (fun t => chkA ((0, 1) :: (1, 2) :: t)) = true := by decide +kernel
theorem gA2_g : (tb 7 6).all (fun t => chkA ((0, 1) :: (1, 2) :: t)) = true := by decide +kernel
theorem gA2_h : (tb 7 7).all (fun t => chkA ((0, 1) :: (1, 2) :: t)) = true := by decide +kernel
theorem gA2 : ∀ t ∈ tls, chkA ((0, 1) :: (1, 2) :: t) = true := blk7 gA2_a gA2_b gA2_c gA2_d gA2_e gA2_f gA2_g gA2_h
theorem gB2_a : (tb 7 0).all (fun t => chkB ((0, 1) :: (1, 2) :: t)) = true := by decide +kernel
theorem gB2_b : (tb 7 1).all (fun t => chkB ((0, 1) :: (1, 2) :: t)) = true := by decide +kernel
theorem gB2_c : (tb 7 2).all (fun t => chkB ((0, 1) :: (1, 2) :: t)) = true := by decide +kernel
theorem gB2_d : (tb 7 3).all (fun t => chkB ((0, 1) :: (1, 2) :: t)) = true := by decide +kernel
theorem gB2_e : (tb 7 4).all (fun t => chkB ((0, 1) :: (1, 2) :: t)) = true := by decide +kernel
theorem gB2_f : (tb 7 5).all (fun t => chkB ((0, 1) :: (1, 2) :: t)) = true := by decide +kernel
theorem gB2_g : (tb 7 6).all (fun t => chkB ((0, 1) :: (1, 2) :: t)) = true := by decide +kernel
theorem gB2_h : (tb 7 7).all (fun t => chkB ((0, 1) :: (1, 2) :: t)) = true := by decide +kernel
theorem gB2 : ∀ t ∈ tls, chkB ((0, 1) :: (1, 2) :: t) = true := blk7 gB2_a gB2_b gB2_c gB2_d gB2_e gB2_f gB2_g gB2_h
theorem gC2_a : (tb 7 0).all (fun t => chkC ((0, 1) :: (1, 2) :: t)) = true := by decide +kernel
theorem gC2_b : (tb 7 1).all (fun t => chkC ((0, 1) :: (1, 2) :: t)) = true := by decide +kernel
theorem gC2_c : (tb 7 2).all (fun t => chkC ((0, 1) :: (1, 2) :: t)) = true := by decide +kernel
theorem gC2_d : (tb 7 3).all (fun t => chkC ((0, 1) :: (1, 2) :: t)) = true := by decide +kernel
theorem gC2_e : (tb 7 4).all (fun t => chkC ((0, 1) :: (1, 2) :: t)) = true := by decide +kernel
theorem gC2_f : (tb 7 5).all (fun t => chkC ((0, 1) :: (1, 2) :: t)) = true := by decide +kernel
theorem gC2_g : (tb 7 6).all (fun t => chkC ((0, 1) :: (1, 2) :: t)) = true := by decide +kernel
theorem gC2_h : (tb 7 7).all (fun t => chkC ((0, 1) :: (1, 2) :: t)) = true := by decide +kernel
theorem gC2 : ∀ t ∈ tls, chkC ((0, 1) :: (1, 2) :: t) = true := blk7 gC2_a gC2_b gC2_c gC2_d gC2_e gC2_f gC2_g gC2_h
theorem gD2_a : (tb 7 0).all (fun t => chkD ((0, 1) :: (1, 2) :: t)) = true := by decide +kernel
theorem gD2_b : (tb 7 1).all (fun t => chkD ((0, 1) :: (1, 2) :: t)) = true := by decide +kernel
theorem gD2_c : (tb 7 2).all (fun t => chkD ((0, 1) :: (1, 2) :: t)) = true := by decide +kernel
theorem gD2_d : (tb 7 3).all (fun t => chkD ((0, 1) :: (1, 2) :: t)) = true := by decide +kernel
theorem gD2_e : (tb 7 4).all (fun t => chkD ((0, 1) :: (1, 2) :: t)) = true := by decide +kernel
theorem gD2_f : (tb 7 5).all (fun t => chkD ((0, 1) :: (1, 2) :: t)) = true := by decide +kernel
theorem gD2_g : (tb 7 6).all (fun t => chkD ((0, 1) :: (1, 2) :: t)) = true := by decide +kernel
theorem gD2_h : (tb 7 7).all (fun t => chkD ((0, 1) :: (1, 2) :: t)) = true := by decide +kernel
theorem gD2 : ∀ t ∈ tls, chkD ((0, 1) :: (1, 2) :: t) = true := blk7 gD2_a gD2_b gD2_c gD2_d gD2_e gD2_f gD2_g gD2_h
theorem gE2_a : (tb 7 0).all (fun t => chkE ((0, 1) :: (1, 2) :: t)) = true := by decide +kernel
theorem gE2_b : (tb 7 1).all (fun t => chkE ((0, 1) :: (1, 2) :: t)) = true := by decide +kernel
theorem gE2_c : (tb 7 2).all (fun t => chkE ((0, 1) :: (1, 2) :: t)) = true := by decide +kernel
theorem gE2_d : (tb 7 3).all (fun t => chkE ((0, 1) :: (1, 2) :: t)) = true := by decide +kernel
theorem gE2_e : (tb 7 4).all (fun t => chkE ((0, 1) :: (1, 2) :: t)) = true := by decide +kernel
theorem gE2_f : (tb 7 5).all (fun t => chkE ((0, 1) :: (1, 2) :: t)) = true := by decide +kernel
theorem gE2_g : (tb 7 6).all (fun t => chkE ((0, 1) :: (1, 2) :: t)) = true := by decide +kernel
theorem gE2_h : (tb 7 7).all (fun t => chkE ((0, 1) :: (1, 2) :: t)) = true := by decide +kernel
theorem gE2 : ∀ t ∈ tls, chkE ((0, 1) :: (1, 2) :: t) = true := blk7 gE2_a gE2_b gE2_c gE2_d gE2_e gE2_f gE2_g gE2_h
theorem gA3_a : (tb 7 0).all (fun t => chkA ((0, 1) :: (-2, 3) :: t)) = true := by decide +kernel
theorem gA3_b : (tb 7 1).all (fun t => chkA ((0, 1) :: (-2, 3) :: t)) = true := by decide +kernel
theorem gA3_c : (tb 7 2).all (fun t => chkA ((0, 1) :: (-2, 3) :: t)) = true := by decide +kernel
theorem gA3_d : (tb 7 3).all (fun t => chkA ((0, 1) :: (-2, 3) :: t)) = true := by decide +kernel
theorem gA3_e : (tb 7 4).all (fun t => chkA ((0, 1) :: (-2, 3) :: t)) = true := by decide +kernel
theorem gA3_f : (tb 7 5).all (fun t => chkA ((0, 1) :: (-2, 3) :: t)) = true := by decide +kernel
theorem gA3_g : (tb 7 6).all (fun t => chkA ((0, 1) :: (-2, 3) :: t)) = true := by decide +kernel
theorem gA3_h : (tb 7 7).all (fun t => chkA ((0, 1) :: (-2, 3) :: t)) = true := by decide +kernel
theorem gA3 : ∀ t ∈ tls, chkA ((0, 1) :: (-2, 3) :: t) = true := blk7 gA3_a gA3_b gA3_c gA3_d gA3_e gA3_f gA3_g gA3_h
theorem gB3_a : (tb 7 0).all (fun t => chkB ((0, 1) :: (-2, 3) :: t)) = true := by decide +kernel
theorem gB3_b : (tb 7 1).all (fun t => chkB ((0, 1) :: (-2, 3) :: t)) = true := by decide +kernel
theorem gB3_c : (tb 7 2).all (fun t => chkB ((0, 1) :: (-2, 3) :: t)) = true := by decide +kernel
theorem gB3_d : (tb 7 3).all (fun t => chkB ((0, 1) :: (-2, 3) :: t)) = true := by decide +kernel
theorem gB3_e : (tb 7 4).all (fun t => chkB ((0, 1) :: (-2, 3) :: t)) = true := by decide +kernel
theorem gB3_f : (tb 7 5).all (fun t => chkB ((0, 1) :: (-2, 3) :: t)) = true := by decide +kernel
theorem gB3_g : (tb 7 6).all (fun t => chkB ((0, 1) :: (-2, 3) :: t)) = true := by decide +kernel
theorem gB3_h : (tb 7 7).all (fun t => chkB ((0, 1) :: (-2, 3) :: t)) = true := by decide +kernel
theorem gB3 : ∀ t ∈ tls, chkB ((0, 1) :: (-2, 3) :: t) = true := blk7 gB3_a gB3_b gB3_c gB3_d gB3_e gB3_f gB3_g gB3_h
theorem gC3_a : (tb 7 0).all (fun t => chkC ((0, 1) :: (-2, 3) :: t)) = true := by decide +kernel
theorem gC3_b : (tb 7 1).all (fun t => chkC ((0, 1) :: (-2, 3) :: t)) = true := by decide +kernel
theorem gC3_c : (tb 7 2).all (fun t => chkC ((0, 1) :: (-2, 3) :: t)) = true := by decide +kernel
theorem gC3_d : (tb 7 3).all (fun t => chkC ((0, 1) :: (-2, 3) :: t)) = true := by decide +kernel
theorem gC3_e : (tb 7 4).all (fun t => chkC ((0, 1) :: (-2, 3) :: t)) = true := by decide +kernel
theorem gC3_f : (tb 7 5).all (fun t => chkC ((0, 1) :: (-2, 3) :: t)) = true := by decide +kernel
theorem gC3_g : (tb 7 6).all (fun t => chkC ((0, 1) :: (-2, 3) :: t)) = true := by decide +kernel
theorem gC3_h : (tb 7 7).all (fun t => chkC ((0, 1) :: (-2, 3) :: t)) = true := by decide +kernel
theorem gC3 : ∀ t ∈ tls, chkC ((0, 1) :: (-2, 3) :: t) = true := blk7 gC3_a gC3_b gC3_c gC3_d gC3_e gC3_f gC3_g gC3_h
theorem gD3_a : (tb 7 0).all (fun t => chkD ((0, 1) :: (-2, 3) :: t)) = true := by decide +kernel
theorem gD3_b : (tb 7 1).all (fun t => chkD ((0, 1) :: (-2, 3) :: t)) = true := by decide +kernel
theorem gD3_c : (tb 7 2).all (fun t => chkD ((0, 1) :: (-2, 3) :: t)) = true := by decide +kernel
theorem gD3_d : (tb 7 3).all (fun t => chkD ((0, 1) :: (-2, 3) :: t)) = true := by decide +kernel
theorem gD3_e : (tb 7 4).all (fun t => chkD ((0, 1) :: (-2, 3) :: t)) = true := by decide +kernel
theorem gD3_f : (tb 7 5).all (fun t => chkD ((0, 1) :: (-2, 3) :: t)) = true := by decide +kernel
theorem gD3_g : (tb 7 6).all (fun t => chkD ((0, 1) :: (-2, 3) :: t)) = true := by decide +kernel
theorem gD3_h : (tb 7 7).all (fun t => chkD ((0, 1) :: (-2, 3) :: t)) = true := by decide +kernel
theorem gD3 : ∀ t ∈ tls, chkD ((0, 1) :: (-2, 3) :: t) = true := blk7 gD3_a gD3_b gD3_c gD3_d gD3_e gD3_f gD3_g gD3_h
theorem gE3_a : (tb 7 0).all (fun t => chkE ((0, 1) :: (-2, 3) :: t)) = true := by decide +kernel
theorem gE3_b : (tb 7 1).all (fun t => chkE ((0, 1) :: (-2, 3) :: t)) = true := by decide +kernel
theorem gE3_c : (tb 7 2).all (fun t => chkE ((0, 1) :: (-2, 3) :: t)) = true := by decide +kernel
theorem gE3_d : (tb 7 3).all (fun t => chkE ((0, 1) :: (-2, 3) :: t)) = true := by decide +kernel
theorem gE3_e : (tb 7 4).all (fun t => chkE ((0, 1) :: (-2, 3) :: t)) = true := by decide +kernel
theorem gE3_f : (tb 7 5).all (fun t => chkE ((0, 1) :: (-2, 3) :: t)) = true := by decide +kernel
theorem gE3_g : (tb 7 6).all (fun t => chkE ((0, 1) :: (-2, 3) :: t)) = true := by decide +kernel
theorem gE3_h : (tb 7 7).all (fun t => chkE ((0, 1) :: (-2, 3) :: t)) = true := by decide +kernel
theorem gE3 : ∀ t ∈ tls, chkE ((0, 1) :: (-2, 3) :: t) = true := blk7 gE3_a gE3_b gE3_c gE3_d gE3_e gE3_f gE3_g gE3_h
end Mine
namespace Mine
theorem gA4_a : (tb 7 0).all (fun t => chkA ((0, 1) :: (3, 1) :: t)) = true := by decide +kernel
theorem gA4_b : (tb 7 1).all (fun t => chkA ((0, 1) :: (3, 1) :: t)) = true := by decide +kernel
theorem gA4_c : (tb 7 2).all (fun t => chkA ((0, 1) :: (3, 1) :: t)) = true := by decide +kernel
theorem gA4_d : (tb 7 3).all (fun t => chkA ((0, 1) :: (3, 1) :: t)) = true := by decide +kernel
theorem gA4_e : (tb 7 4).all (fun t => chkA ((0, 1) :: (3, 1) :: t)) = true := by decide +kernel
theorem gA4_f : (tb 7 5).all (fun t => chkA ((0, 1) :: (3, 1) :: t)) = true := by decide +kernel
theorem gA4_g : (tb 7 6).all (fun t => chkA ((0, 1) :: (3, 1) :: t)) = true := by decide +kernel
theorem gA4_h : (tb 7 7).all (fun t => chkA ((0, 1) :: (3, 1) :: t)) = true := by decide +kernel
theorem gA4 : ∀ t ∈ tls, chkA ((0, 1) :: (3, 1) :: t) = true := blk7 gA4_a gA4_b gA4_c gA4_d gA4_e gA4_f gA4_g gA4_h
theorem gB4_a : (tb 7 0).all (fun t => chkB ((0, 1) :: (3, 1) :: t)) = true := by decide +kernel
theorem gB4_b : (tb 7 1).all (fun t => chkB ((0, 1) :: (3, 1) :: t)) = true := by decide +kernel
theorem gB4_c : (tb 7 2).all (fun t => chkB ((0, 1) :: (3, 1) :: t)) = true := by decide +kernel
theorem gB4_d : (tb 7 3).all (fun t => chkB ((0, 1) :: (3, 1) :: t)) = true := by decide +kernel
theorem gB4_e : (tb 7 4).all (fun t => chkB ((0, 1) :: (3, 1) :: t)) = true := by decide +kernel
theorem gB4_f : (tb 7 5).all (fun t => chkB ((0, 1) :: (3, 1) :: t)) = true := by decide +kernel
theorem gB4_g : (tb 7 6).all (fun t => chkB ((0, 1) :: (3, 1) :: t)) = true := by decide +kernel
theorem gB4_h : (tb 7 7).all (fun t => chkB ((0, 1) :: (3, 1) :: t)) = true := by decide +kernel
theorem gB4 : ∀ t ∈ tls, chkB ((0, 1) :: (3, 1) :: t) = true := blk7 gB4_a gB4_b gB4_c gB4_d gB4_e gB4_f gB4_g gB4_h
theorem gC4_a : (tb 7 0).all (fun t => chkC ((0, 1) :: (3, 1) :: t)) = true := by decide +kernel
theorem gC4_b : (tb 7 1).all (fun t => chkC ((0, 1) :: (3, 1) :: t)) = true := by decide +kernel
theorem gC4_c : (tb 7 2).all (fun t => chkC ((0, 1) :: (3, 1) :: t)) = true := by decide +kernel
theorem gC4_d : (tb 7 3).all (fun t => chkC ((0, 1) :: (3, 1) :: t)) = true := by decide +kernel
theorem gC4_e : (tb 7 4).all (fun t => chkC ((0, 1) :: (3, 1) :: t)) = true := by decide +kernel
theorem gC4_f : (tb 7 5).all (fun t => chkC ((0, 1) :: (3, 1) :: t)) = true := by decide +kernel
theorem gC4_g : (tb 7 6).all (fun t => chkC ((0, 1) :: (3, 1) :: t)) = true := by decide +kernel
theorem gC4_h : (tb 7 7).all (fun t => chkC ((0, 1) :: (3, 1) :: t)) = true := by decide +kernel
theorem gC4 : ∀ t ∈ tls, chkC ((0, 1) :: (3, 1) :: t) = true := blk7 gC4_a gC4_b gC4_c gC4_d gC4_e gC4_f gC4_g gC4_h
theorem gD4_a : (tb 7 0).all (fun t => chkD ((0, 1) :: (3, 1) :: t)) = true := by decide +kernel
theorem gD4_b : (tb 7 1).all (fun t => chkD ((0, 1) :: (3, 1) :: t)) = true := by decide +kernel
theorem gD4_c : (tb 7 2).all (fun t => chkD ((0, 1) :: (3, 1) :: t)) = true := by decide +kernel
theorem gD4_d : (tb 7 3).all (fun t => chkD ((0, 1) :: (3, 1) :: t)) = true := by decide +kernel
theorem gD4_e : (tb 7 4).all (fun t => chkD ((0, 1) :: (3, 1) :: t)) = true := by decide +kernel
theorem gD4_f : (tb 7 5).all (fun t => chkD ((0, 1) :: (3, 1) :: t)) = true := by decide +kernel
theorem gD4_g : (tb 7 6).all (fun t => chkD ((0, 1) :: (3, 1) :: t)) = true := by decide +kernel
theorem gD4_h : (tb 7 7).all (fun t => chkD ((0, 1) :: (3, 1) :: t)) = true := by decide +kernel
theorem gD4 : ∀ t ∈ tls, chkD ((0, 1) :: (3, 1) :: t) = true := blk7 gD4_a gD4_b gD4_c gD4_d gD4_e gD4_f gD4_g gD4_h
theorem gE4_a : (tb 7 0).all (fun t => chkE ((0, 1) :: (3, 1) :: t)) = true := by decide +kernel
theorem gE4_b : (tb 7 1).all (fun t => chkE ((0, 1) :: (3, 1) :: t)) = true := by decide +kernel
theorem gE4_c : (tb 7 2).all (fun t => chkE ((0, 1) :: (3, 1) :: t)) = true := by decide +kernel
theorem gE4_d : (tb 7 3).all (fun t => chkE ((0, 1) :: (3, 1) :: t)) = true := by decide +kernel
theorem gE4_e : (tb 7 4).all (fun t => chkE ((0, 1) :: (3, 1) :: t)) = true := by decide +kernel
theorem gE4_f : (tb 7 5).all (fun t => chkE ((0, 1) :: (3, 1) :: t)) = true := by decide +kernel
theorem gE4_g : (tb 7 6).all (fun t => chkE ((0, 1) :: (3, 1) :: t)) = true := by decide +kernel
theorem gE4_h : (tb 7 7).all (fun t => chkE ((0, 1) :: (3, 1) :: t)) = true := by decide +kernel
theorem gE4 : ∀ t ∈ tls, chkE ((0, 1) :: (3, 1) :: t) = true := blk7 gE4_a gE4_b gE4_c gE4_d gE4_e gE4_f gE4_g gE4_h
theorem gA5_a : (tb 7 0).all (fun t => chkA ((0, 1) :: (2, 5) :: t)) = true := by decide +kernel
theorem gA5_b : (tb 7 1).all (fun t => chkA ((0, 1) :: (2, 5) :: t)) = true := by decide +kernel
theorem gA5_c : (tb 7 2).all (fun t => chkA ((0, 1) :: (2, 5) :: t)) = true := by decide +kernel
theorem gA5_d : (tb 7 3).all (fun t => chkA ((0, 1) :: (2, 5) :: t)) = true := by decide +kernel
theorem gA5_e : (tb 7 4).all (fun t => chkA ((0, 1) :: (2, 5) :: t)) = true := by decide +kernel
theorem gA5_f : (tb 7 5).all (fun t => chkA ((0, 1) :: (2, 5) :: t)) = true := by decide +kernel
theorem gA5_g : (tb 7 6).all (fun t => chkA ((0, 1) :: (2, 5) :: t)) = true := by decide +kernel
theorem gA5_h : (tb 7 7).all (fun t => chkA ((0, 1) :: (2, 5) :: t)) = true := by decide +kernel
theorem gA5 : ∀ t ∈ tls, chkA ((0, 1) :: (2, 5) :: t) = true := blk7 gA5_a gA5_b gA5_c gA5_d gA5_e gA5_f gA5_g gA5_h
theorem gB5_a : (tb 7 0).all (fun t => chkB ((0, 1) :: (2, 5) :: t)) = true := by decide +kernel
theorem gB5_b : (tb 7 1).all (fun t => chkB ((0, 1) :: (2, 5) :: t)) = true := by decide +kernel
theorem gB5_c : (tb 7 2).all (fun t => chkB ((0, 1) :: (2, 5) :: t)) = true := by decide +kernel
theorem gB5_d : (tb 7 3).all (fun t => chkB ((0, 1) :: (2, 5) :: t)) = true := by decide +kernel
theorem gB5_e : (tb 7 4).all (fun t => chkB ((0, 1) :: (2, 5) :: t)) = true := by decide +kernel
theorem gB5_f : (tb 7 5).all (fun t => chkB ((0, 1) :: (2, 5) :: t)) = true := by decide +kernel
theorem gB5_g : (tb 7 6).all (fun t => chkB ((0, 1) :: (2, 5) :: t)) = true := by decide +kernel
theorem gB5_h : (tb 7 7).all (fun t => chkB ((0, 1) :: (2, 5) :: t)) = true := by decide +kernel
theorem gB5 : ∀ t ∈ tls, chkB ((0, 1) :: (2, 5) :: t) = true := blk7 gB5_a gB5_b gB5_c gB5_d gB5_e gB5_f gB5_g gB5_h
theorem gC5_a : (tb 7 0).all (fun t => chkC ((0, 1) :: (2, 5) :: t)) = true := by decide +kernel
theorem gC5_b : (tb 7 1).all (fun t => chkC ((0, 1) :: (2, 5) :: t)) = true := by decide +kernel
theorem gC5_c : (tb 7 2).all (fun t => chkC ((0, 1) :: (2, 5) :: t)) = true := by decide +kernel
theorem gC5_d : (tb 7 3).all (fun t => chkC ((0, 1) :: (2, 5) :: t)) = true := by decide +kernel
theorem gC5_e : (tb 7 4).all (fun t => chkC ((0, 1) :: (2, 5) :: t)) = true := by decide +kernel
theorem gC5_f : (tb 7 5).all (fun t => chkC ((0, 1) :: (2, 5) :: t)) = true := by decide +kernel
theorem gC5_g : (tb 7 6).all (fun t => chkC ((0, 1) :: (2, 5) :: t)) = true := by decide +kernel
theorem gC5_h : (tb 7 7).all (fun t => chkC ((0, 1) :: (2, 5) :: t)) = true := by decide +kernel
theorem gC5 : ∀ t ∈ tls, chkC ((0, 1) :: (2, 5) :: t) = true := blk7 gC5_a gC5_b gC5_c gC5_d gC5_e gC5_f gC5_g gC5_h
theorem gD5_a : (tb 7 0).all (fun t => chkD ((0, 1) :: (2, 5) :: t)) = true := by decide +kernel
theorem gD5_b : (tb 7 1).all (fun t => chkD ((0, 1) :: (2, 5) :: t)) = true := by decide +kernel
theorem gD5_c : (tb 7 2).all (fun t => chkD ((0, 1) :: (2, 5) :: t)) = true := by decide +kernel
theorem gD5_d : (tb 7 3).all (fun t => chkD ((0, 1) :: (2, 5) :: t)) = true := by decide +kernel
theorem gD5_e : (tb 7 4).all (fun t => chkD ((0, 1) :: (2, 5) :: t)) = true := by decide +kernel
theorem gD5_f : (tb 7 5).all (fun t => chkD ((0, 1) :: (2, 5) :: t)) = true := by decide +kernel
theorem gD5_g : (tb 7 6).all (fun t => chkD ((0, 1) :: (2, 5) :: t)) = true := by decide +kernel
theorem gD5_h : (tb 7 7).all (fun t => chkD ((0, 1) :: (2, 5) :: t)) = true := by decide +kernel
theorem gD5 : ∀ t ∈ tls, chkD ((0, 1) :: (2, 5) :: t) = true := blk7 gD5_a gD5_b gD5_c gD5_d gD5_e gD5_f gD5_g gD5_h
theorem gE5_a : (tb 7 0).all (fun t => chkE ((0, 1) :: (2, 5) :: t)) = true := by decide +kernel
theorem gE5_b : (tb 7 1).all (fun t => chkE ((0, 1) :: (2, 5) :: t)) = true := by decide +kernel
theorem gE5_c : (tb 7 2).all (fun t => chkE ((0, 1) :: (2, 5) :: t)) = true := by decide +kernel
theorem gE5_d : (tb 7 3).all (fun t => chkE ((0, 1) :: (2, 5) :: t)) = true := by decide +kernel
theorem gE5_e : (tb 7 4).all (fun t => chkE ((0, 1) :: (2, 5) :: t)) = true := by decide +kernel
theorem gE5_f : (tb 7 5).all (fun t => chkE ((0, 1) :: (2, 5) :: t)) = true := by decide +kernel
theorem gE5_g : (tb 7 6).all (fun t => chkE ((0, 1) :: (2, 5) :: t)) = true := by decide +kernel
theorem gE5_h : (tb 7 7).all (fun t => chkE ((0, 1) :: (2, 5) :: t)) = true := by decide +kernel
theorem gE5 : ∀ t ∈ tls, chkE ((0, 1) :: (2, 5) :: t) = true := blk7 gE5_a gE5_b gE5_c gE5_d gE5_e gE5_f gE5_g gE5_h
end Mine
namespace Mine
theorem gPaa : (tb 1 0).all chkPs = true := by decide +kernel
theorem gPab : (tb 1 1).all chkPs = true := by decide +kernel
theorem gPac : (tb 1 2).all chkPs = true := by decide +kernel
theorem gPad : (tb 1 3).all chkPs = true := by decide +kernel
theorem gPae : (tb 1 4).all chkPs = true := by decide +kernel
theorem gPaf : (tb 1 5).all chkPs = true := by decide +kernel
theorem gPag : (tb 1 6).all chkPs = true := by decide +kernel
theorem gPba : (tb 1 7).all chkPs = true := by decide +kernel
theorem gPbb : (tb 1 8).all chkPs = true := by decide +kernel
theorem gPbc : (tb 1 9).all chkPs = true := by decide +kernel
theorem gPbd : (tb 1 10).all chkPs = true := by decide +kernel
theorem gPbe : (tb 1 11).all chkPs = true := by decide +kernel
theorem gPbf : (tb 1 12).all chkPs = true := by decide +kernel
theorem gPbg : (tb 1 13).all chkPs = true := by decide +kernel
theorem gPca : (tb 1 14).all chkPs = true := by decide +kernel
theorem gPcb : (tb 1 15).all chkPs = true := by decide +kernel
theorem gPcc : (tb 1 16).all chkPs = true := by decide +kernel
theorem gPcd : (tb 1 17).all chkPs = true := by decide +kernel
theorem gPce : (tb 1 18).all chkPs = true := by decide +kernel
theorem gPcf : (tb 1 19).all chkPs = true := by decide +kernel
theorem gPcg : (tb 1 20).all chkPs = true := by decide +kernel
theorem gPda : (tb 1 21).all chkPs = true := by decide +kernel
theorem gPdb : (tb 1 22).all chkPs = true := by decide +kernel
theorem gPdc : (tb 1 23).all chkPs = true := by decide +kernel
theorem gPdd : (tb 1 24).all chkPs = true := by decide +kernel
theorem gPde : (tb 1 25).all chkPs = true := by decide +kernel
theorem gPdf : (tb 1 26).all chkPs = true := by decide +kernel
theorem gPdg : (tb 1 27).all chkPs = true := by decide +kernel
theorem gPea : (tb 1 28).all chkPs = true := by decide +kernel
theorem gPeb : (tb 1 29).all chkPs = true := by decide +kernel
theorem gPec : (tb 1 30).all chkPs = true := by decide +kernel
theorem gPed : (tb 1 31).all chkPs = true := by decide +kernel
theorem gPee : (tb 1 32).all chkPs = true := by decide +kernel
theorem gPef : (tb 1 33).all chkPs = true := by decide +kernel
theorem gPeg : (tb 1 34).all chkPs = true := by decide +kernel
theorem gPfa : (tb 1 35).all chkPs = true := by decide +kernel
theorem gPfb : (tb 1 36).all chkPs = true := by decide +kernel
theorem gPfc : (tb 1 37).all chkPs = true := by decide +kernel
theorem gPfd : (tb 1 38).all chkPs = true := by decide +kernel
theorem gPfe : (tb 1 39).all chkPs = true := by decide +kernel
theorem gPff : (tb 1 40).all chkPs = true := by decide +kernel
theorem gPfg : (tb 1 41).all chkPs = true := by decide +kernel
theorem gPga : (tb 1 42).all chkPs = true := by decide +kernel
theorem gPgb : (tb 1 43).all chkPs = true := by decide +kernel
theorem gPgc : (tb 1 44).all chkPs = true := by decide +kernel
theorem gPgd : (tb 1 45).all chkPs = true := by decide +kernel
theorem gPge : (tb 1 46).all chkPs = true := by decide +kernel
theorem gPgf : (tb 1 47).all chkPs = true := by decide +kernel
theorem gPgg : (tb 1 48).all chkPs = true := by decide +kernel
theorem gPha : (tb 1 49).all chkPs = true := by decide +kernel
theorem gPhb : (tb 1 50).all chkPs = true := by decide +kernel
theorem gPhc : (tb 1 51).all chkPs = true := by decide +kernel
theorem gPhd : (tb 1 52).all chkPs = true := by decide +kernel
theorem gPhe : (tb 1 53).all chkPs = true := by decide +kernel
theorem gPhf : (tb 1 54).all chkPs = true := by decide +kernel
theorem gPhg : (tb 1 55).all chkPs = true := by decide +kernel
theorem gP : ∀ t ∈ tls, chkPs t = true := blk 1 56 tls (by rw [tls_len]; decide) fun i hi => match i, hi with
  | 0, _ => gPaa
  | 1, _ => gPab
  | 2, _ => gPac
  | 3, _ => gPad
  | 4, _ => gPae
  | 5, _ => gPaf
  | 6, _ => gPag
  | 7, _ => gPba
  | 8, _ => gPbb
  | 9, _ => gPbc
  | 10, _ => gPbd
  | 11, _ => gPbe
  | 12, _ => gPbf
  | 13, _ => gPbg
  | 14, _ => gPca
  | 15, _ => gPcb
  | 16, _ => gPcc
  | 17, _ => gPcd
  | 18, _ => gPce
  | 19, _ => gPcf
  | 20, _ => gPcg
  | 21, _ => gPda
  | 22, _ => gPdb
  | 23, _ => gPdc
  | 24, _ => gPdd
  | 25, _ => gPde
  | 26, _ => gPdf
  | 27, _ => gPdg
  | 28, _ => gPea
  | 29, _ => gPeb
  | 30, _ => gPec
  | 31, _ => gPed
  | 32, _ => gPee
  | 33, _ => gPef
  | 34, _ => gPeg
  | 35, _ => gPfa
  | 36, _ => gPfb
  | 37, _ => gPfc
  | 38, _ => gPfd
  | 39, _ => gPfe
  | 40, _ => gPff
  | 41, _ => gPfg
  | 42, _ => gPga
  | 43, _ => gPgb
  | 44, _ => gPgc
  | 45, _ => gPgd
  | 46, _ => gPge
  | 47, _ => gPgf
  | 48, _ => gPgg
  | 49, _ => gPha
  | 50, _ => gPhb
  | 51, _ => gPhc
  | 52, _ => gPhd
  | 53, _ => gPhe
  | 54, _ => gPhf
  | 55, _ => gPhg
  | _ + 56, h => absurd h (by omega)
end Mine
namespace Mine
theorem pool_one {c : Q} (h : c ∈ pool.drop 1) : c = (1, 1) ∨ c = (-1, 1) ∨ c = (1, 2) ∨ c = (-2, 3) ∨ c = (3, 1) ∨ c = (2, 5) := by
  simpa [pool] using h
theorem gF_a : (tb 7 0).all (fun t => chkF (fst3 t)) = true := by decide +kernel
theorem gF_b : (tb 7 1).all (fun t => chkF (fst3 t)) = true := by decide +kernel
theorem gF_c : (tb 7 2).all (fun t => chkF (fst3 t)) = true := by decide +kernel
theorem gF_d : (tb 7 3).all (fun t => chkF (fst3 t)) = true := by decide +kernel
theorem gF_e : (tb 7 4).all (fun t => chkF (fst3 t)) = true := by decide +kernel
theorem gF_f : (tb 7 5).all (fun t => chkF (fst3 t)) = true := by decide +kernel
theorem gF_g : (tb 7 6).all (fun t => chkF (fst3 t)) = true := by decide +kernel
theorem gF_h : (tb 7 7).all (fun t => chkF (fst3 t)) = true := by decide +kernel
theorem gF : ∀ t ∈ tls, chkF (fst3 t) = true := blk7 gF_a gF_b gF_c gF_d gF_e gF_f gF_g gF_h
theorem gR_a : (tb 7 0).all (chkRs) = true := by decide +kernel
theorem gR_b : (tb 7 1).all (chkRs) = true := by decide +kernel
theorem gR_c : (tb 7 2).all (chkRs) = true := by decide +kernel
theorem gR_d : (tb 7 3).all (chkRs) = true := by decide +kernel
theorem gR_e : (tb 7 4).all (chkRs) = true := by decide +kernel
theorem gR_f : (tb 7 5).all (chkRs) = true := by decide +kernel
theorem gR_g : (tb 7 6).all (chkRs) = true := by decide +kernel
theorem gR_h : (tb 7 7).all (chkRs) = true := by decide +kernel
theorem gR : ∀ t ∈ tls, chkRs t = true := blk7 gR_a gR_b gR_c gR_d gR_e gR_f gR_g gR_h
theorem gA : ∀ c ∈ pool.drop 1, ∀ t ∈ tls, chkA ((0, 1) :: c :: t) = true := by
  intro c hc
  rcases pool_one hc with rfl | rfl | rfl | rfl | rfl | rfl
  · exact gA0
  · exact gA1
  · exact gA2
  · exact gA3
  · exact gA4
  · exact gA5
theorem gB : ∀ c ∈ pool.drop 1, ∀ t ∈ tls, chkB ((0, 1) :: c :: t) = true := by
  intro c hc
  rcases pool_one hc with rfl | rfl | rfl | rfl | rfl | rfl
  · exact gB0
  · exact gB1
  · exact gB2
  · exact gB3
  · exact gB4
  · exact gB5
theorem gC : ∀ c ∈ pool.drop 1, ∀ t ∈ tls, chkC ((0, 1) :: c :: t) = true := by
  intro c hc
  rcases pool_one hc with rfl | rfl | rfl | rfl | rfl | rfl
  · exact gC0
  · exact gC1
  · exact gC2
  · exact gC3
  · exact gC4
  · exact gC5
theorem gD : ∀ c ∈ pool.drop 1, ∀ t ∈ tls, chkD ((0, 1) :: c :: t) = true := by
  intro c hc
  rcases pool_one hc with rfl | rfl | rfl | rfl | rfl | rfl
  · exact gD0
  · exact gD1
  · exact gD2
  · exact gD3
  · exact gD4
  · exact gD5
theorem gE : ∀ c ∈ pool.drop 1, ∀ t ∈ tls, chkE ((0, 1) :: c :: t) = true := by
  intro c hc
  rcases pool_one hc with rfl | rfl | rfl | rfl | rfl | rfl
  · exact gE0
  · exact gE1
  · exact gE2
  · exact gE3
  · exact gE4
  · exact gE5
theorem facts_ok : Facts where
  a := gA
  b := gB
  c := gC
  d := gD
  e := gE
  f := gF
  p := fun t ht x b h1 h2 h3 h4 => chkP_of (gP t ht) h1 h2 h3 h4
  r := fun t ht k hk => List.all_eq_true.mp (gR t ht) k (by
    have : k = 0 ∨ k = 1 ∨ k = 2 ∨ k = 3 := by omega
    rcases this with rfl | rfl | rfl | rfl <;> decide)
end Mine
namespace Mine
/-! ### the head: the top's run, checked in one go behind the library's start -/
theorem hd.same (P : Params) : hd.adr = (hd.heap_39 P).map (·.1) := by kernel_rfl
noncomputable def hd.HK : Hook := kHook hd.heap_39 hd.adr hd.same
noncomputable abbrev hd.pr : Program := PySem.Challenge.rw_nn0265_01.row.prog
noncomputable def hd.qv : Program := view hd.pr [38]
theorem hd.run : ∀ (w : World) (os : OsState), (topFrom treeTable hd.pr w 2610 { heap := boot_heap w.params, gens := Array.mk [], drawn := boot_drawn, toks := boot_toks, os := os }).map (fun s => (openSeen hd.qv hd.lo (importedModules hd.pr.main.body) (fun s => xlAt hd.qv [] s && recOk (RowW.records PySem.Challenge.rw_nn0265_01.row.toRowW) s) true s, Hook.obs hd.HK s)) = some (openGood hd.qv hd.lo, Hook.val hd.HK w) := by
  intro w os
  unfold topFrom
  rw [PySem.W.Fast.te14082659384304107361, PySem.W.Fast.te4187177175401517315]
  rw [PySem.W.Fast.te14364793385576792824]
  kernel_rfl
theorem hd.opens : opening hd.pr = plainProg hd.pr.main.scope.names := by kernel_rfl
theorem hd.left : LeftO hd.pr hd.qv hd.lo (fun s => xlAt hd.qv [] s && recOk (RowW.records PySem.Challenge.rw_nn0265_01.row.toRowW) s) (Hook.obs hd.HK) (Hook.val hd.HK) 2610 := fun w => by
  obtain ⟨s, hs, hv⟩ := Option.map_eq_some_iff.mp (boot_open (p := hd.pr) (N := 2610) hd.opens (by decide) (fun s => by kernel_rfl) w)
  obtain ⟨h, g, d, t, os⟩ := s
  cases hv
  unfold openEnds
  rw [hs, Option.bind_some]
  exact hd.run w os
theorem ao_caller : AOk callerA 28 := ⟨rfl, by decide, by decide⟩
/-! ### the looks at the text, part by part, by the library's ready twins -/
theorem hd.s1 : namesResolve hd.pr = true := by
  rw [PySem.W.Fast.te8377067652309620493]
  kernel_rfl
theorem hd.s2 : noRoadLSs { strict := !(importedModules hd.pr.main.body).all cThrough.contains, foot := none, bare := (["vars", "dir", "locals"] : List Str).filter (readsOut hd.pr hd.pr.main.body) } hd.pr.main.body = true := by
  rw [PySem.W.Fast.te8326940854005059898]
  kernel_rfl
theorem hd.s3 : (namesMeet hd.pr hd.pr.main.body fun _ n => attrL n) = true := by
  rw [PySem.W.Fast.te17119622794617984870, PySem.W.Fast.te17868728402115742887]
  kernel_rfl
theorem hd.s4 : looksOpen hd.pr = true := by
  unfold looksOpen
  rw [hd.s1, hd.s2, hd.s3]
  kernel_rfl
theorem hd.s5 : PySem.Challenge.rw_nn0265_01.row.wellSaid = true := by
  unfold OpenRow.wellSaid OpenRow.partSaid
  rw [hd.s4]
  kernel_rfl
theorem hd.s6 : noRoadLSs { strict := true, foot := some PySem.Challenge.rw_nn0265_01.bound', writes := PySem.Challenge.rw_nn0265_01.writes, may := PySem.Challenge.rw_nn0265_01.may } PySem.Challenge.rw_nn0265_01.footing = true := by
  rw [PySem.W.Fast.te8326940854005059898]
  kernel_rfl
theorem hd.s7 : PySem.Challenge.rw_nn0265_01.bound'.all (fun n => !builtinNamed n || PySem.Challenge.rw_nn0265_01.about == [n] || !PySem.Challenge.rw_nn0265_01.reads n) = true := by
  rw [PySem.W.Fast.te6984425678791042302]
  kernel_rfl
theorem hd.said : PySem.Challenge.rw_nn0265_01.wellSaid = true := by
  unfold OpenLaw.wellSaid
  rw [hd.s5, hd.s6, hd.s7, PySem.W.Fast.te17119622794617984870]
  kernel_rfl
theorem row_ok (Fa : Facts) : PySem.Challenge.rw_nn0265_01.Holds := by
  w_on
  refine holds_law hd.said fun said => ?_
  refine holds_open (q := hd.qv) (loose := hd.lo) (Xt := fun s => xlAt hd.qv [] s && recOk (RowW.records PySem.Challenge.rw_nn0265_01.row.toRowW) s) (XP := XL hd.qv []) (Yf := Hook.obs hd.HK) (Ya := Hook.val hd.HK) (YP := Hook.says hd.HK) (N := 2610) hd.left (Hook.of hd.HK) (Hook.keeps hd.HK)
    (fun s e => xl_of s (Bool.and_eq_true_iff.mp e).1) XL.keeps (by rfl) (by rfl) (by rfl) (fun s e => recFacts_of (Bool.and_eq_true_iff.mp e).2) (by rfl) said (by kernel_rfl) ⟨rfl, rfl, rfl, rfl, rfl, by decide +kernel⟩ ?hw ?hc
  case hw => w_witness2
  case hc =>
    intro w s₀ s₁ mg mb G Y fa o pm cd doc dV kV ho hd hcd hD hmg hg args vals as hpre hlay hrd hwl hlo
    have KX : (Mine.hd.heap_39 w.params).In s₁.heap := kIn_of Y
    clear Y ho hd hcd hD
    refine Ground.open G ?_
    intro T B D TE TW
    have GG : Mine.Gd w.params s₁.heap mg mb := ⟨KX, T.g, T.b, T.nolimit, T.builtins⟩
    have hfa : fa = 241 := by
      have e := Mine.gd_some GG (x := "law") (by kernel_rfl : nsIn (Mine.hd.heap_39 w.params) mainGlobals "law" = some (some (.ref 241)))
      have e2 : mg "law" = some (.ref fa) := hmg
      rw [e] at e2
      cases e2
      rfl
    clear hmg D B TE TW
    subst hfa
    wrow_args hpre hlay hrd hwl hlo
    rename s₁.heap.IsList _ _ => hl
    rename IntsAre _ _ => hi
    rename ¬ _ => hn
    refine law_ok Fa GG ao_caller rfl hl hi (by omega) fun h' tk' k => ?_
    exact ⟨.inl ⟨_, .bool true, [], rfl, raisesW_false (by wrow_none_raised), .bool true, (by wrow_post), unshared_nil⟩, .of_keep k, rfl, AllBare.of_eq hg⟩
end Mine

theorem PySem.Challenge.cw_nn0265_01_holds : PySem.Challenge.rw_nn0265_01.Holds := by
  exact Mine.row_ok Mine.facts_ok
