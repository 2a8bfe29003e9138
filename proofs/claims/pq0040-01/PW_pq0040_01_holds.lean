import PyProof.Rows.All
import Wide.All
import OpenK.AllK
import Wide.FinOn
import PySem.Challenge.RW_pq0040_01
set_option Elab.async false
set_option maxRecDepth 100000
set_option autoImplicit false
set_option linter.all false
set_option compiler.extract_closed false
noncomputable section

-- Jk
section
namespace Mine
open PySem PySem.W PyProof.Rows
noncomputable def fobj1 (k : Nat) (pm : Value) (cd : Addr) : Obj := match PySem.Challenge.pw_pq0040_01.main.body[k]? with
  | some (.FunctionDef n args body _ _ _ scope _ _ _) => { cls := .type "function", data := .func { name := n, qualname := n, params := args, body := .stmts body, scope := scope, globals := 3, closure := [], defaults := .none, kwdefaults := .none, pyModule := pm, code := .ref cd } }
  | _ => { cls := .none, data := .plain }
noncomputable def iobj1 : Obj := match PySem.Challenge.pw_pq0040_01.main.body[(1 : Nat)]? with
  | some (.ClassDef _ _ _ (.FunctionDef n args body _ _ _ scope _ _ _ :: _) _ _ _ _ _ _ _) => { cls := .type "function", data := .func { name := n, qualname := "HeapError.__init__", params := args, body := .stmts body, scope := scope, globals := 3, closure := [("__class__", 18)], defaults := .none, kwdefaults := .none, pyModule := .str "alikeheap.errors" 187, code := .ref 29, closureTuple := .ref 23 } }
  | _ => { cls := .none, data := .plain }
noncomputable def code1 (n : Str) (a b c : Nat) (l1 k l2 l3 l4 : Int) (r1 r2 : Addr) (v1 v2 : Value) (r5 : Addr) (z l5 : Int) (d : Nat) : Obj :=
  { cls := .type "code", data := .fields #[.str n a, .str n b, .str "/claim/cut.py" c, .int l1 0, .int k 0, .int l2 0, .int l3 0, .int l4 0, .ref r1, .bool true, .int 181 0, .ref r2, .none, v1, v2, .ref r5, .int z 0, .int l5 0, .str "/claim/cut.py" d] }
noncomputable def K1 (P : Params) : Frag := [(2, { cls := .none, data := .dict #[{ hash := PyData.keyHash P "type.__subclasses__.Exception.0", key := .str "type.__subclasses__.Exception.0" 223, val := .int 40 0 }, { hash := PyData.keyHash P "type.__subclasses__.Exception.n", key := .str "type.__subclasses__.Exception.n" 224, val := .int 1 0 }] 2 }),
  (3, { cls := .type "dict", data := .dict #[{ hash := PyData.keyHash P "__name__", key := .str "__name__" 165, val := .str "law_pq0040_01" 395 }, { hash := PyData.keyHash P "__doc__", key := .str "__doc__" 166, val := .none }, { hash := PyData.keyHash P "__package__", key := .str "__package__" 167, val := .none }, { hash := PyData.keyHash P "__loader__", key := .str "__loader__" 168, val := .builtin "__main__.__loader__#opaque" }, { hash := PyData.keyHash P "__spec__", key := .str "__spec__" 169, val := .none }, { hash := PyData.keyHash P "__annotations__", key := .str "__annotations__" 170, val := .ref 6 }, { hash := PyData.keyHash P "__builtins__", key := .str "__builtins__" 171, val := .ref 4 }, { hash := PyData.keyHash P "__file__", key := .str "__file__" 173, val := .str "/claim/cut.py" 172 }, { hash := PyData.keyHash P "__cached__", key := .str "__cached__" 174, val := .none }, { hash := PyData.keyHash P "HeapError", key := .str "HeapError" 226, val := .ref 40 }, { hash := PyData.keyHash P "TermFault", key := .str "TermFault" 242, val := .ref 53 }, { hash := PyData.keyHash P "LimitFault", key := .str "LimitFault" 258, val := .ref 65 }, { hash := PyData.keyHash P "part_at", key := .str "part_at" 269, val := .ref 74 }, { hash := PyData.keyHash P "replaced", key := .str "replaced" 279, val := .ref 81 }, { hash := PyData.keyHash P "FIGURES", key := .str "FIGURES" 283, val := .str "0123456789" 282 }, { hash := PyData.keyHash P "MOST_SIZE", key := .str "MOST_SIZE" 285, val := .int 20000 284 }, { hash := PyData.keyHash P "MOST_LEVELS", key := .str "MOST_LEVELS" 287, val := .int 150 286 }, { hash := PyData.keyHash P "is_row_of", key := .str "is_row_of" 293, val := .ref 86 }, { hash := PyData.keyHash P "number_behind", key := .str "number_behind" 302, val := .ref 93 }, { hash := PyData.keyHash P "index_of", key := .str "index_of" 309, val := .ref 100 }, { hash := PyData.keyHash P "variable", key := .str "variable" 316, val := .ref 107 }, { hash := PyData.keyHash P "below", key := .str "below" 323, val := .ref 114 }, { hash := PyData.keyHash P "moved_within", key := .str "moved_within" 329, val := .ref 119 }, { hash := PyData.keyHash P "shifted", key := .str "shifted" 338, val := .ref 126 }, { hash := PyData.keyHash P "put_in", key := .str "put_in" 344, val := .ref 131 }, { hash := PyData.keyHash P "is_redex", key := .str "is_redex" 351, val := .ref 138 }, { hash := PyData.keyHash P "beta", key := .str "beta" 360, val := .ref 145 }, { hash := PyData.keyHash P "first_redex", key := .str "first_redex" 369, val := .ref 152 }, { hash := PyData.keyHash P "is_beyond", key := .str "is_beyond" 375, val := .ref 157 }, { hash := PyData.keyHash P "normal", key := .str "normal" 385, val := .ref 164 }, { hash := PyData.keyHash P "alike_to", key := .str "alike_to" 394, val := .ref 171 }, { hash := PyData.keyHash P "_law_pick", key := .str "_law_pick" 404, val := .ref 178 }, { hash := PyData.keyHash P "_law_name", key := .str "_law_name" 411, val := .ref 185 }, { hash := PyData.keyHash P "_law_tree", key := .str "_law_tree" 425, val := .ref 192 }, { hash := PyData.keyHash P "_law_spots", key := .str "_law_spots" 431, val := .ref 197 }, { hash := PyData.keyHash P "_law_part", key := .str "_law_part" 440, val := .ref 204 }, { hash := PyData.keyHash P "_law_with", key := .str "_law_with" 449, val := .ref 211 }, { hash := PyData.keyHash P "_law_put", key := .str "_law_put" 455, val := .ref 216 }, { hash := PyData.keyHash P "_law_is_app_of_lam", key := .str "_law_is_app_of_lam" 462, val := .ref 223 }, { hash := PyData.keyHash P "_law_worked", key := .str "_law_worked" 469, val := .ref 230 }, { hash := PyData.keyHash P "_law_turned", key := .str "_law_turned" 475, val := .ref 235 }, { hash := PyData.keyHash P "_law_end", key := .str "_law_end" 481, val := .ref 240 }, { hash := PyData.keyHash P "_law_core", key := .str "_law_core" 489, val := .ref 247 }, { hash := PyData.keyHash P "_law_told", key := .str "_law_told" 499, val := .ref 254 }, { hash := PyData.keyHash P "law", key := .str "law" 505, val := .ref 259 }] 45 }),
  (15, { cls := .type "tuple", data := .seq #[.type "Exception"] }),
  (18, { cls := .type "cell", data := .cell (some (.ref 40)) }),
  (29, { cls := .type "code", data := .fields #[.str "__init__" 201, .str "HeapError.__init__" 202, .str "/claim/cut.py" 203, .int 4 0, .int 2 0, .int 0 0, .int 0 0, .int 3 0, .ref 24, .bool true, .int 181 0, .ref 25, .none, .ref 26, .ref 27, .ref 28, .int 207 0, .int 4 0, .str "/claim/cut.py" 208] }),
  (30, iobj1),
  (39, { cls := .type "dict", data := .dict #[{ hash := PyData.keyHash P "__module__", key := .str "__module__" 196, val := .str "alikeheap.errors" 187 }, { hash := PyData.keyHash P "__firstlineno__", key := .str "__firstlineno__" 200, val := .int 2 199 }, { hash := PyData.keyHash P "__init__", key := .str "__init__" 209, val := .ref 30 }, { hash := PyData.keyHash P "told", key := .str "told" 216, val := .ref 37 }, { hash := PyData.keyHash P "__static_attributes__", key := .str "__static_attributes__" 218, val := .ref 38 }, { hash := PyData.keyHash P "__weakref__", key := .str "__weakref__" 221, val := .ref 41 }, { hash := PyData.keyHash P "__doc__", key := .str "__doc__" 222, val := .none }] 4 }),
  (40, { cls := .type "type", data := .cls { name := "HeapError", bases := [.type "Exception"], mro := [.ref 40, .type "Exception", .type "BaseException", .type "object"], ns := 39, qualname := "HeapError", subclasses := [.ref 53, .ref 65] }, slots := #[some (.ref 15), none, some (.str "HeapError" 189), some (.str "HeapError" 197), some (.builtin "Exception.__new__"), some (.bool true)] }),
  (44, { cls := .type "tuple", data := .seq #[.ref 40] }),
  (52, { cls := .type "dict", data := .dict #[{ hash := PyData.keyHash P "__module__", key := .str "__module__" 234, val := .str "alikeheap.errors" 187 }, { hash := PyData.keyHash P "__firstlineno__", key := .str "__firstlineno__" 238, val := .int 10 237 }, { hash := PyData.keyHash P "__static_attributes__", key := .str "__static_attributes__" 239, val := .ref 51 }, { hash := PyData.keyHash P "__doc__", key := .str "__doc__" 240, val := .none }] 2 }),
  (53, { cls := .type "type", data := .cls { name := "TermFault", bases := [.ref 40], mro := [.ref 53, .ref 40, .type "Exception", .type "BaseException", .type "object"], ns := 52, qualname := "TermFault" }, slots := #[some (.ref 44), none, some (.str "TermFault" 227), some (.str "TermFault" 235), some (.builtin "Exception.__new__"), some (.bool true)] }),
  (56, { cls := .type "tuple", data := .seq #[.ref 40] }),
  (64, { cls := .type "dict", data := .dict #[{ hash := PyData.keyHash P "__module__", key := .str "__module__" 250, val := .str "alikeheap.errors" 187 }, { hash := PyData.keyHash P "__firstlineno__", key := .str "__firstlineno__" 254, val := .int 12 253 }, { hash := PyData.keyHash P "__static_attributes__", key := .str "__static_attributes__" 255, val := .ref 63 }, { hash := PyData.keyHash P "__doc__", key := .str "__doc__" 256, val := .none }] 2 }),
  (65, { cls := .type "type", data := .cls { name := "LimitFault", bases := [.ref 40], mro := [.ref 65, .ref 40, .type "Exception", .type "BaseException", .type "object"], ns := 64, qualname := "LimitFault" }, slots := #[some (.ref 56), none, some (.str "LimitFault" 243), some (.str "LimitFault" 251), some (.builtin "Exception.__new__"), some (.bool true)] }),
  (73, code1 "part_at" 261 262 263 15 2 0 0 3 68 69 (.ref 70) (.ref 71) 72 267 15 268),
  (74, fobj1 5 (.str "alikeheap.terms" 259) 73),
  (80, code1 "replaced" 270 271 272 21 3 0 0 3 75 76 (.ref 77) (.ref 78) 79 277 21 278),
  (81, fobj1 6 (.str "alikeheap.terms" 259) 80),
  (85, code1 "is_row_of" 288 289 290 30 2 0 0 3 82 83 .none .none 84 291 30 292),
  (86, fobj1 11 (.str "alikeheap.lambdas" 280) 85),
  (92, code1 "number_behind" 294 295 296 32 2 0 0 3 87 88 (.ref 89) (.ref 90) 91 300 32 301),
  (93, fobj1 12 (.str "alikeheap.lambdas" 280) 92),
  (99, code1 "index_of" 303 304 305 37 1 0 0 3 94 95 (.ref 96) (.ref 97) 98 307 37 308),
  (100, fobj1 13 (.str "alikeheap.lambdas" 280) 99),
  (106, code1 "variable" 310 311 312 39 1 0 0 3 101 102 (.ref 103) (.ref 104) 105 314 39 315),
  (107, fobj1 14 (.str "alikeheap.lambdas" 280) 106),
  (113, code1 "below" 317 318 319 41 1 0 0 3 108 109 (.ref 110) (.ref 111) 112 321 41 322),
  (114, fobj1 15 (.str "alikeheap.lambdas" 280) 113),
  (118, code1 "moved_within" 324 325 326 43 4 0 0 3 115 116 .none .none 117 327 43 328),
  (119, fobj1 16 (.str "alikeheap.lambdas" 280) 118),
  (125, code1 "shifted" 330 331 332 50 3 0 0 3 120 121 (.ref 122) (.ref 123) 124 336 50 337),
  (126, fobj1 17 (.str "alikeheap.lambdas" 280) 125),
  (130, code1 "put_in" 339 340 341 52 3 0 0 3 127 128 .none .none 129 342 52 343),
  (131, fobj1 18 (.str "alikeheap.lambdas" 280) 130),
  (137, code1 "is_redex" 345 346 347 61 1 0 0 3 132 133 (.ref 134) (.ref 135) 136 349 61 350),
  (138, fobj1 19 (.str "alikeheap.lambdas" 280) 137),
  (144, code1 "beta" 352 353 354 63 2 0 0 3 139 140 (.ref 141) (.ref 142) 143 358 63 359),
  (145, fobj1 20 (.str "alikeheap.lambdas" 280) 144),
  (151, code1 "first_redex" 361 362 363 68 1 0 0 3 146 147 (.ref 148) (.ref 149) 150 367 68 368),
  (152, fobj1 21 (.str "alikeheap.lambdas" 280) 151),
  (156, code1 "is_beyond" 370 371 372 76 1 0 0 3 153 154 .none .none 155 373 76 374),
  (157, fobj1 22 (.str "alikeheap.lambdas" 280) 156),
  (163, code1 "normal" 376 377 378 85 2 0 0 3 158 159 (.ref 160) (.ref 161) 162 383 85 384),
  (164, fobj1 23 (.str "alikeheap.lambdas" 280) 163),
  (170, code1 "alike_to" 386 387 388 95 3 0 0 3 165 166 (.ref 167) (.ref 168) 169 392 95 393),
  (171, fobj1 24 (.str "alikeheap.lambdas" 280) 170),
  (177, code1 "_law_pick" 397 398 399 98 2 0 0 3 172 173 (.ref 174) (.ref 175) 176 402 98 403),
  (178, fobj1 26 (.str "law_pq0040_01" 395) 177),
  (184, code1 "_law_name" 405 406 407 103 1 0 0 3 179 180 (.ref 181) (.ref 182) 183 409 103 410),
  (185, fobj1 27 (.str "law_pq0040_01" 395) 184),
  (191, code1 "_law_tree" 412 413 414 106 4 0 0 3 186 187 (.ref 188) (.ref 189) 190 423 106 424),
  (192, fobj1 28 (.str "law_pq0040_01" 395) 191),
  (196, code1 "_law_spots" 426 427 428 116 1 0 0 3 193 194 .none .none 195 429 116 430),
  (197, fobj1 29 (.str "law_pq0040_01" 395) 196),
  (203, code1 "_law_part" 432 433 434 122 2 0 0 3 198 199 (.ref 200) (.ref 201) 202 438 122 439),
  (204, fobj1 30 (.str "law_pq0040_01" 395) 203),
  (210, code1 "_law_with" 441 442 443 126 3 0 0 3 205 206 (.ref 207) (.ref 208) 209 447 126 448),
  (211, fobj1 31 (.str "law_pq0040_01" 395) 210),
  (215, code1 "_law_put" 450 451 452 130 3 0 0 3 212 213 .none .none 214 453 130 454),
  (216, fobj1 32 (.str "law_pq0040_01" 395) 215),
  (222, code1 "_law_is_app_of_lam" 456 457 458 134 1 0 0 3 217 218 (.ref 219) (.ref 220) 221 460 134 461),
  (223, fobj1 33 (.str "law_pq0040_01" 395) 222),
  (229, code1 "_law_worked" 463 464 465 136 1 0 0 3 224 225 (.ref 226) (.ref 227) 228 467 136 468),
  (230, fobj1 34 (.str "law_pq0040_01" 395) 229),
  (234, code1 "_law_turned" 470 471 472 138 2 0 0 3 231 232 .none .none 233 473 138 474),
  (235, fobj1 35 (.str "law_pq0040_01" 395) 234),
  (239, code1 "_law_end" 476 477 478 152 1 0 0 3 236 237 .none .none 238 479 152 480),
  (240, fobj1 36 (.str "law_pq0040_01" 395) 239),
  (246, code1 "_law_core" 482 483 484 159 2 0 0 3 241 242 (.ref 243) (.ref 244) 245 487 159 488),
  (247, fobj1 37 (.str "law_pq0040_01" 395) 246),
  (253, code1 "_law_told" 490 491 492 165 3 0 0 3 248 249 (.ref 250) (.ref 251) 252 497 165 498),
  (254, fobj1 38 (.str "law_pq0040_01" 395) 253),
  (258, code1 "law" 500 501 502 172 1 0 0 3 255 256 .none .none 257 503 172 504),
  (259, fobj1 39 (.str "law_pq0040_01" 395) 258)]
noncomputable def as1 : List Addr := [2, 3, 15, 18, 29, 30, 39, 40, 44, 52, 53, 56, 64, 65, 73, 74, 80, 81, 85, 86, 92, 93, 99, 100, 106, 107, 113, 114, 118, 119, 125, 126, 130, 131, 137, 138, 144, 145, 151, 152, 156, 157, 163, 164, 170, 171, 177, 178, 184, 185, 191, 192, 196, 197, 203, 204, 210, 211, 215, 216, 222, 223, 229, 230, 234, 235, 239, 240, 246, 247, 253, 254, 258, 259]
end Mine
end

-- Lh1
section
namespace Mine
open PySem PySem.W PyProof.Rows
noncomputable def keep1 : List Nat := [1,2,3,5,6,8,9,10,11,12,13,14,15,16,17,18,19,20,21,22,23,24,26,27,28,29,30,31,32,33,34,35,36,37,38,39]
noncomputable def view1 : Program := { PySem.Challenge.pw_pq0040_01 with main := { PySem.Challenge.pw_pq0040_01.main with body := keep1.filterMap fun i => PySem.Challenge.pw_pq0040_01.main.body[i]? } }
noncomputable def hook1 : Hook := kHook K1 as1 (fun _ => by kernel_rfl)
noncomputable def tobj1 (k : Nat) : Obj := match PySem.Challenge.pw_pq0040_01.main.body[k]? with
  | some (.FunctionDef n args body _ _ _ scope _ _ _) => { cls := .none, data := .func { name := n, qualname := n, params := args, body := .stmts body, scope := scope, globals := 0, closure := [], defaults := .none, kwdefaults := .none } }
  | _ => { cls := .none, data := .plain }
noncomputable def mdef1 (k : Nat) : Option Stmt := match PySem.Challenge.pw_pq0040_01.main.body[(1 : Nat)]? with
  | some (.ClassDef _ _ _ body _ _ _ _ _ _ _) => body[k]?
  | _ => none
noncomputable def mtmp1 (k : Nat) (q : Str) : Obj := match mdef1 k with
  | some (.FunctionDef n args body _ _ _ scope _ _ _) => { cls := .none, data := .func { name := n, qualname := q, params := args, body := .stmts body, scope := scope, globals := 0, closure := [], defaults := .none, kwdefaults := .none } }
  | _ => { cls := .none, data := .plain }
noncomputable def mobj1 (k : Nat) (q : Str) (pm : Value) (cd : Addr) : Obj := match mdef1 k with
  | some (.FunctionDef n args body _ _ _ scope _ _ _) => { cls := .type "function", data := .func { name := n, qualname := q, params := args, body := .stmts body, scope := scope, globals := 3, closure := [], defaults := .none, kwdefaults := .none, pyModule := pm, code := .ref cd } }
  | _ => { cls := .none, data := .plain }
noncomputable def seg0 (P : Params) (x2 : Obj) (x3 : Obj) (x12 : Obj) (l : List Obj) : List Obj := boot_o_0 P ::
  boot_o_1 P ::
  x2 ::
  x3 ::
  boot_o_4 P ::
  boot_o_5 P ::
  boot_o_6 P ::
  boot_o_7 P ::
  boot_o_8 P ::
  boot_o_9 P ::
  boot_o_10 P ::
  { cls := .type "tuple", data := .seq #[] } ::
  x12 ::
  { cls := .type "code", data := .fields #[.str "<module>" 182, .str "<module>" 183, .str "/claim/cut.py" 184, .int 1 0, .int 0 0, .int 0 0, .int 0 0, .int 0 0, .ref 11, .bool false, .int 181 0, .ref 12, .none, .none, .none, .none, .int 185 0, .int 1 0, .str "/claim/cut.py" 186] } ::
  { cls := .type "frame", slots := #[some (.ref 13), some (.ref 3), some (.ref 3), none, some (.str "__main__" 164), none, some (.ref 0)] } :: l
noncomputable def seg1 (P : Params) (x40 : Obj) (l : List Obj) : List Obj := { cls := .type "tuple", data := .seq #[.type "Exception"] } ::
  { cls := .type "builtin_function_or_method", data := .fields #[.builtin "type.__prepare__", .type "type"] } ::
  { cls := .type "dict", data := .dict #[{ hash := PyData.keyHash P "__module__", key := .str "__module__" 196, val := .str "alikeheap.errors" 187 }, { hash := PyData.keyHash P "__qualname__", key := .str "__qualname__" 198, val := .str "HeapError" 197 }, { hash := PyData.keyHash P "__firstlineno__", key := .str "__firstlineno__" 200, val := .int 2 199 }, { hash := PyData.keyHash P "__init__", key := .str "__init__" 209, val := .ref 30 }, { hash := PyData.keyHash P "told", key := .str "told" 216, val := .ref 37 }, { hash := PyData.keyHash P "__static_attributes__", key := .str "__static_attributes__" 218, val := .ref 38 }, { hash := PyData.keyHash P "__classcell__", key := .str "__classcell__" 219, val := .ref 18 }] 7 } ::
  { cls := .type "cell", data := .cell (some (.ref 40)) } ::
  { cls := .type "tuple", data := .seq #[] } ::
  { cls := .none, data := .fields #[.int 4 0, .int 4 0, .ref 29, .int 8 0, .int 4 0, .ref 36] } ::
  { cls := .type "code", data := .fields #[.str "HeapError" 191, .str "HeapError" 192, .str "/claim/cut.py" 193, .int 2 0, .int 0 0, .int 0 0, .int 0 0, .int 0 0, .ref 19, .bool false, .int 181 0, .ref 20, .none, .none, .none, .none, .int 194 0, .int 2 0, .str "/claim/cut.py" 195] } ::
  { cls := .type "frame", slots := #[some (.ref 21), some (.ref 3), some (.ref 17), none, some (.str "alikeheap.errors" 187), none, some (.ref 0)] } ::
  { cls := .type "tuple", data := .seq #[.ref 18] } ::
  { cls := .type "tuple", data := .seq #[.str "__class__" 204] } ::
  { cls := .none, data := .fields #[] } ::
  { cls := .type "tuple", data := .seq #[.str "self" 205, .str "what" 206] } ::
  { cls := .type "tuple", data := .seq #[] } ::
  mtmp1 0 "HeapError.__init__" ::
  { cls := .type "code", data := .fields #[.str "__init__" 201, .str "HeapError.__init__" 202, .str "/claim/cut.py" 203, .int 4 0, .int 2 0, .int 0 0, .int 0 0, .int 3 0, .ref 24, .bool true, .int 181 0, .ref 25, .none, .ref 26, .ref 27, .ref 28, .int 207 0, .int 4 0, .str "/claim/cut.py" 208] } ::
  iobj1 ::
  { cls := .type "tuple", data := .seq #[] } ::
  { cls := .none, data := .fields #[] } ::
  { cls := .type "tuple", data := .seq #[.str "self" 213] } ::
  { cls := .type "tuple", data := .seq #[] } ::
  mtmp1 1 "HeapError.told" ::
  { cls := .type "code", data := .fields #[.str "told" 210, .str "HeapError.told" 211, .str "/claim/cut.py" 212, .int 8 0, .int 1 0, .int 0 0, .int 0 0, .int 3 0, .ref 31, .bool true, .int 181 0, .ref 32, .none, .ref 33, .ref 34, .ref 35, .int 214 0, .int 8 0, .str "/claim/cut.py" 215] } ::
  mobj1 1 "HeapError.told" (.str "alikeheap.errors" 187) 36 ::
  { cls := .type "tuple", data := .seq #[.str "what" 217] } ::
  { cls := .type "dict", data := .dict #[{ hash := PyData.keyHash P "__module__", key := .str "__module__" 196, val := .str "alikeheap.errors" 187 }, { hash := PyData.keyHash P "__firstlineno__", key := .str "__firstlineno__" 200, val := .int 2 199 }, { hash := PyData.keyHash P "__init__", key := .str "__init__" 209, val := .ref 30 }, { hash := PyData.keyHash P "told", key := .str "told" 216, val := .ref 37 }, { hash := PyData.keyHash P "__static_attributes__", key := .str "__static_attributes__" 218, val := .ref 38 }, { hash := PyData.keyHash P "__weakref__", key := .str "__weakref__" 221, val := .ref 41 }, { hash := PyData.keyHash P "__doc__", key := .str "__doc__" 222, val := .none }] 4 } ::
  x40 ::
  { cls := .type "getset_descriptor", data := .fields #[.str "__weakref__" 220, .ref 40, .builtin "ExceptionGroup.__weakref__", .none] } ::
  { cls := .type "super", data := .fields #[.ref 40, .ref 40, .ref 40] } ::
  { cls := .type "builtin_function_or_method", data := .fields #[.builtin "object.__init_subclass__", .ref 40] } :: l
noncomputable def seg2 (P : Params) (l : List Obj) : List Obj := { cls := .type "tuple", data := .seq #[.ref 40] } ::
  { cls := .type "builtin_function_or_method", data := .fields #[.builtin "type.__prepare__", .type "type"] } ::
  { cls := .type "dict", data := .dict #[{ hash := PyData.keyHash P "__module__", key := .str "__module__" 234, val := .str "alikeheap.errors" 187 }, { hash := PyData.keyHash P "__qualname__", key := .str "__qualname__" 236, val := .str "TermFault" 235 }, { hash := PyData.keyHash P "__firstlineno__", key := .str "__firstlineno__" 238, val := .int 10 237 }, { hash := PyData.keyHash P "__static_attributes__", key := .str "__static_attributes__" 239, val := .ref 51 }] 4 } ::
  { cls := .type "tuple", data := .seq #[] } ::
  { cls := .none, data := .fields #[] } ::
  { cls := .type "code", data := .fields #[.str "TermFault" 229, .str "TermFault" 230, .str "/claim/cut.py" 231, .int 10 0, .int 0 0, .int 0 0, .int 0 0, .int 0 0, .ref 47, .bool false, .int 181 0, .ref 48, .none, .none, .none, .none, .int 232 0, .int 10 0, .str "/claim/cut.py" 233] } ::
  { cls := .type "frame", slots := #[some (.ref 49), some (.ref 3), some (.ref 46), none, some (.str "alikeheap.errors" 187), none, some (.ref 0)] } ::
  { cls := .type "tuple", data := .seq #[] } ::
  { cls := .type "dict", data := .dict #[{ hash := PyData.keyHash P "__module__", key := .str "__module__" 234, val := .str "alikeheap.errors" 187 }, { hash := PyData.keyHash P "__firstlineno__", key := .str "__firstlineno__" 238, val := .int 10 237 }, { hash := PyData.keyHash P "__static_attributes__", key := .str "__static_attributes__" 239, val := .ref 51 }, { hash := PyData.keyHash P "__doc__", key := .str "__doc__" 240, val := .none }] 2 } ::
  { cls := .type "type", data := .cls { name := "TermFault", bases := [.ref 40], mro := [.ref 53, .ref 40, .type "Exception", .type "BaseException", .type "object"], ns := 52, qualname := "TermFault" }, slots := #[some (.ref 44), none, some (.str "TermFault" 227), some (.str "TermFault" 235), some (.builtin "Exception.__new__"), some (.bool true)] } ::
  { cls := .type "super", data := .fields #[.ref 53, .ref 53, .ref 53] } ::
  { cls := .type "builtin_function_or_method", data := .fields #[.builtin "object.__init_subclass__", .ref 53] } ::
  { cls := .type "tuple", data := .seq #[.ref 40] } ::
  { cls := .type "builtin_function_or_method", data := .fields #[.builtin "type.__prepare__", .type "type"] } ::
  { cls := .type "dict", data := .dict #[{ hash := PyData.keyHash P "__module__", key := .str "__module__" 250, val := .str "alikeheap.errors" 187 }, { hash := PyData.keyHash P "__qualname__", key := .str "__qualname__" 252, val := .str "LimitFault" 251 }, { hash := PyData.keyHash P "__firstlineno__", key := .str "__firstlineno__" 254, val := .int 12 253 }, { hash := PyData.keyHash P "__static_attributes__", key := .str "__static_attributes__" 255, val := .ref 63 }] 4 } ::
  { cls := .type "tuple", data := .seq #[] } ::
  { cls := .none, data := .fields #[] } ::
  { cls := .type "code", data := .fields #[.str "LimitFault" 245, .str "LimitFault" 246, .str "/claim/cut.py" 247, .int 12 0, .int 0 0, .int 0 0, .int 0 0, .int 0 0, .ref 59, .bool false, .int 181 0, .ref 60, .none, .none, .none, .none, .int 248 0, .int 12 0, .str "/claim/cut.py" 249] } ::
  { cls := .type "frame", slots := #[some (.ref 61), some (.ref 3), some (.ref 58), none, some (.str "alikeheap.errors" 187), none, some (.ref 0)] } ::
  { cls := .type "tuple", data := .seq #[] } ::
  { cls := .type "dict", data := .dict #[{ hash := PyData.keyHash P "__module__", key := .str "__module__" 250, val := .str "alikeheap.errors" 187 }, { hash := PyData.keyHash P "__firstlineno__", key := .str "__firstlineno__" 254, val := .int 12 253 }, { hash := PyData.keyHash P "__static_attributes__", key := .str "__static_attributes__" 255, val := .ref 63 }, { hash := PyData.keyHash P "__doc__", key := .str "__doc__" 256, val := .none }] 2 } ::
  { cls := .type "type", data := .cls { name := "LimitFault", bases := [.ref 40], mro := [.ref 65, .ref 40, .type "Exception", .type "BaseException", .type "object"], ns := 64, qualname := "LimitFault" }, slots := #[some (.ref 56), none, some (.str "LimitFault" 243), some (.str "LimitFault" 251), some (.builtin "Exception.__new__"), some (.bool true)] } ::
  { cls := .type "super", data := .fields #[.ref 65, .ref 65, .ref 65] } ::
  { cls := .type "builtin_function_or_method", data := .fields #[.builtin "object.__init_subclass__", .ref 65] } :: l
noncomputable def seg3 (P : Params) (l : List Obj) : List Obj := { cls := .type "tuple", data := .seq #[] } ::
  { cls := .none, data := .fields #[] } ::
  { cls := .type "tuple", data := .seq #[.str "t" 264, .str "path" 265, .str "k" 266] } ::
  { cls := .type "tuple", data := .seq #[] } ::
  tobj1 5 ::
  code1 "part_at" 261 262 263 15 2 0 0 3 68 69 (.ref 70) (.ref 71) 72 267 15 268 ::
  fobj1 5 (.str "alikeheap.terms" 259) 73 ::
  { cls := .type "tuple", data := .seq #[] } ::
  { cls := .none, data := .fields #[] } ::
  { cls := .type "tuple", data := .seq #[.str "t" 273, .str "path" 274, .str "u" 275, .str "kid" 276] } ::
  { cls := .type "tuple", data := .seq #[] } ::
  tobj1 6 ::
  code1 "replaced" 270 271 272 21 3 0 0 3 75 76 (.ref 77) (.ref 78) 79 277 21 278 ::
  fobj1 6 (.str "alikeheap.terms" 259) 80 ::
  { cls := .type "tuple", data := .seq #[] } ::
  { cls := .none, data := .fields #[] } ::
  tobj1 11 ::
  code1 "is_row_of" 288 289 290 30 2 0 0 3 82 83 .none .none 84 291 30 292 ::
  fobj1 11 (.str "alikeheap.lambdas" 280) 85 ::
  { cls := .type "tuple", data := .seq #[] } ::
  { cls := .none, data := .fields #[] } ::
  { cls := .type "tuple", data := .seq #[.str "text" 297, .str "begin" 298, .str "rest" 299] } ::
  { cls := .type "tuple", data := .seq #[] } ::
  tobj1 12 ::
  code1 "number_behind" 294 295 296 32 2 0 0 3 87 88 (.ref 89) (.ref 90) 91 300 32 301 ::
  fobj1 12 (.str "alikeheap.lambdas" 280) 92 ::
  { cls := .type "tuple", data := .seq #[] } ::
  { cls := .none, data := .fields #[] } ::
  { cls := .type "tuple", data := .seq #[.str "t" 306] } ::
  { cls := .type "tuple", data := .seq #[] } ::
  tobj1 13 ::
  code1 "index_of" 303 304 305 37 1 0 0 3 94 95 (.ref 96) (.ref 97) 98 307 37 308 ::
  fobj1 13 (.str "alikeheap.lambdas" 280) 99 ::
  { cls := .type "tuple", data := .seq #[] } ::
  { cls := .none, data := .fields #[] } ::
  { cls := .type "tuple", data := .seq #[.str "index" 313] } ::
  { cls := .type "tuple", data := .seq #[] } ::
  tobj1 14 ::
  code1 "variable" 310 311 312 39 1 0 0 3 101 102 (.ref 103) (.ref 104) 105 314 39 315 ::
  fobj1 14 (.str "alikeheap.lambdas" 280) 106 ::
  { cls := .type "tuple", data := .seq #[] } ::
  { cls := .none, data := .fields #[] } ::
  { cls := .type "tuple", data := .seq #[.str "t" 320] } ::
  { cls := .type "tuple", data := .seq #[] } ::
  tobj1 15 ::
  code1 "below" 317 318 319 41 1 0 0 3 108 109 (.ref 110) (.ref 111) 112 321 41 322 ::
  fobj1 15 (.str "alikeheap.lambdas" 280) 113 ::
  { cls := .type "tuple", data := .seq #[] } ::
  { cls := .none, data := .fields #[] } ::
  tobj1 16 ::
  code1 "moved_within" 324 325 326 43 4 0 0 3 115 116 .none .none 117 327 43 328 ::
  fobj1 16 (.str "alikeheap.lambdas" 280) 118 ::
  { cls := .type "tuple", data := .seq #[] } ::
  { cls := .none, data := .fields #[] } ::
  { cls := .type "tuple", data := .seq #[.str "t" 333, .str "by" 334, .str "begin" 335] } ::
  { cls := .type "tuple", data := .seq #[] } ::
  tobj1 17 ::
  code1 "shifted" 330 331 332 50 3 0 0 3 120 121 (.ref 122) (.ref 123) 124 336 50 337 ::
  fobj1 17 (.str "alikeheap.lambdas" 280) 125 ::
  { cls := .type "tuple", data := .seq #[] } ::
  { cls := .none, data := .fields #[] } ::
  tobj1 18 ::
  code1 "put_in" 339 340 341 52 3 0 0 3 127 128 .none .none 129 342 52 343 ::
  fobj1 18 (.str "alikeheap.lambdas" 280) 130 ::
  { cls := .type "tuple", data := .seq #[] } ::
  { cls := .none, data := .fields #[] } ::
  { cls := .type "tuple", data := .seq #[.str "t" 348] } ::
  { cls := .type "tuple", data := .seq #[] } ::
  tobj1 19 ::
  code1 "is_redex" 345 346 347 61 1 0 0 3 132 133 (.ref 134) (.ref 135) 136 349 61 350 ::
  fobj1 19 (.str "alikeheap.lambdas" 280) 137 ::
  { cls := .type "tuple", data := .seq #[] } ::
  { cls := .none, data := .fields #[] } ::
  { cls := .type "tuple", data := .seq #[.str "t" 355, .str "path" 356, .str "part" 357] } ::
  { cls := .type "tuple", data := .seq #[] } ::
  tobj1 20 ::
  code1 "beta" 352 353 354 63 2 0 0 3 139 140 (.ref 141) (.ref 142) 143 358 63 359 ::
  fobj1 20 (.str "alikeheap.lambdas" 280) 144 ::
  { cls := .type "tuple", data := .seq #[] } ::
  { cls := .none, data := .fields #[] } ::
  { cls := .type "tuple", data := .seq #[.str "t" 364, .str "place" 365, .str "path" 366] } ::
  { cls := .type "tuple", data := .seq #[] } ::
  tobj1 21 ::
  code1 "first_redex" 361 362 363 68 1 0 0 3 146 147 (.ref 148) (.ref 149) 150 367 68 368 ::
  fobj1 21 (.str "alikeheap.lambdas" 280) 151 :: l
noncomputable def seg4 (P : Params) (l : List Obj) : List Obj := { cls := .type "tuple", data := .seq #[] } ::
  { cls := .none, data := .fields #[] } ::
  tobj1 22 ::
  code1 "is_beyond" 370 371 372 76 1 0 0 3 153 154 .none .none 155 373 76 374 ::
  fobj1 22 (.str "alikeheap.lambdas" 280) 156 ::
  { cls := .type "tuple", data := .seq #[] } ::
  { cls := .none, data := .fields #[] } ::
  { cls := .type "tuple", data := .seq #[.str "t" 379, .str "most" 380, .str "many" 381, .str "path" 382] } ::
  { cls := .type "tuple", data := .seq #[] } ::
  tobj1 23 ::
  code1 "normal" 376 377 378 85 2 0 0 3 158 159 (.ref 160) (.ref 161) 162 383 85 384 ::
  fobj1 23 (.str "alikeheap.lambdas" 280) 163 ::
  { cls := .type "tuple", data := .seq #[] } ::
  { cls := .none, data := .fields #[] } ::
  { cls := .type "tuple", data := .seq #[.str "t" 389, .str "u" 390, .str "most" 391] } ::
  { cls := .type "tuple", data := .seq #[] } ::
  tobj1 24 ::
  code1 "alike_to" 386 387 388 95 3 0 0 3 165 166 (.ref 167) (.ref 168) 169 392 95 393 ::
  fobj1 24 (.str "alikeheap.lambdas" 280) 170 ::
  { cls := .type "tuple", data := .seq #[] } ::
  { cls := .none, data := .fields #[] } ::
  { cls := .type "tuple", data := .seq #[.str "hand" 400, .str "wide" 401] } ::
  { cls := .type "tuple", data := .seq #[] } ::
  tobj1 26 ::
  code1 "_law_pick" 397 398 399 98 2 0 0 3 172 173 (.ref 174) (.ref 175) 176 402 98 403 ::
  fobj1 26 (.str "law_pq0040_01" 395) 177 ::
  { cls := .type "tuple", data := .seq #[] } ::
  { cls := .none, data := .fields #[] } ::
  { cls := .type "tuple", data := .seq #[.str "hand" 408] } ::
  { cls := .type "tuple", data := .seq #[] } ::
  tobj1 27 ::
  code1 "_law_name" 405 406 407 103 1 0 0 3 179 180 (.ref 181) (.ref 182) 183 409 103 410 ::
  fobj1 27 (.str "law_pq0040_01" 395) 184 ::
  { cls := .type "tuple", data := .seq #[] } ::
  { cls := .none, data := .fields #[] } ::
  { cls := .type "tuple", data := .seq #[.str "hand" 415, .str "around" 416, .str "floors" 417, .str "is_head" 418, .str "way" 419, .str "call" 420, .str "one" 421, .str "free" 422] } ::
  { cls := .type "tuple", data := .seq #[] } ::
  tobj1 28 ::
  code1 "_law_tree" 412 413 414 106 4 0 0 3 186 187 (.ref 188) (.ref 189) 190 423 106 424 ::
  fobj1 28 (.str "law_pq0040_01" 395) 191 ::
  { cls := .type "tuple", data := .seq #[] } ::
  { cls := .none, data := .fields #[] } ::
  tobj1 29 ::
  code1 "_law_spots" 426 427 428 116 1 0 0 3 193 194 .none .none 195 429 116 430 ::
  fobj1 29 (.str "law_pq0040_01" 395) 196 ::
  { cls := .type "tuple", data := .seq #[] } ::
  { cls := .none, data := .fields #[] } ::
  { cls := .type "tuple", data := .seq #[.str "tree" 435, .str "way" 436, .str "at" 437] } ::
  { cls := .type "tuple", data := .seq #[] } ::
  tobj1 30 ::
  code1 "_law_part" 432 433 434 122 2 0 0 3 198 199 (.ref 200) (.ref 201) 202 438 122 439 ::
  fobj1 30 (.str "law_pq0040_01" 395) 203 ::
  { cls := .type "tuple", data := .seq #[] } ::
  { cls := .none, data := .fields #[] } ::
  { cls := .type "tuple", data := .seq #[.str "tree" 444, .str "way" 445, .str "part" 446] } ::
  { cls := .type "tuple", data := .seq #[] } ::
  tobj1 31 ::
  code1 "_law_with" 441 442 443 126 3 0 0 3 205 206 (.ref 207) (.ref 208) 209 447 126 448 ::
  fobj1 31 (.str "law_pq0040_01" 395) 210 ::
  { cls := .type "tuple", data := .seq #[] } ::
  { cls := .none, data := .fields #[] } ::
  tobj1 32 ::
  code1 "_law_put" 450 451 452 130 3 0 0 3 212 213 .none .none 214 453 130 454 ::
  fobj1 32 (.str "law_pq0040_01" 395) 215 ::
  { cls := .type "tuple", data := .seq #[] } ::
  { cls := .none, data := .fields #[] } ::
  { cls := .type "tuple", data := .seq #[.str "tree" 459] } ::
  { cls := .type "tuple", data := .seq #[] } ::
  tobj1 33 ::
  code1 "_law_is_app_of_lam" 456 457 458 134 1 0 0 3 217 218 (.ref 219) (.ref 220) 221 460 134 461 ::
  fobj1 33 (.str "law_pq0040_01" 395) 222 ::
  { cls := .type "tuple", data := .seq #[] } ::
  { cls := .none, data := .fields #[] } ::
  { cls := .type "tuple", data := .seq #[.str "tree" 466] } ::
  { cls := .type "tuple", data := .seq #[] } ::
  tobj1 34 ::
  code1 "_law_worked" 463 464 465 136 1 0 0 3 224 225 (.ref 226) (.ref 227) 228 467 136 468 ::
  fobj1 34 (.str "law_pq0040_01" 395) 229 ::
  { cls := .type "tuple", data := .seq #[] } ::
  { cls := .none, data := .fields #[] } ::
  tobj1 35 ::
  code1 "_law_turned" 470 471 472 138 2 0 0 3 231 232 .none .none 233 473 138 474 ::
  fobj1 35 (.str "law_pq0040_01" 395) 234 ::
  { cls := .type "tuple", data := .seq #[] } ::
  { cls := .none, data := .fields #[] } ::
  tobj1 36 ::
  code1 "_law_end" 476 477 478 152 1 0 0 3 236 237 .none .none 238 479 152 480 ::
  fobj1 36 (.str "law_pq0040_01" 395) 239 ::
  { cls := .type "tuple", data := .seq #[] } ::
  { cls := .none, data := .fields #[] } ::
  { cls := .type "tuple", data := .seq #[.str "tree" 485, .str "around" 486] } ::
  { cls := .type "tuple", data := .seq #[] } ::
  tobj1 37 ::
  code1 "_law_core" 482 483 484 159 2 0 0 3 241 242 (.ref 243) (.ref 244) 245 487 159 488 ::
  fobj1 37 (.str "law_pq0040_01" 395) 246 ::
  { cls := .type "tuple", data := .seq #[] } ::
  { cls := .none, data := .fields #[] } ::
  { cls := .type "tuple", data := .seq #[.str "one" 493, .str "other" 494, .str "most" 495, .str "found" 496] } ::
  { cls := .type "tuple", data := .seq #[] } ::
  tobj1 38 ::
  code1 "_law_told" 490 491 492 165 3 0 0 3 248 249 (.ref 250) (.ref 251) 252 497 165 498 ::
  fobj1 38 (.str "law_pq0040_01" 395) 253 ::
  { cls := .type "tuple", data := .seq #[] } ::
  { cls := .none, data := .fields #[] } ::
  tobj1 39 ::
  code1 "law" 500 501 502 172 1 0 0 3 255 256 .none .none 257 503 172 504 ::
  fobj1 39 (.str "law_pq0040_01" 395) 258 :: l
noncomputable def heap0 (P : Params) : Heap := ⟨⟨seg0 P (boot_o_2 P) (boot_o_3 P) ({ cls := .none, data := .fields #[] }) []⟩, {}⟩
noncomputable def heap1 (P : Params) : Heap := ⟨⟨seg0 P ({ cls := .none, data := .dict #[{ hash := PyData.keyHash P "type.__subclasses__.Exception.0", key := .str "type.__subclasses__.Exception.0" 223, val := .int 40 0 }, { hash := PyData.keyHash P "type.__subclasses__.Exception.n", key := .str "type.__subclasses__.Exception.n" 224, val := .int 1 0 }] 2 }) ({ cls := .type "dict", data := .dict #[{ hash := PyData.keyHash P "__name__", key := .str "__name__" 165, val := .str "alikeheap.errors" 187 }, { hash := PyData.keyHash P "__doc__", key := .str "__doc__" 166, val := .none }, { hash := PyData.keyHash P "__package__", key := .str "__package__" 167, val := .none }, { hash := PyData.keyHash P "__loader__", key := .str "__loader__" 168, val := .builtin "__main__.__loader__#opaque" }, { hash := PyData.keyHash P "__spec__", key := .str "__spec__" 169, val := .none }, { hash := PyData.keyHash P "__annotations__", key := .str "__annotations__" 170, val := .ref 6 }, { hash := PyData.keyHash P "__builtins__", key := .str "__builtins__" 171, val := .ref 4 }, { hash := PyData.keyHash P "__file__", key := .str "__file__" 173, val := .str "/claim/cut.py" 172 }, { hash := PyData.keyHash P "__cached__", key := .str "__cached__" 174, val := .none }, { hash := PyData.keyHash P "HeapError", key := .str "HeapError" 226, val := .ref 40 }] 10 }) ({ cls := .none, data := .fields #[.int 2 0, .int 0 0, .ref 21] }) (seg1 P ({ cls := .type "type", data := .cls { name := "HeapError", bases := [.type "Exception"], mro := [.ref 40, .type "Exception", .type "BaseException", .type "object"], ns := 39, qualname := "HeapError" }, slots := #[some (.ref 15), none, some (.str "HeapError" 189), some (.str "HeapError" 197), some (.builtin "Exception.__new__"), some (.bool true)] }) [])⟩, {}⟩
noncomputable def heap2 (P : Params) : Heap := ⟨⟨seg0 P ({ cls := .none, data := .dict #[{ hash := PyData.keyHash P "type.__subclasses__.Exception.0", key := .str "type.__subclasses__.Exception.0" 223, val := .int 40 0 }, { hash := PyData.keyHash P "type.__subclasses__.Exception.n", key := .str "type.__subclasses__.Exception.n" 224, val := .int 1 0 }] 2 }) ({ cls := .type "dict", data := .dict #[{ hash := PyData.keyHash P "__name__", key := .str "__name__" 165, val := .str "alikeheap.errors" 187 }, { hash := PyData.keyHash P "__doc__", key := .str "__doc__" 166, val := .none }, { hash := PyData.keyHash P "__package__", key := .str "__package__" 167, val := .none }, { hash := PyData.keyHash P "__loader__", key := .str "__loader__" 168, val := .builtin "__main__.__loader__#opaque" }, { hash := PyData.keyHash P "__spec__", key := .str "__spec__" 169, val := .none }, { hash := PyData.keyHash P "__annotations__", key := .str "__annotations__" 170, val := .ref 6 }, { hash := PyData.keyHash P "__builtins__", key := .str "__builtins__" 171, val := .ref 4 }, { hash := PyData.keyHash P "__file__", key := .str "__file__" 173, val := .str "/claim/cut.py" 172 }, { hash := PyData.keyHash P "__cached__", key := .str "__cached__" 174, val := .none }, { hash := PyData.keyHash P "HeapError", key := .str "HeapError" 226, val := .ref 40 }, { hash := PyData.keyHash P "TermFault", key := .str "TermFault" 242, val := .ref 53 }, { hash := PyData.keyHash P "LimitFault", key := .str "LimitFault" 258, val := .ref 65 }] 12 }) ({ cls := .none, data := .fields #[.int 2 0, .int 0 0, .ref 21, .int 10 0, .int 0 0, .ref 49, .int 12 0, .int 0 0, .ref 61] }) (seg1 P ({ cls := .type "type", data := .cls { name := "HeapError", bases := [.type "Exception"], mro := [.ref 40, .type "Exception", .type "BaseException", .type "object"], ns := 39, qualname := "HeapError", subclasses := [.ref 53, .ref 65] }, slots := #[some (.ref 15), none, some (.str "HeapError" 189), some (.str "HeapError" 197), some (.builtin "Exception.__new__"), some (.bool true)] }) (seg2 P []))⟩, {}⟩
noncomputable def heap3 (P : Params) : Heap := ⟨⟨seg0 P ({ cls := .none, data := .dict #[{ hash := PyData.keyHash P "type.__subclasses__.Exception.0", key := .str "type.__subclasses__.Exception.0" 223, val := .int 40 0 }, { hash := PyData.keyHash P "type.__subclasses__.Exception.n", key := .str "type.__subclasses__.Exception.n" 224, val := .int 1 0 }] 2 }) ({ cls := .type "dict", data := .dict #[{ hash := PyData.keyHash P "__name__", key := .str "__name__" 165, val := .str "alikeheap.lambdas" 280 }, { hash := PyData.keyHash P "__doc__", key := .str "__doc__" 166, val := .none }, { hash := PyData.keyHash P "__package__", key := .str "__package__" 167, val := .none }, { hash := PyData.keyHash P "__loader__", key := .str "__loader__" 168, val := .builtin "__main__.__loader__#opaque" }, { hash := PyData.keyHash P "__spec__", key := .str "__spec__" 169, val := .none }, { hash := PyData.keyHash P "__annotations__", key := .str "__annotations__" 170, val := .ref 6 }, { hash := PyData.keyHash P "__builtins__", key := .str "__builtins__" 171, val := .ref 4 }, { hash := PyData.keyHash P "__file__", key := .str "__file__" 173, val := .str "/claim/cut.py" 172 }, { hash := PyData.keyHash P "__cached__", key := .str "__cached__" 174, val := .none }, { hash := PyData.keyHash P "HeapError", key := .str "HeapError" 226, val := .ref 40 }, { hash := PyData.keyHash P "TermFault", key := .str "TermFault" 242, val := .ref 53 }, { hash := PyData.keyHash P "LimitFault", key := .str "LimitFault" 258, val := .ref 65 }, { hash := PyData.keyHash P "part_at", key := .str "part_at" 269, val := .ref 74 }, { hash := PyData.keyHash P "replaced", key := .str "replaced" 279, val := .ref 81 }, { hash := PyData.keyHash P "FIGURES", key := .str "FIGURES" 283, val := .str "0123456789" 282 }, { hash := PyData.keyHash P "MOST_SIZE", key := .str "MOST_SIZE" 285, val := .int 20000 284 }, { hash := PyData.keyHash P "MOST_LEVELS", key := .str "MOST_LEVELS" 287, val := .int 150 286 }, { hash := PyData.keyHash P "is_row_of", key := .str "is_row_of" 293, val := .ref 86 }, { hash := PyData.keyHash P "number_behind", key := .str "number_behind" 302, val := .ref 93 }, { hash := PyData.keyHash P "index_of", key := .str "index_of" 309, val := .ref 100 }, { hash := PyData.keyHash P "variable", key := .str "variable" 316, val := .ref 107 }, { hash := PyData.keyHash P "below", key := .str "below" 323, val := .ref 114 }, { hash := PyData.keyHash P "moved_within", key := .str "moved_within" 329, val := .ref 119 }, { hash := PyData.keyHash P "shifted", key := .str "shifted" 338, val := .ref 126 }, { hash := PyData.keyHash P "put_in", key := .str "put_in" 344, val := .ref 131 }, { hash := PyData.keyHash P "is_redex", key := .str "is_redex" 351, val := .ref 138 }, { hash := PyData.keyHash P "beta", key := .str "beta" 360, val := .ref 145 }, { hash := PyData.keyHash P "first_redex", key := .str "first_redex" 369, val := .ref 152 }] 28 }) ({ cls := .none, data := .fields #[.int 2 0, .int 0 0, .ref 21, .int 10 0, .int 0 0, .ref 49, .int 12 0, .int 0 0, .ref 61, .int 15 0, .int 0 0, .ref 73, .int 21 0, .int 0 0, .ref 80, .int 30 0, .int 0 0, .ref 85, .int 32 0, .int 0 0, .ref 92, .int 37 0, .int 0 0, .ref 99, .int 39 0, .int 0 0, .ref 106, .int 41 0, .int 0 0, .ref 113, .int 43 0, .int 0 0, .ref 118, .int 50 0, .int 0 0, .ref 125, .int 52 0, .int 0 0, .ref 130, .int 61 0, .int 0 0, .ref 137, .int 63 0, .int 0 0, .ref 144, .int 68 0, .int 0 0, .ref 151] }) (seg1 P ({ cls := .type "type", data := .cls { name := "HeapError", bases := [.type "Exception"], mro := [.ref 40, .type "Exception", .type "BaseException", .type "object"], ns := 39, qualname := "HeapError", subclasses := [.ref 53, .ref 65] }, slots := #[some (.ref 15), none, some (.str "HeapError" 189), some (.str "HeapError" 197), some (.builtin "Exception.__new__"), some (.bool true)] }) (seg2 P (seg3 P [])))⟩, {}⟩
noncomputable def heap4 (P : Params) : Heap := ⟨⟨seg0 P ({ cls := .none, data := .dict #[{ hash := PyData.keyHash P "type.__subclasses__.Exception.0", key := .str "type.__subclasses__.Exception.0" 223, val := .int 40 0 }, { hash := PyData.keyHash P "type.__subclasses__.Exception.n", key := .str "type.__subclasses__.Exception.n" 224, val := .int 1 0 }] 2 }) ({ cls := .type "dict", data := .dict #[{ hash := PyData.keyHash P "__name__", key := .str "__name__" 165, val := .str "law_pq0040_01" 395 }, { hash := PyData.keyHash P "__doc__", key := .str "__doc__" 166, val := .none }, { hash := PyData.keyHash P "__package__", key := .str "__package__" 167, val := .none }, { hash := PyData.keyHash P "__loader__", key := .str "__loader__" 168, val := .builtin "__main__.__loader__#opaque" }, { hash := PyData.keyHash P "__spec__", key := .str "__spec__" 169, val := .none }, { hash := PyData.keyHash P "__annotations__", key := .str "__annotations__" 170, val := .ref 6 }, { hash := PyData.keyHash P "__builtins__", key := .str "__builtins__" 171, val := .ref 4 }, { hash := PyData.keyHash P "__file__", key := .str "__file__" 173, val := .str "/claim/cut.py" 172 }, { hash := PyData.keyHash P "__cached__", key := .str "__cached__" 174, val := .none }, { hash := PyData.keyHash P "HeapError", key := .str "HeapError" 226, val := .ref 40 }, { hash := PyData.keyHash P "TermFault", key := .str "TermFault" 242, val := .ref 53 }, { hash := PyData.keyHash P "LimitFault", key := .str "LimitFault" 258, val := .ref 65 }, { hash := PyData.keyHash P "part_at", key := .str "part_at" 269, val := .ref 74 }, { hash := PyData.keyHash P "replaced", key := .str "replaced" 279, val := .ref 81 }, { hash := PyData.keyHash P "FIGURES", key := .str "FIGURES" 283, val := .str "0123456789" 282 }, { hash := PyData.keyHash P "MOST_SIZE", key := .str "MOST_SIZE" 285, val := .int 20000 284 }, { hash := PyData.keyHash P "MOST_LEVELS", key := .str "MOST_LEVELS" 287, val := .int 150 286 }, { hash := PyData.keyHash P "is_row_of", key := .str "is_row_of" 293, val := .ref 86 }, { hash := PyData.keyHash P "number_behind", key := .str "number_behind" 302, val := .ref 93 }, { hash := PyData.keyHash P "index_of", key := .str "index_of" 309, val := .ref 100 }, { hash := PyData.keyHash P "variable", key := .str "variable" 316, val := .ref 107 }, { hash := PyData.keyHash P "below", key := .str "below" 323, val := .ref 114 }, { hash := PyData.keyHash P "moved_within", key := .str "moved_within" 329, val := .ref 119 }, { hash := PyData.keyHash P "shifted", key := .str "shifted" 338, val := .ref 126 }, { hash := PyData.keyHash P "put_in", key := .str "put_in" 344, val := .ref 131 }, { hash := PyData.keyHash P "is_redex", key := .str "is_redex" 351, val := .ref 138 }, { hash := PyData.keyHash P "beta", key := .str "beta" 360, val := .ref 145 }, { hash := PyData.keyHash P "first_redex", key := .str "first_redex" 369, val := .ref 152 }, { hash := PyData.keyHash P "is_beyond", key := .str "is_beyond" 375, val := .ref 157 }, { hash := PyData.keyHash P "normal", key := .str "normal" 385, val := .ref 164 }, { hash := PyData.keyHash P "alike_to", key := .str "alike_to" 394, val := .ref 171 }, { hash := PyData.keyHash P "_law_pick", key := .str "_law_pick" 404, val := .ref 178 }, { hash := PyData.keyHash P "_law_name", key := .str "_law_name" 411, val := .ref 185 }, { hash := PyData.keyHash P "_law_tree", key := .str "_law_tree" 425, val := .ref 192 }, { hash := PyData.keyHash P "_law_spots", key := .str "_law_spots" 431, val := .ref 197 }, { hash := PyData.keyHash P "_law_part", key := .str "_law_part" 440, val := .ref 204 }, { hash := PyData.keyHash P "_law_with", key := .str "_law_with" 449, val := .ref 211 }, { hash := PyData.keyHash P "_law_put", key := .str "_law_put" 455, val := .ref 216 }, { hash := PyData.keyHash P "_law_is_app_of_lam", key := .str "_law_is_app_of_lam" 462, val := .ref 223 }, { hash := PyData.keyHash P "_law_worked", key := .str "_law_worked" 469, val := .ref 230 }, { hash := PyData.keyHash P "_law_turned", key := .str "_law_turned" 475, val := .ref 235 }, { hash := PyData.keyHash P "_law_end", key := .str "_law_end" 481, val := .ref 240 }, { hash := PyData.keyHash P "_law_core", key := .str "_law_core" 489, val := .ref 247 }, { hash := PyData.keyHash P "_law_told", key := .str "_law_told" 499, val := .ref 254 }, { hash := PyData.keyHash P "law", key := .str "law" 505, val := .ref 259 }] 45 }) ({ cls := .none, data := .fields #[.int 2 0, .int 0 0, .ref 21, .int 10 0, .int 0 0, .ref 49, .int 12 0, .int 0 0, .ref 61, .int 15 0, .int 0 0, .ref 73, .int 21 0, .int 0 0, .ref 80, .int 30 0, .int 0 0, .ref 85, .int 32 0, .int 0 0, .ref 92, .int 37 0, .int 0 0, .ref 99, .int 39 0, .int 0 0, .ref 106, .int 41 0, .int 0 0, .ref 113, .int 43 0, .int 0 0, .ref 118, .int 50 0, .int 0 0, .ref 125, .int 52 0, .int 0 0, .ref 130, .int 61 0, .int 0 0, .ref 137, .int 63 0, .int 0 0, .ref 144, .int 68 0, .int 0 0, .ref 151, .int 76 0, .int 0 0, .ref 156, .int 85 0, .int 0 0, .ref 163, .int 95 0, .int 0 0, .ref 170, .int 98 0, .int 0 0, .ref 177, .int 103 0, .int 0 0, .ref 184, .int 106 0, .int 0 0, .ref 191, .int 116 0, .int 0 0, .ref 196, .int 122 0, .int 0 0, .ref 203, .int 126 0, .int 0 0, .ref 210, .int 130 0, .int 0 0, .ref 215, .int 134 0, .int 0 0, .ref 222, .int 136 0, .int 0 0, .ref 229, .int 138 0, .int 0 0, .ref 234, .int 152 0, .int 0 0, .ref 239, .int 159 0, .int 0 0, .ref 246, .int 165 0, .int 0 0, .ref 253, .int 172 0, .int 0 0, .ref 258] }) (seg1 P ({ cls := .type "type", data := .cls { name := "HeapError", bases := [.type "Exception"], mro := [.ref 40, .type "Exception", .type "BaseException", .type "object"], ns := 39, qualname := "HeapError", subclasses := [.ref 53, .ref 65] }, slots := #[some (.ref 15), none, some (.str "HeapError" 189), some (.str "HeapError" 197), some (.builtin "Exception.__new__"), some (.bool true)] }) (seg2 P (seg3 P (seg4 P []))))⟩, {}⟩
abbrev pr1 : Program := PySem.Challenge.pw_pq0040_01
noncomputable def env1 : Env := { scope := pr1.main.scope, locals := mainNs, globals := mainNs, cells := [], code := .ref 13, frame := some 14 }
noncomputable def cd1 : Code := .body (behindTheImports pr1) env1
abbrev bt1 : List Frame := [topFrame { line := 0, col := 0, endLine := 0, endCol := 0 }]
abbrev sh1 (H : Params → Heap) (k : Nat) (w : World) (os : OsState) : Shared := ⟨H w.params, ⟨[]⟩, {}, k, os⟩
set_option maxHeartbeats 8000000 in
theorem pre1 : ∀ w : World, (fun os => topGo treeTable pr1 w 11 (some (.ref 6)) 12 ⟨boot_heap w.params, Array.mk [], boot_drawn, boot_toks, os⟩ (topStub pr1)) = fun os => some (sh1 heap0 187 w os, ⟨denote treeTable cd1, cd1, { line := 0, col := 0, endLine := 0, endCol := 0 }, bt1⟩) := by
  intro w; kernel_rfl
set_option maxHeartbeats 8000000 in
theorem block1 : ∀ w : World, (fun os => segRun treeTable pr1 w 11 (some (.ref 6)) 1 1 (sh1 heap0 187 w os) (blockOf (behindTheImports pr1) env1 cd1 { line := 0, col := 0, endLine := 0, endCol := 0 } bt1)) = fun os => some (.next, sh1 heap0 187 w os, cd1, { line := 0, col := 0, endLine := 0, endCol := 0 }) := by
  intro w; kernel_rfl
set_option maxHeartbeats 8000000 in
theorem run1_0 : ∀ w : World, (fun os => segRun treeTable pr1 w 11 (some (.ref 6)) 1 285 (sh1 heap0 187 w os) (piecesOf ((behindTheImports pr1).take 2) env1 cd1 { line := 0, col := 0, endLine := 0, endCol := 0 } bt1)) = fun os => some (.next, sh1 heap1 227 w os, cd1, { line := 2, col := 0, endLine := 9, endCol := 24 }) := by
  intro w; kernel_rfl
set_option maxHeartbeats 8000000 in
theorem run1_1 : ∀ w : World, (fun os => segRun treeTable pr1 w 11 (some (.ref 6)) 1 427 (sh1 heap1 227 w os) (piecesOf (((behindTheImports pr1).drop 2).take 2) env1 cd1 { line := 2, col := 0, endLine := 9, endCol := 24 } bt1)) = fun os => some (.next, sh1 heap2 259 w os, cd1, { line := 12, col := 0, endLine := 13, endCol := 8 }) := by
  intro w; kernel_rfl
set_option maxHeartbeats 8000000 in
theorem run1_2 : ∀ w : World, (fun os => segRun treeTable pr1 w 11 (some (.ref 6)) 1 427 (sh1 heap2 259 w os) (piecesOf (((behindTheImports pr1).drop 4).take 18) env1 cd1 { line := 12, col := 0, endLine := 13, endCol := 8 } bt1)) = fun os => some (.next, sh1 heap3 370 w os, cd1, { line := 68, col := 0, endLine := 75, endCol := 15 }) := by
  intro w; kernel_rfl
set_option maxHeartbeats 8000000 in
theorem run1_3 : ∀ w : World, (fun os => segRun treeTable pr1 w 11 (some (.ref 6)) 1 506 (sh1 heap3 370 w os) (piecesOf ((behindTheImports pr1).drop 22) env1 cd1 { line := 68, col := 0, endLine := 75, endCol := 15 } bt1)) = fun os => some (.next, sh1 heap4 506 w os, cd1, { line := 172, col := 0, endLine := 188, endCol := 15 }) := by
  intro w; kernel_rfl
set_option maxHeartbeats 8000000 in
theorem fin1 : ∀ w : World, (fun os => topRun treeTable pr1 w 11 (some (.ref 6)) 2 (sh1 heap4 506 w os) ⟨doneF .next, cd1, { line := 172, col := 0, endLine := 188, endCol := 15 }, bt1⟩) = fun os => some (sh1 heap4 506 w os) := by
  intro w; kernel_rfl
theorem all1 (w : World) (os : OsState) : topRun treeTable pr1 w 11 (some (.ref 6)) (12 + (1 + (285 + (427 + (427 + (506 + 2)))))) ⟨boot_heap w.params, Array.mk [], boot_drawn, boot_toks, os⟩ (topStub pr1) = some (sh1 heap4 506 w os) := by
  refine go_top (congrFun (pre1 w) os) ?_
  refine piece_block (congrFun (block1 w) os) ?_
  rw [← List.take_append_drop 2 (behindTheImports pr1)]
  refine piece_app (congrFun (run1_0 w) os) ?_
  rw [← List.take_append_drop 2 ((behindTheImports pr1).drop 2), List.drop_drop]
  refine piece_app (congrFun (run1_1 w) os) ?_
  rw [← List.take_append_drop 18 ((behindTheImports pr1).drop 4), List.drop_drop]
  refine piece_app (congrFun (run1_2 w) os) ?_
  rw [← List.append_nil ((behindTheImports pr1).drop 22)]
  refine piece_app (congrFun (run1_3 w) os) ?_
  exact piece_nil (congrFun (fin1 w) os)
set_option maxHeartbeats 8000000 in
theorem open1 : opening pr1 = plainProg pr1.main.scope.names := by kernel_rfl
set_option maxHeartbeats 8000000 in
theorem fence1 : ∀ s, fenceModules? pr1 s = some s := by intro s; kernel_rfl
set_option maxHeartbeats 8000000 in
theorem size1 : ∀ w : World, ((boot_heap w.params).isNs mainGlobals && (Array.mk [] : Array GenState).size == 0, (boot_heap w.params).objs.size, (boot_heap w.params).nsMap mainGlobals "__annotations__") = (true, 11, (some (.ref 6))) := by intro w; kernel_rfl
abbrev xt1 : Shared → Bool := fun s => xlAt view1 [] s && recOk (RowW.records PySem.Challenge.rw_pq0040_01.row.toRowW) s
noncomputable abbrev last1 (w : World) (os : OsState) : Shared := sh1 heap4 506 w os
set_option maxHeartbeats 8000000 in
theorem look1_a : ∀ w : World, (fun os => (staticsOk (importedModules pr1.main.body) (boot_heap w.params) (heap4 w.params) && namesBound pr1 (heap4 w.params) && gensDone (last1 w os) && laidKept (boot_heap w.params) (heap4 w.params))) = fun _ => true := by intro w; kernel_rfl
set_option maxHeartbeats 8000000 in
theorem look1_b : ∀ w : World, (fun os => openSeen view1 [] (importedModules pr1.main.body) xt1 true (last1 w os)) = fun _ => openGood view1 [] := by intro w; kernel_rfl
set_option maxHeartbeats 8000000 in
theorem look1_c : ∀ w : World, (fun os => (Hook.obs hook1) (last1 w os)) = fun _ => (Hook.val hook1) w := by intro w; kernel_rfl
theorem left1 : LeftO pr1 view1 [] xt1 (Hook.obs hook1) (Hook.val hook1) 3408 :=
  LeftO.of_pieces (boot_open open1 rfl fence1) size1 all1 rfl fun w => funext fun os => Prod.ext (congrFun (look1_a w) os) (Prod.ext (congrFun (look1_b w) os) (congrFun (look1_c w) os))
end Mine
end

-- Jm
section
namespace Mine
open PySem PySem.W PyProof.Rows
set_option maxHeartbeats 8000000 in
theorem said1 : PySem.Challenge.rw_pq0040_01.wellSaid = true := by
  unfold OpenLaw.wellSaid OpenRow.wellSaid OpenRow.partSaid looksOpen
  repeat' (with_reducible refine Bool.and_eq_true_iff.mpr ⟨?_, ?_⟩)
  all_goals decide +kernel
set_option maxHeartbeats 8000000 in
theorem ok1 : (chainsOk view1 && opensWell PySem.Challenge.rw_pq0040_01.row.prog && (frees PySem.Challenge.rw_pq0040_01.row.toRowW && PySem.Challenge.rw_pq0040_01.row.within.isEmpty)) = true := by decide +kernel
set_option maxHeartbeats 8000000 in
theorem bare1 : PySem.Challenge.rw_pq0040_01.row.prog.bare := ⟨rfl, rfl, rfl, rfl, rfl, by decide +kernel⟩
end Mine
end

-- S1
section
set_option genSizeOfSpec false
set_option genInjectivity false
namespace Mine
open PySem PySem.W PyProof.Rows
inductive PV where
  | none
  | bool (b : Bool)
  | int (i : Int)
  | str (s : Str)
  | tup (ds : List PV)
  | ref (n : Nat)
  | rng (a b : Int)
  /-- a list of ints that stood before the call -/
  | old (ns : List Int)
  deriving Inhabited

inductive Cell where
  | list (ds : List PV)
  deriving Inhabited

abbrev Store := List Cell

inductive Exn where
  | term | limit
  deriving DecidableEq, Inhabited

/-- how a run ends: a value, or an exception -/
inductive R (α : Type) where
  | ok (a : α) (σ : Store)
  | exc (k : Exn) (σ : Store)

mutual
def PV.depth : PV → Nat
  | .tup ds => PV.depths ds + 1
  | _ => 0
def PV.depths : List PV → Nat
  | [] => 0
  | d :: r => max d.depth (PV.depths r)
end

mutual
/-- the plain data that a value is -/
def PV.toD : PV → PyData
  | .none => .none
  | .bool b => .bool b
  | .int i => .int i
  | .str s => .str s
  | .tup ds => .tuple (PV.toDs ds)
  | .ref _ => .none
  | .rng _ _ => .none
  | .old _ => .none
def PV.toDs : List PV → List PyData
  | [] => []
  | d :: r => d.toD :: PV.toDs r
end
mutual
/-- nothing of it can be changed; its texts are plain -/
def PV.lay : PV → Bool
  | .str s => PyData.strOk s
  | .tup ds => PV.lays ds
  | .ref _ => false
  | .rng _ _ => false
  | .old _ => false
  | .none => true
  | .bool _ => true
  | .int _ => true
def PV.lays : List PV → Bool
  | [] => true
  | d :: r => d.lay && PV.lays r
end
def pyEq (a b : PV) : Bool := PyData.eqv a.toD b.toD
def small (n : Nat) : Bool := decide (n ≤ 100000)
def strOfInt (i : Int) : Str := Str.ofString (toString i)
def textOk (s : Str) : Bool := decide (s.length ≤ 100000)

def pickAt {α : Type} (xs : List α) (i : Int) : Option α := if 0 ≤ i then xs[i.toNat]? else if -(xs.length : Int) ≤ i then xs[(i + xs.length).toNat]? else .none
def signAt (s : Str) (i : Int) : Option PV := (pickAt s.cps.toList i).map fun c => .str ⟨#[c]⟩
def cut {α : Type} (xs : List α) (lo hi : Option Nat) : List α := (match hi with | some b => xs.take b | .none => xs).drop (lo.getD 0)
def bound : PV → Option (Option Nat)
  | .none => some .none
  | .int i => if 0 ≤ i ∧ i < 2 ^ 62 then some (some i.toNat) else .none
  | _ => .none

def intOfText (s : Str) : Option Int := if s.length ≤ 640 then PySem.intText? s else .none

abbrev Names := List (Str × NameKind)
abbrev Vars := Str → Option PV
def Vars.comp (N : Names) (ρ : Vars) (x : Str) (d : PV) : Vars := fun y => if y = x then some d else if N.lookup y = some .local then .none else ρ y
def Vars.base (N : Names) (ρ : Vars) : Vars := fun y => if N.lookup y = some .local then .none else ρ y
noncomputable def bnames : List Str := ["len", "int", "str", "tuple", "range", "max", "isinstance"]
def plainArgs (es : List Expr) : Bool := decide (es.length ≤ 20) && es.all fun e => match e with
  | .Starred _ _ => false
  | _ => true
def Vars.set (ρ : Vars) (x : Str) (d : PV) : Vars := fun y => if y = x then some d else ρ y

def relab (N : Names) (sc : Names) : Names := sc.map fun p => if (p.2 == .free && N.lookup p.1 == some .cell) then (p.1, .cell) else p
def compOk (N : Names) (scope : Scope) (x : Str) : Bool :=
  scope.kind == .function && scope.names.lookup x == some .local && x != ("__debug__" : Str) &&
  scope.names.all (fun p => p.2 != .cell && (p.2 != .local || scope.names.lookup p.1 == some .local) && (p.2 != .free || (N.lookup p.1 == some .cell && p.1 != ("__classdict__" : Str))))

def isGlob (N : Names) (x : Str) : Bool := N.lookup x == some .globalImplicit

def constOf : Const → Option PV
  | .none => some .none
  | .bool b => some (.bool b)
  | .int i => some (.int i)
  | .str s => some (.str s)
  | _ => .none

def fieldText : PV → Option Str
  | .int i => if i.natAbs < 10 ^ 9 then some (strOfInt i) else .none
  | .str s => if textOk s then some s else .none
  | _ => .none

inductive SO where
  | next (ρ : Vars) (σ : Store)
  | brk (ρ : Vars) (σ : Store)
  | ret (d : PV) (σ : Store)
  | exc (k : Exn) (ρ : Vars) (σ : Store)

def canStore (N : Names) (x : Str) : Bool := N.lookup x == some .local || N.lookup x == some .cell

def Vars.setAll (ρ : Vars) : List Str → List PV → Vars
  | x :: xs, d :: ds => Vars.setAll (Vars.set ρ x d) xs ds
  | _, _ => ρ

def tupleOk : Expr → Bool
  | .Tuple vs _ _ => !vs.all (constantsAlone 8)
  | _ => true

structure Def where
  params : List Str
  body : List Stmt
  names : Names

def Vars.of (xs : List Str) (ds : List PV) : Vars := Vars.setAll (fun _ => .none) xs ds

structure Text where
  defs : Str → Option Def
  const : Str → Option PV
  exn : Str → Option Exn


/-- a text, and how deep its calls may go from here -/
structure Ctx where
  T : Text
  n : Nat
def Text.at (T : Text) (n : Nat) : Ctx := ⟨T, n⟩
def Ctx.isDef (Γ : Ctx) (f : Str) : Bool := (Γ.T.defs f).isSome
def Ctx.const (Γ : Ctx) (x : Str) : Option PV := Γ.T.const x
def Ctx.exn (Γ : Ctx) (x : Str) : Option Exn := Γ.T.exn x
def isVar (N : Names) (x : Str) : Bool := (x != ("__debug__" : Str)) && (N.lookup x == some .local || N.lookup x == some .cell)
def isSl : Expr → Bool
  | .Slice .. => true
  | _ => false
def isStar : Expr → Bool
  | .Starred .. => true
  | _ => false
def userCall (Γ : Ctx) (N : Names) (f : Str) (args : List Expr) : Bool := Γ.isDef f && isGlob N f && f != ("__debug__" : Str) && plainArgs args
def builtCall (Γ : Ctx) (N : Names) (f : Str) (args : List Expr) : Bool := !Γ.isDef f && isGlob N f && f != ("__debug__" : Str) && plainArgs args && bnames.contains f
def Vars.no : Vars := fun _ => none
/-- the list that the call was handed: its place and its ints -/
structure Frozen where
  addr : Addr
  ns : List Int
variable [Z : Zero Frozen]

/-! ## the heap's side -/

mutual
inductive VR (β : List Addr) (h : Heap) : Value → PV → Prop
  | none : VR β h .none .none
  | bool (b : Bool) : VR β h (.bool b) (.bool b)
  | int (i : Int) (t : Tok) : VR β h (.int i t) (.int i)
  | str (x : Str) (t : Tok) : VR β h (.str x t) (.str x)
  | tup {a : Addr} {vs : List Value} {n : Nat} {ds : List PV} : IsT h a vs.toArray n → VRs β h vs ds → VR β h (.ref a) (.tup ds)
  | ref {a : Addr} {i : Nat} : β[i]? = some a → VR β h (.ref a) (.ref i)
  | rng {a : Addr} {x y : Int} {t u v : Tok} : IsRange h a x y 1 t u v → VR β h (.ref a) (.rng x y)
  | old : VR β h (.ref (Zero.zero : Frozen).addr) (.old (Zero.zero : Frozen).ns)
inductive VRs (β : List Addr) (h : Heap) : List Value → List PV → Prop
  | nil : VRs β h [] []
  | cons {v : Value} {vs : List Value} {d : PV} {ds : List PV} : VR β h v d → VRs β h vs ds → VRs β h (v :: vs) (d :: ds)
end

def CR (β : List Addr) (h : Heap) (a : Addr) : Cell → Prop
  | .list ds => ∃ vs n, IsL h a vs.toArray n ∧ VRs β h vs ds

structure SR (β : List Addr) (h : Heap) (σ : Store) : Prop where
  len : β.length = σ.length
  nodup : β.Nodup
  cell : ∀ (i : Nat) (a : Addr) (c : Cell), β[i]? = some a → σ[i]? = some c → CR β h a c

/-- what a run leaves: all that stood stands, but the store and the frames' own notes -/
structure Ext (fr : List Addr) (β : List Addr) (h : Heap) (β' : List Addr) (h' : Heap) : Prop where
  grow : ∃ new, β' = β ++ new ∧ ∀ a ∈ new, h.get? a = none ∧ a ∉ β
  keep : ∀ a o, h.get? a = some o → a ∉ β → a ∉ fr → h'.get? a = some o
  slots : ∀ a o, h.get? a = some o → a ∉ β → ∃ sl, h'.get? a = some { o with slots := sl }

section
variable {fr β β₁ β₂ : List Addr} {h h₁ h₂ : Heap}
theorem Ext.refl : Ext fr β h β h := ⟨⟨[], by simp, by simp⟩, fun _ _ e _ _ => e, fun _ o e _ => ⟨o.slots, e⟩⟩
theorem Ext.not_new (x : Ext fr β h β₁ h₁) {a : Addr} {o : Obj} (e : h.get? a = some o) (n : a ∉ β) : a ∉ β₁ := by
  obtain ⟨new, rfl, hn⟩ := x.grow
  intro hm
  rcases List.mem_append.mp hm with hm | hm
  · exact n hm
  · have := (hn a hm).1
    rw [e] at this; cases this
theorem grow_trans {g1 : ∃ new, β₁ = β ++ new ∧ ∀ a ∈ new, h.get? a = none ∧ a ∉ β} (sl : ∀ a o, h.get? a = some o → a ∉ β → ∃ sl, h₁.get? a = some { o with slots := sl })
    {g2 : ∃ new, β₂ = β₁ ++ new ∧ ∀ a ∈ new, h₁.get? a = none ∧ a ∉ β₁} : ∃ new, β₂ = β ++ new ∧ ∀ a ∈ new, h.get? a = none ∧ a ∉ β := by
  obtain ⟨n1, rfl, h1⟩ := g1
  obtain ⟨n2, rfl, h2⟩ := g2
  refine ⟨n1 ++ n2, by simp, fun a ha => ?_⟩
  rcases List.mem_append.mp ha with ha | ha
  · exact h1 a ha
  · obtain ⟨q1, q2⟩ := h2 a ha
    have n0 : a ∉ β := fun hm => q2 (List.mem_append_left _ hm)
    refine ⟨?_, n0⟩
    cases q : h.get? a with
    | none => rfl
    | some o =>
      obtain ⟨_, q3⟩ := sl a o q n0
      rw [q1] at q3; cases q3
theorem Ext.trans (x : Ext fr β h β₁ h₁) (y : Ext fr β₁ h₁ β₂ h₂) : Ext fr β h β₂ h₂ := by
  refine ⟨grow_trans (g1 := x.grow) (g2 := y.grow) x.slots, fun a o e n f => y.keep a o (x.keep a o e n f) (x.not_new e n) f, fun a o e n => ?_⟩
  obtain ⟨sl, e1⟩ := x.slots a o e n
  obtain ⟨sl2, e2⟩ := y.slots a _ e1 (x.not_new e n)
  exact ⟨sl2, e2⟩
/-- a run that only adds -/
theorem Ext.of_keeps (k : ∀ b o, h.get? b = some o → h₁.get? b = some o) : Ext fr β h β h₁ :=
  ⟨⟨[], by simp, by simp⟩, fun a o e _ _ => k a o e, fun a o e _ => ⟨o.slots, k a o e⟩⟩
theorem Ext.push (o : Obj) : Ext fr β h β (h.push o) := .of_keeps (fun _ _ e => Heap.get?_push_of_some _ e)
theorem Ext.at? (x : Ext fr β h β₁ h₁) {i : Nat} {a : Addr} (e : β[i]? = some a) : β₁[i]? = some a := by
  obtain ⟨new, rfl, _⟩ := x.grow
  rw [List.getElem?_append_left (List.getElem?_eq_some_iff.mp e).1]; exact e
/-- fewer frames are looked at -/
theorem Ext.mono {fr' : List Addr} (x : Ext fr β h β₁ h₁) (hf : ∀ a ∈ fr, a ∈ fr' ∨ h.get? a = none) : Ext fr' β h β₁ h₁ :=
  ⟨x.grow, fun a o e n f => x.keep a o e n (fun hm => by
    rcases hf a hm with q | q
    · exact f q
    · rw [e] at q; cases q), x.slots⟩
end

theorem isT_ne_isL {h : Heap} {a : Addr} {xs ys : Array Value} {n m : Nat} (x : IsT h a xs n) (y : IsL h a ys m) : False := by
  have q := x.symm.trans y; simp at q
theorem CR.isL {β : List Addr} {h : Heap} {a : Addr} {c : Cell} (x : CR β h a c) : ∃ xs n, IsL h a xs n := by
  cases c with
  | list ds => obtain ⟨vs, n, l, _⟩ := x; exact ⟨_, _, l⟩
theorem SR.isL {β : List Addr} {h : Heap} {σ : Store} (S : SR β h σ) {a : Addr} (ha : a ∈ β) : ∃ xs n, IsL h a xs n := by
  obtain ⟨i, hi, rfl⟩ := List.mem_iff_getElem.mp ha
  have : i < σ.length := S.len ▸ hi
  exact (S.cell i _ σ[i] (List.getElem?_eq_getElem hi) (List.getElem?_eq_getElem this)).isL

/-- no object of these frames is a list, a tuple or a range -/
def FrOk (fr : List Addr) (h : Heap) : Prop := ∀ L ∈ fr, ∃ m, h.Ns L m
theorem FrOk.not {fr : List Addr} {h : Heap} (F : FrOk fr h) {a : Addr} {o : Obj} (e : h.get? a = some o) (hd : ∀ es n, o.data ≠ .dict es n) : a ∉ fr := fun hm => by
  obtain ⟨m, o', es, ep, ho, hdd, _⟩ := F a hm
  rw [e] at ho; cases ho
  exact hd es ep hdd

section
variable {fr β β₁ : List Addr} {h h₁ : Heap} {σ : Store}
theorem SR.not_in (S : SR β h σ) {a : Addr} {o : Obj} (e : h.get? a = some o) (hc : o.cls ≠ .type "list") : a ∉ β := fun hm => by
  obtain ⟨xs, n, l⟩ := S.isL hm
  have q := e.symm.trans l; cases q; exact hc rfl
mutual
theorem VR.mono (S : SR β h σ) (F : FrOk fr h) (x : Ext fr β h β₁ h₁) : ∀ {v : Value} {d : PV}, VR β h v d → VR β₁ h₁ v d
  | _, _, .none => .none
  | _, _, .bool b => .bool b
  | _, _, .int i t => .int i t
  | _, _, .str s t => .str s t
  | _, _, .tup e r => .tup (x.keep _ _ e (S.not_in e (by simp)) (F.not e (by intro es n q; cases q))) (VRs.mono S F x r)
  | _, _, .ref e => .ref (x.at? e)
  | _, _, .rng e => .rng (x.keep _ _ e (S.not_in e (by simp)) (F.not e (by intro es n q; cases q)))
  | _, _, .old => .old
theorem VRs.mono (S : SR β h σ) (F : FrOk fr h) (x : Ext fr β h β₁ h₁) : ∀ {vs : List Value} {ds : List PV}, VRs β h vs ds → VRs β₁ h₁ vs ds
  | _, _, .nil => .nil
  | _, _, .cons a r => .cons (VR.mono S F x a) (VRs.mono S F x r)
end
end

section
variable {β : List Addr} {h : Heap} {vs ws : List Value} {ds es : List PV}
theorem VRs.length : ∀ {vs : List Value} {ds : List PV}, VRs β h vs ds → vs.length = ds.length
  | _, _, .nil => rfl
  | _, _, .cons _ r => by rw [List.length_cons, List.length_cons, VRs.length r]
theorem VRs.append : ∀ {vs : List Value} {ds : List PV}, VRs β h vs ds → VRs β h ws es → VRs β h (vs ++ ws) (ds ++ es)
  | _, _, .nil, k => k
  | _, _, .cons a r, k => .cons a (VRs.append r k)
theorem VRs.get : ∀ {vs : List Value} {ds : List PV}, VRs β h vs ds → ∀ {i : Nat} {d : PV}, ds[i]? = some d → ∃ v, vs[i]? = some v ∧ VR β h v d
  | _, _, .nil, _, _, e => by cases e
  | _, _, .cons a r, 0, _, e => by cases e; exact ⟨_, rfl, a⟩
  | _, _, .cons a r, i + 1, _, e => VRs.get r e
theorem VRs.take : ∀ {vs : List Value} {ds : List PV} (n : Nat), VRs β h vs ds → VRs β h (vs.take n) (ds.take n)
  | _, _, 0, _ => by simpa using VRs.nil
  | _, _, n + 1, .nil => by simpa using VRs.nil
  | _, _, n + 1, .cons a r => by simpa using VRs.cons a (VRs.take n r)
theorem VRs.drop : ∀ {vs : List Value} {ds : List PV} (n : Nat), VRs β h vs ds → VRs β h (vs.drop n) (ds.drop n)
  | _, _, 0, x => by simpa using x
  | _, _, n + 1, .nil => by simpa using VRs.nil
  | _, _, n + 1, .cons a r => by simpa using VRs.drop n r
theorem VRs.set : ∀ {vs : List Value} {ds : List PV} (n : Nat) {v : Value} {d : PV}, VRs β h vs ds → VR β h v d → VRs β h (vs.set n v) (ds.set n d)
  | _, _, _, _, _, .nil, _ => by simpa using VRs.nil
  | _, _, 0, _, _, .cons a r, x => by simpa using VRs.cons x r
  | _, _, n + 1, _, _, .cons a r, x => by simpa using VRs.cons a (VRs.set n r x)
end

section
variable {fr β : List Addr} {h h₁ : Heap} {σ : Store}
/-- the store where objects are only added, or turned elsewhere -/
theorem SR.keeps (S : SR β h σ) (F : FrOk fr h) (k : ∀ a o, h.get? a = some o → a ∉ fr → h₁.get? a = some o) : SR β h₁ σ := by
  have vr : ∀ {v d}, VR β h v d → VR β h₁ v d := by
    intro v d x
    induction x using VR.rec (motive_2 := fun vs ds _ => VRs β h₁ vs ds) with
    | none => exact .none
    | bool b => exact .bool b
    | int i t => exact .int i t
    | str x t => exact .str x t
    | tup e _ ih => exact .tup (k _ _ e (F.not e (by intro es n q; cases q))) ih
    | ref e => exact .ref e
    | rng e => exact .rng (k _ _ e (F.not e (by intro es n q; cases q)))
    | old => exact .old
    | nil => exact .nil
    | cons _ _ a b => exact .cons a b
  have vrs : ∀ {vs ds}, VRs β h vs ds → VRs β h₁ vs ds := by
    intro vs
    induction vs with
    | nil => intro ds x; cases x; exact .nil
    | cons v vs ih => intro ds x; cases x with | cons a r => exact .cons (vr a) (ih r)
  refine ⟨S.len, S.nodup, fun i a c ha hc => ?_⟩
  have q := S.cell i a c ha hc
  cases c with
  | list ds =>
    obtain ⟨vs, n, l, r⟩ := q
    exact ⟨vs, n, k _ _ l (F.not l (by intro es n q; cases q)), vrs r⟩
end

/-! ## the world's side -/
structure Conf where
  prog : Program
  w : World
  base : Heap
  K : Frag
  mg : Str → Option Value
  mb : Str → Option Value
  cls : Exn → Addr

def frs (fr : List Env) : List Addr := fr.filterMap (·.frame)

structure Inv (C : Conf) (A : Around) (fr : List Env) (β : List Addr) (h : Heap) (σ : Store) : Prop where
  hh : A.handled = none
  frames : A.frames = some fr
  stays : C.base.StaysIn h
  ff : h.FunFrames C.base fr
  fns : FrOk (frs fr) h
  sr : SR β h σ
  fresh : ∀ a ∈ β, C.base.get? a = none
  glob : C.base.Ns mainGlobals C.mg
  bui : C.base.Ns builtinsNs C.mb
  bfit : ∀ x : Str, x ≠ "__name__" → C.mb x = bootBuiltins x
  nolim : C.base.NoLimit
  inK : C.K.In C.base
  old : ∃ vs, C.base.IsList (Zero.zero : Frozen).addr (List.toArray vs) ∧ ∀ β h, VRs β h vs ((Zero.zero : Frozen).ns.map PV.int)

section
variable {C : Conf} {A : Around} {fr : List Env} {β β₁ : List Addr} {h h₁ : Heap} {σ σ₁ : Store}
theorem Inv.frame_fresh (I : Inv C A fr β h σ) {a : Addr} (ha : a ∈ frs fr) : C.base.get? a = none := (I.ff.mem ha).1
theorem frOk_slots {fr β : List Addr} (F : FrOk fr h) (S : SR β h σ) (x : Ext fr β h β₁ h₁) : FrOk fr h₁ := fun L hL => by
  obtain ⟨m, o, es, ep, ho, hd, r⟩ := F L hL
  have : L ∉ β := fun hm => by
    obtain ⟨xs, n, l⟩ := S.isL hm
    have q := ho.symm.trans l; cases q; cases hd
  obtain ⟨sl, hs⟩ := x.slots L o ho this
  exact ⟨m, _, es, ep, hs, hd, r⟩
theorem Inv.next (I : Inv C A fr β h σ) (x : Ext (frs fr) β h β₁ h₁) (S : SR β₁ h₁ σ₁) : Inv C A fr β₁ h₁ σ₁ := by
  have fx := frOk_slots I.fns I.sr x
  have st : C.base.StaysIn h₁ := fun a o e => x.keep a o (I.stays a o e) (fun hm => by rw [I.fresh a hm] at e; cases e) fun hm => by rw [I.frame_fresh hm] at e; cases e
  refine ⟨I.hh, I.frames, st, ?_, fx, S, ?_, I.glob, I.bui, I.bfit, I.nolim, I.inK, I.old⟩
  · have := I.ff
    have fns := I.fns
    have aux : ∀ l : List Env, (∀ a ∈ frs l, a ∈ frs fr) → h.FunFrames C.base l → h₁.FunFrames C.base l := by
      intro l
      induction l with
      | nil => intro _ _; trivial
      | cons e r ih =>
        intro hs ⟨hk, ⟨L, o, hf, hn, ho, hd⟩, hr⟩
        have hL : L ∈ frs (e :: r) := List.mem_filterMap.mpr ⟨e, List.mem_cons_self, hf⟩
        obtain ⟨m, o', es, ep, ho', hd', q⟩ := fx L (hs L hL)
        refine ⟨hk, ⟨L, o', hf, hn, ho', fun vs q => by rw [hd'] at q; cases q⟩, ih (fun a ha => hs a ?_) hr⟩
        obtain ⟨e', he', q'⟩ := List.mem_filterMap.mp ha
        exact List.mem_filterMap.mpr ⟨e', List.mem_cons_of_mem _ he', q'⟩
    exact aux fr (fun _ h => h) this
  · obtain ⟨new, rfl, hn⟩ := x.grow
    intro a ha
    rcases List.mem_append.mp ha with ha | ha
    · exact I.fresh a ha
    · cases q : C.base.get? a with
      | none => rfl
      | some o =>
        have := (hn a ha).1
        rw [I.stays a o q] at this; cases this
theorem Inv.mono (I : Inv C A fr β h σ) (x : Ext (frs fr) β h β₁ h₁) {v : Value} {d : PV} (r : VR β h v d) : VR β₁ h₁ v d := VR.mono I.sr I.fns x r
theorem Inv.monos (I : Inv C A fr β h σ) (x : Ext (frs fr) β h β₁ h₁) {v : List Value} {d : List PV} (r : VRs β h v d) : VRs β₁ h₁ v d := VRs.mono I.sr I.fns x r
end

/-- an exception flies out of a call: its class, the store, all that stood -/
structure Fly (C : Conf) (fr : List Env) (β : List Addr) (h : Heap) (k : Exn) (σ' : Store) (e : Value) (β' : List Addr) (h' : Heap) : Prop where
  grow : ∃ new, β' = β ++ new ∧ ∀ a ∈ new, h.get? a = none ∧ a ∉ β
  slots : ∀ a o, h.get? a = some o → a ∉ β → ∃ sl, h'.get? a = some { o with slots := sl }
  fly : ∃ ea B a0, e = .ref ea ∧ Heap.FlyingW B fr ea (.ref (C.cls k)) a0 h' ∧ (∀ a o, h.get? a = some o → a ∉ β → a ∉ frs fr → B.get? a = some o) ∧ SR β' B σ'

theorem Fly.of_ext {C : Conf} {fr : List Env} {β β₁ β' : List Addr} {h h₁ h' : Heap} {k : Exn} {σ' : Store} {e : Value} (x : Ext (frs fr) β h β₁ h₁) (f : Fly C fr β₁ h₁ k σ' e β' h') : Fly C fr β h k σ' e β' h' := by
  obtain ⟨ea, B, a0, he, hf, hB, hs⟩ := f.fly
  refine ⟨grow_trans (g1 := x.grow) (g2 := f.grow) x.slots, fun a o q n => ?_, ⟨ea, B, a0, he, hf, fun a o q n m => hB a o (x.keep a o q n m) (x.not_new q n) m, hs⟩⟩
  obtain ⟨sl, e1⟩ := x.slots a o q n
  obtain ⟨sl2, e2⟩ := f.slots a _ e1 (x.not_new q n)
  exact ⟨sl2, e2⟩

/-- what is to hold behind -/
def Post (C : Conf) (fr : List Env) (β : List Addr) (s : Shared) {α γ : Type} (rel : List Addr → Heap → γ → α → Prop) (Q : γ → Shared → Prop) (E : Value → Shared → Prop) : R α → Prop
  | .ok d σ' => ∀ v β' h' tk, Ext (frs fr) β s.heap β' h' → SR β' h' σ' → rel β' h' v d → Q v { s with heap := h', toks := tk }
  | .exc k σ' => ∀ e β' h' tk, Fly C fr β s.heap k σ' e β' h' → E e { s with heap := h', toks := tk }

section
variable {C : Conf} {fr : List Env} {β β₁ : List Addr} {s : Shared} {α γ : Type} {rel : List Addr → Heap → γ → α → Prop} {Q : γ → Shared → Prop} {E : Value → Shared → Prop} {r : R α} {h₁ : Heap} {tk : Tok}
theorem Post.next (x : Ext (frs fr) β s.heap β₁ h₁) (P : Post C fr β s rel Q E r) : Post C fr β₁ { s with heap := h₁, toks := tk } rel Q E r := by
  cases r with
  | ok d σ' => exact fun v β' h' tk' y S q => P v β' h' tk' (x.trans y) S q
  | exc k σ' => exact fun e β' h' tk' f => P e β' h' tk' (f.of_ext x)
end

abbrev relV : List Addr → Heap → Value → PV → Prop := VR
abbrev relB : List Addr → Heap → Bool → Bool → Prop := fun _ _ b c => b = c
abbrev relL : List Addr → Heap → List Value → List PV → Prop := VRs

end Mine
end

-- S2
section
namespace Mine
open PySem PySem.W PyProof.Rows
variable [Z : Zero Frozen]
theorem get?_size (h : Heap) : h.get? h.objs.size = none := by
  cases q : h.get? h.objs.size with
  | none => rfl
  | some o => exact absurd (Heap.lt_size q) (Nat.lt_irrefl _)

section
variable {fr β : List Addr} {h : Heap} {σ : Store}
theorem Ext.update {a : Addr} {f : Obj → Obj} (ha : a ∈ β) : Ext fr β h β (h.update a f) := by
  have k : ∀ b, b ∉ β → (h.update a f).get? b = h.get? b := fun b n => Heap.get?_update_other h f fun e => n (e ▸ ha)
  exact ⟨⟨[], by simp, by simp⟩, fun b o e n _ => (k b n).trans e, fun b o e n => ⟨o.slots, (k b n).trans e⟩⟩

theorem SR.lt (S : SR β h σ) {a : Addr} (ha : a ∈ β) : a < h.objs.size := by
  obtain ⟨_, _, l⟩ := S.isL ha
  exact Heap.lt_size l

theorem CR.mono {β₁ : List Addr} {h₁ : Heap} (S : SR β h σ) (F : FrOk fr h) (x : Ext fr β h β₁ h₁) {a : Addr} {c : Cell} (keep : ∀ xs n, IsL h a xs n → IsL h₁ a xs n) (r : CR β h a c) : CR β₁ h₁ a c := by
  cases c with
  | list ds =>
    obtain ⟨vs, n, l, q⟩ := r
    exact ⟨vs, n, keep _ _ l, VRs.mono S F x q⟩

/-- a new list of the store -/
theorem SR.alloc (S : SR β h σ) (F : FrOk fr h) {vs : List Value} {ds : List PV} (r : VRs β h vs ds) :
    Ext fr β h (β ++ [h.objs.size]) (h.push { cls := .type "list", data := .seq vs.toArray }) ∧ SR (β ++ [h.objs.size]) (h.push { cls := .type "list", data := .seq vs.toArray }) (σ ++ [.list ds]) := by
  have x : Ext fr β h (β ++ [h.objs.size]) (h.push { cls := .type "list", data := .seq vs.toArray }) :=
    ⟨⟨[h.objs.size], rfl, fun a ha => ⟨by simp at ha; subst ha; exact Mine.get?_size h, fun hm => by simp at ha; subst ha; exact Nat.lt_irrefl _ (S.lt hm)⟩⟩, fun a o e _ _ => Heap.get?_push_of_some _ e, fun a o e _ => ⟨o.slots, Heap.get?_push_of_some _ e⟩⟩
  refine ⟨x, ?_, ?_, ?_⟩
  · simp [S.len]
  · refine List.nodup_append.mpr ⟨S.nodup, by simp, fun a ha b hb e => ?_⟩
    have := S.lt ha
    simp at hb
    rw [e, hb] at this
    exact Nat.lt_irrefl _ this
  · intro i a c ha hc
    by_cases hi : i < β.length
    · rw [List.getElem?_append_left hi] at ha
      rw [List.getElem?_append_left (S.len ▸ hi)] at hc
      exact CR.mono S F x (fun xs n l => Heap.get?_push_of_some _ l) (S.cell i a c ha hc)
    · have hb : i = β.length := by
        have := (List.getElem?_eq_some_iff.mp ha).1
        simp at this; omega
      subst hb
      simp at ha
      rw [S.len] at hc
      simp at hc
      subst ha hc
      exact ⟨vs, 0, IsL.new _ _, VRs.mono S F x r⟩

/-- a list of the store with other items -/
theorem SR.update (S : SR β h σ) (F : FrOk fr h) {n : Nat} {a : Addr} {f : Array Value → Array Value} {vs ws : List Value} {m : Nat} {ds : List PV} (ha : β[n]? = some a) (l : IsL h a vs.toArray m) (hf : f vs.toArray = ws.toArray) (r : VRs β h ws ds) :
    Ext fr β h β (h.update a (Obj.mapSeq f)) ∧ SR β (h.update a (Obj.mapSeq f)) (σ.set n (.list ds)) := by
  have hm : a ∈ β := List.mem_of_getElem? ha
  have x : Ext fr β h β (h.update a (Obj.mapSeq f)) := .update hm
  refine ⟨x, by simp [S.len], S.nodup, fun i b c hb hc => ?_⟩
  by_cases e : i = n
  · subst e
    rw [ha] at hb; cases hb
    have hn : i < σ.length := S.len ▸ (List.getElem?_eq_some_iff.mp ha).1
    rw [List.getElem?_set_self hn] at hc
    cases hc
    have q := IsL.update l f
    rw [hf] at q
    exact ⟨ws, _, q, VRs.mono S F x r⟩
  · rw [List.getElem?_set_ne (Ne.symm e)] at hc
    have hne : a ≠ b := fun q => by
      subst q
      have i1 := (List.getElem?_eq_some_iff.mp ha)
      have i2 := (List.getElem?_eq_some_iff.mp hb)
      exact e ((List.getElem_inj S.nodup).mp (i2.2.trans i1.2.symm))
    exact CR.mono S F x (fun xs k q => IsL.update_other q hne _) (S.cell i b c hb hc)
end

section
variable {C : Conf} {A : Around} {fr : List Env} {β : List Addr} {s : Shared} {σ : Store} {Q : Value → Shared → Prop} {E : Value → Shared → Prop}

theorem Post.val {d : PV} {v : Value} {tk : Tok} (P : Post C fr β s relV Q E (.ok d σ)) (S : SR β s.heap σ) (r : VR β s.heap v d) : Q v { s with toks := tk } :=
  P v β s.heap tk .refl S r
theorem Post.alloc {ds : List PV} {vs : List Value} {tk : Tok} (P : Post C fr β s relV Q E (.ok (.ref σ.length) (σ ++ [.list ds]))) (I : Inv C A fr β s.heap σ) (r : VRs β s.heap vs ds) :
    Q (.ref s.heap.objs.size) { s with heap := s.heap.push { cls := .type "list", data := .seq vs.toArray }, toks := tk } := by
  obtain ⟨x, S⟩ := I.sr.alloc I.fns r
  exact P _ _ _ _ x S (.ref (by rw [← I.sr.len]; simp))
theorem Post.tup {ds : List PV} {vs : List Value} {tk : Tok} (P : Post C fr β s relV Q E (.ok (.tup ds) σ)) (I : Inv C A fr β s.heap σ) (r : VRs β s.heap vs ds) :
    Q (.ref s.heap.objs.size) { s with heap := s.heap.push { cls := .type "tuple", data := .seq vs.toArray }, toks := tk } := by
  have x : Ext (frs fr) β s.heap β (s.heap.push { cls := .type "tuple", data := .seq vs.toArray }) := .push _
  exact P _ _ _ _ x (I.sr.keeps I.fns fun a o e _ => Heap.get?_push_of_some _ e) (.tup (IsT.new _ _) (I.monos x r))

theorem sizeLine_ge : 16000000 ≤ sizeLine := by rw [sizeLine_eq]; decide
theorem small_le {n : Nat} (h : small n = true) : n ≤ 100000 := by simpa [small] using h
theorem text_le {x : Str} (h : textOk x = true) : x.length ≤ 100000 := by simpa [textOk] using h

theorem VR.ref_inv {β : List Addr} {h : Heap} {v : Value} {n : Nat} (r : VR β h v (.ref n)) : ∃ a, v = .ref a ∧ β[n]? = some a := by cases r with | ref e => exact ⟨_, rfl, e⟩
theorem list_of {β : List Addr} {h : Heap} {v : Value} {n : Nat} {ds : List PV} (S : SR β h σ) (r : VR β h v (.ref n)) (e : σ[n]? = some (.list ds)) : ∃ a vs m, v = .ref a ∧ β[n]? = some a ∧ IsL h a vs.toArray m ∧ VRs β h vs ds := by
  obtain ⟨a, rfl, ha⟩ := r.ref_inv
  obtain ⟨vs, m, l, q⟩ := S.cell n a _ ha e
  exact ⟨a, vs, m, rfl, ha, l, q⟩

theorem const_ok {c : Const} {d : PV} {env : Env} (e : constOf c = some d) (I : Inv C A fr β s.heap σ) (P : Post C fr β s relV Q E (.ok d σ)) : wpAny (model C.prog C.w) A (constValue env c) Q E s := by
  cases c <;> simp [constOf] at e <;> subst e
  · exact wpAny_pure (P.val (tk := s.toks) I.sr .none)
  · exact wpAny_pure (P.val (tk := s.toks) I.sr (.bool _))
  · exact wpAny_mkInt (P.val I.sr (.int _ _))
  · exact wpAny_mkText (P.val I.sr (.str _ _))

theorem bits_le {a : Int} (h : a.natAbs < 1000000000000) : Builtin.Int.intBits a ≤ 64 := by
  unfold Builtin.Int.intBits
  split
  · exact Nat.zero_le _
  · rename_i h0
    have hn : a.natAbs ≠ 0 := by
      intro q
      apply h0
      have : a = 0 := by omega
      rw [this]; rfl
    have : a.natAbs.log2 < 40 := (Nat.log2_lt hn).mpr (by omega)
    omega

end
section
variable {fr β : List Addr} {h : Heap} {σ : Store}
mutual
theorem VR.reads : ∀ {v : Value} {d : PV}, VR β h v d → d.lay = true → ∃ as, Reads h v d.toD as
  | _, _, .none, _ => ⟨_, .none⟩
  | _, _, .bool b, _ => ⟨_, .bool b⟩
  | _, _, .int i t, _ => ⟨_, .int i t⟩
  | _, _, .str x t, _ => ⟨_, .str x t⟩
  | _, _, .tup e r, hl => by
    rw [PV.lay] at hl
    obtain ⟨as, q⟩ := VRs.reads r hl
    rw [PV.toD]
    exact ⟨as, .tuple e rfl rfl (by simpa using q)⟩
  | _, _, .ref _, hl => by simp [PV.lay] at hl
  | _, _, .rng _, hl => by simp [PV.lay] at hl
  | _, _, .old, hl => by simp [PV.lay] at hl
theorem VRs.reads : ∀ {vs : List Value} {ds : List PV}, VRs β h vs ds → PV.lays ds = true → ∃ as, ReadsAll h vs (PV.toDs ds) as
  | _, _, .nil, _ => ⟨_, .nil⟩
  | _, _, .cons a r, hl => by
    rw [PV.lays, Bool.and_eq_true] at hl
    obtain ⟨as, p⟩ := VR.reads a hl.1
    obtain ⟨bs, q⟩ := VRs.reads r hl.2
    rw [PV.toDs]
    exact ⟨_, .cons p q⟩
end
mutual
theorem lay_can : ∀ d : PV, d.lay = true → d.toD.canLay0 = true ∧ d.toD.depth = d.depth
  | .none, _ => by simp [PV.toD, PyData.canLay0, PyData.depth, PV.depth]
  | .bool _, _ => by simp [PV.toD, PyData.canLay0, PyData.depth, PV.depth]
  | .int _, _ => by simp [PV.toD, PyData.canLay0, PyData.depth, PV.depth]
  | .str s, h => by simp [PV.lay] at h; simp [PV.toD, PyData.canLay0, PyData.depth, PV.depth, h]
  | .tup ds, h => by
    rw [PV.lay] at h
    have q := lays_can ds h
    simp [PV.toD, PyData.canLay0, PyData.depth, PV.depth, q]
  | .ref _, h => by simp [PV.lay] at h
  | .rng _ _, h => by simp [PV.lay] at h
  | .old _, h => by simp [PV.lay] at h
theorem lays_can : ∀ ds : List PV, PV.lays ds = true → PyData.canLayAll0 (PV.toDs ds) = true ∧ PyData.depthAll (PV.toDs ds) = PV.depths ds
  | [], _ => by simp [PV.toDs, PyData.canLayAll0, PyData.depthAll, PV.depths]
  | d :: ds, h => by
    rw [PV.lays, Bool.and_eq_true] at h
    have q1 := lay_can d h.1
    have q2 := lays_can ds h.2
    simp [PV.toDs, PyData.canLayAll0, PyData.depthAll, PV.depths, q1, q2]
end
end

abbrev relT : List Addr → Heap → Value → Bool → Prop := fun _ _ v b => v = .bool b

section
variable {C : Conf} {A : Around} {fr : List Env} {β : List Addr} {s : Shared} {σ : Store} {Q : Value → Shared → Prop} {E : Value → Shared → Prop}

theorem Post.same {α γ : Type} {rel : List Addr → Heap → γ → α → Prop} {Q : γ → Shared → Prop} {d : α} {v : γ} {tk : Tok} (P : Post C fr β s rel Q E (.ok d σ)) (S : SR β s.heap σ) (r : rel β s.heap v d) : Q v { s with toks := tk } :=
  P v β s.heap tk .refl S r

theorem eqAt_plain {A' : Around} {x y : PV} {va vb : Value} (ra : VR β s.heap va x) (rb : VR β s.heap vb y) (hx : x.lay = true) (hy : y.lay = true) (hd : A'.units + x.depth < cLine) : SeqAt.EqAt A' s va vb (pyEq x y) := by
  obtain ⟨as, p⟩ := ra.reads hx
  obtain ⟨bs, q⟩ := rb.reads hy
  have l1 := lay_can x hx
  have l2 := lay_can y hy
  refine SeqAt.eqAt_reads _ _ A' s _ _ _ _ p q l1.1 l2.1 ?_
  have := Nat.min_le_left x.toD.depth y.toD.depth
  omega

theorem lays_mem : ∀ {ds : List PV}, PV.lays ds = true → ∀ {d : PV}, d ∈ ds → d.lay = true
  | d :: ds, h, x, hm => by
    rw [PV.lays, Bool.and_eq_true] at h
    rcases List.mem_cons.mp hm with rfl | hm
    · exact h.1
    · exact lays_mem h.2 hm
theorem depths_mem : ∀ {ds : List PV} {d : PV}, d ∈ ds → d.depth ≤ PV.depths ds
  | d :: ds, x, hm => by
    rw [PV.depths]
    rcases List.mem_cons.mp hm with rfl | hm
    · exact Nat.le_max_left _ _
    · exact Nat.le_trans (depths_mem hm) (Nat.le_max_right _ _)

/-- a test of each item, as the model asks it and as we do -/
theorem items_test {vs : List Value} {ds : List PV} {x : PV} {vx : Value} {A' : Around} (q : VRs β s.heap vs ds) (rx : VR β s.heap vx x) (hl : PV.lays ds = true) (hx : x.lay = true) (hd : A'.units + 2000 < cLine) (hds : PV.depths ds < 2000) :
    ∃ f : Value → Bool, (∀ y ∈ vs, SeqAt.EqAt A' s y vx (f y)) ∧ (∀ (i : Nat) (v : Value) (d : PV), vs[i]? = some v → ds[i]? = some d → f v = pyEq d x) := by
  classical
  refine ⟨fun v => if h : ∃ d, d ∈ ds ∧ VR β s.heap v d then pyEq (Classical.choose h) x else false, fun y hy => ?_, fun i v d hv hdd => ?_⟩
  · obtain ⟨i, hi, rfl⟩ := List.mem_iff_getElem.mp hy
    have hi' : i < ds.length := q.length ▸ hi
    obtain ⟨v, hv, rv⟩ := q.get (List.getElem?_eq_getElem hi')
    rw [List.getElem?_eq_getElem hi] at hv
    cases hv
    have hex : ∃ d, d ∈ ds ∧ VR β s.heap vs[i] d := ⟨_, List.getElem_mem hi', rv⟩
    simp only []
    rw [dif_pos hex]
    have hc := Classical.choose_spec hex
    exact eqAt_plain hc.2 rx (lays_mem hl hc.1) hx (by have := depths_mem hc.1; omega)
  · obtain ⟨v', hv', rv⟩ := q.get hdd
    rw [hv] at hv'; cases hv'
    have hex : ∃ d, d ∈ ds ∧ VR β s.heap v d := ⟨_, List.mem_of_getElem? hdd, rv⟩
    simp only []
    rw [dif_pos hex]
    have hc := Classical.choose_spec hex
    obtain ⟨as, p⟩ := hc.2.reads (lays_mem hl hc.1)
    obtain ⟨bs, q'⟩ := rv.reads (lays_mem hl (List.mem_of_getElem? hdd))
    unfold pyEq
    rw [SeqAt.Reads.unique _ _ _ _ _ (lay_can _ (lays_mem hl hc.1)).1 p q']

theorem any_same : ∀ {vs : List Value} {ds : List PV} {f : Value → Bool} {g : PV → Bool}, vs.length = ds.length → (∀ (i : Nat) (v : Value) (d : PV), vs[i]? = some v → ds[i]? = some d → f v = g d) → vs.any f = ds.any g
  | [], [], _, _, _, _ => rfl
  | v :: vs, d :: ds, f, g, hl, h => by
    rw [List.any_cons, List.any_cons, h 0 v d rfl rfl, any_same (by simpa using hl) fun i v' d' h1 h2 => h (i + 1) v' d' (by simpa using h1) (by simpa using h2)]
  | [], _ :: _, _, _, hl, _ => by simp at hl
  | _ :: _, [], _, _, hl, _ => by simp at hl

theorem isList_of {h : Heap} {a : Addr} {xs : Array Value} {n : Nat} (l : IsL h a xs n) : h.IsList a xs := ⟨_, l, rfl, _, rfl⟩
theorem isTuple_of {h : Heap} {a : Addr} {xs : Array Value} {n : Nat} (l : IsT h a xs n) : h.IsTuple a xs := ⟨_, l, rfl, _, rfl⟩

theorem seqIndex_pick {α : Type} {xs : List α} {i : Int} {x : α} (h : pickAt xs i = some x) : ∃ k, seqIndex? i xs.length = some k ∧ xs[k]? = some x := by
  unfold pickAt at h
  unfold seqIndex?
  split at h
  · rename_i h0
    have hlt := (List.getElem?_eq_some_iff.mp h).1
    refine ⟨i.toNat, ?_, h⟩
    simp only [if_neg (show ¬ i < 0 by omega)]
    rw [if_pos (by simp; omega)]
  · rename_i h0
    split at h
    · rename_i h1
      refine ⟨(i + xs.length).toNat, ?_, h⟩
      simp only [if_pos (show i < 0 by omega)]
      rw [if_pos (by simp; omega)]
    · cases h

end
theorem post_str {x : Str} {Q : Value → Shared → Prop} {s : Shared} (hl : x.length ≤ sizeLine) (h : Q (.str x s.toks) { s with toks := s.toks + 1 }) : (Made.str x).post Q s := ⟨hl, h⟩

theorem take_clip {α : Type} (l : List α) (b : Nat) : l.take (min b l.length) = l.take b := by
  by_cases h : b ≤ l.length
  · rw [Nat.min_eq_left h]
  · rw [Nat.min_eq_right (by omega), List.take_of_length_le (Nat.le_refl _), List.take_of_length_le (by omega)]
theorem drop_clip {α : Type} (l : List α) (b : Nat) : l.drop (min b l.length) = l.drop b := by
  by_cases h : b ≤ l.length
  · rw [Nat.min_eq_left h]
  · rw [Nat.min_eq_right (by omega), List.drop_of_length_le (Nat.le_refl _), List.drop_of_length_le (by omega)]

/-- the places of a cut -/
theorem cut_places {α : Type} (l : List α) (lo hi : Option Nat) :
    (l.drop (min (lo.getD 0) l.length)).take ((hi.elim l.length fun b => min b l.length) - min (lo.getD 0) l.length) = cut l lo hi := by
  unfold cut
  cases hi with
  | none =>
    simp only [Option.elim]
    rw [drop_clip, List.take_of_length_le]
    rw [List.length_drop]; omega
  | some b =>
    simp only [Option.elim]
    rw [drop_clip, List.drop_take]
    by_cases hb : b ≤ l.length
    · rw [Nat.min_eq_left hb]
      by_cases ha : lo.getD 0 ≤ l.length
      · rw [Nat.min_eq_left ha]
      · rw [List.drop_of_length_le (by omega)]; simp
    · rw [Nat.min_eq_right (by omega)]
      rw [List.take_of_length_le (by rw [List.length_drop]; omega), List.take_of_length_le (by rw [List.length_drop]; omega)]

theorem slicePick_cut (vs : List Value) (lo hi : Option Nat) : slicePick vs.toArray (lo.map fun (n : Nat) => (n : Int)) (hi.map fun (n : Nat) => (n : Int)) none = (cut vs lo hi).toArray := by
  rw [slicePick_plain, ← cut_places]
  cases lo <;> cases hi <;> simp [clipAt_nat]

theorem VRs.cut {β : List Addr} {h : Heap} {vs : List Value} {ds : List PV} (q : VRs β h vs ds) (lo hi : Option Nat) : VRs β h (Mine.cut vs lo hi) (Mine.cut ds lo hi) := by
  unfold Mine.cut
  cases hi with
  | none => exact q.drop _
  | some b => exact (q.take b).drop _

theorem cut_length {α : Type} (l : List α) (lo hi : Option Nat) : (cut l lo hi).length ≤ l.length := by
  unfold cut
  cases hi with
  | none => show (l.drop _).length ≤ _; rw [List.length_drop]; omega
  | some b => show ((l.take b).drop _).length ≤ _; simp only [List.length_drop, List.length_take]; omega

section
variable {C : Conf} {A : Around} {fr : List Env} {β : List Addr} {s : Shared} {σ : Store} {Q : Value → Shared → Prop} {E : Value → Shared → Prop}

inductive IsBound : Value → Option Nat → Prop
  | none : IsBound .none none
  | int (n : Nat) (t : Tok) : n < 2 ^ 62 → IsBound (.int n t) (some n)

theorem bound_is {v : Value} {d : PV} {b : Option Nat} {h : Heap} (r : VR β h v d) (e : bound d = some b) : IsBound v b := by
  unfold bound at e
  split at e
  · cases r; cases e; exact .none
  · rename_i i
    cases r
    split at e
    · rename_i hi
      cases e
      have : i = (i.toNat : Int) := by omega
      rw [this]
      rw [show (((i.toNat : Nat) : Int)).toNat = i.toNat by omega]
      exact .int _ _ (by omega)
    · cases e
  · cases e

theorem bound_part {v : Value} {b : Option Nat} (r : IsBound v b) : IsPart v (b.map fun (n : Nat) => (n : Int)) := by
  cases r with
  | none => exact .none
  | int n t _ => exact .int _ _

theorem adjust_nat (lo hi : Option Nat) (n : Nat) : Builtin.Slice.sliceAdjust (lo.map fun (n : Nat) => (n : Int)) (hi.map fun (n : Nat) => (n : Int)) 1 (n : Int) = (((min (lo.getD 0) n : Nat) : Int), ((hi.elim n fun b => min b n : Nat) : Int)) := by
  unfold Builtin.Slice.sliceAdjust
  have h1 : ¬ ((1 : Int) < 0) := by omega
  cases lo with
  | none =>
    cases hi with
    | none => simp [h1]
    | some b =>
      have h2 : ¬ ((b : Int) < 0) := by omega
      simp [h1, h2]
      omega
  | some a =>
    have h3 : ¬ ((a : Int) < 0) := by omega
    cases hi with
    | none =>
      simp [h1, h3]
      omega
    | some b =>
      have h2 : ¬ ((b : Int) < 0) := by omega
      simp [h1, h2, h3]
      omega
theorem places_nat (a b : Nat) : Builtin.Slice.slicePlaces (a : Int) (b : Int) 1 = b - a := by
  unfold Builtin.Slice.slicePlaces
  have h1 : (1 : Int) > 0 := by omega
  simp only [h1, if_true, Int.ediv_one]
  split <;> omega

theorem slicePart_bound {prog : Program} {w : World} {v : Value} {b : Option Nat} {Q : Option Int → Shared → Prop} (r : IsBound v b) (h : Q (b.map fun (n : Nat) => (n : Int)) s) : wpAny (model prog w) A (Builtin.Slice.slicePartIndex v) Q E s := by
  cases r with
  | none => exact slicePart_none h
  | int n t _ => exact slicePart_int h

theorem sliceApplied_nat {prog : Program} {w : World} {sl : Addr} {vl vu : Value} {lo hi : Option Nat} {n : Nat} {Q : Int × Int × Nat → Shared → Prop} (hs : s.heap.IsSliceOf sl vl vu .none) (rl : IsBound vl lo) (ru : IsBound vu hi)
    (h : Q (((min (lo.getD 0) n : Nat) : Int), 1, (hi.elim n fun b => min b n) - min (lo.getD 0) n) s) : wpAny (model prog w) A (Builtin.Slice.sliceApplied (.ref sl) (pure (n : Int))) Q E s := by
  obtain ⟨os, hos, hcs, hds⟩ := id hs
  unfold Builtin.Slice.sliceApplied Builtin.Slice.sliceFields
  refine wpAny_bind (wpAny_bind (wpAny_field hos hds (x := vl) rfl (wpAny_bind (wpAny_field hos hds (x := vu) rfl (wpAny_bind (wpAny_field hos hds (x := .none) rfl (wpAny_pure ?_)))))))
  refine wpAny_bind (slicePart_none ?_)
  show wpAny _ _ (if ((1 : Int) == 0) = true then _ else _) _ _ s
  rw [if_neg (by decide)]
  refine wpAny_bind (slicePart_bound rl (wpAny_bind (slicePart_bound ru (wpAny_bind (wpAny_pure ?_)))))
  show wpAny _ _ (match Builtin.Slice.sliceAdjust (lo.map fun (n : Nat) => (n : Int)) (hi.map fun (n : Nat) => (n : Int)) 1 (n : Int) with | (lo, hi) => pure (lo, (1 : Int), Builtin.Slice.slicePlaces lo hi 1)) _ _ s
  rw [adjust_nat]
  show wpAny _ _ (pure (((min (lo.getD 0) n : Nat) : Int), (1 : Int), Builtin.Slice.slicePlaces ((min (lo.getD 0) n : Nat) : Int) ((hi.elim n fun b => min b n : Nat) : Int) 1)) _ _ s
  rw [places_nat]
  exact wpAny_pure h

theorem pick_nat (xs : List Value) (a k : Nat) : ((List.range k).filterMap fun (j : Nat) => xs.toArray[((a : Int) + (j : Int) * 1).toNat]?).toArray = ((xs.drop a).take k).toArray := by
  have e : (fun (j : Nat) => xs.toArray[((a : Int) + (j : Int) * 1).toNat]?) = fun j => xs.toArray[a + j]? := by
    funext j
    have : ((a : Int) + (j : Int) * 1).toNat = a + j := by omega
    rw [this]
  rw [e]
  have := pick_run xs.toArray a k
  rw [List.filterMap_map] at this
  have e2 : ((fun x => xs.toArray[x]?) ∘ fun x => a + x) = fun j => xs.toArray[a + j]? := rfl
  rw [e2] at this
  rw [this]

theorem slice_tuple {t sl : Addr} {vs : List Value} {n : Nat} {vl vu : Value} {lo hi : Option Nat} (ht : IsT s.heap t vs.toArray n) (hs : s.heap.IsSliceOf sl vl vu .none) (rl : IsBound vl lo) (ru : IsBound vu hi)
    (hsz : vs.length ≤ sizeLine) (h0 : cut vs lo hi = vs → Q (.ref t) s)
    (h : Q (.ref s.heap.objs.size) { s with heap := s.heap.push { cls := .type "tuple", data := .seq (cut vs lo hi).toArray } }) : wpAny (model C.prog C.w) A (getItem (.ref t) (.ref sl)) Q E s := by
  have ht' : IsTup s.heap t vs.toArray := ⟨_, ht, rfl, _, rfl⟩
  obtain ⟨os, hos, hcs, hds⟩ := id hs
  have hTs : s.TypeIs (.ref sl) "slice" := ⟨os, hos, hcs⟩
  unfold getItem
  try with_reducible refine wpAny_holding ?_
  first | refine wpAny_bind (wpAny_pure ?_) | skip
  refine wpAny_bind (wpAny_sequenceKey ht'.typeIs (by decide) ?_)
  refine wpAny_bind (wpAny_callSpecial?_slot (name := Str.ofString "__getitem__") ht'.typeIs PyProof.Rows.slot_tuple_getitem
    (wpAny_call_entry PyProof.Rows.slot_tuple_getitem ht'.typeIs PyProof.Rows.entry_tuple_getitem ?_ (PyProof.Rows.args_tuple_getitem _ _)))
  show wpAny _ _ (Builtin.Tuple.tupleItemsOf (.ref t) >>= _) _ _ s
  refine wpAny_bind (tupleItemsOf_ ht' ?_)
  refine wpAny_bind (wpAny_typeOf hTs ?_)
  rw [if_pos (by decide)]
  have esz : (vs.toArray.size : Int) = ((vs.length : Nat) : Int) := by simp
  rw [esz]
  refine wpAny_bind (sliceApplied_nat hs rl ru ?_)
  have hcl := cut_places vs lo hi
  have hdrop : sizeOk (.seq (cut vs lo hi).toArray) := by
    show (cut vs lo hi).toArray.size ≤ sizeLine
    rw [List.size_toArray]
    exact Nat.le_trans (cut_length _ _ _) hsz
  show wpAny _ _ (if (((min (lo.getD 0) vs.length : Nat) : Int) == 0 && (1 : Int) == 1 && ((hi.elim vs.length fun b => min b vs.length) - min (lo.getD 0) vs.length) == vs.toArray.size) = true then _ else _) _ _ s
  split
  · rename_i hc
    simp only [Bool.and_eq_true, beq_iff_eq, List.size_toArray] at hc
    have h00 : min (lo.getD 0) vs.length = 0 := by omega
    have hw : cut vs lo hi = vs := by
      rw [← hcl, h00, List.drop_zero, Nat.sub_zero]
      have := hc.2
      rw [h00, Nat.sub_zero] at this
      rw [this, List.take_of_length_le (Nat.le_refl _)]
    refine wpAny_bind (m := Builtin.Tuple.tupleIsExact (.ref t)) (wpAny_bind (wpAny_typeOf ht'.typeIs (wpAny_pure ?_)))
    show wpAny _ _ (if (Value.type "tuple" == Value.type "tuple") = true then _ else _) _ _ s
    rw [if_pos (by decide)]
    exact wpAny_bind (wpAny_rule (wpAny_pure ⟨_, rfl, wpAny_pure (h0 hw)⟩))
  · rw [pick_nat, hcl]
    first
      | exact wpAny_bind (m := Builtin.Tuple.tupleExact _) (wpAny_newObj_type (wpAny_pure ⟨_, rfl, wpAny_pure h⟩) hdrop)
      | exact wpAny_bind (m := Builtin.Tuple.tupleExact _) (wpAny_newObj_type (wpAny_bind (wpAny_pure (wpAny_pure ⟨_, rfl, wpAny_pure h⟩))) hdrop)
      | exact wpAny_bind (wpAny_bind (m := Builtin.Tuple.tupleExact _) (wpAny_newObj_type (wpAny_pure (wpAny_pure ⟨_, rfl, wpAny_pure h⟩)) hdrop))
      | exact wpAny_bind (wpAny_bind (m := Builtin.Tuple.tupleExact _) (wpAny_newObj_type (wpAny_pure ⟨_, rfl, wpAny_pure h⟩) hdrop))
end
theorem idx_nat (lo hi : Option Nat) (len : Nat) : Builtin.Str.strSliceIndices (lo.map fun (n : Nat) => (n : Int)) (hi.map fun (n : Nat) => (n : Int)) 1 len
    = (List.range ((hi.elim len fun b => min b len) - min (lo.getD 0) len)).map fun k => min (lo.getD 0) len + k := by
  have fin : ∀ a b : Nat, sliceRange (a : Int) (b : Int) 1 = (List.range (b - a)).map fun k => a + k := by
    intro a b
    simp only [sliceRange, show ((1 : Int) > 0) = True from by simp, if_true]
    by_cases hlt : (a : Int) < b
    · have e3 : (((b : Int) - a + 1 - 1) / 1).toNat = b - a := by first | omega | (simp; done) | (simp; omega)
      simp only [hlt, if_true, e3]
      refine List.map_congr_left fun k _ => ?_
      omega
    · have : b - a = 0 := by omega
      simp [hlt, this]
  have clip : ∀ n : Nat, max (0 : Int) (min (if (n : Int) < 0 then (n : Int) + len else n) len) = ((min n len : Nat) : Int) := by
    intro n
    rw [if_neg (by omega)]; omega
  unfold Builtin.Str.strSliceIndices
  simp only [show ((1 : Int) > 0) = True from by simp, if_true]
  rw [← fin]
  congr 1
  · cases lo with
    | none => simp
    | some n => simpa using clip n
  · cases hi with
    | none => simp
    | some n => simpa using clip n

section
variable {C : Conf} {A : Around} {fr : List Env} {β : List Addr} {s : Shared} {σ : Store} {Q : Value → Shared → Prop} {E : Value → Shared → Prop}

/-- a text's cut -/
theorem sliceMade_cut {x : Str} {t : Tok} {vl vu : Value} {lo hi : Option Nat} (rl : IsBound vl lo) (ru : IsBound vu hi) :
    ∃ l u, vl = partValue l ∧ vu = partValue u ∧ (sliceMade x t l u none = .val (.str x t) ∧ (⟨(cut x.cps.toList lo hi).toArray⟩ : Str) = x ∨ sliceMade x t l u none = .str ⟨(cut x.cps.toList lo hi).toArray⟩) := by
  have key : ∀ l u : Option (Int × Tok), l.map (·.1) = lo.map (fun (n : Nat) => (n : Int)) → u.map (·.1) = hi.map (fun (n : Nat) => (n : Int)) →
      (sliceMade x t l u none = .val (.str x t) ∧ (⟨(cut x.cps.toList lo hi).toArray⟩ : Str) = x ∨ sliceMade x t l u none = .str ⟨(cut x.cps.toList lo hi).toArray⟩) := by
    intro l u hl hu
    have hp : ((slicePicked x l u none).filterMap (x.cps[·]?)).toArray = (cut x.cps.toList lo hi).toArray ∧ (slicePicked x l u none).length = (cut x.cps.toList lo hi).length := by
      have e : slicePicked x l u none = (List.range ((hi.elim x.length fun b => min b x.length) - min (lo.getD 0) x.length)).map fun k => min (lo.getD 0) x.length + k := by
        unfold slicePicked
        rw [hl, hu]
        exact idx_nat lo hi x.length
      have q := cut_places x.cps.toList lo hi
      have hx : x.cps.toList.length = x.length := by simp [Str.length]
      rw [hx] at q
      have q2 := pick_run x.cps (min (lo.getD 0) x.length) ((hi.elim x.length fun b => min b x.length) - min (lo.getD 0) x.length)
      rw [e, q2, q]
      refine ⟨rfl, ?_⟩
      rw [← q, List.length_map, List.length_range, List.length_take, List.length_drop, hx]
      cases hi <;> simp <;> omega
    unfold sliceMade
    split
    · rename_i hc
      refine .inl ⟨rfl, ?_⟩
      simp at hc
      have h1 := hp.2.symm.trans hc
      obtain ⟨cps⟩ := x
      have e : cut cps.toList lo hi = cps.toList := by
        refine (List.Sublist.eq_of_length ?_ (by simpa [Str.length] using h1))
        unfold cut
        cases hi with
        | none => exact List.drop_sublist _ _
        | some b => exact (List.drop_sublist _ _).trans (List.take_sublist _ _)
      rw [e]
    · exact .inr (by rw [hp.1])
  cases rl with
  | none =>
    cases ru with
    | none => exact ⟨none, none, rfl, rfl, key _ _ rfl rfl⟩
    | int n t' _ => exact ⟨none, some (n, t'), rfl, rfl, key _ _ rfl rfl⟩
  | int n t' _ =>
    cases ru with
    | none => exact ⟨some (n, t'), none, rfl, rfl, key _ _ rfl rfl⟩
    | int n' t'' _ => exact ⟨some (n, t'), some (n', t''), rfl, rfl, key _ _ rfl rfl⟩

/-- what a built-in name stands for -/
def isCallee : Value → Prop
  | .builtin _ => True
  | .type _ => True
  | _ => False

theorem natAbs_log {a : Int} (h : a.natAbs < 10 ^ 9) : a.natAbs.log2 < 1920 := by
  by_cases h0 : a.natAbs = 0
  · rw [h0]; decide
  · have : a.natAbs.log2 < 30 := (Nat.log2_lt h0).mpr (Nat.lt_trans h (by decide))
    omega

theorem keeps_ext {h₁ : Heap} (I : Inv C A fr β s.heap σ) (k : ∀ c o, s.heap.get? c = some o → h₁.get? c = some o) : Ext (frs fr) β s.heap β h₁ ∧ SR β h₁ σ :=
  ⟨.of_keeps k, I.sr.keeps I.fns fun a o e _ => k a o e⟩

end
/-- objects that values lean on -/
def Core (o : Obj) : Prop := (∃ xs n, o.data = .seq xs n) ∨ (o.cls = .type "range" ∧ ∃ fs, o.data = .fields fs)
def Keep3 (β : List Addr) (h h₁ : Heap) : Prop := ∀ a o, h.get? a = some o → Core o → (o.cls = .type "list" → a ∈ β) → h₁.get? a = some o
/-- nothing leans on this object -/
def Safe (β : List Addr) (h : Heap) (J : Addr) : Prop := ∀ o, h.get? J = some o → Core o → o.cls = .type "list" ∧ J ∉ β
theorem Safe.of {β : List Addr} {h : Heap} {J : Addr} (hJ : ∀ o, h.get? J = some o → ¬ Core o) : Safe β h J := fun o e c => absurd c (hJ o e)
theorem Safe.list {β : List Addr} {h : Heap} {J : Addr} {xs : Array Value} {n : Nat} (l : IsL h J xs n) (hn : J ∉ β) : Safe β h J := fun o e _ => by
  have q := e.symm.trans l; cases q; exact ⟨rfl, hn⟩
theorem Safe.none {β : List Addr} {h : Heap} {J : Addr} (hJ : h.get? J = .none) : Safe β h J := fun o e _ => by rw [hJ] at e; cases e

section
variable {fr β β₁ : List Addr} {h h₁ h₂ : Heap} {σ : Store}
theorem VR.core {h h₁ : Heap} {β : List Addr} (k : Keep3 β h h₁) {v : Value} {d : PV} (x : VR β h v d) : VR β h₁ v d := by
  induction x using VR.rec (motive_2 := fun vs ds _ => VRs β h₁ vs ds) with
  | none => exact .none
  | bool b => exact .bool b
  | int i t => exact .int i t
  | str x t => exact .str x t
  | tup e _ ih => exact .tup (k _ _ e (.inl ⟨_, _, rfl⟩) (fun q => by simp at q)) ih
  | ref e => exact .ref e
  | rng e => exact .rng (k _ _ e (.inr ⟨rfl, _, rfl⟩) (fun q => by simp at q))
  | old => exact .old
  | nil => exact .nil
  | cons _ _ a b => exact .cons a b
theorem VRs.core {h h₁ : Heap} {β : List Addr} (k : Keep3 β h h₁) {vs : List Value} {ds : List PV} (x : VRs β h vs ds) : VRs β h₁ vs ds := by
  induction vs generalizing ds with
  | nil => cases x; exact .nil
  | cons v vs ih => cases x with | cons a r => exact .cons (a.core k) (ih r)
theorem SR.core (S : SR β h σ) (k : Keep3 β h h₁) : SR β h₁ σ := by
  refine ⟨S.len, S.nodup, fun i a c ha hc => ?_⟩
  have q := S.cell i a c ha hc
  cases c with
  | list ds =>
    obtain ⟨vs, n, l, r⟩ := q
    exact ⟨vs, n, k _ _ l (.inl ⟨_, _, rfl⟩) (fun _ => List.mem_of_getElem? ha), r.core k⟩

theorem keep3_but {J : Addr} (x : Heap.ExtBut J h h₁) (hJ : Safe β h J) : Keep3 β h h₁ := fun a o e c m =>
  x a o (fun q => by subst q; exact (hJ o e c).2 (m (hJ o e c).1)) e

theorem Ext.but (x : Ext fr β h β₁ h₁) {J : Addr} (hJ : h.get? J = none) (k : Heap.ExtBut J h₁ h₂) : Ext fr β h β₁ h₂ := by
  have ne : ∀ a o, h.get? a = some o → a ≠ J := fun a o e q => by subst q; rw [hJ] at e; cases e
  refine ⟨x.grow, fun a o e n f => k a o (ne a o e) (x.keep a o e n f), fun a o e n => ?_⟩
  obtain ⟨sl, q⟩ := x.slots a o e n
  exact ⟨sl, k a _ (ne a o e) q⟩
end

section
variable {C : Conf} {A : Around} {fr : List Env} {β β₁ : List Addr} {h h₁ : Heap} {σ σ₁ : Store}
theorem FunFrames.move {base : Heap} {fr : List Env} (ff : h.FunFrames base fr) (fx : FrOk (frs fr) h₁) : h₁.FunFrames base fr := by
  induction fr with
  | nil => trivial
  | cons e r ih =>
    obtain ⟨hk, ⟨L, o, hf, hn, ho, hd⟩, hr⟩ := ff
    have hL : L ∈ frs (e :: r) := List.mem_filterMap.mpr ⟨e, List.mem_cons_self, hf⟩
    obtain ⟨m, o', es, ep, ho', hd', q⟩ := fx L hL
    refine ⟨hk, ⟨L, o', hf, hn, ho', fun vs q => by rw [hd'] at q; cases q⟩, ih hr fun a ha => fx a ?_⟩
    obtain ⟨e', he', q'⟩ := List.mem_filterMap.mp ha
    exact List.mem_filterMap.mpr ⟨e', List.mem_cons_of_mem _ he', q'⟩
theorem Inv.move (I : Inv C A fr β h σ) (st : C.base.StaysIn h₁) (fx : FrOk (frs fr) h₁) (S : SR β₁ h₁ σ₁) (fs : ∀ a ∈ β₁, C.base.get? a = none) : Inv C A fr β₁ h₁ σ₁ :=
  ⟨I.hh, I.frames, st, FunFrames.move I.ff fx, fx, S, fs, I.glob, I.bui, I.bfit, I.nolim, I.inK, I.old⟩
theorem Inv.but {J : Addr} (I : Inv C A fr β h σ) (x : Heap.ExtBut J h h₁) (hb : C.base.get? J = none) (hJ : Safe β h J) (hn : J ∈ frs fr → ∃ m, h₁.Ns J m) : Inv C A fr β h₁ σ := by
  refine I.move (fun a o e => x a o (fun q => by subst q; rw [hb] at e; cases e) (I.stays a o e)) (fun L hL => ?_) (I.sr.core (keep3_but x hJ)) I.fresh
  by_cases q : L = J
  · subst q; exact hn hL
  · obtain ⟨m, o, es, ep, ho, r⟩ := I.fns L hL
    exact ⟨m, o, es, ep, x L o q ho, r⟩
theorem ns_core {L : Addr} {m : Str → Option Value} (n : h.Ns L m) : Safe β h L := .of fun o e c => by
  obtain ⟨o', es, ep, ho, hd, _⟩ := n
  rw [e] at ho; cases ho
  rcases c with ⟨xs, n, q⟩ | ⟨_, fs, q⟩ <;> rw [hd] at q <;> cases q
theorem cell_core {c : Addr} {v : Option Value} (n : h.IsCell c v) : Safe β h c := .of fun o e c => by
  obtain ⟨o', ho, hd⟩ := n
  rw [e] at ho; cases ho
  rcases c with ⟨xs, n, q⟩ | ⟨_, fs, q⟩ <;> rw [hd] at q <;> cases q
theorem SR.not_seq (S : SR β h σ) {a : Addr} {o : Obj} (e : h.get? a = some o) (hd : ∀ xs n, o.data ≠ .seq xs n) : a ∉ β := fun hm => by
  obtain ⟨xs, n, l⟩ := S.isL hm
  have q := e.symm.trans l; cases q; exact hd _ _ rfl

/-! ## the names -/
structure EOK (env : Env) (N : Names) : Prop where
  kind : env.scope.kind = .function
  names : env.scope.names = N
  glob : env.globals = mainGlobals
  bui : env.builtins = builtinsNs

structure VOK (env : Env) (N : Names) (β : List Addr) (h : Heap) (ρ : Vars) : Prop where
  loc : ∃ m, h.Ns env.locals m ∧ ∀ x d, N.lookup x = some .local → ρ x = some d → ∃ v, m x = some v ∧ VR β h v d
  cel : ∀ x, N.lookup x = some .cell → ∃ c, env.cells.lookup x = some c ∧ ∃ ov, h.IsCell c ov ∧ ∀ d, ρ x = some d → ∃ v, ov = some v ∧ VR β h v d

variable {env : Env} {N : Names} {ρ : Vars}
theorem ns_slots (S : SR β h σ) {fr : List Addr} (x : Ext fr β h β₁ h₁) {L : Addr} {m : Str → Option Value} (n : h.Ns L m) : h₁.Ns L m := by
  obtain ⟨o, es, ep, ho, hd, r⟩ := n
  obtain ⟨sl, q⟩ := x.slots L o ho (S.not_seq ho fun xs n q => by rw [hd] at q; cases q)
  exact ⟨_, es, ep, q, hd, r⟩
theorem cell_slots (S : SR β h σ) {fr : List Addr} (x : Ext fr β h β₁ h₁) {L : Addr} {m : Option Value} (n : h.IsCell L m) : h₁.IsCell L m := by
  obtain ⟨o, ho, hd⟩ := n
  obtain ⟨sl, q⟩ := x.slots L o ho (S.not_seq ho fun xs n q => by rw [hd] at q; cases q)
  exact ⟨_, q, hd⟩
theorem VOK.next (V : VOK env N β h ρ) (I : Inv C A fr β h σ) (x : Ext (frs fr) β h β₁ h₁) : VOK env N β₁ h₁ ρ := by
  refine ⟨?_, fun y hy => ?_⟩
  · obtain ⟨m, n, q⟩ := V.loc
    refine ⟨m, ns_slots I.sr x n, fun y d hy hd => ?_⟩
    obtain ⟨v, hv, r⟩ := q y d hy hd
    exact ⟨v, hv, I.mono x r⟩
  · obtain ⟨c, hc, ov, n, q⟩ := V.cel y hy
    refine ⟨c, hc, ov, cell_slots I.sr x n, fun d hd => ?_⟩
    obtain ⟨v, hv, r⟩ := q d hd
    exact ⟨v, hv, I.mono x r⟩
/-- some other object turns -/
theorem VOK.but {J : Addr} (V : VOK env N β h ρ) (x : Heap.ExtBut J h h₁) (hJ : Safe β h J) (hl : env.locals ≠ J) (hc : ∀ y c, N.lookup y = some .cell → env.cells.lookup y = some c → c ≠ J) : VOK env N β h₁ ρ := by
  have k := keep3_but x hJ
  refine ⟨?_, fun y hy => ?_⟩
  · obtain ⟨m, n, q⟩ := V.loc
    refine ⟨m, n.at' fun o e => x _ o hl e, fun y d hy hd => ?_⟩
    obtain ⟨v, hv, r⟩ := q y d hy hd
    exact ⟨v, hv, r.core k⟩
  · obtain ⟨c, hcc, ov, n, q⟩ := V.cel y hy
    refine ⟨c, hcc, ov, ?_, fun d hd => ?_⟩
    · obtain ⟨o, ho, hd⟩ := n
      exact ⟨o, x _ o (hc y c hy hcc) ho, hd⟩
    obtain ⟨v, hv, r⟩ := q d hd
    exact ⟨v, hv, r.core k⟩

/-! ## going through -/
def ItemsOf (v : PV) (σ : Store) (ds : List PV) : Prop := match v with
  | .tup es => ds = es
  | .ref n => σ[n]? = some (.list ds)
  | .str x => ds = x.cps.toList.map fun c => .str ⟨#[c]⟩
  | .rng a b => (ds = (List.range (b - a).toNat).map fun (i : Nat) => PV.int (a + (i : Int))) ∧ a.natAbs < 2 ^ 60 ∧ b.natAbs < 2 ^ 60
  | _ => False

def ItAt (β : List Addr) (h : Heap) (v : PV) (I : Addr) (i : Nat) : Prop := match v with
  | .tup ds => ∃ a vs n, IsT h a vs.toArray n ∧ VRs β h vs ds ∧ h.IsTupleIter I a i
  | .ref n => ∃ a, β[n]? = some a ∧ h.IsListIter I a i
  | .str x => ∃ k t, (k = "str_ascii_iterator" ∨ k = "str_iterator") ∧ h.IsStrIter I k x t i
  | .rng a b => IsRangeIter h I (a + (i : Int)) (((b - a).toNat : Int) - (i : Int)) 1
  | _ => False

theorem ItAt.obj {v : PV} {I : Addr} {i : Nat} (x : ItAt β h v I i) : ∃ o, h.get? I = some o ∧ ¬ Core o ∧ ∃ fs, o.data = .fields fs := by
  have key : ∀ o : Obj, (∃ k : String, o.cls = .type k ∧ k ≠ "range") → (∃ fs, o.data = .fields fs) → ¬ Core o := by
    rintro o ⟨k, hk, hne⟩ ⟨fs, hf⟩ (⟨xs, n, q⟩ | ⟨q, _⟩)
    · rw [hf] at q; cases q
    · rw [hk] at q; cases q; exact hne rfl
  unfold ItAt at x
  split at x
  · obtain ⟨a, vs, n, _, _, o, ho, hc, hd⟩ := x; exact ⟨o, ho, key o ⟨_, hc, by decide⟩ ⟨_, hd⟩, _, hd⟩
  · obtain ⟨a, _, o, ho, hc, hd⟩ := x; exact ⟨o, ho, key o ⟨_, hc, by decide⟩ ⟨_, hd⟩, _, hd⟩
  · obtain ⟨k, t, hk, o, ho, hc, hd⟩ := x
    refine ⟨o, ho, key o ⟨_, hc, ?_⟩ ⟨_, hd⟩, _, hd⟩
    rcases hk with rfl | rfl <;> decide
  · exact ⟨_, x, key _ ⟨_, rfl, by decide⟩ ⟨_, rfl⟩, _, rfl⟩
  · exact x.elim
theorem ItAt.core {v : PV} {I : Addr} {i : Nat} (x : ItAt β h v I i) : Safe β h I := .of fun o e => by
  obtain ⟨o', ho, hc, _⟩ := x.obj
  rw [e] at ho; cases ho; exact hc
theorem ItAt.not_fr {v : PV} {I : Addr} {i : Nat} (x : ItAt β h v I i) {fr : List Addr} (F : FrOk fr h) : I ∉ fr := by
  obtain ⟨o, ho, hc, fs, hd⟩ := x.obj
  exact F.not ho fun es n q => by rw [hd] at q; cases q
theorem ItAt.next {v : PV} {I : Addr} {i : Nat} (y : ItAt β h v I i) (II : Inv C A fr β h σ) (x : Ext (frs fr) β h β₁ h₁) : ItAt β₁ h₁ v I i := by
  have nf := y.not_fr II.fns
  obtain ⟨o, ho, hc, fs, hd⟩ := y.obj
  have k : h₁.get? I = some o := x.keep I o ho (II.sr.not_seq ho fun xs n q => by rw [hd] at q; cases q) nf
  have kk : ∀ o', h.get? I = some o' → h₁.get? I = some o' := fun o' e => by rw [ho] at e; cases e; exact k
  unfold ItAt at y ⊢
  split at y
  · obtain ⟨a, vs, n, l, q, o', ho', r⟩ := y
    exact ⟨a, vs, n, x.keep _ _ l (II.sr.not_in l (by simp)) (II.fns.not l (by intro es n q; cases q)), II.monos x q, o', kk _ ho', r⟩
  · obtain ⟨a, ha, o', ho', r⟩ := y; exact ⟨a, x.at? ha, o', kk _ ho', r⟩
  · obtain ⟨c, t, hk, o', ho', r⟩ := y; exact ⟨c, t, hk, o', kk _ ho', r⟩
  · exact kk _ y
  · exact y.elim
/-- another object turns -/
theorem ItAt.but {v : PV} {I J : Addr} {i : Nat} (y : ItAt β h v I i) (x : Heap.ExtBut J h h₁) (hJ : Safe β h J) (hne : I ≠ J) : ItAt β h₁ v I i := by
  have k := keep3_but x hJ
  unfold ItAt at y ⊢
  split at y
  · obtain ⟨a, vs, n, l, q, o', ho', r⟩ := y
    exact ⟨a, vs, n, k _ _ l (.inl ⟨_, _, rfl⟩) (fun q => by simp at q), q.core k, o', x _ _ hne ho', r⟩
  · obtain ⟨a, ha, o', ho', r⟩ := y; exact ⟨a, ha, o', x _ _ hne ho', r⟩
  · obtain ⟨c, t, hk, o', ho', r⟩ := y; exact ⟨c, t, hk, o', x _ _ hne ho', r⟩
  · exact x _ _ hne y
  · exact y.elim
end

section
variable {C : Conf} {A : Around} {fr : List Env} {β : List Addr} {s : Shared} {σ : Store} {E : Value → Shared → Prop}

theorem isTuple_at {h : Heap} {a : Addr} {vs : Array Value} {n : Nat} (l : IsT h a vs n) : h.IsTuple a vs := ⟨_, l, rfl, _, rfl⟩

theorem pyIter_ok {v : PV} {ds : List PV} {vo : Value} {Q : Value → Shared → Prop} (e : ItemsOf v σ ds) (I : Inv C A fr β s.heap σ) (ro : VR β s.heap vo v)
    (h : ∀ o tk, ItAt β (s.heap.push o) v s.heap.objs.size 0 → Q (.ref s.heap.objs.size) { s with heap := s.heap.push o, toks := tk }) : wpAny (model C.prog C.w) A (pyIter vo) Q E s := by
  unfold ItemsOf at e
  split at e
  · cases ro with
    | tup l q =>
      refine wpAny_pyIter_tuple (isTuple_at l) (h _ s.toks ?_)
      exact ⟨_, _, _, Heap.get?_push_of_some _ l, I.monos (.push _) q, _, Heap.get?_push_size _ rfl, rfl, rfl⟩
  · obtain ⟨a1, vs, m1, rfl, h1, l1, q1⟩ := list_of I.sr ro e
    exact wpAny_pyIter_list (isList_of l1) (h _ s.toks ⟨a1, h1, _, Heap.get?_push_size _ rfl, rfl, rfl⟩)
  · cases ro with
    | str _ t =>
      rename_i x
      cases ha : x.cps.all (· < 128)
      · exact wpAny_pyIter_wide ha (h _ s.toks ⟨_, t, .inr rfl, _, Heap.get?_push_size _ rfl, rfl, rfl⟩)
      · exact wpAny_pyIter_ascii ha (h _ s.toks ⟨_, t, .inl rfl, _, Heap.get?_push_size _ rfl, rfl, rfl⟩)
  · rename_i a b
    cases ro with
    | rng l =>
      have hb := e.2
      refine wpAny_pyIter_range l (small_one (by omega) (by omega) (by omega) (by omega)) (h _ s.toks ?_)
      show IsRangeIter _ _ _ _ _
      have e2 : Builtin.Range.rangeSize a b 1 = ((b - a).toNat : Int) := by
        rw [rangeSize_one]; split <;> omega
      rw [e2]
      refine (Heap.get?_push_size _ rfl).trans ?_
      simp
  · exact e.elim

theorem next_item {v : PV} {ds : List PV} {d : PV} {I : Addr} {i : Nat} {Q : Option Value → Shared → Prop} (e : ItemsOf v σ ds) (hd : ds[i]? = some d) (II : Inv C A fr β s.heap σ) (y : ItAt β s.heap v I i)
    (h : ∀ w h' tk, VR β h' w d → ItAt β h' v I (i + 1) → Heap.ExtBut I s.heap h' → Q (some w) { s with heap := h', toks := tk }) : wpAny (model C.prog C.w) A (pyNext (.ref I)) Q E s := by
  have hc := y.core
  unfold ItemsOf at e
  split at e
  · subst e
    obtain ⟨a, vs, n, l, q, it⟩ := y
    obtain ⟨w, hw, r⟩ := q.get hd
    refine wpAny_pyNext_tuple_item it (isTuple_at l) (by simpa using hw) fun h' it' sb => ?_
    have k := keep3_but sb.extBut hc
    exact h w h' s.toks (r.core k) ⟨a, vs, n, k _ _ l (.inl ⟨_, _, rfl⟩) (fun q => by simp at q), q.core k, it'⟩ sb.extBut
  · obtain ⟨a, ha, it⟩ := y
    obtain ⟨vs, m, l, q⟩ := II.sr.cell _ a _ ha e
    obtain ⟨w, hw, r⟩ := q.get hd
    refine wpAny_pyNext_list_item it (isList_of l) (by simpa using hw) fun h' it' sb => ?_
    have k := keep3_but sb.extBut hc
    exact h w h' s.toks (r.core k) ⟨a, ha, it'⟩ sb.extBut
  · subst e
    obtain ⟨k, t, hk, it⟩ := y
    rename_i x
    rw [List.getElem?_map, Array.getElem?_toList] at hd
    obtain ⟨c, hcc, rfl⟩ := Option.map_eq_some_iff.mp hd
    rcases hk with rfl | rfl
    · exact wpAny_pyNext_ascii_item it hcc fun h' it' sb => h _ h' _ (.str _ _) ⟨_, t, .inl rfl, it'⟩ sb.extBut
    · exact wpAny_pyNext_wide_item it hcc fun h' it' sb => h _ h' _ (.str _ _) ⟨_, t, .inr rfl, it'⟩ sb.extBut
  · obtain ⟨rfl, hab⟩ := e
    rename_i a b
    rw [List.getElem?_map] at hd
    obtain ⟨j, hj, rfl⟩ := Option.map_eq_some_iff.mp hd
    obtain ⟨hlt, hj⟩ := List.getElem?_eq_some_iff.mp hj
    simp at hlt hj
    subst hj
    refine wpAny_pyNext_range_item y (by omega) fun h' it' sb => h _ h' _ (.int _ _) ?_ sb.extBut
    show IsRangeIter _ _ _ _ _
    rw [show a + ((i + 1 : Nat) : Int) = a + (i : Int) + 1 by omega, show (((b - a).toNat : Nat) : Int) - ((i + 1 : Nat) : Int) = ((b - a).toNat : Int) - (i : Int) - 1 by omega]
    exact it'
  · exact e.elim

theorem next_end {v : PV} {ds : List PV} {I : Addr} {Q : Option Value → Shared → Prop} (e : ItemsOf v σ ds) (II : Inv C A fr β s.heap σ) (y : ItAt β s.heap v I ds.length)
    (h : ∀ h' tk, Heap.ExtBut I s.heap h' → Q none { s with heap := h', toks := tk }) : wpAny (model C.prog C.w) A (pyNext (.ref I)) Q E s := by
  unfold ItemsOf at e
  split at e
  · subst e
    obtain ⟨a, vs, n, l, q, it⟩ := y
    exact wpAny_pyNext_tuple_end II.hh it (isTuple_at l) (by simp [q.length]) fun h' sb => h h' s.toks sb
  · obtain ⟨a, ha, it⟩ := y
    obtain ⟨vs, m, l, q⟩ := II.sr.cell _ a _ ha e
    exact wpAny_pyNext_list_end II.hh it (isList_of l) (by simp [q.length]) fun h' sb => h h' s.toks sb
  · subst e
    obtain ⟨k, t, hk, it⟩ := y
    rename_i x
    simp at it
    rcases hk with rfl | rfl
    · exact wpAny_pyNext_ascii_end II.hh it (by simp) fun h' sb => h h' s.toks sb
    · exact wpAny_pyNext_wide_end II.hh it (by simp) fun h' sb => h h' s.toks sb
  · obtain ⟨rfl, hab⟩ := e
    rename_i a b
    exact wpAny_pyNext_range_end II.hh y (by simp) fun h' sb => h h' s.toks sb
  · exact e.elim
end
end Mine
end

-- S3
section
namespace Mine
open PySem PySem.W PyProof.Rows
variable [Z : Zero Frozen]

/-- the text's function in the heap -/
structure FnOK (C : Conf) (D : Def) (a : Addr) (o : Obj) (fd : FuncData) : Prop where
  at_ : C.base.get? a = some o
  data : o.data = .func fd
  code : C.base.CodeRec fd.code fd.qualname
  body : fd.body = .stmts D.body
  bind : ∀ vals : List Value, vals.length = D.params.length → bindArgs fd ⟨vals, []⟩ = pure (D.params.zip vals)
  clo : fd.closure = []
  kind : fd.scope.kind = .function
  co : fd.scope.isCoroutine = false
  gen : fd.scope.isGenerator = false
  names : fd.scope.names = D.names
  glob : fd.globals = mainGlobals
  bui : fd.builtins = builtinsNs
  pars : D.params.all (canStore D.names) = true

/-- an exception of the text's own is made -/
def Makes (C : Conf) (k : Exn) : Prop := ∀ (A : Around) (fr : List Env), A.depth + 5 < recursionLimit → A.units + 2100 < cLine → ∀ β (s : Shared) σ x t Q E, Inv C A fr β s.heap σ → x.length ≤ 100000 →
  (∀ h' tk ea oe vs a0, (∀ b o, s.heap.get? b = some o → h'.get? b = some o) → s.heap.get? ea = none → h'.get? ea = some oe → oe.cls = .ref (C.cls k) → oe.data = .fields vs →
    vs[0]? = some a0 → vs[1]? = some .none → Q (.ref ea) { s with heap := h', toks := tk }) → wpAny (model C.prog C.w) A (call (.ref (C.cls k)) [.str x t]) Q E s

structure TextOK (C : Conf) (T : Text) : Prop where
  defs : ∀ f D, T.defs f = some D → ∃ a o fd, C.mg f = some (.ref a) ∧ fnIn C.K a = true ∧ FnOK C D a o fd
  undef : ∀ f ∈ bnames, T.defs f = none → C.mg f = none
  const : ∀ x d, T.const x = some d → ∃ v, C.mg x = some v ∧ ∀ β h, VR β h v d
  exns : ∀ x k, T.exn x = some k → C.mg x = some (.ref (C.cls k))
  exCall : ∀ k, keepIn C.K (.ref (C.cls k)) = true
  exSub : ∀ k, subIn C.K (.ref (C.cls k)) (.type "BaseException") = some true
  exType : ∀ k, typeIn C.K (.ref (C.cls k)) = some (.type "type")
  exMatch : ∀ k, exmOne C.K (.ref (C.cls k)) (.ref (C.cls k)) = some true
  make : ∀ k, Makes C k



/-- where a run stands: the conf, what is around, the frames, the names -/
structure Cx where
  C : Conf
  A : Around
  fr : List Env
  env : Env
structure Here (Γ : Ctx) (N : Names) (ρ : Vars) (X : Cx) (β : List Addr) (s : Shared) (σ : Store) : Prop where
  T : TextOK X.C Γ.T
  deep : X.A.depth + Γ.n + 5 < recursionLimit
  units : X.A.units + 3 * Γ.n + 2100 < cLine
  G : EOK X.env N
  I : Inv X.C X.A X.fr β s.heap σ
  V : VOK X.env N β s.heap ρ

theorem wpe {M : Model} {A : Around} {γ : Type} {m m' : Sem γ} {Q : γ → Shared → Prop} {E : Value → Shared → Prop} {s : Shared} (h : m = m') (h' : wpAny M A m' Q E s) : wpAny M A m Q E s := h ▸ h'
/-- a run of the model's ends so -/
structure Runs (Γ : Ctx) (N : Names) (ρ : Vars) (σ : Store) {α γ : Type} (t : Env → Sem γ) (rel : List Addr → Heap → γ → α → Prop) (r : R α) : Prop where
  run : ∀ (X : Cx) β s, Here Γ N ρ X β s σ → ∀ Q E, Post X.C X.fr β s rel Q E r → wpAny (model X.C.prog X.C.w) X.A (t X.env) Q E s
def Ev (Γ : Ctx) (N : Names) (ρ : Vars) (e : Expr) (σ : Store) (r : R PV) : Prop := Runs Γ N ρ σ (fun env => eval e env) VR r
def Es (Γ : Ctx) (N : Names) (ρ : Vars) (es : List Expr) (σ : Store) (r : R (List PV)) : Prop := ∀ p, Runs Γ N ρ σ (fun env => spliced (backTo p (starEach es env))) VRs r
def Eo (Γ : Ctx) (N : Names) (ρ : Vars) (o : Option Expr) (σ : Store) (r : R PV) : Prop := Runs Γ N ρ σ (fun env => valueOrNone (evalOpt o env)) VR r
def Et (Γ : Ctx) (N : Names) (ρ : Vars) (e : Expr) (σ : Store) (r : R Bool) : Prop := Runs Γ N ρ σ (fun env => isTrue e env (eval e env)) relB r
def Ea (Γ : Ctx) (N : Names) (ρ : Vars) (op : BoolOp) (es : List Expr) (σ : Store) (r : R Bool) : Prop := Runs Γ N ρ σ (fun env => allTrue op es env) relB r
def Eb (Γ : Ctx) (N : Names) (ρ : Vars) (op : BoolOp) (es : List Expr) (σ : Store) (r : R PV) : Prop := ∀ p, Runs Γ N ρ σ (fun env => boolOp p op (evalEach es env)) VR r
def Ei (Γ : Ctx) (N : Names) (ρ : Vars) (ifs : List Expr) (σ : Store) (r : R Bool) : Prop := Runs Γ N ρ σ (fun env => forIn ifs true fun c r => if r = true then do let ok ← isTrue c env (eval c env); pure (ForInStep.yield ok) else pure (ForInStep.yield r)) relB r
/-- a chain of comparisons behind its left side: as a value, as a test -/
structure Ec (Γ : Ctx) (N : Names) (ρ : Vars) (a : PV) (ops : List CmpOp) (es : List Expr) (σ : Store) (r : R Bool) : Prop where
  run : ∀ p (X : Cx) β s v, Here Γ N ρ X β s σ → VR β s.heap v a →
  (∀ Q E, Post X.C X.fr β s relT Q E r → wpAny (model X.C.prog X.C.w) X.A (compareChain p v ops (markedEach ops es (evalEach es X.env))) Q E s) ∧
  (∀ Q E, Post X.C X.fr β s relB Q E r → wpAny (model X.C.prog X.C.w) X.A (testChain p v ops (markedEach ops es (evalEach es X.env))) Q E s)
/-- an operator's work -/
structure Bop (op : Operator) (a b : PV) (σ : Store) (r : R PV) : Prop where
  run : ∀ (X : Cx) β s va vb Q E, Inv X.C X.A X.fr β s.heap σ → VR β s.heap va a → VR β s.heap vb b → Post X.C X.fr β s relV Q E r → wpAny (model X.C.prog X.C.w) X.A (binaryOp op va vb) Q E s
structure Cop (op : CmpOp) (a b : PV) (σ : Store) (r : R Bool) : Prop where
  run : ∀ (X : Cx) β s va vb Q E, X.A.units + 2100 < cLine → Inv X.C X.A X.fr β s.heap σ → VR β s.heap va a → VR β s.heap vb b → Post X.C X.fr β s relT Q E r → wpAny (model X.C.prog X.C.w) X.A (compareOp op va vb) Q E s
/-- no class's own hook for items -/
structure Plain (o : PV) (σ : Store) : Prop where
  run : ∀ (X : Cx) β s vo (Q : Bool → Shared → Prop) E, Inv X.C X.A X.fr β s.heap σ → VR β s.heap vo o → Q false s → wpAny (model X.C.prog X.C.w) X.A (getitemInPython vo) Q E s
structure Itm (o k : PV) (σ : Store) (r : R PV) : Prop where
  plain : Plain o σ
  run : ∀ (X : Cx) β s vo vk Q E, Inv X.C X.A X.fr β s.heap σ → VR β s.heap vo o → VR β s.heap vk k → Post X.C X.fr β s relV Q E r → wpAny (model X.C.prog X.C.w) X.A (getItem vo vk) Q E s
structure Slc (o lo hi : PV) (σ : Store) (r : R PV) : Prop where
  plain : Plain o σ
  run : ∀ (X : Cx) β s vo vl vu sl Q E, Inv X.C X.A X.fr β s.heap σ → VR β s.heap vo o → VR β s.heap vl lo → VR β s.heap vu hi → s.heap.IsSliceOf sl vl vu .none → Post X.C X.fr β s relV Q E r → wpAny (model X.C.prog X.C.w) X.A (getItem vo (.ref sl)) Q E s
/-- a call of one of the text's own defs -/
structure Cl (Γ : Ctx) (f : Str) (ds : List PV) (σ : Store) (r : R PV) : Prop where
  run : ∀ (X : Cx) β s vs Q E a, TextOK X.C Γ.T → X.A.depth + Γ.n + 5 < recursionLimit → X.A.units + 3 * Γ.n + 2100 < cLine → X.C.mg f = some (.ref a) → Inv X.C X.A X.fr β s.heap σ → VRs β s.heap vs ds → Post X.C X.fr β s relV Q E r → wpAny (model X.C.prog X.C.w) X.A (call (.ref a) vs) Q E s
/-- a call of a built-in function or class -/
structure Bcl (f : Str) (ds : List PV) (σ : Store) (r : R PV) : Prop where
  run : ∃ v, bootBuiltins f = some v ∧ isCallee v ∧ f ≠ "__name__" ∧ ∀ (X : Cx) β s vs Q E, Inv X.C X.A X.fr β s.heap σ → VRs β s.heap vs ds → Post X.C X.fr β s relV Q E r → wpAny (model X.C.prog X.C.w) X.A (call v vs) Q E s
/-- the object has such a method; the method's call -/
structure Knows (m : Str) (o : PV) (σ : Store) (id : String) : Prop where
  run : ∀ (X : Cx) β s vo pl (Q : Value × List Value → Shared → Prop) E, Inv X.C X.A X.fr β s.heap σ → VR β s.heap vo o → Q (.builtin id, [vo]) s → wpAny (model X.C.prog X.C.w) X.A (getMethod vo m pl) Q E s
structure Mcl (id : String) (o : PV) (ds : List PV) (σ : Store) (r : R PV) : Prop where
  run : ∀ (X : Cx) β s vo vs Q E, X.A.units + 2100 < cLine → Inv X.C X.A X.fr β s.heap σ → VR β s.heap vo o → VRs β s.heap vs ds → Post X.C X.fr β s relV Q E r → wpAny (model X.C.prog X.C.w) X.A (call (.builtin id) (vo :: vs)) Q E s

section
variable {Γ : Ctx} {N : Names} {ρ : Vars} {σ σ₁ σ₂ σ₃ σ₄ : Store} {X : Cx} {β β₁ : List Addr} {s s₁ : Shared}

theorem Here.next (H : Here Γ N ρ X β s σ) (x : Ext (frs X.fr) β s.heap β₁ s₁.heap) (S : SR β₁ s₁.heap σ₁) : Here Γ N ρ X β₁ s₁ σ₁ := ⟨H.T, H.deep, H.units, H.G, H.I.next x S, H.V.next H.I x⟩
theorem Here.low (H : Here Γ N ρ X β s σ) : X.A.units + 2100 < cLine := by have := H.units; omega
theorem Here.kn (H : Here Γ N ρ X β s σ) (x : Str) : X.env.kindOf x = N.lookup x := by unfold Env.kindOf; rw [H.G.names]

section
variable {α γ δ ε : Type} {t : Env → Sem γ} {rel : List Addr → Heap → γ → α → Prop} {relr : List Addr → Heap → ε → δ → Prop} {k : γ → Sem ε} {a : α} {r : R δ} {Q : ε → Shared → Prop} {E : Value → Shared → Prop}
/-- one step, then the rest -/
theorem Runs.go (h1 : Runs Γ N ρ σ t rel (.ok a σ₁)) (H : Here Γ N ρ X β s σ) (P : Post X.C X.fr β s relr Q E r)
    (h2 : ∀ v β₁ s₁, Ext (frs X.fr) β s.heap β₁ s₁.heap → Here Γ N ρ X β₁ s₁ σ₁ → rel β₁ s₁.heap v a → Post X.C X.fr β₁ s₁ relr Q E r → wpAny (model X.C.prog X.C.w) X.A (k v) Q E s₁) :
    wpAny (model X.C.prog X.C.w) X.A (t X.env >>= k) Q E s :=
  wpAny_bind (h1.run X β s H _ E fun v β₁ h₁ tk x S ra => h2 v β₁ _ x (H.next x S) ra (P.next x))
theorem Runs.goH {l : List Value} (h1 : Runs Γ N ρ σ t rel (.ok a σ₁)) (H : Here Γ N ρ X β s σ) (P : Post X.C X.fr β s relr Q E r)
    (h2 : ∀ v β₁ s₁, Ext (frs X.fr) β s.heap β₁ s₁.heap → Here Γ N ρ X β₁ s₁ σ₁ → rel β₁ s₁.heap v a → Post X.C X.fr β₁ s₁ relr Q E r → wpAny (model X.C.prog X.C.w) X.A (k v) Q E s₁) :
    wpAny (model X.C.prog X.C.w) X.A (holding l (t X.env) >>= k) Q E s :=
  wpAny_bind (wpAny_holding (h1.run X β s H _ E fun v β₁ h₁ tk x S ra => h2 v β₁ _ x (H.next x S) ra (P.next x)))
/-- an exception goes through -/
theorem Runs.out {x : Exn} (h1 : Runs Γ N ρ σ t rel (.exc x σ₁)) (H : Here Γ N ρ X β s σ) (P : Post X.C X.fr β s relr Q E (.exc x σ₁)) : wpAny (model X.C.prog X.C.w) X.A (t X.env >>= k) Q E s := wpAny_bind (h1.run X β s H _ E P)
theorem Runs.outH {x : Exn} {l : List Value} (h1 : Runs Γ N ρ σ t rel (.exc x σ₁)) (H : Here Γ N ρ X β s σ) (P : Post X.C X.fr β s relr Q E (.exc x σ₁)) : wpAny (model X.C.prog X.C.w) X.A (holding l (t X.env) >>= k) Q E s := wpAny_bind (wpAny_holding (h1.run X β s H _ E P))
end
theorem Post.here {α γ : Type} {rel : List Addr → Heap → γ → α → Prop} {Q : γ → Shared → Prop} {E : Value → Shared → Prop} {d : α} {v : γ} (H : Here Γ N ρ X β s σ) (P : Post X.C X.fr β s rel Q E (.ok d σ)) (r : rel β s.heap v d) (tk : Tok := s.toks) : Q v { s with toks := tk } :=
  P v β s.heap tk .refl H.I.sr r

theorem v_const {c : Const} {k : Nat} {p : Pos} {d : PV} (h : constOf c = some d) : Ev Γ N ρ (.Constant c k p) σ (.ok d σ) := .mk fun X β s H Q E P => const_ok h H.I P
theorem globNow {C : Conf} {A : Around} {fr : List Env} {h : Heap} (I : Inv C A fr β h σ) : h.Ns mainGlobals C.mg := I.glob.at' fun o e => I.stays _ o e
theorem buiNow {C : Conf} {A : Around} {fr : List Env} {h : Heap} (I : Inv C A fr β h σ) : h.Ns builtinsNs C.mb := I.bui.at' fun o e => I.stays _ o e
theorem debug_ne {x : Str} (h : (x != ("__debug__" : Str)) = true) : (x == ("__debug__" : Str)) = false := by simpa using h
theorem Here.globk (H : Here Γ N ρ X β s σ) {x : Str} (hg : isGlob N x = true) : X.env.kindOf x = some .globalImplicit := (H.kn x).trans (beq_iff_eq.mp hg)
theorem name_glob {A' : Around} {x : Str} {p : Pos} {v : Value} {Q : Value → Shared → Prop} {E : Value → Shared → Prop} (H : Here Γ N ρ X β s σ) (hd : (x != ("__debug__" : Str)) = true) (hg : isGlob N x = true) (hv : X.C.mg x = some v) (h : Q v s) : wpAny (model X.C.prog X.C.w) A' (eval (.Name x p) X.env) Q E s :=
  PySem.Calls.Name_function_global H.G.kind (H.globk hg) (PySem.Calls.loadGlobal_global (H.G.glob ▸ globNow H.I) hv h) (debug_ne hd)
theorem name_builtin {x : Str} {p : Pos} {v : Value} {Q : Value → Shared → Prop} {E : Value → Shared → Prop} (H : Here Γ N ρ X β s σ) (hd : (x != ("__debug__" : Str)) = true) (hg : isGlob N x = true) (hm : X.C.mg x = none) (hn : x ≠ "__name__") (hv : bootBuiltins x = some v)
    (h : Q v s) : wpAny (model X.C.prog X.C.w) X.A (eval (.Name x p) X.env) Q E s :=
  PySem.Calls.Name_function_global H.G.kind (H.globk hg) (PySem.Calls.loadGlobal_builtin (H.G.glob ▸ globNow H.I) hm (H.G.bui ▸ buiNow H.I) (by rw [H.I.bfit x hn]; exact hv) h) (debug_ne hd)
theorem v_glob {x : Str} {p : Pos} {d : PV} (h : (x != ("__debug__" : Str) && isGlob N x) = true) (hv : Γ.const x = some d) : Ev Γ N ρ (.Name x p) σ (.ok d σ) := .mk fun X β s H Q E P => by
  rw [Bool.and_eq_true] at h
  obtain ⟨v, hm, hr⟩ := H.T.const _ _ hv
  exact name_glob H h.1 h.2 hm (P.here H (hr _ _))
theorem v_name {x : Str} {p : Pos} {d : PV} (h : isVar N x = true) (hv : ρ x = some d) : Ev Γ N ρ (.Name x p) σ (.ok d σ) := .mk fun X β s H Q E P => by
  unfold isVar at h
  rw [Bool.and_eq_true, Bool.or_eq_true, beq_iff_eq, beq_iff_eq] at h
  rcases h.2 with hl | hl
  · obtain ⟨m, n, q⟩ := H.V.loc
    obtain ⟨v, hm, rv⟩ := q x d hl hv
    exact wpAny_Name (wpAny_loadName_local H.G.kind ((H.kn x).trans hl) n hm (P.here H rv)) (debug_ne h.1)
  · obtain ⟨c, hc, ov, n, q⟩ := H.V.cel x hl
    obtain ⟨v, rfl, rv⟩ := q d hv
    exact wpAny_Name (wpAny_loadName_cell H.G.kind ((H.kn x).trans hl) hc n (P.here H rv)) (debug_ne h.1)
theorem v_bin {l r : Expr} {op : Operator} {p : Pos} {a b : PV} {w : R PV} (h1 : Ev Γ N ρ l σ (.ok a σ₁)) (h2 : Ev Γ N ρ r σ₁ (.ok b σ₂)) (h3 : Bop op a b σ₂ w) : Ev Γ N ρ (.BinOp l op r p) σ w := .mk fun X β s H Q E P =>
  wpe (arm_eval_BinOp ..) (Runs.go h1 H P fun _ _ _ _ H₁ ra P₁ => Runs.goH h2 H₁ P₁ fun _ _ _ x H₂ rb P₂ => wpAny_bind (wpAny_standAt (wpAny_operating (h3.run X _ _ _ _ Q E H₂.I (H₁.I.mono x ra) rb P₂))))
theorem v_neg {e : Expr} {p : Pos} {i : Int} (h1 : Ev Γ N ρ e σ (.ok (.int i) σ₁)) : Ev Γ N ρ (.UnaryOp .USub e p) σ (.ok (.int (-i)) σ₁) := .mk fun X β s H Q E P =>
  wpe (arm_eval_UnaryOp ..) (Runs.go h1 H P fun _ _ _ _ H₁ ra P₁ => wpAny_bind (wpAny_standAt (wpAny_holding (by cases ra; exact PySem.P.neg_int (P₁.here H₁ (.int _ _) _)))))
theorem v_not {e : Expr} {p : Pos} {b : Bool} (h1 : Ev Γ N ρ e σ (.ok (.bool b) σ₁)) : Ev Γ N ρ (.UnaryOp .Not e p) σ (.ok (.bool (!b)) σ₁) := .mk fun X β s H Q E P =>
  wpe (arm_eval_UnaryOp ..) (Runs.go h1 H P fun _ _ _ _ H₁ ra P₁ => wpAny_bind (wpAny_standAt (wpAny_holding (by cases ra; exact wpAny_holding (wpAny_bind (wpAny_truthy_bool (wpAny_pure (P₁.here H₁ (.bool _)))))))))
theorem v_if {t b o : Expr} {p : Pos} {c : Bool} {w : R PV} (h1 : Et Γ N ρ t σ (.ok c σ₁)) (h2 : if c = true then Ev Γ N ρ b σ₁ w else Ev Γ N ρ o σ₁ w) : Ev Γ N ρ (.IfExp t b o p) σ w := .mk fun X β s H Q E P =>
  wpe (arm_eval_IfExp ..) (Runs.go (rel := relB) h1 H P fun v _ _ _ H₁ ra P₁ => by
    cases ra
    cases c
    · exact h2.run X _ _ H₁ Q E P₁
    · exact h2.run X _ _ H₁ Q E P₁)
theorem v_bool {op : BoolOp} {vs : List Expr} {p : Pos} {w : R PV} (h : Eb Γ N ρ op vs σ w) : Ev Γ N ρ (.BoolOp op vs p) σ w := h p
theorem v_cmp {l : Expr} {ops : List CmpOp} {rs : List Expr} {p : Pos} {a : PV} {c : Bool} (h1 : Ev Γ N ρ l σ (.ok a σ₁)) (h2 : Ec Γ N ρ a ops rs σ₁ (.ok c σ₂)) : Ev Γ N ρ (.Compare l ops rs p) σ (.ok (.bool c) σ₂) := .mk fun X β s H Q E P =>
  Runs.go h1 H P fun v _ _ _ H₁ ra P₁ => (h2.run p X _ _ v H₁ ra).1 Q E fun w β' h' tk y S hc => by
    cases hc; exact P₁ _ β' h' tk y S (.bool _)
theorem size_fit {vs : List Value} {ds : List PV} {β : List Addr} {h : Heap} (q : VRs β h vs ds) (hm : small ds.length = true) : sizeOk (.seq vs.toArray) := by
  show vs.toArray.size ≤ sizeLine
  have := small_le hm
  have t3 := sizeLine_ge
  have := q.length
  simp; omega
theorem v_tup {es : List Expr} {k : Nat} {p : Pos} {ds : List PV} (h1 : Es Γ N ρ es σ (.ok ds σ₁)) (h2 : small ds.length = true) : Ev Γ N ρ (.Tuple es k p) σ (.ok (.tup ds) σ₁) := .mk fun X β s H Q E P =>
  wpe (arm_eval_Tuple ..) (wpAny_bind (wpAny_standAt (Runs.go (h1 p) H P fun _ _ s₁ _ H₁ ra P₁ => wpAny_newObj_type (P₁.tup (tk := s₁.toks) H₁.I ra) (size_fit ra h2))))
theorem v_list {es : List Expr} {p : Pos} {ds : List PV} (h1 : Es Γ N ρ es σ (.ok ds σ₁)) (h2 : small ds.length = true) : Ev Γ N ρ (.List es p) σ (.ok (.ref σ₁.length) (σ₁ ++ [.list ds])) := .mk fun X β s H Q E P =>
  wpe (arm_eval_List ..) (wpAny_bind (wpAny_standAt (Runs.go (h1 p) H P fun _ _ s₁ _ H₁ ra P₁ => wpAny_newObj_type (P₁.alloc (tk := s₁.toks) H₁.I ra) (size_fit ra h2))))
theorem sub_eq {i : Expr} (hi : isSl i = false) (o k : Value) : subscripted i false o k = operate [o, k] (getItem o k) := by
  cases i <;> first | rfl | cases hi
theorem v_item {v i : Expr} {p : Pos} {o k : PV} {w : R PV} (hi : isSl i = false) (h1 : Ev Γ N ρ v σ (.ok o σ₁)) (h2 : Ev Γ N ρ i σ₁ (.ok k σ₂)) (h3 : Itm o k σ₂ w) : Ev Γ N ρ (.Subscript v i p) σ w := .mk fun X β s H Q E P =>
  wpe (PySem.eval_Subscript ..) (Runs.go h1 H P fun vo _ _ _ H₁ ra P₁ => Runs.goH h2 H₁ P₁ fun vk β₂ s₂ x H₂ rb P₂ =>
    wpAny_bind (wpAny_standAt (wpAny_bind (h3.plain.run X _ _ _ _ E H₂.I (H₁.I.mono x ra) (wpAny_bind (wpe (sub_eq hi vo vk) (wpAny_operating (h3.run X _ _ _ _ _ E H₂.I (H₁.I.mono x ra) rb (by
      cases w with
      | ok d σ' => exact fun v β' h' tk' y S q => wpAny_bind (wpAny_letTemporaryGo (wpAny_pure (P₂ v β' h' tk' y S q)))
      | exc k σ' => exact P₂)))))))))
theorem v_slice {v : Expr} {lo hi : Option Expr} {q p : Pos} {o a b : PV} {w : R PV} (h1 : Ev Γ N ρ v σ (.ok o σ₁)) (h2 : Eo Γ N ρ lo σ₁ (.ok a σ₂)) (h3 : Eo Γ N ρ hi σ₂ (.ok b σ₃)) (h4 : Slc o a b σ₃ w) : Ev Γ N ρ (.Subscript v (.Slice lo hi none q) p) σ w := .mk fun X β s H Q E P =>
  wpe (PySem.eval_Subscript ..) (Runs.go h1 H P fun vo β₁ s₁ _ H₁ ra P₁ => by
    rw [arm_eval_Slice]
    refine wpAny_bind (wpAny_holding (wpAny_bind (h2.run X β₁ s₁ H₁ _ E fun vl β₂ h₂ tk2 x2 S₂ rb => ?_)))
    have H₂ := H₁.next (s₁ := { s₁ with heap := h₂, toks := tk2 }) x2 S₂
    refine wpAny_bind (wpAny_holding (h3.run X β₂ _ H₂ _ E fun vu β₃ h₃ tk3 x3 S₃ rc => wpAny_bind (wpAny_holding (wpAny_pure (wpAny_newObj_type (hd := by size_fits) ?_)))))
    have H₃ := H₂.next (s₁ := { s₁ with heap := h₃, toks := tk3 }) x3 S₃
    have xp : Ext (frs X.fr) β₃ h₃ β₃ (h₃.push { cls := .type "slice", dict := none, data := .fields [vl, vu, .none].toArray }) := .push _
    have I₃ := H₃.I
    have I₄ := I₃.next xp (I₃.sr.keeps I₃.fns fun a o e _ => Heap.get?_push_of_some _ e)
    have r3 := I₃.mono xp (H₂.I.mono x3 (H₁.I.mono x2 ra))
    have P₄ := ((P₁.next (tk := tk2) x2).next (tk := tk3) x3).next (tk := tk3) xp
    refine wpAny_bind (wpAny_standAt (wpAny_bind (h4.plain.run X _ _ _ _ E I₄ r3 ?_)))
    show wpAny _ _ (operate [.ref h₃.objs.size, vo] (getItem vo (.ref h₃.objs.size)) >>= _) _ _ _
    refine wpAny_bind (wpAny_operating (h4.run X _ _ _ _ _ _ _ E I₄ r3 (I₃.mono xp (H₂.I.mono x3 rb)) (I₃.mono xp rc) ⟨_, Heap.get?_push_size _ rfl, rfl, rfl⟩ ?_))
    cases w with
    | ok d σ' => exact fun v β' h' tk' y S q => wpAny_bind (wpAny_letTemporaryGo (wpAny_pure (P₄ v β' h' tk' y S q)))
    | exc k σ' => exact P₄)
theorem o_none : Eo Γ N ρ none σ (.ok .none σ) := .mk fun X β s H Q E P => wpAny_pure (P.here H .none)
theorem o_some {e : Expr} {w : R PV} (h : Ev Γ N ρ e σ w) : Eo Γ N ρ (some e) σ w := h
theorem es_nil : Es Γ N ρ [] σ (.ok [] σ) := fun p => .mk fun X β s H Q E P => wpAny_pure (P.here H .nil)
theorem star_cons {e : Expr} {r : List Expr} {env : Env} (hs : isStar e = false) : starEach (e :: r) env = (false, eval e env) :: starEach r env := by
  cases e <;> first | rfl | cases hs
theorem es_cons {e : Expr} {r : List Expr} {v : PV} {vs : List PV} (hs : isStar e = false) (h1 : Ev Γ N ρ e σ (.ok v σ₁)) (h2 : Es Γ N ρ r σ₁ (.ok vs σ₂)) : Es Γ N ρ (e :: r) σ (.ok (v :: vs) σ₂) := fun p => .mk fun X β s H Q E P => by
  show wpAny _ _ (spliced (backTo p (starEach (e :: r) X.env))) _ _ _
  rw [star_cons hs]
  exact PySem.Calls.spliced_cons (h1.run X β s H _ E fun a β₁ h₁ tk x S ra =>
    have H₁ := H.next (s₁ := { s with heap := h₁, toks := tk }) x S
    (h2 p).run X β₁ _ H₁ _ E fun bs β₂ h₂ tk₂ x₂ S₂ rb => (P.next (tk := tk) x) _ _ _ _ x₂ S₂ (.cons (H₁.I.mono x₂ ra) rb))

/-! tests -/
theorem t_of {x : Expr} {b : Bool} (ht : ∀ env w, isTrue x env w = w >>= fun v => standAt x.pos >>= fun _ => holding [v] (truthy v)) (h : Ev Γ N ρ x σ (.ok (.bool b) σ₁)) : Et Γ N ρ x σ (.ok b σ₁) := .mk fun X β s H Q E P =>
  wpe (ht ..) (Runs.go h H P fun _ _ _ _ H₁ ra P₁ => wpAny_bind (wpAny_standAt (wpAny_holding (by cases ra; exact wpAny_truthy_bool (P₁.here H₁ rfl)))))
theorem t_not {e : Expr} {p : Pos} {b : Bool} (h : Et Γ N ρ e σ (.ok b σ₁)) : Et Γ N ρ (.UnaryOp .Not e p) σ (.ok (!b) σ₁) := .mk fun X β s H Q E P =>
  Runs.go (rel := relB) (k := fun b => pure (!b)) h H P fun _ _ _ _ H₁ ra P₁ => by
    cases ra; exact wpAny_pure (P₁.here H₁ rfl)
theorem t_bool {op : BoolOp} {vs : List Expr} {p : Pos} {r : R Bool} (h : Ea Γ N ρ op vs σ r) : Et Γ N ρ (.BoolOp op vs p) σ r := h
theorem t_cmp {l : Expr} {ops : List CmpOp} {rs : List Expr} {p : Pos} {a : PV} {r : R Bool} (h1 : Ev Γ N ρ l σ (.ok a σ₁)) (h2 : Ec Γ N ρ a ops rs σ₁ r) : Et Γ N ρ (.Compare l ops rs p) σ r := .mk fun X β s H Q E P =>
  Runs.go h1 H P fun v _ _ _ H₁ ra P₁ => (h2.run p X _ _ v H₁ ra).2 Q E P₁
theorem t_call {f : Expr} {args : List Expr} {kws : List Keyword} {p : Pos} {b : Bool} (h : Ev Γ N ρ (.Call f args kws p) σ (.ok (.bool b) σ₁)) : Et Γ N ρ (.Call f args kws p) σ (.ok b σ₁) := t_of (fun _ _ => rfl) h
theorem t_name {x : Str} {p : Pos} {b : Bool} (h : Ev Γ N ρ (.Name x p) σ (.ok (.bool b) σ₁)) : Et Γ N ρ (.Name x p) σ (.ok b σ₁) := t_of (fun _ _ => rfl) h
theorem t_const {c : Const} {k : Nat} {p : Pos} {b : Bool} (h : Ev Γ N ρ (.Constant c k p) σ (.ok (.bool b) σ₁)) : Et Γ N ρ (.Constant c k p) σ (.ok b σ₁) := t_of (fun _ _ => rfl) h
theorem a_nil {op : BoolOp} : Ea Γ N ρ op [] σ (.ok (op == .And) σ) := .mk fun X β s H Q E P => wpAny_pure (P.here H rfl)
theorem a_and {e : Expr} {r : List Expr} {b : Bool} {w : R Bool} (h1 : Et Γ N ρ e σ (.ok b σ₁)) (h2 : if b = true then Ea Γ N ρ .And r σ₁ w else w = .ok false σ₁) : Ea Γ N ρ .And (e :: r) σ w := .mk fun X β s H Q E P =>
  Runs.go (rel := relB) (k := fun b => match BoolOp.And, b with | .And, false => pure false | .Or, true => pure true | _, _ => allTrue .And r X.env) h1 H P fun _ _ _ _ H₁ ra P₁ => by
    cases ra
    cases b
    · cases (h2 : w = _); exact wpAny_pure (P₁.here H₁ rfl)
    · exact h2.run X _ _ H₁ Q E P₁
theorem a_or {e : Expr} {r : List Expr} {b : Bool} {w : R Bool} (h1 : Et Γ N ρ e σ (.ok b σ₁)) (h2 : if b = true then w = .ok true σ₁ else Ea Γ N ρ .Or r σ₁ w) : Ea Γ N ρ .Or (e :: r) σ w := .mk fun X β s H Q E P =>
  Runs.go (rel := relB) (k := fun b => match BoolOp.Or, b with | .And, false => pure false | .Or, true => pure true | _, _ => allTrue .Or r X.env) h1 H P fun _ _ _ _ H₁ ra P₁ => by
    cases ra
    cases b
    · exact h2.run X _ _ H₁ Q E P₁
    · cases (h2 : w = _); exact wpAny_pure (P₁.here H₁ rfl)
theorem b_one {op : BoolOp} {e : Expr} {w : R PV} (h : Ev Γ N ρ e σ w) : Eb Γ N ρ op [e] σ w := fun _ => h
theorem b_and {e e2 : Expr} {r : List Expr} {b : Bool} {w : R PV} (h1 : Ev Γ N ρ e σ (.ok (.bool b) σ₁)) (h2 : if b = true then Eb Γ N ρ .And (e2 :: r) σ₁ w else w = .ok (.bool false) σ₁) : Eb Γ N ρ .And (e :: e2 :: r) σ w := fun p => .mk fun X β s H Q E P =>
  Runs.go (k := fun v => standAt p >>= fun _ => holding [v] (truthy v) >>= fun t => match BoolOp.And, t with | .And, false | .Or, true => pure v | _, _ => boolOp p .And (evalEach (e2 :: r) X.env)) h1 H P fun _ _ _ _ H₁ ra P₁ => by
    cases ra
    refine wpAny_bind (wpAny_standAt (wpAny_bind (wpAny_holding (wpAny_truthy_bool ?_))))
    cases b
    · cases (h2 : w = _); exact wpAny_pure (P₁.here H₁ (.bool _))
    · exact (h2 p).run X _ _ H₁ Q E P₁
theorem b_or {e e2 : Expr} {r : List Expr} {b : Bool} {w : R PV} (h1 : Ev Γ N ρ e σ (.ok (.bool b) σ₁)) (h2 : if b = true then w = .ok (.bool true) σ₁ else Eb Γ N ρ .Or (e2 :: r) σ₁ w) : Eb Γ N ρ .Or (e :: e2 :: r) σ w := fun p => .mk fun X β s H Q E P =>
  Runs.go (k := fun v => standAt p >>= fun _ => holding [v] (truthy v) >>= fun t => match BoolOp.Or, t with | .And, false | .Or, true => pure v | _, _ => boolOp p .Or (evalEach (e2 :: r) X.env)) h1 H P fun _ _ _ _ H₁ ra P₁ => by
    cases ra
    refine wpAny_bind (wpAny_standAt (wpAny_bind (wpAny_holding (wpAny_truthy_bool ?_))))
    cases b
    · exact (h2 p).run X _ _ H₁ Q E P₁
    · cases (h2 : w = _); exact wpAny_pure (P₁.here H₁ (.bool _))
theorem i_nil : Ei Γ N ρ [] σ (.ok true σ) := .mk fun X β s H Q E P => wpAny_tests_nil (P.here H rfl)
theorem i_one {e : Expr} {w : R Bool} (h : Et Γ N ρ e σ w) : Ei Γ N ρ [e] σ w := .mk fun X β s H Q E P => wpAny_tests_one (h.run X β s H Q E P)
/-! chains -/
/-- no marks: what stands behind an in is no list or tuple of constants -/
def marked (op : CmpOp) (e : Expr) : Bool := behindInMarks op e
theorem mark_eq {op : CmpOp} {e : Expr} {env : Env} (h : marked op e = false) : markedBehindIn op e (eval e env) = eval e env := by
  unfold markedBehindIn; unfold marked at h; rw [h]
theorem c_one {op : CmpOp} {e : Expr} {a b : PV} {w : R Bool} (hm : marked op e = false) (h1 : Ev Γ N ρ e σ (.ok b σ₁)) (h2 : Cop op a b σ₁ w) : Ec Γ N ρ a [op] [e] σ w := .mk fun p X β s v H rv => by
  have key : ∀ Q E, Post X.C X.fr β s relT Q E w → wpAny (model X.C.prog X.C.w) X.A (holding [v] (eval e X.env) >>= fun rv => standAt p >>= fun _ => operate [v, rv] (compareOp op v rv)) Q E s := fun Q E P =>
    Runs.goH h1 H P fun v2 _ _ x H₁ rb P₁ => wpAny_bind (wpAny_standAt (wpAny_operating (h2.run X _ _ _ _ Q E H₁.low H₁.I (H.I.mono x rv) rb P₁)))
  have hh : markedEach [op] [e] (evalEach [e] X.env) = [eval e X.env] := by
    show [markedBehindIn op e (eval e X.env)] = _
    rw [mark_eq hm]
  rw [hh]
  refine ⟨key, fun Q E P => ?_⟩
  show wpAny _ _ (holding [v] (eval e X.env) >>= fun rv => standAt p >>= fun _ => operate [v, rv] (compareOp op v rv) >>= fun c => holding [c] (truthy c)) _ _ _
  have q := wpAny_bind (f := fun c => holding [c] (truthy c)) (key (fun c s' => wpAny (model X.C.prog X.C.w) X.A (holding [c] (truthy c)) Q E s') E (by
    cases w with
    | ok d σ' => exact fun c β' h' tk x S q => by cases q; exact wpAny_holding (wpAny_truthy_bool (P d β' h' tk x S rfl))
    | exc k σ' => exact P))
  simpa only [bind_assoc] using q
theorem c_cons {op op2 : CmpOp} {ops : List CmpOp} {e : Expr} {es : List Expr} {a b : PV} {c : Bool} {w : R Bool} (h1 : Ev Γ N ρ e σ (.ok b σ₁)) (h2 : Cop op a b σ₁ (.ok c σ₂)) (h3 : if c = true then Ec Γ N ρ b (op2 :: ops) es σ₂ w else w = .ok false σ₂) :
    Ec Γ N ρ a (op :: op2 :: ops) (e :: es) σ w := .mk fun p X β s v H rv => by
  have key : ∀ {γ : Type} {rel : List Addr → Heap → γ → Bool → Prop} (k : Value → Value → Bool → Sem γ) (Q : γ → Shared → Prop) E, Post X.C X.fr β s rel Q E w →
      (∀ rv β₂ s₂, Here Γ N ρ X β₂ s₂ σ₂ → VR β₂ s₂.heap rv b → Post X.C X.fr β₂ s₂ rel Q E w → wpAny (model X.C.prog X.C.w) X.A (k rv (.bool c) c) Q E s₂) →
      wpAny (model X.C.prog X.C.w) X.A (holding [v] (eval e X.env) >>= fun rv => standAt p >>= fun _ => holding [v, rv] (compareOp op v rv) >>= fun c => release [v, rv] [c] >>= fun _ => holding [c, rv] (truthy c) >>= fun t => k rv c t) Q E s := by
    intro γ rel k Q E P go
    refine Runs.goH h1 H P fun v2 β₁ s₁ x H₁ rb P₁ => wpAny_bind (wpAny_standAt (wpAny_bind (wpAny_holding (h2.run X _ _ _ _ _ E H₁.low H₁.I (H.I.mono x rv) rb fun w' β₂ h₂ tk2 x2 S₂ rc => ?_))))
    cases rc
    refine wpAny_bind (wpAny_release ?_)
    exact wpAny_bind (wpAny_holding (wpAny_truthy_bool (go v2 β₂ _ (H₁.next (s₁ := { s₁ with heap := h₂, toks := tk2 }) x2 S₂) (H₁.I.mono x2 rb) (P₁.next x2))))
  refine ⟨fun Q E P => key (fun rv c t => if t = true then compareChain p rv (op2 :: ops) (markedEach (op2 :: ops) es (evalEach es X.env)) else pure c) Q E P fun rv β₂ s₂ H₂ rb P₂ => ?_,
    fun Q E P => key (fun rv c t => if t = true then testChain p rv (op2 :: ops) (markedEach (op2 :: ops) es (evalEach es X.env)) else pure false) Q E P fun rv β₂ s₂ H₂ rb P₂ => ?_⟩
  · cases c
    · cases (h3 : w = _); exact wpAny_pure (P₂.here H₂ rfl)
    · exact (h3.run p X _ _ _ H₂ rb).1 Q E P₂
  · cases c
    · cases (h3 : w = _); exact wpAny_pure (P₂.here H₂ rfl)
    · exact (h3.run p X _ _ _ H₂ rb).2 Q E P₂
/-! exceptions of a comparison's sides -/
theorem v_cmp_exc1 {l : Expr} {ops : List CmpOp} {rs : List Expr} {p : Pos} {k : Exn} (h1 : Ev Γ N ρ l σ (.exc k σ₁)) : Ev Γ N ρ (.Compare l ops rs p) σ (.exc k σ₁) := .mk fun X β s H Q E P => Runs.out h1 H P
theorem v_cmp_exc2 {l e : Expr} {op : CmpOp} {p : Pos} {a : PV} {k : Exn} (hm : marked op e = false) (h1 : Ev Γ N ρ l σ (.ok a σ₁)) (h2 : Ev Γ N ρ e σ₁ (.exc k σ₂)) : Ev Γ N ρ (.Compare l [op] [e] p) σ (.exc k σ₂) := .mk fun X β s H Q E P =>
  Runs.go h1 H P fun v _ _ _ H₁ ra P₁ => by
    have hh : markedEach [op] [e] (evalEach [e] X.env) = [eval e X.env] := by
      show [markedBehindIn op e (eval e X.env)] = _
      rw [mark_eq hm]
    rw [hh]
    exact Runs.outH h2 H₁ P₁

/-! ## f-strings -/
structure Ef (Γ : Ctx) (N : Names) (ρ : Vars) (vs : List Expr) (σ : Store) (ts : List Str) (σ' : Store) : Prop where
  run : ∀ (X : Cx) β s (acc : Str) (Q : Str → Shared → Prop) (E : Value → Shared → Prop), Here Γ N ρ X β s σ → acc.length + 100000 * vs.length ≤ 2000000 →
  (∀ β' h' tk, Ext (frs X.fr) β s.heap β' h' → SR β' h' σ' → (ts.foldl (· ++ ·) acc).length ≤ 2000000 → Q (ts.foldl (· ++ ·) acc) { s with heap := h', toks := tk }) → Joins (model X.C.prog X.C.w) X.A E (evalEach vs X.env) acc Q s
theorem f_nil : Ef Γ N ρ [] σ [] σ := .mk fun X β s acc Q E H hl P => P β s.heap s.toks .refl H.I.sr (by simpa using hl)
theorem f_text {x : Str} {k : Nat} {p : Pos} {r : List Expr} {ts : List Str} (hs : textOk x = true) (h : Ef Γ N ρ r σ ts σ₁) : Ef Γ N ρ (.Constant (.str x) k p :: r) σ (x :: ts) σ₁ := .mk fun X β s acc Q E H hl P => by
  have t1 := text_le hs
  have t3 := sizeLine_ge
  rw [List.length_cons] at hl
  exact PySem.Calls.Constant_str ⟨x, _, rfl, by rw [strLen_append]; omega, h.run X β _ _ Q E (H.next (s₁ := { s with toks := s.toks + 1 }) .refl H.I.sr) (by rw [strLen_append]; omega) P⟩
/-- a value's text in a field -/
structure Fld (v : PV) (t : Str) : Prop where
  le : t.length ≤ 100000
  run : ∀ (X : Cx) β (s : Shared) va (Q : Value → Shared → Prop) (E : Value → Shared → Prop), VR β s.heap va v → (∀ t' tk, Q (.str t t') { s with toks := tk }) → wpAny (model X.C.prog X.C.w) X.A (formatField va Str.empty) Q E s
theorem fld_int {i : Int} (h : i.natAbs < 10 ^ 9) : Fld (.int i) (strOfInt i) := by
  refine ⟨?_, fun X β s va Q E r hq => ?_⟩
  · have e := int_text_length_le10 (k := 9) (by decide) h
    unfold strOfInt
    rw [PySem.ofString_length]; omega
  · cases r; exact wpAny_formatField_int (natAbs_log h) (hq _ _)
theorem fld_str {x : Str} (h : textOk x = true) : Fld (.str x) x := by
  have t1 := text_le h
  have t3 := sizeLine_ge
  exact ⟨t1, fun X β s va Q E r hq => by cases r; exact wpAny_formatField_str (hq _ s.toks) (hq _ _) (by omega)⟩
theorem f_field {e : Expr} {c : Int} {p : Pos} {r : List Expr} {v : PV} {t : Str} {ts : List Str} (hc : c = -1) (h1 : Ev Γ N ρ e σ (.ok v σ₁)) (h2 : Fld v t) (h : Ef Γ N ρ r σ₁ ts σ₂) : Ef Γ N ρ (.FormattedValue e c .none p :: r) σ (t :: ts) σ₂ := .mk fun X β s acc Q E H hl P => by
  subst hc
  have t1 := h2.le
  have t3 := sizeLine_ge
  rw [List.length_cons] at hl
  refine wpAny_FormattedValue_plain (h1.run X β s H _ E fun a β₁ h₁ tk x S ra => h2.run X β₁ _ a _ E ra fun t' tk' => ⟨t, t', rfl, by rw [strLen_append]; omega, ?_⟩)
  exact h.run X β₁ _ _ Q E (H.next (s₁ := { s with heap := h₁, toks := tk' }) x S) (by rw [strLen_append]; omega) fun β' h' tk2 y S2 => P β' h' tk2 (x.trans y) S2
theorem many_texts {n : Nat} (h : n ≤ 8) : 0 + 100000 * (n + 1 + 1) ≤ 2000000 := by omega
theorem v_joined {v1 v2 : Expr} {vs : List Expr} {p : Pos} {ts : List Str} (hl : decide (vs.length ≤ 8) = true) (h1 : Ef Γ N ρ (v1 :: v2 :: vs) σ ts σ₁) : Ev Γ N ρ (.JoinedStr (v1 :: v2 :: vs) p) σ (.ok (.str (ts.foldl (· ++ ·) Str.empty)) σ₁) := .mk fun X β s H Q E P => by
  have t3 := sizeLine_ge
  show wpAny _ _ (joinParts Str.empty (evalEach (v1 :: v2 :: vs) X.env)) _ _ _
  have hz : Str.empty.length + 100000 * (v1 :: v2 :: vs).length ≤ 2000000 := by
    have e0 : Str.empty.length = 0 := rfl
    rw [e0, List.length_cons, List.length_cons]; exact many_texts (of_decide_eq_true hl)
  exact wpAny_joinPartsRec _ _ _ _ (h1.run X β s _ _ E H hz fun β' h' tk x S hle => ⟨by omega, P _ β' h' _ x S (.str _ _)⟩)
end
end Mine
end

-- S4
section
namespace Mine
open PySem PySem.W PyProof.Rows
variable [Z : Zero Frozen]

section
variable {σ : Store} {β : List Addr} {h : Heap}
/-! ## operators -/
theorem bop_int {op : Operator} {a b : Int} {w : R PV} (k : ∀ (X : Cx) β s ta tb Q E, Inv X.C X.A X.fr β s.heap σ → Post X.C X.fr β s relV Q E w → wpAny (model X.C.prog X.C.w) X.A (binaryOp op (.int a ta) (.int b tb)) Q E s) : Bop op (.int a) (.int b) σ w := .mk fun X β s va vb Q E I ra rb P => by
  cases ra; cases rb; exact k X β s _ _ Q E I P
theorem op_add {a b : Int} : Bop .Add (.int a) (.int b) σ (.ok (.int (a + b)) σ) := bop_int fun X β s ta tb Q E I P => add_int (P.val I.sr (.int _ _))
theorem op_sub {a b : Int} : Bop .Sub (.int a) (.int b) σ (.ok (.int (a - b)) σ) := bop_int fun X β s ta tb Q E I P => sub_int (P.val I.sr (.int _ _))
theorem op_mul {a b : Int} (h : a.natAbs < 1000000000000) : Bop .Mult (.int a) (.int b) σ (.ok (.int (a * b)) σ) := bop_int fun X β s ta tb Q E I P => mul_int (P.val I.sr (.int _ _)) (.of_left (bits_le h))
theorem op_mod {a b : Int} (h : 0 < b ∧ b < 1000000000) : Bop .Mod (.int a) (.int b) σ (.ok (.int (a % b)) σ) := bop_int fun X β s ta tb Q E I P => by
  refine mod_int' (by omega) ?_
  rw [Int.fmod_eq_emod_of_nonneg _ (by omega)]
  exact P.val I.sr (.int _ _)
theorem op_div {a b : Int} (h : 0 < b ∧ b < 1000000000) : Bop .FloorDiv (.int a) (.int b) σ (.ok (.int (a / b)) σ) := bop_int fun X β s ta tb Q E I P => by
  refine floordiv_int (by omega) ?_ (.inl (PyProof.noPylong_small (by omega)))
  rw [Int.fdiv_eq_ediv_of_nonneg _ (by omega)]
  exact P.val I.sr (.int _ _)
theorem op_cat {a b : Str} (h : (textOk a && textOk b) = true) : Bop .Add (.str a) (.str b) σ (.ok (.str (a ++ b)) σ) := .mk fun X β s va vb Q E I ra rb P => by
  rw [Bool.and_eq_true] at h
  have h1 := text_le h.1
  have h2 := text_le h.2
  have h3 := sizeLine_ge
  cases ra; cases rb
  exact PyProof.Rows.add_str (fun t' tk => P.val I.sr (.str _ _)) (by omega)
theorem VR.tup_inv {v : Value} {ds : List PV} (r : VR β h v (.tup ds)) : ∃ a vs n, v = .ref a ∧ IsT h a vs.toArray n ∧ VRs β h vs ds := by
  cases r with | tup l q => exact ⟨_, _, _, rfl, l, q⟩
theorem op_tup {a b : List PV} (h : (small a.length && small b.length) = true) : Bop .Add (.tup a) (.tup b) σ (.ok (.tup (a ++ b)) σ) := .mk fun X β s va vb Q E I ra rb P => by
  rw [Bool.and_eq_true] at h
  have h1 := small_le h.1
  have h2 := small_le h.2
  have h3 := sizeLine_ge
  obtain ⟨a1, vs, n1, rfl, la, qa⟩ := ra.tup_inv
  obtain ⟨b1, ws, n2, rfl, lb, qb⟩ := rb.tup_inv
  have l1 := qa.length
  have l2 := qb.length
  by_cases hv : vs = []
  · subst hv
    cases qa
    exact concat_meets ⟨_, la, rfl⟩ ⟨_, lb, rfl⟩ noFill_tuple_add seq_tuple_add PySem.F.slot_tuple_add PySem.F.entry_tuple_add (PySem.F.args_tuple_add_2 _ _)
      (AutoSeq1.tuple___add___tuple_tuple_0 a1 _ n1 b1 _ n2 (by simp)) ⟨la, lb, P.val (tk := s.toks) I.sr (.tup lb qb)⟩
  · by_cases hw : ws = []
    · subst hw
      cases qb
      refine concat_meets ⟨_, la, rfl⟩ ⟨_, lb, rfl⟩ noFill_tuple_add seq_tuple_add PySem.F.slot_tuple_add PySem.F.entry_tuple_add (PySem.F.args_tuple_add_2 _ _)
        (AutoSeq1.tuple___add___tuple_tuple_1 a1 _ n1 b1 _ n2 (by simpa using hv) (by simp)) ⟨la, lb, ?_⟩
      rw [List.append_nil] at P
      exact P.val (tk := s.toks) I.sr (.tup la qa)
    · refine PySem.P.add_tuple la lb (by simpa using hv) (by simpa using hw) ?_ (by simp; omega)
      have e2 : vs.toArray ++ ws.toArray = (vs ++ ws).toArray := by simp
      rw [e2]
      exact P.tup (tk := s.toks) I (qa.append qb)
theorem op_list {n k : Nat} {a b : List PV} (h1 : σ[n]? = some (.list a)) (h2 : σ[k]? = some (.list b)) (h : (small a.length && small b.length) = true) : Bop .Add (.ref n) (.ref k) σ (.ok (.ref σ.length) (σ ++ [.list (a ++ b)])) := .mk fun X β s va vb Q E I ra rb P => by
  rw [Bool.and_eq_true] at h
  obtain ⟨a1, vs, m1, rfl, _, l1, q1⟩ := list_of I.sr ra h1
  obtain ⟨b1, ws, m2, rfl, _, l2, q2⟩ := list_of I.sr rb h2
  have t1 := small_le h.1
  have t2 := small_le h.2
  have t3 := sizeLine_ge
  have t4 := q1.length
  have t5 := q2.length
  refine PySem.P.add_list l1 l2 ?_ (by simp; omega)
  have e2 : vs.toArray ++ ws.toArray = (vs ++ ws).toArray := by simp
  rw [e2]
  exact P.alloc (tk := s.toks) I (q1.append q2)

/-! ## comparisons -/
theorem cop_int {op : CmpOp} {a b : Int} {c : Bool} (k : ∀ (X : Cx) s ta tb (Q : Value → Shared → Prop) E, Q (.bool c) s → wpAny (model X.C.prog X.C.w) X.A (compareOp op (.int a ta) (.int b tb)) Q E s) : Cop op (.int a) (.int b) σ (.ok c σ) := .mk fun X β s va vb Q E _ I ra rb P => by
  cases ra; cases rb; exact k X s _ _ Q E (P.same (tk := s.toks) I.sr rfl)
theorem k_lt {a b : Int} : Cop .Lt (.int a) (.int b) σ (.ok (decide (a < b)) σ) := cop_int fun _ _ _ _ _ _ h => lt_int h
theorem k_le {a b : Int} : Cop .LtE (.int a) (.int b) σ (.ok (decide (a ≤ b)) σ) := cop_int fun _ _ _ _ _ _ h => le_int h
theorem k_gt {a b : Int} : Cop .Gt (.int a) (.int b) σ (.ok (decide (b < a)) σ) := cop_int fun _ _ _ _ _ _ h => gt_int h
theorem k_ge {a b : Int} : Cop .GtE (.int a) (.int b) σ (.ok (decide (b ≤ a)) σ) := cop_int fun _ _ _ _ _ _ h => ge_int h
/-- == of what is plain data, or of lists of it -/
structure Eqt (a b : PV) (σ : Store) (c : Bool) : Prop where
  run : ∀ (X : Cx) β (s : Shared) va vb, X.A.units + 2100 < cLine → Inv X.C X.A X.fr β s.heap σ → VR β s.heap va a → VR β s.heap vb b →
  (∀ Q E, Q (.bool c) s → wpAny (model X.C.prog X.C.w) X.A (compareOp .Eq va vb) Q E s) ∧ (∀ Q E, Q (.bool (!c)) s → wpAny (model X.C.prog X.C.w) X.A (compareOp .NotEq va vb) Q E s)
theorem k_eq {a b : PV} {c : Bool} (h : Eqt a b σ c) : Cop .Eq a b σ (.ok c σ) := .mk fun X β s va vb Q E u I ra rb P => (h.run X β s va vb u I ra rb).1 Q E (P.same (tk := s.toks) I.sr rfl)
theorem k_ne {a b : PV} {c : Bool} (h : Eqt a b σ c) : Cop .NotEq a b σ (.ok (!c) σ) := .mk fun X β s va vb Q E u I ra rb P => (h.run X β s va vb u I ra rb).2 Q E (P.same (tk := s.toks) I.sr rfl)
theorem eq_plain {x y : PV} (hl : (x.lay && y.lay && decide (x.depth < 2000)) = true) : Eqt x y σ (pyEq x y) := .mk fun X β s va vb hu I rx ry => by
  simp only [Bool.and_eq_true, decide_eq_true_eq] at hl
  obtain ⟨as, p⟩ := rx.reads hl.1.1
  obtain ⟨bs, q⟩ := ry.reads hl.1.2
  have l1 := lay_can x hl.1.1
  have l2 := lay_can y hl.1.2
  have hm : X.A.units + min x.toD.depth y.toD.depth < cLine := by
    have := Nat.min_le_left x.toD.depth y.toD.depth
    omega
  exact ⟨fun Q E hq => SeqAt.compareEq_reads p q l1.1 l2.1 hm hq, fun Q E hq => SeqAt.compareNe_reads p q l1.1 l2.1 hm hq⟩
theorem eq_str {x y : Str} (hx : PyData.strOk x = true) (hy : PyData.strOk y = true) : Eqt (.str x) (.str y) σ (x == y) :=
  eq_plain (x := .str x) (y := .str y) (by simp [PV.lay, PV.depth, hx, hy])
theorem eq_int {a b : Int} : Eqt (.int a) (.int b) σ (a == b) := eq_plain (x := .int a) (y := .int b) (by simp [PV.lay, PV.depth])
theorem eq_lists {n k : Nat} {xs ys : List PV} (hx : σ[n]? = some (.list xs)) (hy : σ[k]? = some (.list ys)) (hl : (PV.lays xs && PV.lays ys && decide (PV.depths xs < 2000)) = true) : Eqt (.ref n) (.ref k) σ (PyData.eqvAll (PV.toDs xs) (PV.toDs ys)) := .mk fun X β s va vb hu I ra rb => by
  simp only [Bool.and_eq_true, decide_eq_true_eq] at hl
  obtain ⟨a1, vs, m1, rfl, _, l1, q1⟩ := list_of I.sr ra hx
  obtain ⟨b1, ws, m2, rfl, _, l2, q2⟩ := list_of I.sr rb hy
  obtain ⟨as, p⟩ := q1.reads hl.1.1
  obtain ⟨bs, q⟩ := q2.reads hl.1.2
  have c1 := lays_can xs hl.1.1
  have c2 := lays_can ys hl.1.2
  have r1 : Reads s.heap (.ref a1) (.list (PV.toDs xs)) _ := .list l1 rfl rfl (by simpa using p)
  have r2 : Reads s.heap (.ref b1) (.list (PV.toDs ys)) _ := .list l2 rfl rfl (by simpa using q)
  have hm : X.A.units + min (PyData.list (PV.toDs xs)).depth (PyData.list (PV.toDs ys)).depth < cLine := by
    have := Nat.min_le_left (PyData.list (PV.toDs xs)).depth (PyData.list (PV.toDs ys)).depth
    have e1 : (PyData.list (PV.toDs xs)).depth = PyData.depthAll (PV.toDs xs) + 1 := by rw [PyData.depth]
    omega
  have k1 : (PyData.list (PV.toDs xs)).canLay0 = true := by rw [PyData.canLay0]; exact c1.1
  have k2 : (PyData.list (PV.toDs ys)).canLay0 = true := by rw [PyData.canLay0]; exact c2.1
  exact ⟨fun Q E hq => SeqAt.compareEq_reads r1 r2 k1 k2 hm (by rw [PyData.eqv]; exact hq), fun Q E hq => SeqAt.compareNe_reads r1 r2 k1 k2 hm (by rw [PyData.eqv]; exact hq)⟩
theorem k_is_none : Cop .Is .none .none σ (.ok true σ) := .mk fun X β s va vb Q E u I ra rb P => by
  cases ra; cases rb; exact is_none_none (P.same (tk := s.toks) I.sr rfl)
theorem k_is_tup {ds : List PV} : Cop .Is (.tup ds) .none σ (.ok false σ) := .mk fun X β s va vb Q E u I ra rb P => by
  cases ra; cases rb; exact is_ref_none (P.same (tk := s.toks) I.sr rfl)
theorem k_isnot_none : Cop .IsNot .none .none σ (.ok false σ) := .mk fun X β s va vb Q E u I ra rb P => by
  cases ra; cases rb; exact isnot_none_none (P.same (tk := s.toks) I.sr rfl)
theorem k_isnot_tup {ds : List PV} : Cop .IsNot (.tup ds) .none σ (.ok true σ) := .mk fun X β s va vb Q E u I ra rb P => by
  cases ra; cases rb; exact isnot_ref_none (P.same (tk := s.toks) I.sr rfl)
theorem k_in {n : Nat} {x : PV} {xs : List PV} (hx : σ[n]? = some (.list xs)) (hl : (PV.lays xs && x.lay && decide (PV.depths xs < 2000)) = true) : Cop .In x (.ref n) σ (.ok (xs.any fun y => pyEq y x) σ) := .mk fun X β s va vb Q E hu I ra rb P => by
  simp only [Bool.and_eq_true, decide_eq_true_eq] at hl
  obtain ⟨a1, vs, m1, rfl, _, l1, q1⟩ := list_of I.sr rb hx
  obtain ⟨f, f1, f2⟩ := items_test (A' := X.A.in1) q1 ra hl.1.1 hl.1.2 (by show X.A.units + 1 + 2000 < cLine; omega) hl.2
  refine SeqAt.in_listAt f (isList_of l1) (fun y hy => f1 y (by simpa using hy)) ?_
  have e2 : vs.toArray.any f = xs.any fun y => pyEq y x := by rw [← any_same q1.length f2]; simp
  rw [e2]
  exact P.same (tk := s.toks) I.sr rfl
theorem k_notin {x y : Str} {c : Nat} (hc : x = ⟨#[c]⟩) : Cop .NotIn (.str x) (.str y) σ (.ok (!(y.cps.toList.contains c)) σ) := .mk fun X β s va vb Q E u I ra rb P => by
  cases ra; cases rb
  refine PySem.P.notIn_str ?_
  rw [hc, StrLaws.found_one]
  have e3 : (!decide (c ∈ y.cps.toList)) = !(y.cps.toList.contains c) := by simp
  rw [e3]
  exact P.same (tk := s.toks) I.sr rfl

/-! ## items and slices -/
theorem plain_of {v : PV} (k : ∀ (X : Cx) β (s : Shared) o, Inv X.C X.A X.fr β s.heap σ → VR β s.heap o v → ∃ T id, s.TypeIs o T ∧ Slot T (Str.ofString "__getitem__") id ∧ o ≠ .builtin "sys.modules#opaque") : Plain v σ := .mk fun X β s o Q E I r hq => by
  obtain ⟨T, id, hT, sl, hne⟩ := k X β s o I r
  rw [getitemInPython_of_ne hne]
  exact wpAny_bind (wpAny_specialOf (name := Str.ofString "__getitem__") hT sl.lookup (wpAny_pure hq))
theorem pl_tup {ds : List PV} : Plain (.tup ds) σ := plain_of fun X β s o I r => by
  obtain ⟨a, vs, n, rfl, l, q⟩ := r.tup_inv
  exact ⟨"tuple", _, ⟨_, l, rfl⟩, slot_tuple_getitem, by simp⟩
theorem pl_str {x : Str} : Plain (.str x) σ := plain_of fun X β s o I r => by
  cases r with | str x t => exact ⟨"str", _, typeIs_str s _ t, PySem.F.slot_str_getitem, by simp⟩
theorem pl_ref {n : Nat} {ds : List PV} (h : σ[n]? = some (.list ds)) : Plain (.ref n) σ := plain_of fun X β s o I r => by
  obtain ⟨a1, vs, m1, rfl, _, l1, _⟩ := list_of I.sr r h
  exact ⟨"list", _, ⟨_, l1, rfl⟩, PySem.F.slot_list_getitem, by simp⟩
theorem pl_old : Plain (.old (Zero.zero : Frozen).ns) σ := plain_of fun X β s o I r => by
  obtain ⟨vs, ⟨o1, l1, c1, d1⟩, q1⟩ := I.old
  cases r
  exact ⟨"list", _, ⟨o1, I.stays _ _ l1, c1⟩, PySem.F.slot_list_getitem, by simp⟩
theorem it_tup {ds : List PV} {i : Int} {v : PV} (hi : decide (i.natAbs < 2 ^ 62) = true) (h : pickAt ds i = some v) : Itm (.tup ds) (.int i) σ (.ok v σ) := ⟨pl_tup, fun X β s vo vk Q E I ro rk P => by
  have hi := of_decide_eq_true hi
  obtain ⟨a, vs, n, rfl, l, q⟩ := ro.tup_inv
  cases rk
  obtain ⟨j, hj, hx⟩ := seqIndex_pick h
  obtain ⟨v, hv, rv⟩ := q.get hx
  exact PySem.P.getItem_tuple l (by omega) (by omega) (k := j) (by rw [← hj]; simp [q.length]) (by simpa using hv) (P.val (tk := s.toks) I.sr rv)⟩
theorem it_str {x : Str} {i : Int} {v : PV} (hi : decide (i.natAbs < 2 ^ 62) = true) (h : signAt x i = some v) : Itm (.str x) (.int i) σ (.ok v σ) := ⟨pl_str, fun X β s vo vk Q E I ro rk P => by
  have hi := of_decide_eq_true hi
  cases rk
  cases ro
  unfold signAt at h
  obtain ⟨c, hc, rfl⟩ := Option.map_eq_some_iff.mp h
  obtain ⟨j, hj, hx⟩ := seqIndex_pick hc
  refine PySem.P.getItem_str (c := c) (by simp; omega) ?_ (P.val I.sr (.str _ _))
  have : x.length = x.cps.toList.length := by simp [Str.length]
  rw [this, hj]
  simpa using hx⟩
theorem it_ref {n : Nat} {ds : List PV} {i : Int} {v : PV} (hn : σ[n]? = some (.list ds)) (hi : decide (i.natAbs < 2 ^ 62) = true) (h : pickAt ds i = some v) : Itm (.ref n) (.int i) σ (.ok v σ) := ⟨pl_ref hn, fun X β s vo vk Q E I ro rk P => by
  have hi := of_decide_eq_true hi
  cases rk
  obtain ⟨a1, vs, m1, rfl, _, l1, q1⟩ := list_of I.sr ro hn
  have e2 : vs.toArray.size = ds.length := by simp [q1.length]
  unfold pickAt at h
  split at h
  · rename_i h0
    obtain ⟨v, hv, rv⟩ := q1.get h
    exact wpAny_getItem_list (isList_of l1) h0 (by omega) (by simpa using hv) (P.val (tk := s.toks) I.sr rv)
  · split at h
    · rename_i h0 h2
      obtain ⟨v, hv, rv⟩ := q1.get h
      exact wpAny_getItem_list_neg (isList_of l1) (by omega) (by rw [e2]; omega) (by omega) (by rw [e2]; simpa using hv) (P.val (tk := s.toks) I.sr rv)
    · cases h⟩
theorem pk_nat {α : Type} {xs : List α} {i : Int} {k : Nat} {v : α} (hi : i = (k : Int)) (h : xs[k]? = some v) : pickAt xs i = some v := by
  subst hi; unfold pickAt; rw [if_pos (Int.natCast_nonneg k)]; exact h
theorem sl_tup {ds : List PV} {lo hi : PV} {a b : Option Nat} (h1 : bound lo = some a) (h2 : bound hi = some b) (h : small ds.length = true) : Slc (.tup ds) lo hi σ (.ok (.tup (cut ds a b)) σ) := ⟨pl_tup, fun X β s vo vl vu sl Q E I ro rl ru hs P => by
  have t1 := small_le h
  have t3 := sizeLine_ge
  obtain ⟨a1, vs, n, rfl, l, q⟩ := ro.tup_inv
  have t2 := q.length
  refine slice_tuple l hs (bound_is rl h1) (bound_is ru h2) (by omega) (fun h0 => ?_) (P.tup (tk := s.toks) I (q.cut _ _))
  have q2 := q.cut a b
  rw [h0] at q2
  exact P.val (tk := s.toks) I.sr (.tup l q2)⟩
theorem sl_str {x : Str} {lo hi : PV} {a b : Option Nat} (h1 : bound lo = some a) (h2 : bound hi = some b) (h : textOk x = true) : Slc (.str x) lo hi σ (.ok (.str ⟨(cut x.cps.toList a b).toArray⟩) σ) := ⟨pl_str, fun X β s vo vl vu sl Q E I ro rl ru hs P => by
  have t1 := text_le h
  have t3 := sizeLine_ge
  cases ro with
  | str _ t =>
    obtain ⟨l, u, rfl, rfl, h⟩ := sliceMade_cut (x := x) (t := t) (bound_is rl h1) (bound_is ru h2)
    refine wpAny_getItem_str_slice (l := l) (u := u) (st := none) hs (by decide) ?_
    rcases h with ⟨h, hx⟩ | h
    · rw [h]
      rw [hx] at P
      exact P.val (tk := s.toks) I.sr (.str _ _)
    · rw [h]
      refine ⟨?_, P.val I.sr (.str _ _)⟩
      have := cut_length x.cps.toList a b
      have e9 : x.cps.toList.length = x.cps.size := by simp
      simp [Str.length] at t1 ⊢
      omega⟩
theorem sl_ref {n : Nat} {ds : List PV} {lo hi : PV} {a b : Option Nat} (hn : σ[n]? = some (.list ds)) (h1 : bound lo = some a) (h2 : bound hi = some b) (h : small ds.length = true) : Slc (.ref n) lo hi σ (.ok (.ref σ.length) (σ ++ [.list (cut ds a b)])) := ⟨pl_ref hn, fun X β s vo vl vu sl Q E I ro rl ru hs P => by
  have t1 := small_le h
  have t3 := sizeLine_ge
  obtain ⟨a1, vs, m1, rfl, _, l1, q1⟩ := list_of I.sr ro hn
  have t2 := q1.length
  refine wpAny_getItem_list_slice (isList_of l1) hs (bound_part (bound_is rl h1)) (bound_part (bound_is ru h2)) .none (by simp) ?_ (by simp; omega)
  rw [slicePick_cut]
  exact P.alloc (tk := s.toks) I (q1.cut _ _)⟩
theorem sl_old {lo hi : PV} {a b : Option Nat} (h1 : bound lo = some a) (h2 : bound hi = some b) (h : small (Zero.zero : Frozen).ns.length = true) : Slc (.old (Zero.zero : Frozen).ns) lo hi σ (.ok (.ref σ.length) (σ ++ [.list (cut ((Zero.zero : Frozen).ns.map PV.int) a b)])) := ⟨pl_old, fun X β s vo vl vu sl Q E I ro rl ru hs P => by
  have t1 := small_le h
  have t3 := sizeLine_ge
  obtain ⟨vs, ⟨o1, l1, c1, d1⟩, q1⟩ := I.old
  cases ro
  have t2 := (q1 β s.heap).length
  rw [List.length_map] at t2
  refine wpAny_getItem_list_slice ⟨o1, I.stays _ _ l1, c1, d1⟩ hs (bound_part (bound_is rl h1)) (bound_part (bound_is ru h2)) .none (by simp) ?_ (by simp; omega)
  rw [slicePick_cut]
  exact P.alloc (tk := s.toks) I ((q1 β s.heap).cut _ _)⟩
theorem bd_none : bound .none = some none := rfl
theorem bd_nat {i : Int} {k : Nat} (hi : i = (k : Int)) (h : decide (k < 2 ^ 62) = true) : bound (.int i) = some (some k) := by
  subst hi
  have h' : k < 4611686018427387904 := of_decide_eq_true h
  have e : (2 : Int) ^ 62 = 4611686018427387904 := by decide
  have hc : 0 ≤ (k : Int) ∧ (k : Int) < 2 ^ 62 := by rw [e]; omega
  exact (if_pos hc : (if 0 ≤ (k : Int) ∧ (k : Int) < 2 ^ 62 then some (some (k : Int).toNat) else none) = some (some k))
theorem sl_1 {d : PV} {ds : List PV} (h : small (d :: ds).length = true) : Slc (.tup (d :: ds)) (.int 1) .none σ (.ok (.tup ds) σ) := sl_tup (bd_nat (k := 1) rfl (by decide)) bd_none h
theorem sl_2 {d e : PV} {ds : List PV} (h : small (d :: e :: ds).length = true) : Slc (.tup (d :: e :: ds)) (.int 2) .none σ (.ok (.tup ds) σ) := sl_tup (bd_nat (k := 2) rfl (by decide)) bd_none h
theorem sl_h1 {d : PV} {ds : List PV} (h : small (d :: ds).length = true) : Slc (.tup (d :: ds)) .none (.int 1) σ (.ok (.tup [d]) σ) := sl_tup bd_none (bd_nat (k := 1) rfl (by decide)) h
theorem small_of {n : Nat} (h : n ≤ 100000) : small n = true := decide_eq_true h
theorem small2 {n k : Nat} (h1 : n ≤ 100000) (h2 : k ≤ 100000) : (small n && small k) = true := by rw [small_of h1, small_of h2]; rfl
theorem text_of {s : Str} (h : s.length ≤ 100000) : textOk s = true := decide_eq_true h
end
end Mine
end

-- S5
section
namespace Mine
open PySem PySem.W PyProof.Rows
variable [Z : Zero Frozen]

section
variable {σ : Store}
/-! ## built-in calls -/
theorem bcl_1 {f : Str} {v : Value} {d : PV} {r : R PV} (hv : bootBuiltins f = some v) (hc : isCallee v) (hn : f ≠ "__name__") (k : ∀ (X : Cx) β s a Q E, Inv X.C X.A X.fr β s.heap σ → VR β s.heap a d → Post X.C X.fr β s relV Q E r → wpAny (model X.C.prog X.C.w) X.A (call v [a]) Q E s) : Bcl f [d] σ r :=
  .mk ⟨v, hv, hc, hn, fun X β s vs Q E I rs P => by
    cases rs with
    | cons ra rr => cases rr; exact k X β s _ Q E I ra P⟩
theorem bcl_2 {f : Str} {v : Value} {d e : PV} {r : R PV} (hv : bootBuiltins f = some v) (hc : isCallee v) (hn : f ≠ "__name__") (k : ∀ (X : Cx) β s a b Q E, Inv X.C X.A X.fr β s.heap σ → VR β s.heap a d → VR β s.heap b e → Post X.C X.fr β s relV Q E r → wpAny (model X.C.prog X.C.w) X.A (call v [a, b]) Q E s) : Bcl f [d, e] σ r :=
  .mk ⟨v, hv, hc, hn, fun X β s vs Q E I rs P => by
    cases rs with
    | cons ra rr => cases rr with | cons rb rr => cases rr; exact k X β s _ _ Q E I ra rb P⟩
theorem len_tup {ds : List PV} (h : small ds.length = true) : Bcl ("len" : Str) [.tup ds] σ (.ok (.int ds.length) σ) := bcl_1 (v := .builtin "len") (by kernel_rfl) trivial (by decide) fun X β s a Q E I ra P => by
  obtain ⟨b, vs, n, rfl, l, q⟩ := ra.tup_inv
  have t1 := small_le h
  have t2 := q.length
  have t3 := sizeLine_ge
  refine PySem.P.len_tuple l (by simp; omega) ?_
  rw [show ((vs.toArray.size : Nat) : Int) = (ds.length : Int) by simp [t2]]
  exact P.val I.sr (.int _ _)
theorem len_str {x : Str} (h : textOk x = true) : Bcl ("len" : Str) [.str x] σ (.ok (.int x.length) σ) := bcl_1 (v := .builtin "len") (by kernel_rfl) trivial (by decide) fun X β s a Q E I ra P => by
  have t1 := text_le h
  have t3 := sizeLine_ge
  cases ra
  exact PySem.P.len_str (by omega) (P.val I.sr (.int _ _))
theorem len_list {n : Nat} {ds : List PV} (hn : σ[n]? = some (.list ds)) (h : small ds.length = true) : Bcl ("len" : Str) [.ref n] σ (.ok (.int ds.length) σ) := bcl_1 (v := .builtin "len") (by kernel_rfl) trivial (by decide) fun X β s a Q E I ra P => by
  obtain ⟨a1, vs, m1, rfl, _, l1, q1⟩ := list_of I.sr ra hn
  have t1 := small_le h
  have t2 := q1.length
  have t3 := sizeLine_ge
  refine PySem.Calls.call_len_list (isList_of l1) (by simp; omega) ?_
  rw [show ((vs.toArray.size : Nat) : Int) = (ds.length : Int) by simp [t2]]
  exact P.val I.sr (.int _ _)
theorem int_int {i : Int} : Bcl ("int" : Str) [.int i] σ (.ok (.int i) σ) := bcl_1 (v := .type "int") (by kernel_rfl) trivial (by decide) fun X β s a Q E I ra P => by
  cases ra; exact call_int_int (P.val (tk := s.toks) I.sr (.int _ _))
theorem int_str {x : Str} {i : Int} (h : intOfText x = some i) : Bcl ("int" : Str) [.str x] σ (.ok (.int i) σ) := bcl_1 (v := .type "int") (by kernel_rfl) trivial (by decide) fun X β s a Q E I ra P => by
  cases ra
  unfold intOfText at h
  split at h
  · rename_i hl
    exact PySem.W.KIN.call_text h hl (P.val I.sr (.int _ _))
  · cases h
theorem str_int {i : Int} (h : i.natAbs < 10 ^ 9) : Bcl ("str" : Str) [.int i] σ (.ok (.str (strOfInt i)) σ) := bcl_1 (v := .type "str") (by kernel_rfl) trivial (by decide) fun X β s a Q E I ra P => by
  cases ra; exact PySem.P.str_of_int (natAbs_log h) (P.val I.sr (.str _ _))
theorem tuple_list {n : Nat} {ds : List PV} (hn : σ[n]? = some (.list ds)) (h : small ds.length = true) : Bcl ("tuple" : Str) [.ref n] σ (.ok (.tup ds) σ) := bcl_1 (v := .type "tuple") (by kernel_rfl) trivial (by decide) fun X β s a Q E I ra P => by
  have t1 := small_le h
  have t3 := sizeLine_ge
  obtain ⟨a1, ws, m1, rfl, _, l1, q1⟩ := list_of I.sr ra hn
  have t2 := q1.length
  refine call_tuple_list (isList_of l1) (fun h' hk => ?_) (by simp; omega)
  obtain ⟨x, S⟩ := keeps_ext I hk
  exact (P.next (tk := s.toks) x).tup (tk := s.toks) (I.next x S) (I.monos x q1)
theorem range_1 {b : Int} (h : decide (b.natAbs < 2 ^ 60) = true) : Bcl ("range" : Str) [.int b] σ (.ok (.rng 0 b) σ) := bcl_1 (v := .type "range") (by kernel_rfl) trivial (by decide) fun X β s a Q E I ra P => by
  have h := of_decide_eq_true h
  cases ra with
  | int _ tb => exact call_range_1 (P _ _ _ _ (.push _) (I.sr.keeps I.fns fun a o e _ => Heap.get?_push_of_some _ e) (.rng (IsRange.new _ _ _ _ _ _ _)))
theorem range_2 {a b : Int} (h : decide (a.natAbs < 2 ^ 60 ∧ b.natAbs < 2 ^ 60) = true) : Bcl ("range" : Str) [.int a, .int b] σ (.ok (.rng a b) σ) := bcl_2 (v := .type "range") (by kernel_rfl) trivial (by decide) fun X β s va vb Q E I ra rb P => by
  have h := of_decide_eq_true h
  cases ra with
  | int _ ta => cases rb with
    | int _ tb => exact call_range_2 (P _ _ _ _ (.push _) (I.sr.keeps I.fns fun a o e _ => Heap.get?_push_of_some _ e) (.rng (IsRange.new _ _ _ _ _ _ _)))
theorem max_2 {a b : Int} : Bcl ("max" : Str) [.int a, .int b] σ (.ok (.int (max a b)) σ) := bcl_2 (v := .builtin "max") (by kernel_rfl) trivial (by decide) fun X β s va vb Q E I ra rb P => by
  cases ra; cases rb
  refine PySem.max_two_ints I.hh fun h' tk hk => ?_
  obtain ⟨x, S⟩ := keeps_ext I hk
  by_cases hab : b > a
  · rw [if_pos hab]
    rw [show max a b = b by omega] at P
    exact P _ _ _ _ x S (.int _ _)
  · rw [if_neg hab]
    rw [show max a b = a by omega] at P
    exact P _ _ _ _ x S (.int _ _)

/-! ## methods of lists -/
theorem kn_of {m : Str} {n : Nat} {ds : List PV} {id : String} (hn : σ[n]? = some (.list ds)) (k : ∀ (X : Cx) (s : Shared) a1 pl (Q : Value × List Value → Shared → Prop) E, s.TypeIs (.ref a1) "list" → (∀ a, Value.ref a1 = .ref a → ∃ o, s.heap.get? a = some o ∧ o.dict = none) → Q (.builtin id, [.ref a1]) s → wpAny (model X.C.prog X.C.w) X.A (getMethod (.ref a1) m pl) Q E s) : Knows m (.ref n) σ id := .mk fun X β s vo pl Q E I ro hq => by
  obtain ⟨a1, vs, m1, rfl, _, l1, _⟩ := list_of I.sr ro hn
  exact k X s a1 pl Q E ⟨_, l1, rfl⟩ (fun a q => by cases q; exact ⟨_, l1, rfl⟩) hq
theorem kn_append {n : Nat} {ds : List PV} (hn : σ[n]? = some (.list ds)) : Knows ("append" : Str) (.ref n) σ "list.append" := kn_of hn fun _ _ _ _ _ _ hT hd hq => getMethod_builtin hT PySem.F.plainAttrs_list PySem.F.slot_list_append PySem.F.type_list_append hd hq
theorem kn_extend {n : Nat} {ds : List PV} (hn : σ[n]? = some (.list ds)) : Knows ("extend" : Str) (.ref n) σ "list.extend" := kn_of hn fun _ _ _ _ _ _ hT hd hq => getMethod_builtin hT PySem.F.plainAttrs_list PySem.F.slot_list_extend PySem.F.type_list_extend hd hq
theorem kn_pop {n : Nat} {ds : List PV} (hn : σ[n]? = some (.list ds)) : Knows ("pop" : Str) (.ref n) σ "list.pop" := kn_of hn fun _ _ _ _ _ _ hT hd hq => getMethod_builtin hT PySem.F.plainAttrs_list PySem.F.slot_list_pop PySem.F.type_list_pop hd hq
theorem kn_index {n : Nat} {ds : List PV} (hn : σ[n]? = some (.list ds)) : Knows ("index" : Str) (.ref n) σ "list.index" := kn_of hn fun _ _ _ _ _ _ hT hd hq => getMethod_builtin hT PySem.F.plainAttrs_list PySem.F.slot_list_index PySem.F.type_list_index hd hq

theorem Post.turn {C : Conf} {A : Around} {fr : List Env} {β : List Addr} {s : Shared} {Q : Value → Shared → Prop} {E : Value → Shared → Prop} {d : PV} {v : Value} {n : Nat} {a : Addr} {f : Array Value → Array Value} {vs ws : List Value} {m : Nat} {ds : List PV} {tk : Tok}
    (P : Post C fr β s relV Q E (.ok d (σ.set n (.list ds)))) (I : Inv C A fr β s.heap σ) (ha : β[n]? = some a) (l : IsL s.heap a vs.toArray m) (hf : f vs.toArray = ws.toArray) (r : VRs β s.heap ws ds) (rv : VR β s.heap v d) :
    Q v { s with heap := s.heap.update a (Obj.mapSeq f), toks := tk } := by
  obtain ⟨x, S⟩ := I.sr.update I.fns ha l hf r
  exact P v β _ tk x S (I.mono x rv)
theorem m_append {n : Nat} {ds : List PV} {v : PV} (hn : σ[n]? = some (.list ds)) (h : small ds.length = true) : Mcl "list.append" (.ref n) [v] σ (.ok .none (σ.set n (.list (ds ++ [v])))) := .mk fun X β s vo vs Q E _ I ro rs P => by
  obtain ⟨a1, ws, m1, rfl, h1, l1, q1⟩ := list_of I.sr ro hn
  have t1 := small_le h
  have t2 := q1.length
  have t3 := sizeLine_ge
  cases rs with
  | cons ra rr =>
    cases rr
    refine call_meets PySem.F.slot_list_append ⟨_, l1, rfl⟩ PySem.F.entry_list_append (PySem.F.args_list_append_2 _ _) (PySem.list_append a1 _ m1 _ (by simp; omega)) ⟨l1, ?_⟩
    exact P.turn (tk := s.toks) I h1 l1 (by simp) (q1.append (.cons ra .nil)) .none
theorem m_extend {n k : Nat} {ds es : List PV} (hn : σ[n]? = some (.list ds)) (hk : σ[k]? = some (.list es)) (h : (small ds.length && small es.length && decide (n ≠ k)) = true) : Mcl "list.extend" (.ref n) [.ref k] σ (.ok .none (σ.set n (.list (ds ++ es)))) := .mk fun X β s vo vs Q E _ I ro rs P => by
  simp only [Bool.and_eq_true, decide_eq_true_eq] at h
  obtain ⟨a1, ws, m1, rfl, h1, l1, q1⟩ := list_of I.sr ro hn
  cases rs with
  | cons ra rr =>
    cases rr
    obtain ⟨a2, us, m2, rfl, h2, l2, q2⟩ := list_of I.sr ra hk
    have t1 := small_le h.1.1
    have t4 := small_le h.1.2
    have t2 := q1.length
    have t5 := q2.length
    have t3 := sizeLine_ge
    refine call_meets PySem.F.slot_list_extend ⟨_, l1, rfl⟩ PySem.F.entry_list_extend (PySem.F.args_list_extend_2 _ _) (PySem.AutoSeq1.list_extend_list_list_0 a1 _ m1 a2 _ m2 (PyProof.Rows.extend_door (by simp; omega)) (by simp; omega) (by simp; omega)) ⟨l1, l2, ?_⟩
    exact P.turn (tk := s.toks) I h1 l1 (by simp) (q1.append q2) .none
theorem VRs.last {β : List Addr} {h : Heap} {ws : List Value} {ds : List PV} {v : PV} (q : VRs β h ws (ds ++ [v])) : ∃ us w, ws = us ++ [w] ∧ VRs β h us ds ∧ VR β h w v := by
  induction ds generalizing ws with
  | nil => cases q with | cons a r => cases r; exact ⟨[], _, rfl, .nil, a⟩
  | cons d ds ih => cases q with
    | cons a r =>
      obtain ⟨us, w, rfl, q1, q2⟩ := ih r
      exact ⟨_ :: us, w, rfl, .cons a q1, q2⟩
theorem m_pop {n : Nat} {ds : List PV} {v : PV} (hn : σ[n]? = some (.list (ds ++ [v]))) (h : small (ds ++ [v]).length = true) : Mcl "list.pop" (.ref n) [] σ (.ok v (σ.set n (.list ds))) := .mk fun X β s vo vs Q E _ I ro rs P => by
  obtain ⟨a1, ws, m1, rfl, h1, l1, q1⟩ := list_of I.sr ro hn
  obtain ⟨us, w, rfl, q2, rw'⟩ := q1.last
  have t1 := small_le h
  have t2 := q2.length
  have t3 := sizeLine_ge
  rw [List.length_append] at t1
  cases rs
  refine call_meets PySem.F.slot_list_pop ⟨_, l1, rfl⟩ PySem.F.entry_list_pop (PySem.F.args_list_pop_1 _) (PySem.MeetsSeq.list_pop_last a1 _ m1 w (by simp) (by simp; omega)) ⟨l1, ?_⟩
  refine P.turn (tk := s.toks) (ws := us) I h1 l1 ?_ q2 rw'
  rw [PyProof.Rows.Copied.erase_last_eq_pop]
  · simp
theorem m_index {n i : Nat} {ds : List PV} {x : PV} (hn : σ[n]? = some (.list ds)) (h : (PV.lays ds && x.lay && decide (PV.depths ds < 2000) && small ds.length) = true) (hi : (ds.findIdx? fun y => pyEq y x) = some i) : Mcl "list.index" (.ref n) [x] σ (.ok (.int i) σ) := .mk fun X β s vo vs Q E hu I ro rs P => by
  simp only [Bool.and_eq_true, decide_eq_true_eq] at h
  obtain ⟨a1, ws, m1, rfl, h1, l1, q1⟩ := list_of I.sr ro hn
  have t1 := small_le h.2
  have t2 := q1.length
  cases rs with
  | cons ra rr =>
    cases rr
    obtain ⟨f, f1, f2⟩ := items_test (A' := X.A.in1) q1 ra h.1.1.1 h.1.1.2 (by show X.A.units + 1 + 2000 < cLine; omega) h.1.2
    rw [List.findIdx?_eq_some_iff_getElem] at hi
    obtain ⟨hlt, hit, hno⟩ := hi
    have hlt' : i < ws.length := by omega
    have at_ : ∀ j (hj : j < ws.length) (hj' : j < ds.length), f ws[j] = pyEq ds[j] x := fun j hj hj' => f2 j _ _ (List.getElem?_eq_getElem hj) (List.getElem?_eq_getElem hj')
    refine call_meets PySem.F.slot_list_index ⟨_, l1, rfl⟩ PySem.F.entry_list_index (PySem.F.args_list_index_2 _ _)
      (SeqAt.list_indexAt a1 ws.toArray m1 none #[] _ f i (by simpa using hlt') (by omega) ?_ ?_) ⟨l1, fun y hy => f1 y (by simpa using hy), P.val I.sr (.int _ _)⟩
    · show f ws[i] = true
      rw [at_ i hlt' hlt]; exact hit
    · intro j hj hji
      have hj' : j < ws.length := by simpa using hj
      show f ws[j] = false
      rw [at_ j hj' (by omega)]; simpa using hno j hji
end

/-! ## calls -/
section
variable {Γ : Ctx} {N : Names} {ρ : Vars} {σ σ₁ σ₂ σ₃ σ₄ : Store} {X : Cx} {β β₁ : List Addr} {s s₁ : Shared}
theorem plain_any {args : List Expr} (hp : plainArgs args = true) (pos : Pos) (env : Env) : (backTo pos (starEach args env)).any (·.1) = false := by
  unfold plainArgs at hp
  rw [Bool.and_eq_true] at hp
  have h2 := hp.2
  clear hp
  induction args with
  | nil => rfl
  | cons e r ih =>
    rw [List.all_cons, Bool.and_eq_true] at h2
    have := ih h2.2
    have hs : starEach (e :: r) env = (false, eval e env) :: starEach r env := by
      cases e <;> first | rfl | (have := h2.1; simp at this)
    rw [hs]
    show (false || (backTo pos (starEach r env)).any (·.1)) = false
    rw [this]; rfl
theorem evalArgs_all {f : Value} {args : List Expr} {env : Env} {pos : Pos} {s : Shared} {Q : Args → Shared → Prop} {E : Value → Shared → Prop} {M : Model} {A : Around} (hp : plainArgs args = true)
    (h : wpAny M A (spliced (backTo pos (starEach args env))) (fun vs s' => Q ⟨vs, []⟩ s') E s) : wpAny M A (evalArgs f true (backTo pos (starEach args env)) []) Q E s := by
  have ha := plain_any hp pos env
  cases hl : backTo pos (starEach args env) with
  | nil =>
    rw [hl] at h
    unfold evalArgs
    show wpAny M A (spliced [] >>= _) Q E s
    refine wpAny_bind (wpAny_mono h (fun vs s' h' => ?_) fun _ _ x => x)
    refine wpAny_holding ?_
    exact wpAny_bind (wpAny_pure (wpAny_bind (wpAny_pure (wpAny_pure h'))))
  | cons x rest =>
    obtain ⟨b, t⟩ := x
    rw [hl] at h ha
    cases b with
    | false => exact PySem.Calls.evalArgs_plain h
    | true => simp at ha
theorem callWith_callee {C : Conf} {A : Around} {v : Value} {args : List Expr} {env : Env} {pos : Pos} {s : Shared} {Q : Value → Shared → Prop} {E : Value → Shared → Prop} (hv : isCallee v) (hp : plainArgs args = true)
    (h : wpAny (model C.prog C.w) A (spliced (backTo pos (starEach args env))) (fun vs s' => wpAny (model C.prog C.w) A (call v vs) Q E s') E s) : wpAny (model C.prog C.w) A (callWith pos v [] (backTo pos (starEach args env)) []) Q E s := by
  cases v <;> first | exact hv.elim | exact PySem.Calls.callWith_builtin (plain_any hp pos env) (evalArgs_all hp h) | exact PySem.callWith_type (plain_any hp pos env) (evalArgs_all hp h)
theorem inK_now {C : Conf} {A : Around} {fr : List Env} {β : List Addr} {h : Heap} {σ : Store} (I : Inv C A fr β h σ) : C.K.In h := fun a o e => I.stays a o (I.inK a o e)
theorem keep_fn {K : Frag} {a : Addr} (hk : fnIn K a = true) : keepIn K (.ref a) = true := by
  unfold fnIn at hk
  unfold keepIn
  split at hk
  · rename_i q; simp only [q]
  · cases hk
theorem v_call {f : Str} {args : List Expr} {fp p : Pos} {vs : List PV} {w : R PV} (hu : userCall Γ N f args = true) (h1 : Es Γ N ρ args σ (.ok vs σ₁)) (h2 : Cl Γ f vs σ₁ w) : Ev Γ N ρ (.Call (.Name f fp) args [] p) σ w := .mk fun X β s H Q E P => by
  unfold userCall at hu
  rw [Bool.and_eq_true, Bool.and_eq_true, Bool.and_eq_true] at hu
  obtain ⟨⟨⟨hd, hg⟩, hb⟩, hp⟩ := hu
  obtain ⟨D, hD⟩ := Option.isSome_iff_exists.mp hd
  obtain ⟨a, o, fd, ha, hk, _⟩ := H.T.defs f D hD
  refine wpAny_Call_NameR (name_glob H hb hg ha (callWith_of (P := X.C.K.In) (by rw [plain_any hp p X.env]; rfl) (keeps_K (keep_fn hk)) (evalArgs_all hp ((h1 p).run X β s H _ E fun vs β₁ h₁ tk x S ra => ?_))))
  have H₁ := H.next (s₁ := { s with heap := h₁, toks := tk }) x S
  exact ⟨inK_now H₁.I, h2.run X β₁ _ vs Q E a H₁.T H₁.deep H₁.units ha H₁.I ra (P.next x)⟩
theorem v_call_exc {f : Str} {args : List Expr} {fp p : Pos} {vs : List PV} {k : Exn} (hu : userCall Γ N f args = true) (h1 : Es Γ N ρ args σ (.ok vs σ₁)) (h2 : Cl Γ f vs σ₁ (.exc k σ₂)) : Ev Γ N ρ (.Call (.Name f fp) args [] p) σ (.exc k σ₂) := v_call hu h1 h2
theorem v_built {f : Str} {args : List Expr} {fp p : Pos} {vs : List PV} {w : R PV} (hu : builtCall Γ N f args = true) (h1 : Es Γ N ρ args σ (.ok vs σ₁)) (h2 : Bcl f vs σ₁ w) : Ev Γ N ρ (.Call (.Name f fp) args [] p) σ w := .mk fun X β s H Q E P => by
  unfold builtCall at hu
  rw [Bool.and_eq_true, Bool.and_eq_true, Bool.and_eq_true, Bool.and_eq_true] at hu
  obtain ⟨⟨⟨⟨hd, hg⟩, hb⟩, hp⟩, hm⟩ := hu
  obtain ⟨v, hv, hc, hn, k⟩ := h2.run
  refine wpAny_Call_NameR (name_builtin H hb hg (H.T.undef f (by simpa using hm) (by simpa [Ctx.isDef] using hd)) hn hv (callWith_callee hc hp ((h1 p).run X β s H _ E fun vs β₁ h₁ tk x S ra => ?_)))
  exact k X β₁ _ vs Q E (H.I.next x S) ra (P.next x)
def insCall (Γ : Ctx) (N : Names) : Bool := !Γ.isDef ("isinstance" : Str) && isGlob N ("isinstance" : Str) && !Γ.isDef ("tuple" : Str) && isGlob N ("tuple" : Str)
/-- is it a tuple -/
structure Ins (v : PV) (b : Bool) : Prop where
  run : ∀ (X : Cx) β (s : Shared) va (Q : Value → Shared → Prop) E, VR β s.heap va v → (∀ tk, Q (.bool b) { s with toks := tk }) → wpAny (model X.C.prog X.C.w) X.A (call (.builtin "isinstance") [va, .type "tuple"]) Q E s
theorem ins_tup {ds : List PV} : Ins (.tup ds) true := .mk fun X β s va Q E r hq => by
  obtain ⟨a, vs, n, rfl, l, q⟩ := r.tup_inv
  exact PySem.IsiPair.isTuple_tuple (isTuple_at l) (fun _ _ e => e) (hq s.toks)
theorem ins_str {x : Str} : Ins (.str x) false := .mk fun X β s va Q E r hq => by cases r; exact PySem.IsiPair.str_tuple (hq _)
theorem ins_int {i : Int} : Ins (.int i) false := .mk fun X β s va Q E r hq => by cases r; exact PySem.IsiPair.int_tuple (hq _)
theorem v_ins {x : Expr} {fp tp p : Pos} {v : PV} {b : Bool} (hx : isStar x = false) (hu : insCall Γ N = true) (h1 : Ev Γ N ρ x σ (.ok v σ₁)) (h2 : Ins v b) : Ev Γ N ρ (.Call (.Name ("isinstance" : Str) fp) [x, .Name ("tuple" : Str) tp] [] p) σ (.ok (.bool b) σ₁) := .mk fun X β s H Q E P => by
  unfold insCall at hu
  rw [Bool.and_eq_true, Bool.and_eq_true, Bool.and_eq_true] at hu
  obtain ⟨⟨⟨hd, hg⟩, hd2⟩, hg2⟩ := hu
  have hp : plainArgs [x, .Name ("tuple" : Str) tp] = true := by cases x <;> first | rfl | cases hx
  refine wpAny_Call_NameR (name_builtin (v := .builtin "isinstance") H (by decide) hg (H.T.undef _ (by decide) (by simpa [Ctx.isDef] using hd)) (by decide) (by kernel_rfl) (callWith_callee trivial hp ?_))
  rw [star_cons hx]
  refine PySem.Calls.spliced_cons (h1.run X β s H _ E fun a β₁ h₁ tk xx S ra => ?_)
  have H₁ := H.next (s₁ := { s with heap := h₁, toks := tk }) xx S
  exact PySem.Calls.spliced_cons (name_builtin (v := .type "tuple") H₁ (by decide) hg2 (H.T.undef _ (by decide) (by simpa [Ctx.isDef] using hd2)) (by decide) (by kernel_rfl) (PySem.Calls.spliced_nil (h2.run X β₁ _ a Q E ra fun tk' => (P.next (tk := tk) xx).here H₁ (.bool _) tk')))
theorem v_meth {x m : Str} {args : List Expr} {xp ap cp : Pos} {o : PV} {vs : List PV} {w : R PV} {id : String} (hp : (plainArgs args && (ap.endLine == cp.line)) = true) (h0 : Ev Γ N ρ (.Name x xp) σ (.ok o σ₁)) (h1 : Knows m o σ₁ id) (h2 : Es Γ N ρ args σ₁ (.ok vs σ₂)) (h3 : Mcl id o vs σ₂ w) :
    Ev Γ N ρ (.Call (.Attribute (.Name x xp) m ap) args [] cp) σ w := .mk fun X β s H Q E P => by
  rw [Bool.and_eq_true] at hp
  obtain ⟨hp, hline⟩ := hp
  have hany := plain_any hp cp X.env
  have hform : methodCallForm (args.length + ([] : List Keyword).length) (backTo cp (starEach args X.env)) (backToKw cp (keywordEach [] X.env)) = true := by
    unfold methodCallForm
    have h1 : (backTo cp (starEach args X.env)).all (fun x => !x.1) = true := by
      rw [List.all_eq_not_any_not]
      simpa using hany
    have h2 : args.length ≤ 20 := by unfold plainArgs at hp; simp at hp; exact hp.1
    rw [h1]
    simp [backToKw, keywordEach]
    omega
  have hpos : methodCallPos true (.Name x xp) X.env ap cp = pure cp := by unfold methodCallPos; simp [hline]
  refine wpe (arm_eval_Call ..) (Runs.go (t := fun env => eval (.Name x xp) env) h0 H P fun vo β₁ s₁ x1 H₁ ra P₁ => wpAny_bind (wpAny_standAt ?_))
  unfold methodCall
  rw [hform]
  refine wpAny_bind (wpAny_holding (h1.run X β₁ s₁ vo _ _ _ H₁.I ra (wpAny_bind (wpAny_of_eq hpos ?_))))
  refine PySem.Calls.callWith_builtin hany (evalArgs_all hp ((h2 cp).run X β₁ s₁ H₁ _ E fun vs β₂ h₂ tk2 x2 S ra2 => ?_))
  have H₂ := H₁.next (s₁ := { s₁ with heap := h₂, toks := tk2 }) x2 S
  exact h3.run X β₂ _ vo vs Q E H₂.low H₂.I (H₁.I.mono x2 ra) ra2 (P₁.next x2)
end
end Mine
end

-- S6
section
namespace Mine
open PySem PySem.W PyProof.Rows
variable [Z : Zero Frozen]

section
variable {C : Conf} {A : Around} {fr : List Env} {β : List Addr} {h : Heap} {σ : Store}
/-- a list of our own comes into the store -/
theorem SR.adopt (S : SR β h σ) {D : Addr} {vs : List Value} {n : Nat} {ds : List PV} (l : IsL h D vs.toArray n) (q : VRs β h vs ds) (hn : D ∉ β) : SR (β ++ [D]) h (σ ++ [.list ds]) := by
  have up : ∀ {v : Value} {d : PV}, VR β h v d → VR (β ++ [D]) h v d := by
    intro v d r
    induction r using VR.rec (motive_2 := fun vs ds _ => VRs (β ++ [D]) h vs ds) with
    | none => exact .none
    | bool b => exact .bool b
    | int i t => exact .int i t
    | str x t => exact .str x t
    | tup e _ ih => exact .tup e ih
    | ref e => exact .ref (by rw [List.getElem?_append_left (List.getElem?_eq_some_iff.mp e).1]; exact e)
    | rng e => exact .rng e
    | old => exact .old
    | nil => exact .nil
    | cons _ _ a b => exact .cons a b
  have ups : ∀ {vs : List Value} {ds : List PV}, VRs β h vs ds → VRs (β ++ [D]) h vs ds := by
    intro vs
    induction vs with
    | nil => intro ds x; cases x; exact .nil
    | cons v vs ih => intro ds x; cases x with | cons a r => exact .cons (up a) (ih r)
  refine ⟨by simp [S.len], ?_, ?_⟩
  · refine List.nodup_append.mpr ⟨S.nodup, by simp, fun a ha b hb e => ?_⟩
    simp at hb
    rw [e, hb] at ha
    exact hn ha
  · intro i a c ha hc
    by_cases hi : i < β.length
    · rw [List.getElem?_append_left hi] at ha
      rw [List.getElem?_append_left (S.len ▸ hi)] at hc
      have r := S.cell i a c ha hc
      cases c with
      | list es => obtain ⟨us, m, l', q'⟩ := r; exact ⟨us, m, l', ups q'⟩
    · have hb : i = β.length := by
        have := (List.getElem?_eq_some_iff.mp ha).1
        simp at this; omega
      subst hb
      simp at ha
      rw [S.len] at hc
      simp at hc
      subst ha hc
      exact ⟨vs, n, l, ups q⟩

theorem closure_from {env : Env} : ∀ (names : List (Str × NameKind)) (acc : List (Str × Addr)), (∀ p ∈ names, p.2 = .free → ∃ c, env.cells.lookup p.1 = some c) → (∀ y c, acc.lookup y = some c → env.cells.lookup y = some c) →
    ∃ cl, (forIn names acc (fun (p : Str × NameKind) (cs : List (Str × Addr)) => if (p.2 == .free) = true then do let a ← cellOf env p.1; pure (ForInStep.yield ((p.1, a) :: cs)) else pure (ForInStep.yield cs)) : Sem (List (Str × Addr))) = pure cl ∧
      (∀ y c, cl.lookup y = some c → env.cells.lookup y = some c) ∧ (∀ y c, acc.lookup y = some c → (cl.lookup y).isSome) ∧ (∀ p ∈ names, p.2 = .free → (cl.lookup p.1).isSome)
  | [], acc, _, h => ⟨acc, rfl, h, fun y c e => by rw [e]; rfl, fun p hp => (nomatch hp)⟩
  | (n, k) :: r, acc, hs, h => by
    rw [List.forIn_cons]
    by_cases hk : k = .free
    · subst hk
      obtain ⟨c, hc⟩ := hs (n, .free) List.mem_cons_self rfl
      have hcell : cellOf env n = pure c := by unfold cellOf; rw [hc]
      have hacc : ∀ y c', ((n, c) :: acc).lookup y = some c' → env.cells.lookup y = some c' := by
        intro y c' e
        rw [List.lookup_cons] at e
        cases hb : y == n with
        | true => rw [hb] at e; cases e; rw [beq_iff_eq.mp hb]; exact hc
        | false => rw [hb] at e; exact h y c' e
      obtain ⟨cl, e1, e2, e3, e4⟩ := closure_from r ((n, c) :: acc) (fun p hp => hs p (List.mem_cons_of_mem _ hp)) hacc
      refine ⟨cl, ?_, e2, fun y c' e => ?_, fun p hp hf => ?_⟩
      · simp only [beq_self_eq_true, if_true, hcell, pure_bind]
        exact e1
      · cases hb : y == n with
        | true => exact e3 y c (by rw [List.lookup_cons, hb])
        | false => exact e3 y c' (by rw [List.lookup_cons, hb]; exact e)
      · rcases List.mem_cons.mp hp with rfl | hp
        · exact e3 n c (by simp)
        · exact e4 p hp hf
    · obtain ⟨cl, e1, e2, e3, e4⟩ := closure_from r acc (fun p hp => hs p (List.mem_cons_of_mem _ hp)) h
      have hb : (k == NameKind.free) = false := by simpa using hk
      refine ⟨cl, ?_, e2, e3, fun p hp hf => ?_⟩
      · simp only [hb, Bool.false_eq_true, if_false, pure_bind]
        exact e1
      · rcases List.mem_cons.mp hp with rfl | hp
        · exact absurd hf hk
        · exact e4 p hp hf

theorem closure_ok {env : Env} {scope : Scope} (hs : ∀ p ∈ scope.names, p.2 = .free → ∃ c, env.cells.lookup p.1 = some c) :
    ∃ cl, closureFor scope env = pure cl ∧ ∀ p ∈ scope.names, p.2 = .free → cl.lookup p.1 = env.cells.lookup p.1 := by
  obtain ⟨cl, e1, e2, _, e4⟩ := closure_from scope.names [] hs (fun y c e => by simp at e)
  refine ⟨cl, ?_, fun p hp hf => ?_⟩
  · rw [← e1]
    unfold closureFor
    simp
  · obtain ⟨c, hc⟩ := Option.isSome_iff_exists.mp (e4 p hp hf)
    rw [hc, e2 _ _ hc]

theorem iter_self {v : PV} {I : Addr} {i : Nat} {s : Shared} {Q : Value → Shared → Prop} {E : Value → Shared → Prop} (y : ItAt β s.heap v I i) (h : Q (.ref I) s) : wpAny (model C.prog C.w) A (pyIter (.ref I)) Q E s := by
  unfold ItAt at y
  split at y
  · obtain ⟨a, vs, n, l, q, it⟩ := y; exact wpAny_pyIter_tupleiter it h
  · obtain ⟨a, ha, it⟩ := y; exact wpAny_pyIter_listiter it h
  · obtain ⟨k, t, hk, it⟩ := y
    rcases hk with rfl | rfl
    · exact wpAny_pyIter_striter_ascii it h
    · exact wpAny_pyIter_striter_wide it h
  · exact wpAny_pyIter_rangeiter y h
  · exact y.elim

theorem fresh_back {fr : List Addr} {β₁ : List Addr} {h₁ : Heap} {σ₁ : Store} (x : Ext fr β h β₁ h₁) (S : SR β₁ h₁ σ₁) {a : Addr} (e : h₁.get? a = none) : h.get? a = none := by
  cases q : h.get? a with
  | none => rfl
  | some o =>
    by_cases hm : a ∈ β
    · obtain ⟨new, rfl, _⟩ := x.grow
      obtain ⟨_, _, l⟩ := S.isL (List.mem_append_left new hm)
      have l' := e.symm.trans l; cases l'
    · obtain ⟨sl, q'⟩ := x.slots a o q hm
      rw [e] at q'; cases q'

theorem relab_look {N sc : Names} {y : Str} : (relab N sc).lookup y = some .cell → (∀ p ∈ sc, p.2 ≠ .cell) → (y, NameKind.free) ∈ sc ∧ N.lookup y = some .cell := by
  induction sc with
  | nil => intro h; simp [relab] at h
  | cons p r ih =>
    obtain ⟨n, k⟩ := p
    intro h hn
    have hr := fun h' => ih h' fun p hp => hn p (List.mem_cons_of_mem _ hp)
    unfold relab at h hr
    rw [List.map_cons] at h
    by_cases hc : (k == .free && N.lookup n == some .cell) = true
    · rw [if_pos hc] at h
      rw [List.lookup_cons] at h
      cases hb : y == n with
      | true =>
        simp at hc
        rw [beq_iff_eq.mp hb]
        exact ⟨by rw [hc.1]; exact List.mem_cons_self, hc.2⟩
      | false => rw [hb] at h; have := hr h; exact ⟨List.mem_cons_of_mem _ this.1, this.2⟩
    · rw [if_neg hc] at h
      rw [List.lookup_cons] at h
      cases hb : y == n with
      | true => rw [hb] at h; cases h; exact absurd rfl (hn _ List.mem_cons_self)
      | false => rw [hb] at h; have := hr h; exact ⟨List.mem_cons_of_mem _ this.1, this.2⟩
theorem relab_local {N sc : Names} {y : Str} : sc.lookup y = some .local → (relab N sc).lookup y = some .local := by
  induction sc with
  | nil => intro h; simp at h
  | cons p r ih =>
    obtain ⟨n, k⟩ := p
    intro h
    unfold relab at ih ⊢
    rw [List.map_cons]
    rw [List.lookup_cons] at h
    cases hb : y == n with
    | true =>
      rw [hb] at h; cases h
      rw [if_neg (by simp), List.lookup_cons, hb]
    | false =>
      rw [hb] at h
      by_cases hc : (k == .free && N.lookup n == some .cell) = true
      · rw [if_pos hc, List.lookup_cons, hb]; exact ih h
      · rw [if_neg hc, List.lookup_cons, hb]; exact ih h
theorem VOK.weaken {env : Env} {N : Names} {ρ ρ' : Vars} (V : VOK env N β h ρ) (w : ∀ y d, ρ' y = some d → ρ y = some d) : VOK env N β h ρ' := by
  refine ⟨?_, fun y hy => ?_⟩
  · obtain ⟨m, n, q⟩ := V.loc
    exact ⟨m, n, fun y d hy hd => q y d hy (w y d hd)⟩
  · obtain ⟨c, hc, ov, n, q⟩ := V.cel y hy
    exact ⟨c, hc, ov, n, fun d hd => q d (w y d hd)⟩

theorem compOk_some {N : Names} {scope : Scope} {x : Str} (h : compOk N scope x = true) : scope.kind = .function ∧ scope.names.lookup x = some .local ∧ (∀ p ∈ scope.names, p.2 ≠ .cell) ∧
    (∀ p ∈ scope.names, p.2 = .local → scope.names.lookup p.1 = some .local) ∧ (∀ p ∈ scope.names, p.2 = .free → N.lookup p.1 = some .cell) := by
  unfold compOk at h
  simp only [Bool.and_eq_true, List.all_eq_true, beq_iff_eq, bne_iff_ne, Bool.or_eq_true] at h
  obtain ⟨⟨⟨h1, h2⟩, _⟩, h4⟩ := h
  refine ⟨h1, h2, fun p hp => (h4 p hp).1.1, fun p hp hl => ?_, fun p hp hl => ?_⟩
  · rcases (h4 p hp).1.2 with q | q
    · exact absurd hl q
    · exact q
  · rcases (h4 p hp).2 with q | q
    · exact absurd hl q
    · exact q.1

end

def noSet : Expr → Bool
  | .Set .. => false
  | _ => true
theorem fold_no {x : Expr} {env : Env} (h : noSet x = true) (v : Value) : foldedSetIterable x env v = pure v := by
  unfold foldedSetIterable
  split
  · cases h
  · rfl

/-- a comprehension's turns -/
inductive Turns (Γ : Ctx) (N' : Names) (ρ : Vars) (x : Str) (ifs : List Expr) (elt : Expr) (v : PV) (all : List PV) : List PV → Store → List PV → Store → Prop
  | nil {σ : Store} : Turns Γ N' ρ x ifs elt v all [] σ [] σ
  | cons {d y : PV} {ds ys : List PV} {σ σ₁ σ₂ σ₃ : Store} : Ei Γ N' (Vars.comp N' ρ x d) ifs σ (.ok true σ₁) → Ev Γ N' (Vars.comp N' ρ x d) elt σ₁ (.ok y σ₂) → ItemsOf v σ₂ all → Turns Γ N' ρ x ifs elt v all ds σ₂ ys σ₃ → Turns Γ N' ρ x ifs elt v all (d :: ds) σ (y :: ys) σ₃
  | skip {d : PV} {ds ys : List PV} {σ σ₁ σ₃ : Store} : Ei Γ N' (Vars.comp N' ρ x d) ifs σ (.ok false σ₁) → ItemsOf v σ₁ all → Turns Γ N' ρ x ifs elt v all ds σ₁ ys σ₃ → Turns Γ N' ρ x ifs elt v all (d :: ds) σ ys σ₃
/-- a comprehension over what is known -/
def CompAt (Γ : Ctx) (N' : Names) (ρ : Vars) (x : Str) (ifs : List Expr) (elt : Expr) (v : PV) (σ : Store) (ys : List PV) (σ' : Store) : Prop := ∃ all, ItemsOf v σ all ∧ all.length ≤ 100000 ∧ Turns Γ N' ρ x ifs elt v all all σ ys σ'

/-- a list under way: D; the comprehension's own names: L -/
structure Built (X : Cx) (β : List Addr) (h : Heap) (σ' : Store) (outs : List PV) (D L : Addr) (β' : List Addr) (h' : Heap) : Prop where
  st : X.C.base.StaysIn h
  x : Ext (frs X.fr) β h β' h'
  I : Inv X.C X.A X.fr β' h' σ'
  d : ∃ vs n, IsL h' D (List.toArray vs) n ∧ VRs β' h' vs outs
  nd : D ∉ β'
  fD : h.get? D = none
  fL : h.get? L = none
  ne : D ≠ L
  l : ∃ m, h'.Ns L m

section
variable {X : Cx} {β β' β'' : List Addr} {h h' h'' : Heap} {σ σ' σ'' : Store} {outs : List PV} {D L J : Addr}
theorem Built.base (B : Built X β h σ' outs D L β' h') (hJ : h.get? J = none) : X.C.base.get? J = none := by
  cases q : X.C.base.get? J with
  | none => rfl
  | some o => rw [B.st J o q] at hJ; cases hJ
theorem Built.dfr (B : Built X β h σ' outs D L β' h') : D ∉ frs X.fr := fun hm => by
  obtain ⟨vs, n, l, _⟩ := B.d
  obtain ⟨m', o', es, ep, ho', hd', _⟩ := B.I.fns D hm
  have := l.symm.trans ho'; cases this; cases hd'
theorem Built.sD (B : Built X β h σ' outs D L β' h') : Safe β' h' D := let ⟨_, _, l, _⟩ := B.d; .list l B.nd
theorem Built.sL (B : Built X β h σ' outs D L β' h') : Safe β' h' L := let ⟨_, l⟩ := B.l; ns_core l
/-- a run goes on -/
theorem Built.next (B : Built X β h σ' outs D L β' h') (x : Ext (frs X.fr) β' h' β'' h'') (S : SR β'' h'' σ'') : Built X β h σ'' outs D L β'' h'' := by
  obtain ⟨vs, n, l, q⟩ := B.d
  obtain ⟨m, ns⟩ := B.l
  exact ⟨B.st, B.x.trans x, B.I.next x S, ⟨vs, n, x.keep D _ l B.nd B.dfr, B.I.monos x q⟩, x.not_new l B.nd, B.fD, B.fL, B.ne, m, ns_slots B.I.sr x ns⟩
/-- another object turns -/
theorem Built.but (B : Built X β h σ' outs D L β' h') (k : Heap.ExtBut J h' h'') (fJ : h.get? J = none) (sJ : Safe β' h' J) (nfr : J ∉ frs X.fr) (nD : D ≠ J) (nL : L ≠ J) : Built X β h σ' outs D L β' h'' := by
  obtain ⟨vs, n, l, q⟩ := B.d
  obtain ⟨m, ns⟩ := B.l
  exact ⟨B.st, B.x.but fJ k, B.I.but k (B.base fJ) sJ fun hm => absurd hm nfr, ⟨vs, n, k D _ nD l, q.core (keep3_but k sJ)⟩, B.nd, B.fD, B.fL, B.ne, m, ns.at' fun o e => k L o nL e⟩
/-- a name of its own is set -/
theorem Built.store {m' : Str → Option Value} (B : Built X β h σ' outs D L β' h') (k : Heap.ExtBut L h' h'') (ns : h''.Ns L m') : Built X β h σ' outs D L β' h'' := by
  obtain ⟨vs, n, l, q⟩ := B.d
  exact ⟨B.st, B.x.but B.fL k, B.I.but k (B.base B.fL) B.sL fun hm => ⟨_, ns⟩, ⟨vs, n, k D _ B.ne l, q.core (keep3_but k B.sL)⟩, B.nd, B.fD, B.fL, B.ne, m', ns⟩
/-- one more item -/
theorem Built.push {vs : List Value} {n : Nat} {y : Value} {d : PV} (B : Built X β h σ' outs D L β' h') (l : IsL h' D vs.toArray n) (q : VRs β' h' vs outs) (r : VR β' h' y d) : Built X β h σ' (outs ++ [d]) D L β' (h'.update D (Obj.mapSeq fun a => a.push y)) := by
  have k : Heap.ExtBut D h' (h'.update D (Obj.mapSeq fun a => a.push y)) := (Heap.SameBut.update ..).extBut
  have kp := keep3_but k B.sD
  obtain ⟨m, ns⟩ := B.l
  have D7 := IsL.update l fun a => a.push y
  have eD : vs.toArray.push y = (vs ++ [y]).toArray := by simp
  rw [eD] at D7
  exact ⟨B.st, B.x.but B.fD k, B.I.but k (B.base B.fD) B.sD fun hm => absurd hm B.dfr, ⟨_, _, D7, (q.core kp).append (.cons (r.core kp) .nil)⟩, B.nd, B.fD, B.fL, B.ne, m, ns.at' fun o e => k L o B.ne.symm e⟩
end

/-- ahead of a turn -/
structure Turning (X : Cx) (cenv : Env) (N' : Names) (ρ' : Vars) (v : PV) (all : List PV) (J : Addr) (i : Nat) (β : List Addr) (h : Heap) (σ' : Store) (outs : List PV) (D L : Addr) (β' : List Addr) (h' : Heap) : Prop where
  B : Built X β h σ' outs D L β' h'
  it : ItAt β' h' v J i
  its : ItemsOf v σ' all
  V : VOK cenv N' β' h' ρ'
  le : outs.length ≤ i
/-- what holds ahead of each turn, with the number that falls -/
def Loop (Γ : Ctx) (X : Cx) (cenv : Env) (N' : Names) (ρ : Vars) (x : Str) (ifs : List Expr) (elt : Expr) (v : PV) (all : List PV) (J D L : Addr) (β : List Addr) (s : Shared) (ys : List PV) (σe : Store) (k : Nat) (s' : Shared) : Prop :=
  ∃ i outs rest β' h' tk σ', s' = { s with heap := h', toks := tk } ∧ k = all.length + 1 - i ∧ i ≤ all.length ∧ Turning X cenv N' (Vars.base N' ρ) v all J i β s.heap σ' outs D L β' h' ∧ Turns Γ N' ρ x ifs elt v all (all.drop i) σ' rest σe ∧ outs ++ rest = ys

/-- a comprehension's own frame -/
structure CompX (Γ : Ctx) (X : Cx) (cenv : Env) (N' : Names) (s : Shared) (x : Str) (all : List PV) (J D L : Addr) : Prop where
  T : TextOK X.C Γ.T
  deep : X.A.depth + Γ.n + 5 < recursionLimit
  units : X.A.units + 3 * Γ.n + 2100 < cLine
  G : EOK cenv N'
  loc : cenv.locals = L
  hx : N'.lookup x = some .local
  nc : ∀ J', s.heap.get? J' = none → ∀ y c, N'.lookup y = some .cell → cenv.cells.lookup y = some c → c ≠ J'
  fJ : s.heap.get? J = none
  nDJ : D ≠ J
  nJL : J ≠ L
  len : all.length ≤ 100000

section
variable {Γ : Ctx} {N N' : Names} {ρ : Vars} {σ σ' σe : Store} {X : Cx} {β β' : List Addr} {s : Shared} {cenv env : Env} {x : Str} {v : PV} {all ys : List PV} {J D L : Addr} {h h' : Heap}
theorem base_comp (hx : N'.lookup x = some .local) (d : PV) : ∀ y d', Vars.base N' ρ y = some d' → Vars.comp N' ρ x d y = some d' := fun y d' hd => by
  unfold Vars.base at hd
  by_cases hy : y = x
  · subst hy; rw [if_pos hx] at hd; cases hd
  · unfold Vars.comp; rw [if_neg hy]; exact hd
/-- the turn's own name is set -/
theorem comp_set {d : PV} {w : Value} {m : Str → Option Value} (V : VOK cenv N' β h (Vars.base N' ρ)) (hx : N'.lookup x = some .local) (nc : ∀ y c, N'.lookup y = some .cell → cenv.cells.lookup y = some c → c ≠ cenv.locals) (k : Heap.ExtBut cenv.locals h h') (sL : Safe β h cenv.locals) (n : h'.Ns cenv.locals m) (hm : m x = some w) (r : VR β h w d) : VOK cenv N' β h' (Vars.comp N' ρ x d) := by
  have kp := keep3_but k sL
  refine ⟨⟨m, n, fun y e hy he => ?_⟩, fun y hy => ?_⟩
  · unfold Vars.comp at he
    split at he
    · rename_i q; subst q; cases he; exact ⟨w, hm, r.core kp⟩
    · cases he
  · obtain ⟨c, hc, ov, ⟨o, ho, hd⟩, q⟩ := V.cel y hy
    refine ⟨c, hc, ov, ⟨o, k c o (nc y c hy hc) ho, hd⟩, fun e he => ?_⟩
    have hyx : y ≠ x := fun q => by subst q; rw [hx] at hy; cases hy
    unfold Vars.comp at he
    rw [if_neg hyx] at he
    obtain ⟨v', hv', r'⟩ := q e he
    exact ⟨v', hv', r'.core kp⟩
theorem Turning.again {i i' : Nat} {outs : List PV} {rest : List PV} {tk : Tok} {ifs : List Expr} {elt : Expr} {h2 : Heap} (T : Turning X cenv N' (Vars.base N' ρ) v all J i' β s.heap σ' outs D L β' h2) (hi : i' = i + 1) (hlt : i < all.length) (tn : Turns Γ N' ρ x ifs elt v all (all.drop (i + 1)) σ' rest σe) (hall : outs ++ rest = ys) :
    ∃ m, m < all.length + 1 - i ∧ Loop Γ X cenv N' ρ x ifs elt v all J D L β s ys σe m { s with heap := h2, toks := tk } := by
  subst hi
  exact ⟨all.length + 1 - (i + 1), by omega, i + 1, outs, rest, β', h2, tk, σ', rfl, rfl, hlt, T, tn, hall⟩

theorem comp_turn {ifs : List Expr} {elt : Expr} {px : Pos} {R : Result → Shared → Prop} {E : Value → Shared → Prop} {k : Nat} {s' : Shared} (K : CompX Γ X cenv N' s x all J D L) (hfin : ∀ β' h' tk, Built X β s.heap σe ys D L β' h' → R (.ok .next) { s with heap := h', toks := tk })
    (hL : Loop Γ X cenv N' ρ x ifs elt v all J D L β s ys σe k s') :
    wpAny (model X.C.prog X.C.w) X.A (pyNext (.ref J)) (fun r s₁ => match r with
      | none => R (.ok .next) s₁
      | some w => wpAny (model X.C.prog X.C.w) X.A (assign (.Name x px) cenv w) (fun _ s₂ =>
          wpAny (model X.C.prog X.C.w) X.A (forIn ifs true fun c r => if r = true then do let ok ← isTrue c cenv (eval c cenv); pure (ForInStep.yield ok) else pure (ForInStep.yield r)) (fun ok s₃ =>
            if ok = true then wpAny (model X.C.prog X.C.w) X.A (eval elt cenv) (fun z s₄ =>
              wpAny (model X.C.prog X.C.w) X.A (call (.builtin "list.append") [.ref D, z]) (fun _ s₅ => ∃ m, m < k ∧ Loop Γ X cenv N' ρ x ifs elt v all J D L β s ys σe m s₅) E s₄) E s₃
            else ∃ m, m < k ∧ Loop Γ X cenv N' ρ x ifs elt v all J D L β s ys σe m s₃) E s₂) E s₁) E s' := by
  obtain ⟨i, outs, rest, β', h', tk, σ', rfl, rfl, hi, T, tn, hall⟩ := hL
  obtain rfl := K.loc
  have sJ := T.it.core
  have nfr := T.it.not_fr T.B.I.fns
  by_cases hlt : i < all.length
  · rw [List.drop_eq_getElem_cons hlt] at tn
    refine next_item (s := { s with heap := h', toks := tk }) T.its (List.getElem?_eq_getElem hlt) T.B.I T.it fun w h3 tk3 r3 J3 k3 => ?_
    have B3 := T.B.but k3 K.fJ sJ nfr K.nDJ K.nJL.symm
    have V3 := T.V.but k3 sJ K.nJL.symm (K.nc J K.fJ)
    obtain ⟨m3, L3⟩ := B3.l
    refine wpe (arm_assign_Name ..) (wpAny_bind (wpAny_standAt (wpAny_bindName (wpAny_storeName_local (env := cenv) (by show cenv.scope.names.lookup x = _; rw [K.G.names]; exact K.hx) L3 (fun h4 hn4 hs4 => ?_) (by rw [K.G.kind]; rfl)))))
    have k4 := hs4.extBut
    have B4 := B3.store k4 hn4
    have J4 := J3.but k4 B3.sL K.nJL
    have V4 := comp_set V3 K.hx (K.nc _ B3.fL) k4 B3.sL hn4 (by simp) r3
    have H4 : Here Γ N' (Vars.comp N' ρ x all[i]) ⟨X.C, X.A, X.fr, cenv⟩ β' { s with heap := h4, toks := tk3 + 1 } σ' := ⟨K.T, K.deep, K.units, K.G, B4.I, V4⟩
    cases tn with
    | skip et its tn =>
      refine et.run _ β' _ H4 _ _ fun ok β5 h5 tk5 x5 S5 r5 => ?_
      cases r5
      exact Turning.again ⟨B4.next x5 S5, J4.next B4.I x5, its, (H4.V.next B4.I x5).weaken (base_comp K.hx _), by have := T.le; omega⟩ rfl hlt tn hall
    | cons et ev its tn =>
      refine et.run _ β' _ H4 _ _ fun ok β5 h5 tk5 x5 S5 r5 => ?_
      cases r5
      have B5 := B4.next x5 S5
      have J5 := J4.next B4.I x5
      have H5 := H4.next (s₁ := { s with heap := h5, toks := tk5 }) x5 S5
      rw [if_pos rfl]
      refine ev.run _ β5 _ H5 _ _ fun z β6 h6 tk6 x6 S6 r6 => ?_
      have B6 := B5.next x6 S6
      have J6 := J5.next B5.I x6
      have V6 := H5.V.next B5.I x6
      obtain ⟨vs, n, l6, q6⟩ := B6.d
      have t1 := q6.length
      have t2 := T.le
      have t3 := sizeLine_ge
      have t4 := K.len
      refine call_meets PySem.F.slot_list_append ⟨_, l6, rfl⟩ PySem.F.entry_list_append (PySem.F.args_list_append_2 _ _) (PySem.list_append D _ n z (by simp; omega)) ⟨l6, ?_⟩
      have kD : Heap.ExtBut D h6 (h6.update D (Obj.mapSeq fun a => a.push z)) := (Heap.SameBut.update ..).extBut
      exact Turning.again ⟨B6.push l6 q6 r6, J6.but kD B6.sD K.nDJ.symm, its, (V6.weaken (base_comp K.hx _)).but kD B6.sD B6.ne.symm (K.nc D B6.fD), by simp; omega⟩ rfl hlt tn (by simpa using hall)
  · have hi' : i = all.length := by omega
    subst hi'
    refine next_end (s := { s with heap := h', toks := tk }) T.its T.B.I T.it fun h3 tk3 k3 => ?_
    rw [List.drop_length] at tn
    cases tn
    rw [List.append_nil] at hall
    subst hall
    exact hfin β' h3 tk3 (T.B.but k3 K.fJ sJ nfr K.nDJ K.nJL.symm)

theorem cenv_ok {scope : Scope} {cl : List (Str × Addr)} (G : EOK env N) (hk : scope.kind = .function) : EOK (compEnvC scope cl L env) (relab N scope.names) := by
  refine ⟨hk, ?_, G.glob, G.bui⟩
  show (scope.names.map fun (n, k) => if (k == .free && env.scope.kind == .function && env.kindOf n == some .cell) then (n, NameKind.cell) else (n, k)) = relab N scope.names
  unfold relab
  refine List.map_congr_left fun p _ => ?_
  obtain ⟨n, k⟩ := p
  show (if (k == .free && env.scope.kind == .function && env.kindOf n == some .cell) = true then (n, NameKind.cell) else (n, k)) = _
  rw [G.kind]
  unfold Env.kindOf
  rw [G.names]
  simp
theorem base_vok {cl : List (Str × Addr)} {m : Str → Option Value} {scope : Scope} (V : VOK env N β h ρ) (ns : h.Ns L m) (hcell : ∀ p ∈ scope.names, p.2 ≠ .cell) (hcl : ∀ p ∈ scope.names, p.2 = .free → cl.lookup p.1 = env.cells.lookup p.1) : VOK (compEnvC scope cl L env) (relab N scope.names) β h (Vars.base (relab N scope.names) ρ) := by
  refine ⟨⟨_, ns, fun y d hy hd => ?_⟩, fun y hy => ?_⟩
  · unfold Vars.base at hd; rw [if_pos hy] at hd; cases hd
  · obtain ⟨q1, q2⟩ := relab_look hy hcell
    obtain ⟨c, hc, ov, n, q⟩ := V.cel y q2
    refine ⟨c, (hcl _ q1 rfl).trans hc, ov, n, fun d hd => q d ?_⟩
    unfold Vars.base at hd
    split at hd
    · cases hd
    · exact hd
theorem size_lt {h : Heap} {a : Nat} {o : Obj} (e : h.get? a = some o) : @LT.lt Nat _ a h.objs.size := Heap.lt_size e
/-- where the turns begin: the iterator J, the list D, the names L are new -/
theorem comp_start {β₁ : List Addr} {h₁ h₂ : Heap} {o : Obj} {σ₁ : Store} (H : Here Γ N ρ X β s σ) (x₁ : Ext (frs X.fr) β s.heap β₁ h₁) (S₁ : SR β₁ h₁ σ₁) (hI : ItAt β₁ (h₁.push o) v h₁.objs.size 0) {of : Obj} (hof : of.data = .dict #[]) (hfr : of.isFreed = false)
    {m : Str → Option Value} (hns : h₂.Ns (h₁.objs.size + 2) m) (hsb : Heap.SameBut (h₁.objs.size + 2) (((h₁.push o).push { cls := .type "list", dict := none, data := .seq ([] : List Value).toArray }).push of) h₂) :
    Built X β s.heap σ₁ [] (h₁.objs.size + 1) (h₁.objs.size + 2) β₁ h₂ ∧ ItAt β₁ h₂ v h₁.objs.size 0 ∧ Ext (frs X.fr) β₁ h₁ β₁ h₂ := by
  generalize hH1 : h₁.push o = H1 at hI hsb
  generalize hH2 : H1.push { cls := .type "list", dict := none, data := .seq ([] : List Value).toArray } = H2 at hsb
  have zI : H1.objs.size = h₁.objs.size + 1 := by rw [← hH1, Heap.size_push]
  have zL : H2.objs.size = h₁.objs.size + 2 := by rw [← hH2, Heap.size_push, zI]
  generalize hD : h₁.objs.size + 1 = D at zI ⊢
  generalize hL : h₁.objs.size + 2 = L at zL hns hsb ⊢
  generalize hJ : h₁.objs.size = J at hI ⊢
  have eD : @Eq Nat D (J + 1) := by rw [← hD, ← hJ]
  have eL : @Eq Nat L (J + 2) := by rw [← hL, ← hJ]
  have zI : @Eq Nat H1.objs.size D := zI
  have zL : @Eq Nat H2.objs.size L := zL
  have zJ : @Eq Nat h₁.objs.size J := hJ
  have n1 : @Ne Nat D J := by omega
  have n2 : @Ne Nat J D := by omega
  have n3 : @Ne Nat J L := by omega
  have n4 : @Ne Nat D L := by omega
  have k1 : ∀ b o', h₁.get? b = some o' → H2.get? b = some o' := fun b o' e => by
    rw [← hH2]
    refine Heap.get?_push_of_some _ ?_
    rw [← hH1]
    exact Heap.get?_push_of_some _ e
  have k2 : ∀ b o', H2.get? b = some o' → h₂.get? b = some o' := fun b o' e => (hsb.2 b (Nat.ne_of_lt (by have := size_lt e; omega))).trans (Heap.get?_push_of_some _ e)
  have kk : ∀ b o', h₁.get? b = some o' → h₂.get? b = some o' := fun b o' e => k2 b o' (k1 b o' e)
  have I₁ := H.I.next x₁ S₁
  have xk : Ext (frs X.fr) β₁ h₁ β₁ h₂ := .of_keeps kk
  have Sk : SR β₁ h₂ σ₁ := S₁.keeps I₁.fns fun a o e _ => kk a o e
  have fresh : ∀ a, J ≤ a → s.heap.get? a = none := fun a ha => fresh_back x₁ S₁ (by
    cases q : h₁.get? a with
    | none => rfl
    | some o => have := size_lt q; omega)
  have lD : H2.get? D = some { cls := .type "list", dict := none, data := .seq ([] : List Value).toArray } := by
    rw [← hH2, ← zI]; exact Heap.get?_push_size _ rfl
  refine ⟨⟨H.I.stays, x₁.trans xk, I₁.next xk Sk, ⟨[], 0, k2 _ _ lD, .nil⟩, fun hm => ?_, fresh D (by omega), fresh L (by omega), n4, m, hns⟩, ?_, xk⟩
  · obtain ⟨_, _, l⟩ := S₁.isL hm
    have := size_lt l; omega
  · have q1 : ItAt β₁ H2 v J 0 := hI.but (J := D) (fun b o' hb e => by rw [← hH2]; exact Heap.get?_push_of_some _ e) (.none (by rw [← zI]; exact get?_size _)) n2
    have q2 : ItAt β₁ (H2.push of) v J 0 := q1.but (J := L) (fun b o' hb e => Heap.get?_push_of_some _ e) (.none (by rw [← zL]; exact get?_size _)) n3
    refine q2.but (J := L) hsb.extBut (.of fun o e c => ?_) n3
    rw [← zL] at e
    have := e.symm.trans (Heap.get?_push_size (h := H2) hfr)
    cases this
    rcases c with ⟨xs, n, q⟩ | ⟨_, fs, q⟩ <;> rw [hof] at q <;> cases q

theorem comp_core {elt iter : Expr} {px : Pos} {ifs : List Expr} {scope : Scope} {pos fpos : Pos} {use : Option (Value → Sem Unit)} {σ₁ : Store} {Q : Value → Shared → Prop} {E : Value → Shared → Prop} (hok : (compOk N scope x && noSet iter) = true) (h1 : Ev Γ N ρ iter σ (.ok v σ₁)) (h2 : CompAt Γ (relab N scope.names) ρ x ifs elt v σ₁ ys σe) (H : Here Γ N ρ X β s σ)
    (hfin : ∀ D L β' h' tk, Built X β s.heap σe ys D L β' h' → compPost (model X.C.prog X.C.w) X.A E use Q (.ref D) L (.ok .next) { s with heap := h', toks := tk }) :
    wpAny (model X.C.prog X.C.w) X.A (comprehension (.ListComp elt [⟨.Name x px, iter, ifs, 0⟩] scope pos) scope X.env fpos (newList []) false (eval iter X.env) use) Q E s := by
  rw [Bool.and_eq_true] at hok
  obtain ⟨hkind, hx, hcell, hnames, hfree⟩ := compOk_some hok.1
  obtain ⟨all, hit, hlen, tn⟩ := h2
  obtain ⟨cl, hclos, hcl⟩ := closure_ok (env := X.env) (scope := scope) fun p hp hf => by
    obtain ⟨c, hc, _⟩ := H.V.cel p.1 (hfree p hp hf)
    exact ⟨c, hc⟩
  refine wpAny_comprehension_free (use := use) rfl (fold_no hok.2) hclos hkind hnames (h1.run X β s H _ _ fun xv β₁ h₁ tk x₁ S₁ ra => ?_)
  refine pyIter_ok (s := { s with heap := h₁, toks := tk }) hit (H.I.next x₁ S₁) ra fun o tk₂ hI => ?_
  refine wpAny_newObj_type (wpAny_newFunctionEnv hcell (by intro y hy; simp at hy) (fun h₂ hns₂ hsb₂ => ?_) hkind) (by size_fits)
  have zD : @Eq Nat (h₁.push o).objs.size (h₁.objs.size + 1) := Heap.size_push ..
  have zL : @Eq Nat ((h₁.push o).push { cls := .type "list", dict := none, data := .seq ([] : List Value).toArray }).objs.size (h₁.objs.size + 2) := by rw [Heap.size_push, zD]
  dsimp only at hns₂ hsb₂ hI ⊢
  rw [zL] at hns₂ hsb₂ ⊢
  rw [zD]
  obtain ⟨B, it, xk⟩ := comp_start (of := { cls := .type (if (some X.env).isSome then "dict" else "frame"), data := .dict #[] }) H x₁ S₁ hI rfl rfl hns₂ hsb₂
  generalize hJ : h₁.objs.size = J at it B hns₂ ⊢
  have H₁ := H.next (s₁ := { s with heap := h₁, toks := tk }) x₁ S₁
  have K : CompX Γ X (compEnvC scope cl (J + 2) X.env) (relab N scope.names) s x all J (J + 1) (J + 2) := by
    refine ⟨H.T, H.deep, H.units, cenv_ok H.G hkind, rfl, relab_local hx, fun J' hJ' y c hy hc q => ?_, fresh_back x₁ S₁ (by rw [← hJ]; exact get?_size _), show @Ne Nat _ _ by omega, show @Ne Nat _ _ by omega, hlen⟩
    obtain ⟨q1, q2⟩ := relab_look hy hcell
    obtain ⟨c', hc', ov, ⟨o, ho, _⟩, _⟩ := H.V.cel y q2
    have e : cl.lookup y = some c := hc
    rw [hcl _ q1 rfl, hc'] at e; cases e
    rw [q, hJ'] at ho; cases ho
  have loop : ∀ s₃ : Shared, s₃ = { s with heap := h₂, toks := tk₂ } → codeAny (model X.C.prog X.C.w) X.A (.compLoop (.ListComp elt [⟨.Name x px, iter, ifs, 0⟩] scope pos) 0 (.ref J) (.ref (J + 1)) (compEnvC scope cl (J + 2) X.env)) (compPost (model X.C.prog X.C.w) X.A E use Q (.ref (J + 1)) (J + 2)) s₃ := by
    rintro s₃ rfl
    exact codeAny_compLoop_tests (Loop Γ X (compEnvC scope cl (J + 2) X.env) (relab N scope.names) ρ x ifs elt v all J (J + 1) (J + 2) β s ys σe) (fun k s' hL => comp_turn K (hfin _ _) hL) (all.length + 1)
      ⟨0, [], ys, β₁, h₂, tk₂, σ₁, rfl, rfl, Nat.zero_le _, ⟨B, it, hit, base_vok (H₁.V.next H₁.I xk) hns₂ hcell hcl, Nat.le_refl _⟩, tn, rfl⟩
  exact codeAny_compStart_list (loop _ rfl) (iter_self (C := X.C) (β := β₁) it (loop _ rfl))
/-- a list of our own comes into the store -/
theorem Built.adopt (B : Built X β h σ' ys D L β' h') : Ext (frs X.fr) β h (β' ++ [D]) h' ∧ SR (β' ++ [D]) h' (σ' ++ [.list ys]) := by
  obtain ⟨vs, n, l, q⟩ := B.d
  obtain ⟨new, hg, hnew⟩ := B.x.grow
  refine ⟨⟨⟨new ++ [D], by rw [hg, List.append_assoc], fun a ha => ?_⟩, B.x.keep, B.x.slots⟩, B.I.sr.adopt l q B.nd⟩
  rcases List.mem_append.mp ha with ha | ha
  · exact hnew a ha
  · simp at ha; subst ha
    exact ⟨B.fD, fun hm => B.nd (by rw [hg]; exact List.mem_append_left _ hm)⟩
theorem v_comp {elt iter : Expr} {px : Pos} {ifs : List Expr} {scope : Scope} {p : Pos} {σ₁ : Store} (hc : (compOk N scope x && noSet iter) = true) (h1 : Ev Γ N ρ iter σ (.ok v σ₁)) (h2 : CompAt Γ (relab N scope.names) ρ x ifs elt v σ₁ ys σe) :
    Ev Γ N ρ (.ListComp elt [⟨.Name x px, iter, ifs, 0⟩] scope p) σ (.ok (.ref σe.length) (σe ++ [.list ys])) := .mk fun X β s H Q E P =>
  wpe (PySem.eval_ListComp ..) (comp_core (use := none) hc h1 h2 H fun D L β' h' tk B => by
    obtain ⟨m, ns⟩ := B.l
    refine ⟨m, ns, fun h'' sb => ?_⟩
    have kp := keep3_but sb.extBut B.sL
    obtain ⟨x2, S2⟩ := B.adopt
    exact P _ _ _ _ (x2.but B.fL sb.extBut) (S2.core (keep3_but sb.extBut (ns_core ns))) (.ref (by rw [← B.I.sr.len]; simp)))
end
end Mine
end

-- S7
section
namespace Mine
open PySem PySem.W PyProof.Rows
variable [Z : Zero Frozen]

/-- the names of a call's own frame -/
structure FOK (C : Conf) (env : Env) (N : Names) (h₀ : Heap) : Prop where
  fresh : h₀.get? env.locals = none
  cells : ∀ y c, N.lookup y = some .cell → env.cells.lookup y = some c → h₀.get? c = none ∧ c ≠ env.locals
  inj : ∀ y y' c, N.lookup y = some .cell → N.lookup y' = some .cell → env.cells.lookup y = some c → env.cells.lookup y' = some c → y = y'
  stays : C.base.StaysIn h₀


/-- only the heap and the tokens went on -/
def Same (s₀ s : Shared) : Prop := ∃ h tk, s = { s₀ with heap := h, toks := tk }
theorem Same.next {s₀ s : Shared} (h : Same s₀ s) (h' : Heap) (tk : Tok) : Same s₀ { s with heap := h', toks := tk } := by
  obtain ⟨h, t, rfl⟩ := h; exact ⟨h', tk, rfl⟩
/-- a call's body, for as long as it runs -/
structure Stand (Γ : Ctx) (N : Names) (X : Cx) (s₀ : Shared) (E : Value → Shared → Prop) : Prop where
  T : TextOK X.C Γ.T
  deep : X.A.depth + Γ.n + 5 < recursionLimit
  units : X.A.units + 3 * Γ.n + 2100 < cLine
  G : EOK X.env N
  F : FOK X.C X.env N s₀.heap
  hE : PassesOwn (model X.C.prog X.C.w) X.A X.env E
  fr : ∃ outer, X.fr = X.env :: outer
  L : ∃ L, X.env.frame = some L
/-- where it is -/
structure At (N : Names) (X : Cx) (β₀ : List Addr) (s₀ : Shared) (β : List Addr) (s : Shared) (σ : Store) (ρ : Vars) : Prop where
  x : Ext (frs X.fr) β₀ s₀.heap β s.heap
  sh : Same s₀ s
  I : Inv X.C X.A X.fr β s.heap σ
  V : VOK X.env N β s.heap ρ
/-- an exception made in this very call -/
structure Made (X : Cx) (β : List Addr) (h : Heap) (k : Exn) (σ' : Store) (e : Value) (β' : List Addr) (h' : Heap) : Prop where
  x : Ext (frs X.fr) β h β' h'
  I : Inv X.C X.A X.fr β' h' σ'
  obj : ∃ ea oe vs a0, e = .ref ea ∧ h'.get? ea = some oe ∧ oe.cls = .ref (X.C.cls k) ∧ oe.data = .fields vs ∧ vs[0]? = some a0 ∧ vs[1]? = some .none ∧ h.get? ea = none
def PostS (N : Names) (X : Cx) (β₀ : List Addr) (s₀ : Shared) (Q : Flow → Shared → Prop) (E : Value → Shared → Prop) : SO → Prop
  | .next ρ σ => ∀ β s, At N X β₀ s₀ β s σ ρ → Q .next s
  | .brk ρ σ => ∀ β s, At N X β₀ s₀ β s σ ρ → Q .brk s
  | .ret d σ => ∀ v β s, Ext (frs X.fr) β₀ s₀.heap β s.heap → Same s₀ s → Inv X.C X.A X.fr β s.heap σ → VR β s.heap v d → Q (.ret v) s
  | .exc k _ σ => ∀ e β s, Same s₀ s → (Fly X.C X.fr β₀ s₀.heap k σ e β s.heap ∨ Made X β₀ s₀.heap k σ e β s.heap) → E e s
structure Wr (Γ : Ctx) (N : Names) (t : Env → Sem Flow) (ρ : Vars) (σ : Store) (O : SO → Prop) : Prop where
  run : ∀ X β₀ s₀ E, Stand Γ N X s₀ E → ∀ β s, At N X β₀ s₀ β s σ ρ → ∀ Q, (∀ o, O o → PostS N X β₀ s₀ Q E o) → wpAny (model X.C.prog X.C.w) X.A (t X.env) Q E s
/-- these statements end, and so -/
def Ws (Γ : Ctx) (N : Names) (sts : List Stmt) (ρ : Vars) (σ : Store) (O : SO → Prop) : Prop := Wr Γ N (fun env => execs sts env) ρ σ O
def W1 (Γ : Ctx) (N : Names) (st : Stmt) (ρ : Vars) (σ : Store) (O : SO → Prop) : Prop := Wr Γ N (fun env => exec st env) ρ σ O
/-- and then the rest -/
def Seq (Γ : Ctx) (N : Names) (r : List Stmt) (O : SO → Prop) : SO → Prop
  | .next ρ σ => Ws Γ N r ρ σ O
  | .brk ρ σ => O (.brk ρ σ)
  | .ret d σ => O (.ret d σ)
  | .exc k ρ σ => O (.exc k ρ σ)

section
variable {Γ : Ctx} {N : Names} {ρ : Vars} {σ σ₁ σ₂ σ₃ σ₄ : Store} {X : Cx} {β₀ β β₁ : List Addr} {s₀ s : Shared} {h h₁ : Heap} {E : Value → Shared → Prop} {O : SO → Prop} {tk : Tok} {J : Addr}
theorem Stand.base (D : Stand Γ N X s₀ E) (hJ : s₀.heap.get? J = none) : X.C.base.get? J = none := by
  cases q : X.C.base.get? J with
  | none => rfl
  | some o => rw [D.F.stays _ o q] at hJ; cases hJ
theorem At.here (T : At N X β₀ s₀ β s σ ρ) (D : Stand Γ N X s₀ E) : Here Γ N ρ X β s σ := ⟨D.T, D.deep, D.units, D.G, T.I, T.V⟩
theorem At.next (T : At N X β₀ s₀ β s σ ρ) (x : Ext (frs X.fr) β s.heap β₁ h₁) (S : SR β₁ h₁ σ₁) : At N X β₀ s₀ β₁ { s with heap := h₁, toks := tk } σ₁ ρ := ⟨T.x.trans x, T.sh.next _ _, T.I.next x S, T.V.next T.I x⟩
theorem At.but (T : At N X β₀ s₀ β s σ ρ) (D : Stand Γ N X s₀ E) (hJ : s₀.heap.get? J = none) (k : Heap.ExtBut J s.heap h₁) (sJ : Safe β s.heap J) (nfr : J ∉ frs X.fr) (nl : X.env.locals ≠ J)
    (nc : ∀ y c, N.lookup y = some .cell → X.env.cells.lookup y = some c → c ≠ J) : At N X β₀ s₀ β { s with heap := h₁, toks := tk } σ ρ :=
  ⟨T.x.but hJ k, T.sh.next _ _, T.I.but k (D.base hJ) sJ fun hm => absurd hm nfr, T.V.but k sJ nl nc⟩
theorem At.ns (T : At N X β₀ s₀ β s σ ρ) : ∃ m, s.heap.Ns X.env.locals m := let ⟨m, n, _⟩ := T.V.loc; ⟨m, n⟩
/-- what is new here is none of the call's own -/
theorem At.new (T : At N X β₀ s₀ β s σ ρ) (hJ : s.heap.get? J = none) : s₀.heap.get? J = none ∧ J ∉ frs X.fr ∧ X.env.locals ≠ J ∧ ∀ y c, N.lookup y = some .cell → X.env.cells.lookup y = some c → c ≠ J := by
  refine ⟨fresh_back T.x T.I.sr hJ, fun hm => ?_, fun q => ?_, fun y c hy hc q => ?_⟩
  · obtain ⟨m', o', es, ep, ho, _⟩ := T.I.fns _ hm
    rw [hJ] at ho; cases ho
  · obtain ⟨m', o', es, ep, ho, _⟩ := T.ns
    rw [q, hJ] at ho; cases ho
  · subst q
    obtain ⟨c', hc', ov, ⟨o', ho', _⟩, _⟩ := T.V.cel y hy
    rw [hc] at hc'; cases hc'
    rw [hJ] at ho'; cases ho'
/-- the names' own object that a store turns -/
def Turned (β : List Addr) (h h' : Heap) : Prop := ∃ J, (∃ o, h.get? J = some o ∧ ¬ Core o ∧ ∀ fs, o.data ≠ .fields fs) ∧ Heap.ExtBut J h h' ∧ ∀ m, h.Ns J m → ∃ m', h'.Ns J m'
theorem Turned.safe {h' : Heap} (t : Turned β h h') : Keep3 β h h' := by
  obtain ⟨J, ⟨o, ho, hc, _⟩, k, _⟩ := t
  exact keep3_but k (.of fun o' e => by rw [ho] at e; cases e; exact hc)
theorem not_core_ns {L : Addr} {m : Str → Option Value} (n : h.Ns L m) : ∃ o, h.get? L = some o ∧ ¬ Core o ∧ ∀ fs, o.data ≠ .fields fs := by
  obtain ⟨o', es, ep, ho, hd, _⟩ := n
  refine ⟨o', ho, fun c => ?_, fun fs q => by rw [hd] at q; cases q⟩
  rcases c with ⟨xs, n, q⟩ | ⟨_, fs, q⟩ <;> rw [hd] at q <;> cases q
theorem not_core_cell {c : Addr} {v : Option Value} (n : h.IsCell c v) : ∃ o, h.get? c = some o ∧ ¬ Core o ∧ ∀ fs, o.data ≠ .fields fs := by
  obtain ⟨o', ho, hd⟩ := n
  refine ⟨o', ho, fun c => ?_, fun fs q => by rw [hd] at q; cases q⟩
  rcases c with ⟨xs, n, q⟩ | ⟨_, fs, q⟩ <;> rw [hd] at q <;> cases q
theorem set_loc {m m' : Str → Option Value} {x : Str} {v : Value} {d : PV} (V : VOK X.env N β h ρ) (hl : N.lookup x = some .local) (nc : ∀ y c, N.lookup y = some .cell → X.env.cells.lookup y = some c → c ≠ X.env.locals) (n : h.Ns X.env.locals m) (q : ∀ y d, N.lookup y = some .local → ρ y = some d → ∃ v, m y = some v ∧ VR β h v d) (k : Heap.ExtBut X.env.locals h h₁) (n' : h₁.Ns X.env.locals m') (hx : m' x = some v) (hm : ∀ y, y ≠ x → m' y = m y) (r : VR β h v d) : VOK X.env N β h₁ (Vars.set ρ x d) := by
  have kp := keep3_but k (ns_core (β := β) n)
  refine ⟨⟨_, n', fun y e hy he => ?_⟩, fun y hy => ?_⟩
  · unfold Vars.set at he
    split at he
    · rename_i q; subst q; cases he; exact ⟨v, hx, r.core kp⟩
    · rename_i hyx
      obtain ⟨v', hv', r'⟩ := q y e hy he
      exact ⟨v', (hm y hyx).trans hv', r'.core kp⟩
  · obtain ⟨c, hc, ov, ⟨o, ho, hd⟩, qc⟩ := V.cel y hy
    refine ⟨c, hc, ov, ⟨o, k c o (nc y c hy hc) ho, hd⟩, fun e he => ?_⟩
    have hyx : y ≠ x := fun e => by subst e; rw [hl] at hy; cases hy
    unfold Vars.set at he; rw [if_neg hyx] at he
    obtain ⟨v', hv', r'⟩ := qc e he
    exact ⟨v', hv', r'.core kp⟩
theorem set_cel {x : Str} {v : Value} {d : PV} {c : Addr} {ov : Option Value} (V : VOK X.env N β h ρ) (hl : N.lookup x = some .cell) (hc : X.env.cells.lookup x = some c) (ne : c ≠ X.env.locals) (inj : ∀ y c', N.lookup y = some .cell → X.env.cells.lookup y = some c' → c' = c → y = x) (hcell : h.IsCell c ov) (k : Heap.ExtBut c h h₁) (hc' : h₁.IsCell c (some v)) (r : VR β h v d) : VOK X.env N β h₁ (Vars.set ρ x d) := by
  have kp := keep3_but k (cell_core (β := β) hcell)
  obtain ⟨m, n, q⟩ := V.loc
  refine ⟨⟨m, n.at' fun o e => k _ o ne.symm e, fun y e hy he => ?_⟩, fun y hy => ?_⟩
  · have hyx : y ≠ x := fun e => by subst e; rw [hl] at hy; cases hy
    unfold Vars.set at he; rw [if_neg hyx] at he
    obtain ⟨v', hv', r'⟩ := q y e hy he
    exact ⟨v', hv', r'.core kp⟩
  · by_cases hyx : y = x
    · subst hyx
      refine ⟨c, hc, _, hc', fun e he => ?_⟩
      unfold Vars.set at he; rw [if_pos rfl] at he; cases he
      exact ⟨v, rfl, r.core kp⟩
    · obtain ⟨c2, hc2, ov2, ⟨o, ho, hd⟩, qc2⟩ := V.cel y hy
      refine ⟨c2, hc2, ov2, ⟨o, k c2 o (fun e => hyx (inj y c2 hy hc2 e)) ho, hd⟩, fun e he => ?_⟩
      unfold Vars.set at he; rw [if_neg hyx] at he
      obtain ⟨v', hv', r'⟩ := qc2 e he
      exact ⟨v', hv', r'.core kp⟩
theorem store_ok {A' : Around} {E' : Value → Shared → Prop} {x : Str} {v : Value} {d : PV} {Q : Unit → Shared → Prop} (hx : canStore N x = true) (D : Stand Γ N X s₀ E) (T : At N X β₀ s₀ β s σ ρ) (r : VR β s.heap v d)
    (hq : ∀ s', At N X β₀ s₀ β s' σ (Vars.set ρ x d) → Turned β s.heap s'.heap → Q () s') :
    wpAny (model X.C.prog X.C.w) A' (storeName X.env x v) Q E' s := by
  have kn := (T.here D).kn x
  unfold canStore at hx
  rw [Bool.or_eq_true, beq_iff_eq, beq_iff_eq] at hx
  obtain ⟨m, n, q⟩ := T.V.loc
  rcases hx with hl | hl
  · refine wpAny_storeName_local (kn.trans hl) n (fun h' hn' hs' => ?_) (by rw [D.G.kind]; rfl)
    have k := hs'.extBut
    exact hq { s with heap := h', toks := _ } ⟨T.x.but D.F.fresh k, T.sh.next _ _, T.I.but k (D.base D.F.fresh) (ns_core n) (fun _ => ⟨_, hn'⟩), set_loc T.V hl (fun y c hy hc => (D.F.cells y c hy hc).2) n q k hn' (by simp) (fun y hy => by simp [hy]) r⟩ ⟨_, not_core_ns n, k, fun _ _ => ⟨_, hn'⟩⟩
  · obtain ⟨c, hc, ov, hcell, qc⟩ := T.V.cel x hl
    obtain ⟨fc, ne⟩ := D.F.cells x c hl hc
    have nns : ∀ m', ¬ s.heap.Ns c m' := fun m' nn => by
      obtain ⟨o, es, ep, ho, hd, _⟩ := nn
      obtain ⟨o', ho', hd'⟩ := hcell
      rw [ho] at ho'; cases ho'; rw [hd] at hd'; cases hd'
    refine wpAny_storeName_cell D.G.kind (kn.trans hl) hc hcell fun h' hc' hs' => ?_
    have k := hs'.extBut
    exact hq { s with heap := h', toks := s.toks } ⟨T.x.but fc k, T.sh.next _ _, T.I.but k (D.base fc) (cell_core hcell) (fun hm => let ⟨m', nn⟩ := T.I.fns c hm; absurd nn (nns m')), set_cel T.V hl hc ne (fun y c' hy hc2 e => D.F.inj y x c hy hl (e ▸ hc2) hc) hcell k hc' r⟩ ⟨c, not_core_cell hcell, k, fun m' nn => absurd nn (nns m')⟩
end
end Mine
end

-- S8
section
namespace Mine
open PySem PySem.W PyProof.Rows
variable [Z : Zero Frozen]

section
variable {Γ : Ctx} {N : Names} {ρ ρ' : Vars} {σ σ₁ σ₂ σ₃ σ₄ : Store} {X : Cx} {β₀ β β₁ : List Addr} {s₀ s : Shared} {h h₁ : Heap} {E : Value → Shared → Prop} {O : SO → Prop} {tk : Tok} {J : Addr}
theorem ws_cons {st : Stmt} {r : List Stmt} (h : W1 Γ N st ρ σ (Seq Γ N r O)) : Ws Γ N (st :: r) ρ σ O := .mk fun X β₀ s₀ E D β s T Q P =>
  wpAny_execs_cons (h.run X β₀ s₀ E D β s T _ fun o ho => by
    cases o with
    | next ρ' σ' => exact fun β' s' T' => (ho : Ws _ _ _ _ _ _).run X β₀ s₀ E D β' s' T' Q P
    | brk ρ' σ' => exact P _ ho
    | ret d σ' => exact P _ ho
    | exc k ρ' σ' => exact P _ ho)
theorem w_next {r : List Stmt} (h : Ws Γ N r ρ σ O) : Seq Γ N r O (.next ρ σ) := h
theorem w_sret {r : List Stmt} {d : PV} (h : O (.ret d σ)) : Seq Γ N r O (.ret d σ) := h
theorem w_sexc {r : List Stmt} {x : Exn} (h : O (.exc x ρ σ)) : Seq Γ N r O (.exc x ρ σ) := h
theorem w_sbrk {r : List Stmt} (h : O (.brk ρ σ)) : Seq Γ N r O (.brk ρ σ) := h
theorem w_nil (h : O (.next ρ σ)) : Ws Γ N [] ρ σ O := .mk fun X β₀ s₀ E D β s T Q P => wpAny_execs_nil (P _ h β s T)
theorem w_brk {p : Pos} {r : List Stmt} (h : O (.brk ρ σ)) : Ws Γ N (.Break p :: r) ρ σ O := ws_cons <| .mk fun X β₀ s₀ E D β s T Q P =>
  wpe (arm_exec_Break ..) (wpAny_bind (wpAny_standAt (wpAny_pure (P (.brk ρ σ) h β s T))))
theorem w_ret {e : Expr} {p : Pos} {r : List Stmt} {d : PV} (h1 : Ev Γ N ρ e σ (.ok d σ₁)) (h : O (.ret d σ₁)) : Ws Γ N (.Return (some e) p :: r) ρ σ O := ws_cons <| .mk fun X β₀ s₀ E D β s T Q P =>
  wpAny_Return_some (h1.run X β s (T.here D) _ E fun v β₁ h₁ tk₁ x S ra => P (.ret d σ₁) h v β₁ { s with heap := h₁, toks := tk₁ } (T.x.trans x) (T.sh.next _ _) (T.I.next x S) ra)
theorem fly_at {k : Exn} (T : At N X β₀ s₀ β s σ ρ) (hP : PostS N X β₀ s₀ (fun _ _ => False) E (.exc k ρ σ₁)) : ∀ e β' h' tk, Fly X.C X.fr β s.heap k σ₁ e β' h' → E e { s with heap := h', toks := tk } := fun e β' h' tk f => hP e β' { s with heap := h', toks := tk } (T.sh.next _ _) (.inl (f.of_ext T.x))
theorem w_ret_exc {e : Expr} {p : Pos} {r : List Stmt} {k : Exn} (h1 : Ev Γ N ρ e σ (.exc k σ₁)) (h : O (.exc k ρ σ₁)) : Ws Γ N (.Return (some e) p :: r) ρ σ O := ws_cons <| .mk fun X β₀ s₀ E D β s T Q P =>
  wpAny_Return_some (h1.run X β s (T.here D) _ E (fly_at T (P (.exc k ρ σ₁) h)))
/-- no store by the variable's swap -/
def noComp : Expr → Bool
  | .ListComp .. => false
  | .SetComp .. => false
  | .DictComp .. => false
  | _ => true
theorem no_swap {value : Expr} {t : Option Expr} {line : Nat} {env : Env} (h : noComp value = true) : swapsWith value t line env = pure false := by
  cases value <;> first | rfl | cases h
theorem w_set {x : Str} {e : Expr} {q p : Pos} {r : List Stmt} {d : PV} (hx : (canStore N x && noComp e) = true) (h1 : Ev Γ N ρ e σ (.ok d σ₁)) (h2 : Ws Γ N r (Vars.set ρ x d) σ₁ O) : Ws Γ N (.Assign [.Name x q] e p :: r) ρ σ O := ws_cons <| .mk fun X β₀ s₀ E D β s T Q P => by
  rw [Bool.and_eq_true] at hx
  exact wpAny_Assign_Name (h1.run X β s (T.here D) _ E fun v β₁ h₁ tk₁ x S ra => store_ok hx.1 D (T.next (tk := tk₁) x S) ra fun s' T' _ => P (.next _ _) h2 _ s' T') (no_swap hx.2)
theorem w_set_exc {x : Str} {e : Expr} {q p : Pos} {r : List Stmt} {k : Exn} (hx : (canStore N x && noComp e) = true) (h1 : Ev Γ N ρ e σ (.exc k σ₁)) (h2 : O (.exc k ρ σ₁)) : Ws Γ N (.Assign [.Name x q] e p :: r) ρ σ O := ws_cons <| .mk fun X β₀ s₀ E D β s T Q P => by
  rw [Bool.and_eq_true] at hx
  exact wpAny_Assign_Name (h1.run X β s (T.here D) _ E (fly_at T (P (.exc k ρ σ₁) h2))) (no_swap hx.2)
/-- the built list comes into the store, its comprehension's names still stand -/
theorem At.adopt {D L : Addr} {ys : List PV} {β' : List Addr} {h' : Heap} (T : At N X β₀ s₀ β s σ ρ) (B : Built X β s.heap σ₁ ys D L β' h') : At N X β₀ s₀ (β' ++ [D]) { s with heap := h', toks := tk } (σ₁ ++ [.list ys]) ρ := T.next (B.adopt).1 (B.adopt).2
theorem w_setc {x y : Str} {elt iter : Expr} {py q px p : Pos} {ifs : List Expr} {scope : Scope} {r : List Stmt} {v : PV} {ys : List PV} (hx : (canStore N x && (compOk N scope y && noSet iter)) = true) (h1 : Ev Γ N ρ iter σ (.ok v σ₁)) (h2 : CompAt Γ (relab N scope.names) ρ y ifs elt v σ₁ ys σ₂) (h3 : Ws Γ N r (Vars.set ρ x (.ref σ₂.length)) (σ₂ ++ [.list ys]) O) :
    Ws Γ N (.Assign [.Name x px] (.ListComp elt [⟨.Name y py, iter, ifs, 0⟩] scope q) p :: r) ρ σ O := ws_cons <| .mk fun X β₀ s₀ E D β s T Q P => by
  rw [Bool.and_eq_true] at hx
  obtain ⟨b, hs⟩ : ∃ b, swapsWith (.ListComp elt [⟨.Name y py, iter, ifs, 0⟩] scope q) (some (.Name x px)) p.line X.env = pure b := ⟨_, rfl⟩
  have P1 := P (.next _ _) h3
  cases b with
  | false => exact wpAny_Assign_Name ((v_comp hx.2 h1 h2).run X β s (T.here D) _ E fun v β₁ h₁ tk₁ x S ra => store_ok hx.1 D (T.next (tk := tk₁) x S) ra fun s' T' _ => P1 _ s' T') hs
  | true =>
    refine wpe (PySem.exec_Assign_Name_used _ _ _ _ hs) (wpAny_bind (wpAny_standAt ?_))
    show wpAny _ _ ((comprehension (.ListComp elt [⟨.Name y py, iter, ifs, 0⟩] scope q) scope X.env (firstIterPos [⟨.Name y py, iter, ifs, 0⟩] q) (newList []) false (eval iter X.env) (some (assign (.Name x px) X.env)) >>= fun _ => pure ()) >>= fun _ => pure Flow.next) _ _ _
    refine wpAny_bind (wpAny_bind (comp_core hx.2 h1 h2 (T.here D) fun C L β' h' tk' B => ?_))
    refine wpAny_assign_Name (store_ok (d := .ref σ₂.length) (s := { s with heap := h', toks := tk' }) hx.1 D (T.adopt (tk := tk') B) (.ref (by rw [← B.I.sr.len]; simp)) fun s2 T2 t2 => ?_)
    obtain ⟨m, ns⟩ := B.l
    obtain ⟨n0, n1, n2, n3⟩ := T.new B.fL
    obtain ⟨m2, L2⟩ : ∃ m2, s2.heap.Ns L m2 := by
      obtain ⟨J, _, k, kn⟩ := t2
      by_cases e : L = J
      · subst e; exact kn _ ns
      · exact ⟨m, ns.at' fun o q => k L o e q⟩
    exact ⟨m2, L2, fun h3 sb => wpAny_pure (wpAny_pure (P1 _ { s2 with heap := h3, toks := s2.toks } (T2.but D n0 sb.extBut (ns_core L2) n1 n2 n3)))⟩
theorem w_if {t : Expr} {b e : List Stmt} {p : Pos} {r : List Stmt} {c : Bool} (h1 : Et Γ N ρ t σ (.ok c σ₁)) (h2 : if c = true then Ws Γ N b ρ σ₁ (Seq Γ N r O) else Ws Γ N e ρ σ₁ (Seq Γ N r O)) : Ws Γ N (.If t b e p :: r) ρ σ O := ws_cons <| .mk fun X β₀ s₀ E D β s T Q P =>
  wpAny_If (h1.run X β s (T.here D) _ E fun v β₁ h₁ tk₁ x S ra => by
    cases ra
    cases c
    · exact h2.run X β₀ s₀ E D β₁ _ (T.next x S) Q P
    · exact h2.run X β₀ s₀ E D β₁ _ (T.next x S) Q P)
theorem w_expr {ob : Expr} {m : Str} {args : List Expr} {ap cp p : Pos} {r : List Stmt} {d : PV} (h1 : Ev Γ N ρ (.Call (.Attribute ob m ap) args [] cp) σ (.ok d σ₁)) (h2 : Ws Γ N r ρ σ₁ O) : Ws Γ N (.Expr (.Call (.Attribute ob m ap) args [] cp) p :: r) ρ σ O := ws_cons <| .mk fun X β₀ s₀ E D β s T Q P =>
  wpAny_Expr_any (h1.run X β s (T.here D) _ E fun v β₁ h₁ tk₁ x S ra => P (.next ρ σ₁) h2 _ _ (T.next (tk := tk₁) x S)) (by unfold interactive; rw [D.G.kind]; rfl) rfl

/-! items are stored -/
theorem setItem_ok {l : Addr} {items : List Value} {n : Nat} {i : Int} {k : Nat} {t : Tok} {v : Value} {s : Shared} {C : Conf} {A : Around} {Q : Unit → Shared → Prop} (hl : IsL s.heap l items.toArray n) (hn : k < items.length) (hf : Builtin.List.listFitsIndex i = true) (hi : i = (k : Int))
    (hQ : Q () { s with heap := s.heap.update l (Obj.mapSeq (·.setIfInBounds k v)) }) : wpAny (model C.prog C.w) A (setItem (.ref l) (.int i t) v) Q E s := by
  have hT : s.TypeIs (.ref l) "list" := ⟨_, hl, rfl⟩
  unfold setItem
  try with_reducible refine wpAny_holding ?_
  first | refine wpAny_bind (wpAny_pure ?_) | skip
  refine wpAny_bind (wpAny_sequenceKey hT (by decide) ?_)
  refine wpAny_bind (wpAny_callSpecial?_slot (name := Str.ofString "__setitem__") hT PySem.slot_list_setitem
    (wpAny_call_entry PySem.slot_list_setitem hT PySem.entry_list_setitem ?_ (PySem.args_list_setitem _ _ _)))
  show wpAny _ _ (Builtin.List.listSubscript? (.int i t) >>= _) _ _ s
  refine wpAny_bind (wpAny_listSubscript_int hf ?_)
  subst hi
  have hx : items.toArray[k]? = some items[k] := by simp [hn]
  show wpAny _ _ ((seqItemAt l k >>= fun r => pure (r.map (k, ·))) >>= _) _ _ s
  refine wpAny_bind (wpAny_bind (wpAny_seqItemAt hl rfl (wpAny_pure ?_)))
  rw [hx]
  show wpAny _ _ (setSeqItemAt l k v >>= _) _ _ s
  refine wpAny_bind (wpAny_setSeqItemAt hl rfl ?_)
  first
    | exact wpAny_bind (wpAny_pure (wpAny_pure ⟨.none, rfl, wpAny_pure hQ⟩))
    | exact wpAny_pure ⟨.none, rfl, wpAny_pure hQ⟩

/-- an item of the object is set -/
structure Sti (o k v : PV) (σ σ' : Store) : Prop where
  run : ∀ (X : Cx) β (s : Shared) vo vk vv (Q : Unit → Shared → Prop) E, Inv X.C X.A X.fr β s.heap σ → VR β s.heap vo o → VR β s.heap vk k → VR β s.heap vv v → (∀ h' tk, Ext (frs X.fr) β s.heap β h' → SR β h' σ' → Q () { s with heap := h', toks := tk }) → wpAny (model X.C.prog X.C.w) X.A (setItem vo vk vv) Q E s
theorem set_list {n : Nat} {ds : List PV} {i : Int} {k : Nat} {v : PV} (hn : σ[n]? = some (.list ds)) (hi : i = (k : Int)) (hk : k < ds.length) (hl : k < 2 ^ 62) : Sti (.ref n) (.int i) v σ (σ.set n (.list (ds.set k v))) := .mk fun X β s vo vk vv Q E I ro rk rv P => by
  subst hi
  obtain ⟨a1, vs, m1, rfl, h1, l1, q1⟩ := list_of I.sr ro hn
  have hlen := q1.length
  cases rk with
  | int _ tj =>
    have hset : (vs.toArray.setIfInBounds k vv) = (vs.set k vv).toArray := by simp
    obtain ⟨xx, SS⟩ := I.sr.update I.fns (f := fun a => a.setIfInBounds k vv) h1 l1 hset (q1.set k rv)
    exact setItem_ok l1 (by omega) (fitsIndex_of (by omega) (by omega)) rfl (P _ s.toks xx SS)
theorem w_item {ob i e : Expr} {q p : Pos} {r : List Stmt} {v ov k : PV} (hc : noComp e = true) (h1 : Ev Γ N ρ e σ (.ok v σ₁)) (h2 : Ev Γ N ρ ob σ₁ (.ok ov σ₂)) (h3 : Ev Γ N ρ i σ₂ (.ok k σ₃)) (h4 : Sti ov k v σ₃ σ₄) (h5 : Ws Γ N r ρ σ₄ O) : Ws Γ N (.Assign [.Subscript ob i q] e p :: r) ρ σ O := ws_cons <| .mk fun X β₀ s₀ E D β s T Q P => by
  refine wpAny_Assign_Subscript (h1.run X β s (T.here D) _ E fun vv β₁ h₁ tk₁ x1 S1 rv => ?_) (no_swap hc)
  have T₁ := T.next (tk := tk₁) x1 S1
  refine h2.run X β₁ { s with heap := h₁, toks := tk₁ } (T₁.here D) _ E fun vo β₂ h₂ tk₂ x2 S2 ro => ?_
  have T₂ := T₁.next (tk := tk₂) x2 S2
  refine h3.run X β₂ { s with heap := h₂, toks := tk₂ } (T₂.here D) _ E fun vk β₃ h₃ tk₃ x3 S3 rk => ?_
  have T₃ := T₂.next (tk := tk₃) x3 S3
  exact h4.run X β₃ { s with heap := h₃, toks := tk₃ } vo vk vv _ E T₃.I (T₂.I.mono x3 ro) rk (T₂.I.mono x3 (T₁.I.mono x2 rv)) fun h' tk x S => P (.next ρ σ₄) h5 _ _ (T₃.next (tk := tk) x S)
end
end Mine
end

-- S9
section
namespace Mine
open PySem PySem.W PyProof.Rows
variable [Z : Zero Frozen]

section
variable {Γ : Ctx} {N : Names} {ρ ρ' : Vars} {σ σ₁ σ₂ σ₃ σ₄ : Store} {X : Cx} {β₀ β β₁ : List Addr} {s₀ s : Shared} {h h₁ : Heap} {E : Value → Shared → Prop} {O : SO → Prop} {tk : Tok} {J : Addr} {env : Env}
theorem swapped2 {x y : Str} {q1 q2 p : Pos} {value : Expr} {k : Nat} (hv : tupleOk value = true) :
    ∃ o, swappedStores [.Tuple [.Name x q1, .Name y q2] k p] value env = pure o ∧ (o = none ∨ o = some [x, y]) := by
  cases value with
  | Tuple vs k2 q =>
    unfold tupleOk at hv
    simp only [Bool.not_eq_true'] at hv
    unfold swappedStores
    dsimp only
    split
    · exact ⟨none, rfl, .inl rfl⟩
    split
    · exact ⟨none, rfl, .inl rfl⟩
    split
    · exact ⟨none, rfl, .inl rfl⟩
    rename_i hlen
    split
    · exact ⟨none, rfl, .inl rfl⟩
    split
    · rename_i hc; rw [hv] at hc; cases hc
    · refine ⟨_, rfl, .inr ?_⟩
      simp only [Bool.or_eq_true, not_or, Bool.not_eq_true, bne_eq_false_iff_eq, List.filterMap_cons, List.filterMap_nil] at hlen ⊢
      have h1 := hlen.1
      split at h1 <;> split at h1 <;> simp_all
  | _ => exact ⟨none, rfl, .inl rfl⟩
theorem set_set (ρ : Vars) {x y : Str} (d e : PV) (hne : x ≠ y) : Vars.set (Vars.set ρ x d) y e = Vars.set (Vars.set ρ y e) x d := by
  funext z
  unfold Vars.set
  by_cases h1 : z = y
  · subst h1
    rw [if_pos rfl, if_neg (Ne.symm hne), if_pos rfl]
  · rw [if_neg h1]
    by_cases h2 : z = x
    · rw [if_pos h2, if_pos h2]
    · rw [if_neg h2, if_neg h2, if_neg h1]
theorem unpack2 {v : Value} {a b : PV} {Q : List Value → Shared → Prop} (D : Stand Γ N X s₀ E) (T : At N X β₀ s₀ β s σ ρ) (r : VR β s.heap v (.tup [a, b]))
    (hq : ∀ va vb s', VR β s'.heap va a → VR β s'.heap vb b → At N X β₀ s₀ β s' σ ρ → Q [va, vb] s') : wpAny (model X.C.prog X.C.w) X.A (unpackItems v 2 none) Q E s := by
  obtain ⟨ad, vs, m, rfl, l, q⟩ := r.tup_inv
  have hz : 2 = vs.toArray.size := by simp [q.length]
  rw [hz]
  refine wpAny_unpackItems_tuple T.I.hh (isTuple_at l) fun h' k => ?_
  have e : vs.toArray.toList = vs := by simp
  rw [e]
  have J : s.heap.get? s.heap.objs.size = none := get?_size _
  have sJ : Safe β s.heap s.heap.objs.size := .none J
  have kp := keep3_but k sJ
  obtain ⟨n0, n1, n2, n3⟩ := T.new J
  cases q with
  | cons ra q => cases q with
    | cons rb q =>
      cases q
      exact hq _ _ { s with heap := h', toks := s.toks } (ra.core kp) (rb.core kp) (T.but D n0 k sJ n1 n2 n3)
theorem order2 {x y : Str} {va vb : Value} {a b : PV} {t1 t2 : Value → Sem Unit} {Q : Unit → Shared → Prop} (D : Stand Γ N X s₀ E) (T : At N X β₀ s₀ β s σ ρ) (hx : canStore N x = true) (hy : canStore N y = true) (ra : VR β s.heap va a) (rb : VR β s.heap vb b)
    (h1 : ∀ (s : Shared) (Q : Unit → Shared → Prop), wpAny (model X.C.prog X.C.w) X.A (storeName X.env x va) Q E s → wpAny (model X.C.prog X.C.w) X.A (t1 va) Q E s) (h2 : ∀ (s : Shared) (Q : Unit → Shared → Prop), wpAny (model X.C.prog X.C.w) X.A (storeName X.env y vb) Q E s → wpAny (model X.C.prog X.C.w) X.A (t2 vb) Q E s)
    (hq : ∀ s', At N X β₀ s₀ β s' σ (Vars.set (Vars.set ρ x a) y b) → Q () s') : wpAny (model X.C.prog X.C.w) X.A (assignInOrder [t1, t2] [va, vb]) Q E s := by
  show wpAny _ _ (holding [vb] (t1 va) >>= fun _ => holding [] (t2 vb) >>= fun _ => pure ()) _ _ _
  exact wpAny_bind (wpAny_holding (h1 _ _ (store_ok hx D T ra fun s1 T1 t => wpAny_bind (wpAny_holding (h2 _ _ (store_ok hy D T1 (rb.core t.safe) fun s2 T2 _ => wpAny_pure (hq s2 T2)))))))
theorem exec_Assign_arm' (targets value pos) : exec (.Assign targets value pos) env = (do
    standAt pos
    if ← swapsWithSole targets value pos.line env then do
      evalThenUse value env fun v => assignAll v ((assignEach targets env).map (·.2))
      pure .next
    else do
      let v ← eval value env
      assignStores env v (← swappedStores targets value env) ((assignEach targets env).map (·.2))) := rfl
theorem w_two {x y : Str} {e : Expr} {k : Nat} {q1 q2 q p : Pos} {r : List Stmt} {a b : PV} (hx : (tupleOk e && canStore N x && canStore N y && x != y) = true) (h1 : Ev Γ N ρ e σ (.ok (.tup [a, b]) σ₁)) (h2 : Ws Γ N r (Vars.set (Vars.set ρ x a) y b) σ₁ O) :
    Ws Γ N (.Assign [.Tuple [.Name x q1, .Name y q2] k q] e p :: r) ρ σ O := ws_cons <| .mk fun X β₀ s₀ E D β s T Q P => by
  rw [Bool.and_eq_true, Bool.and_eq_true, Bool.and_eq_true, bne_iff_ne] at hx
  obtain ⟨⟨⟨hv, cx⟩, cy⟩, ne⟩ := hx
  obtain ⟨w, hw, hw'⟩ := swapped2 (env := X.env) (x := x) (y := y) (q1 := q1) (q2 := q2) (p := q) (k := k) hv
  have hsw : swapsWithSole [.Tuple [.Name x q1, .Name y q2] k q] e p.line X.env = pure false := by cases e <;> rfl
  refine wpe (exec_Assign_arm' ..) ?_
  rw [hw, hsw]
  refine wpAny_bind (wpAny_standAt (wpAny_bind (wpAny_pure ?_)))
  rw [if_neg (by decide)]
  refine wpAny_bind (h1.run X β s (T.here D) _ E fun v β₁ h₁ tk₁ xx S ra => wpAny_bind (wpAny_pure ?_))
  have T₁ := T.next (tk := tk₁) xx S
  have P1 := P (.next _ _) h2
  rcases hw' with rfl | rfl
  · show wpAny _ _ (assign (.Tuple [.Name x q1, .Name y q2] k q) X.env v >>= fun _ => pure Flow.next) _ _ _
    refine wpAny_bind (wpe (arm_assign_Tuple ..) (wpAny_bind (wpAny_standAt ?_)))
    show wpAny _ _ (holding [v] (unpackItems v 2 none) >>= fun items => assignInOrder [assign (.Name x q1) X.env, assign (.Name y q2) X.env] items) _ _ _
    exact wpAny_bind (wpAny_holding (unpack2 D T₁ ra fun va vb s2 ra rb T₂ => order2 D T₂ cx cy ra rb (fun s Q h => wpAny_assign_Name h) (fun s Q h => wpAny_assign_Name h) fun s3 T₃ => wpAny_pure (P1 _ s3 T₃)))
  · show wpAny _ _ (rule "assign.swapped-stores" >>= fun _ => unpackItems v 2 none >>= fun items => assignInOrder [bindName X.env y, bindName X.env x] items.reverse >>= fun _ => pure Flow.next) _ _ _
    refine wpAny_bind (wpAny_rule (wpAny_bind (unpack2 D T₁ ra fun va vb s2 ra rb T₂ => wpAny_bind (order2 D T₂ cy cx rb ra (fun s Q h => wpAny_bindName h) (fun s Q h => wpAny_bindName h) fun s3 T₃ => wpAny_pure (P1 β₁ s3 ?_)))))
    rw [set_set _ _ _ ne]; exact T₃

/-! ## loops -/
/-- how a turn must end -/
def TurnO (v : PV) (all : List PV) (K : Vars → Store → Prop) (O : SO → Prop) : SO → Prop
  | .next ρ σ => ItemsOf v σ all ∧ K ρ σ
  | .brk ρ σ => O (.next ρ σ)
  | .ret d σ => O (.ret d σ)
  | .exc k ρ σ => O (.exc k ρ σ)
def Fg (Γ : Ctx) (N : Names) (x : Str) (body : List Stmt) (v : PV) (all : List PV) (O : SO → Prop) : List PV → Vars → Store → Prop
  | [], ρ, σ => O (.next ρ σ)
  | d :: r, ρ, σ => Ws Γ N body (Vars.set ρ x d) σ (TurnO v all (Fg Γ N x body v all O r) O)
/-- the call's body, seen from a turn's begin -/
theorem rebase (D : Stand Γ N X s₀ E) (T : At N X β₀ s₀ β s σ ρ) : ∃ g : Shared, Stand Γ N X g E ∧ At N X β g β s σ ρ ∧ Ext (frs X.fr) β₀ s₀.heap β g.heap ∧ Same s₀ g ∧
    (∀ a o, s.heap.get? a = some o → a ≠ X.env.locals → (∀ y c, N.lookup y = some .cell → X.env.cells.lookup y = some c → c ≠ a) → g.heap.get? a = some o) ∧ (∀ a o, g.heap.get? a = some o → s.heap.get? a = some o) := by
  let as : List Addr := X.env.locals :: N.filterMap fun p => if N.lookup p.1 = some .cell then X.env.cells.lookup p.1 else none
  have hin : ∀ y c, N.lookup y = some .cell → X.env.cells.lookup y = some c → c ∈ as := fun y c hy hc => by
    refine List.mem_cons_of_mem _ (List.mem_filterMap.mpr ⟨(y, .cell), mem_of_lookup hy, ?_⟩)
    show (if N.lookup y = some .cell then X.env.cells.lookup y else none) = some c
    rw [if_pos hy]; exact hc
  have hout : ∀ a ∈ as, a = X.env.locals ∨ ∃ y, N.lookup y = some .cell ∧ X.env.cells.lookup y = some a := fun a ha => by
    rcases List.mem_cons.mp ha with q | ha
    · exact .inl q
    · obtain ⟨⟨y, k⟩, _, hq⟩ := List.mem_filterMap.mp ha
      dsimp only at hq
      split at hq
      · rename_i hy; exact .inr ⟨y, hy, hq⟩
      · cases hq
  have none0 : ∀ a ∈ as, s₀.heap.get? a = none := fun a ha => by
    rcases hout a ha with rfl | ⟨y, hy, hc⟩
    · exact D.F.fresh
    · exact (D.F.cells y a hy hc).1
  have keep : ∀ a o, s.heap.get? a = some o → a ∉ as → (hideAll s.heap as).get? a = some o := fun a o e n => hideAll_get as e n
  have old : ∀ a o, s₀.heap.get? a = some o → a ∉ as := fun a o e hm => by rw [none0 a hm] at e; cases e
  have F : FOK X.C X.env N (hideAll s.heap as) := ⟨hideAll_none as List.mem_cons_self, fun y c hy hc => ⟨hideAll_none as (hin y c hy hc), (D.F.cells y c hy hc).2⟩, D.F.inj, fun a o e => keep a o (T.I.stays a o e) (old a o (D.F.stays a o e))⟩
  refine ⟨{ s with heap := hideAll s.heap as, toks := s.toks }, ⟨D.T, D.deep, D.units, D.G, F, D.hE, D.fr, D.L⟩,
    ⟨⟨⟨[], by simp, by simp⟩, fun a o e _ _ => of_hideAll as e, fun a o e _ => ⟨o.slots, of_hideAll as e⟩⟩, ⟨s.heap, s.toks, rfl⟩, T.I, T.V⟩,
    ⟨T.x.grow, fun a o e n f => keep a o (T.x.keep a o e n f) (old a o e), fun a o e n => ?_⟩, T.sh.next _ _, fun a o e n1 n2 => keep a o e fun hm => ?_, fun a o e => of_hideAll as e⟩
  · obtain ⟨sl, q⟩ := T.x.slots a o e n
    exact ⟨sl, keep a _ q (old a o e)⟩
  · rcases hout a hm with q | ⟨y, hy, hc⟩
    · exact n1 q
    · exact n2 y a hy hc rfl
end
end Mine
end

-- Sa
section
namespace Mine
open PySem PySem.W PyProof.Rows
variable [Z : Zero Frozen]

section
variable {Γ : Ctx} {N : Names} {ρ ρ' : Vars} {σ σ₁ σ₂ σ₃ σ₄ : Store} {X : Cx} {β₀ β β₁ : List Addr} {s₀ s g : Shared} {h h₁ : Heap} {E : Value → Shared → Prop} {O : SO → Prop} {tk : Tok} {J : Addr} {env : Env} {v : PV} {all : List PV}
/-- an iterator of the call's own: it stands beside the names -/
structure Iter (N : Names) (X : Cx) (s₀ : Shared) (J : Addr) : Prop where
  f : s₀.heap.get? J = none
  fr : J ∉ frs X.fr
  l : X.env.locals ≠ J
  c : ∀ y c, N.lookup y = some .cell → X.env.cells.lookup y = some c → c ≠ J
theorem Turned.iter {h' : Heap} {i : Nat} (t : Turned β h h') (y : ItAt β h v J i) : ItAt β h' v J i := by
  obtain ⟨K, ⟨o, ho, hc, hn⟩, k, _⟩ := t
  refine y.but k (.of fun o' e => by rw [ho] at e; cases e; exact hc) fun q => ?_
  obtain ⟨o1, ho1, _, fs, hd1⟩ := y.obj
  rw [q, ho] at ho1; cases ho1
  exact hn fs hd1
theorem VR.mono' {fr : List Addr} (S : SR β h σ) (F : ∀ a o, h.get? a = some o → (∀ es n, o.data ≠ .dict es n) → a ∉ fr) (x : Ext fr β h β₁ h₁) {v : Value} {d : PV} (r : VR β h v d) : VR β₁ h₁ v d := by
  induction r using VR.rec (motive_2 := fun vs ds _ => VRs β₁ h₁ vs ds) with
  | none => exact .none
  | bool b => exact .bool b
  | int i t => exact .int i t
  | str x t => exact .str x t
  | tup e _ ih => exact .tup (x.keep _ _ e (S.not_in e (by simp)) (F _ _ e (by intro es n q; cases q))) ih
  | ref e => exact .ref (x.at? e)
  | rng e => exact .rng (x.keep _ _ e (S.not_in e (by simp)) (F _ _ e (by intro es n q; cases q)))
  | old => exact .old
  | nil => exact .nil
  | cons _ _ a b => exact .cons a b
theorem VRs.mono' {fr : List Addr} (S : SR β h σ) (F : ∀ a o, h.get? a = some o → (∀ es n, o.data ≠ .dict es n) → a ∉ fr) (x : Ext fr β h β₁ h₁) {vs : List Value} {ds : List PV} (r : VRs β h vs ds) : VRs β₁ h₁ vs ds := by
  induction vs generalizing ds with
  | nil => cases r; exact .nil
  | cons v vs ih => cases r with | cons a b => exact .cons (a.mono' S F x) (ih b)
theorem ItAt.ext {fr : List Addr} {i : Nat} (y : ItAt β h v J i) (S : SR β h σ) (F : ∀ a o, h.get? a = some o → (∀ es n, o.data ≠ .dict es n) → a ∉ fr) (x : Ext fr β h β₁ h₁) : ItAt β₁ h₁ v J i := by
  obtain ⟨o, ho, hc, fs, hd⟩ := y.obj
  have k : h₁.get? J = some o := x.keep J o ho (S.not_seq ho fun xs n q => by rw [hd] at q; cases q) (F _ _ ho fun es n q => by rw [hd] at q; cases q)
  have kk : ∀ o', h.get? J = some o' → h₁.get? J = some o' := fun o' e => by rw [ho] at e; cases e; exact k
  unfold ItAt at y ⊢
  split at y
  · obtain ⟨a, vs, n, l, q, o', ho', r⟩ := y
    exact ⟨a, vs, n, x.keep _ _ l (S.not_in l (by simp)) (F _ _ l (by intro es n q; cases q)), q.mono' S F x, o', kk _ ho', r⟩
  · obtain ⟨a, ha, o', ho', r⟩ := y; exact ⟨a, x.at? ha, o', kk _ ho', r⟩
  · obtain ⟨c, t, hk, o', ho', r⟩ := y; exact ⟨c, t, hk, o', kk _ ho', r⟩
  · exact kk _ y
  · exact y.elim
/-- an iterator in a heap that has all it leans on -/
theorem ItAt.sub {i : Nat} {g : Heap} (y : ItAt β h v J i) (kJ : ∀ o, h.get? J = some o → g.get? J = some o) (kc : ∀ a o, h.get? a = some o → Core o → g.get? a = some o) : ItAt β g v J i := by
  unfold ItAt at y ⊢
  split at y
  · obtain ⟨a, vs, n, l, q, o', ho', r⟩ := y
    exact ⟨a, vs, n, kc _ _ l (.inl ⟨_, _, rfl⟩), q.core fun a o e c _ => kc a o e c, o', kJ _ ho', r⟩
  · obtain ⟨a, ha, o', ho', r⟩ := y; exact ⟨a, ha, o', kJ _ ho', r⟩
  · obtain ⟨c, t, hk, o', ho', r⟩ := y; exact ⟨c, t, hk, o', kJ _ ho', r⟩
  · exact kJ _ y
  · exact y.elim
/-- behind a turn's body, seen from the call's begin -/
theorem PostS.back (x : Ext (frs X.fr) β₀ s₀.heap β₁ g.heap) {Q : Flow → Shared → Prop} {o : SO} (sg : Same s₀ g) (og : ∀ a, g.heap.get? a = none → s₀.heap.get? a = none) (P : PostS N X β₀ s₀ Q E o) : PostS N X β₁ g Q E o := by
  have tr : ∀ {s'}, Same g s' → Same s₀ s' := fun {s'} q => by
    obtain ⟨h, t, rfl⟩ := sg
    obtain ⟨h', t', rfl⟩ := q
    exact ⟨h', t', rfl⟩
  cases o with
  | next ρ σ => exact fun β s T => P β s ⟨x.trans T.x, tr T.sh, T.I, T.V⟩
  | brk ρ σ => exact fun β s T => P β s ⟨x.trans T.x, tr T.sh, T.I, T.V⟩
  | ret d σ => exact fun v β s x5 sh I5 r5 => P v β s (x.trans x5) (tr sh) I5 r5
  | exc k ρ σ =>
    refine fun e β s sh f => P e β s (tr sh) (f.imp (·.of_ext x) fun m => ⟨x.trans m.x, m.I, ?_⟩)
    obtain ⟨ea, oe, vs, a0, h1, h2, h3, h4, h5, h6, h7⟩ := m.obj
    exact ⟨ea, oe, vs, a0, h1, h2, h3, h4, h5, h6, og ea h7⟩
/-- ahead of a turn -/
def ForI (Γ : Ctx) (N : Names) (X : Cx) (β₀ : List Addr) (s₀ : Shared) (x : Str) (body : List Stmt) (v : PV) (all : List PV) (O : SO → Prop) (J : Addr) (n : Nat) (s : Shared) : Prop :=
  ∃ i β σ ρ, n = all.length + 1 - i ∧ i ≤ all.length ∧ At N X β₀ s₀ β s σ ρ ∧ ItAt β s.heap v J i ∧ ItemsOf v σ all ∧ Fg Γ N x body v all O (all.drop i) ρ σ
theorem for_body {x : Str} {body : List Stmt} {i : Nat} {d : PV} {Q K : Flow → Shared → Prop} (D : Stand Γ N X s₀ E) (R : Iter N X s₀ J) (T : At N X β₀ s₀ β s σ (Vars.set ρ x d)) (it : ItAt β s.heap v J (i + 1)) (hlt : i < all.length) (f : Fg Γ N x body v all O (d :: all.drop (i + 1)) ρ σ) (P : ∀ o, O o → PostS N X β₀ s₀ Q E o)
    (hn : ∀ s', ForI Γ N X β₀ s₀ x body v all O J (all.length + 1 - (i + 1)) s' → K .next s') (hb : ∀ s', Q .next s' → K .brk s') (hr : ∀ v s', Q (.ret v) s' → K (.ret v) s') : wpAny (model X.C.prog X.C.w) X.A (execs body X.env) K E s := by
  obtain ⟨g, Dg, Tg, xg, sg, kg, gk⟩ := rebase D T
  have kc : ∀ a o, s.heap.get? a = some o → Core o → g.heap.get? a = some o := fun a o e c => kg a o e (fun q => by
    subst q
    obtain ⟨m', n'⟩ := T.ns
    obtain ⟨o2, ho2, hc2, _⟩ := not_core_ns n'
    rw [e] at ho2; cases ho2; exact hc2 c) fun y c' hy hc q => by
      subst q
      obtain ⟨c2, hc2, ov, n, _⟩ := T.V.cel y hy
      rw [hc] at hc2; cases hc2
      obtain ⟨o2, ho2, hc2, _⟩ := not_core_cell n
      rw [e] at ho2; cases ho2; exact hc2 c
  have og : ∀ a, g.heap.get? a = none → s₀.heap.get? a = none := fun a e => by
    cases q : s₀.heap.get? a with
    | none => rfl
    | some o =>
      by_cases hm : a ∈ β₀
      · obtain ⟨new, hg, _⟩ := T.x.grow
        obtain ⟨_, _, l⟩ := T.I.sr.isL (a := a) (by rw [hg]; exact List.mem_append_left _ hm)
        have := kc a _ l (.inl ⟨_, _, rfl⟩)
        rw [e] at this; cases this
      · obtain ⟨sl, q2⟩ := xg.slots a o q hm
        rw [e] at q2; cases q2
  refine (f : Ws _ _ _ _ _ _).run X β g E Dg β s Tg K fun o ho => ?_
  have back : ∀ o, O o → PostS N X β g Q E o := fun o h => (P o h).back xg sg og
  cases o with
  | next ρ2 σ2 =>
    refine fun β5 s5 T5 => hn s5 ⟨i + 1, β5, σ2, ρ2, rfl, hlt, ⟨xg.trans T5.x, ?_, T5.I, T5.V⟩, ?_, ho.1, ho.2⟩
    · obtain ⟨h, t, rfl⟩ := sg
      obtain ⟨h', t', e⟩ := T5.sh
      exact ⟨h', t', e⟩
    · exact (it.sub (fun o e => kg J o e R.l.symm fun y c hy hc => R.c y c hy hc) kc).ext (T.I.sr.core fun a o e c _ => kc a o e c) (fun a o e hd => T.I.fns.not (gk a o e) hd) T5.x
  | brk ρ2 σ2 => exact fun β5 s5 T5 => hb s5 (back _ ho β5 s5 T5)
  | ret d σ2 => exact fun v β5 s5 x5 sh I5 r5 => hr v s5 (back _ ho v β5 s5 x5 sh I5 r5)
  | exc k ρ2 σ2 => exact back _ ho
theorem w_for {x : Str} {iter : Expr} {body : List Stmt} {q p : Pos} {r : List Stmt} (hx : (canStore N x && noSet iter) = true) (h1 : Ev Γ N ρ iter σ (.ok v σ₁)) (h2 : ItemsOf v σ₁ all) (h3 : Fg Γ N x body v all (Seq Γ N r O) all ρ σ₁) : Ws Γ N (.For (.Name x q) iter body [] p :: r) ρ σ O := ws_cons <| .mk fun X β₀ s₀ E D β s T Q P => by
  rw [Bool.and_eq_true] at hx
  refine wpAny_For (h1.run X β s (T.here D) _ E fun vv β₁ h₁ tk₁ x1 S1 rv => ?_) (fold_no hx.2)
  have T₁ := T.next (tk := tk₁) x1 S1
  refine pyIter_ok (s := { s with heap := h₁, toks := tk₁ }) h2 T₁.I rv fun ob tk₂ hI => ?_
  have fJ1 : h₁.get? h₁.objs.size = none := get?_size h₁
  obtain ⟨n0, n1, n2, n3⟩ := T₁.new fJ1
  have T₂ := T₁.but (tk := tk₂) D n0 (fun b o' _ e => Heap.get?_push_of_some _ e : Heap.ExtBut h₁.objs.size h₁ (h₁.push ob)) (.none fJ1) n1 n2 n3
  have R : Iter N X s₀ h₁.objs.size := ⟨n0, n1, n2, n3⟩
  dsimp only at hI T₂ ⊢
  generalize h₁.objs.size = J at hI R ⊢
  generalize h₁.push ob = h₂ at hI T₂ ⊢
  refine codeAny_forLoop_any (ForI Γ N X β₀ s₀ x body v all (Seq Γ N r O) J) ?_ (all.length + 1) ⟨0, β₁, σ₁, ρ, rfl, Nat.zero_le _, T₂, hI, h2, h3⟩
  rintro n s' ⟨i, β', σ', ρ', rfl, hi, T', J', it', f⟩
  by_cases hlt : i < all.length
  · rw [List.drop_eq_getElem_cons hlt] at f
    refine next_item it' (List.getElem?_eq_getElem hlt) T'.I J' fun w h3 tk3 rw3 J3 k3 => ?_
    have T3 := T'.but (tk := tk3) D R.f k3 J'.core R.fr R.l R.c
    dsimp only
    refine wpe (show letOwnedTupleGo (.Name x q) (.ref J) w = pure () from rfl) (wpAny_pure (wpAny_assign_Name (store_ok (s := { s' with heap := h3, toks := tk3 }) hx.1 D T3 rw3 fun s4 T4 t4 => wpAny_passesOwn D.hE ?_)))
    exact for_body D R T4 (t4.iter J3) hlt f P (fun s' hs => ⟨_, by omega, hs⟩) (fun s' hs => hs) fun v s' hs => hs
  · have hi' : i = all.length := by omega
    subst hi'
    rw [List.drop_length] at f
    refine next_end it' T'.I J' fun h3 tk3 k3 => ?_
    exact wpAny_execs_nil (P (.next ρ' σ') f _ _ (T'.but (tk := tk3) D R.f k3 J'.core R.fr R.l R.c))
/-- a for loop, by what holds ahead of each turn -/
theorem wfor {x : Str} {body : List Stmt} (I : List PV → Vars → Store → Prop) (hb : ∀ d r ρ σ, I (d :: r) ρ σ → Ws Γ N body (Vars.set ρ x d) σ (TurnO v all (I r) O)) (he : ∀ ρ σ, I [] ρ σ → O (.next ρ σ)) : ∀ {ds : List PV} {ρ : Vars} {σ : Store}, I ds ρ σ → Fg Γ N x body v all O ds ρ σ := by
  intro ds
  induction ds with
  | nil => exact fun {ρ σ} h => he ρ σ h
  | cons d r ih =>
    intro ρ σ h
    refine .mk fun X β₀ s₀ E D β s T Q P => ?_
    refine (hb d r ρ σ h).run X β₀ s₀ E D β s T Q fun o ho => P o ?_
    cases o with
    | next ρ' σ' => exact ⟨ho.1, ih ho.2⟩
    | brk ρ' σ' => exact ho
    | ret d σ' => exact ho
    | exc k ρ' σ' => exact ho
theorem fg_nil {x : Str} {body : List Stmt} (h : O (.next ρ σ)) : Fg Γ N x body v all O [] ρ σ := h
theorem fg_cons {x : Str} {body : List Stmt} {d : PV} {r : List PV} (h : Ws Γ N body (Vars.set ρ x d) σ (TurnO v all (Fg Γ N x body v all O r) O)) : Fg Γ N x body v all O (d :: r) ρ σ := h
theorem ts_next {K : Vars → Store → Prop} (hi : ItemsOf v σ all) (h : K ρ σ) : TurnO v all K O (.next ρ σ) := ⟨hi, h⟩
theorem ts_ret {K : Vars → Store → Prop} {d : PV} (h : O (.ret d σ)) : TurnO v all K O (.ret d σ) := h
theorem ts_brk {K : Vars → Store → Prop} (h : O (.next ρ σ)) : TurnO v all K O (.brk ρ σ) := h
theorem ts_exc {K : Vars → Store → Prop} {k : Exn} (h : O (.exc k ρ σ)) : TurnO v all K O (.exc k ρ σ) := h
/-- how a turn of a while must end -/
def TurnW (K : Vars → Store → Prop) (O : SO → Prop) : SO → Prop
  | .next ρ σ => K ρ σ
  | .brk ρ σ => O (.next ρ σ)
  | .ret d σ => O (.ret d σ)
  | .exc k ρ σ => O (.exc k ρ σ)
/-- a while loop, by what holds ahead of each turn and a number that falls -/
theorem w_while {t : Expr} {body : List Stmt} {p : Pos} {r : List Stmt} (I : Nat → Vars → Store → Prop) (m : Nat) (h0 : I m ρ σ) (hb : ∀ m ρ σ, I m ρ σ → ∃ c σ', Et Γ N ρ t σ (.ok c σ') ∧ (if c = true then Ws Γ N body ρ σ' (TurnW (fun ρ σ => ∃ m', m' < m ∧ I m' ρ σ) (Seq Γ N r O)) else Ws Γ N r ρ σ' O)) : Ws Γ N (.While t body [] p :: r) ρ σ O := ws_cons <| .mk fun X β₀ s₀ E D β s T Q P => by
  refine wpAny_While (codeAny_whileLoop (fun n s' => ∃ β σ ρ, At N X β₀ s₀ β s' σ ρ ∧ I n ρ σ) ?_ m ⟨β, σ, ρ, T, h0⟩)
  rintro n s' ⟨β', σ', ρ', T', hI⟩
  obtain ⟨c, σ₁, ht, hc⟩ := hb n ρ' σ' hI
  refine wpAny_passesOwn D.hE (ht.run X β' s' (T'.here D) _ E fun v β₁ h₁ tk₁ x S ra => ?_)
  cases ra
  have T₁ := T'.next (tk := tk₁) x S
  cases c with
  | false => exact wpAny_execs_nil (P (.next ρ' σ₁) hc β₁ _ T₁)
  | true =>
    refine wpAny_passesOwn D.hE ((hc : Ws _ _ _ _ _ _).run X β₀ s₀ E D β₁ { s' with heap := h₁, toks := tk₁ } T₁ _ fun o ho => ?_)
    cases o with
    | next ρ2 σ2 => exact fun β2 s2 T2 => let ⟨m', hm, hi⟩ := ho; ⟨m', hm, β2, σ2, ρ2, T2, hi⟩
    | brk ρ2 σ2 => exact P (.next ρ2 σ2) ho
    | ret d σ2 => exact P (.ret d σ2) ho
    | exc k ρ2 σ2 => exact P (.exc k ρ2 σ2) ho
end
end Mine
end

-- Sb
section
namespace Mine
open PySem PySem.W PyProof.Rows
variable [Z : Zero Frozen]

section
variable {Γ : Ctx} {N : Names} {ρ ρ' : Vars} {σ σ₁ σ₂ σ₃ σ₄ : Store} {X : Cx} {β₀ β β₁ β' : List Addr} {s₀ s g : Shared} {h h₁ h' h3 : Heap} {E : Value → Shared → Prop} {O : SO → Prop} {tk : Tok} {J : Addr} {env : Env} {v : PV} {all : List PV}
theorem raise_own {T : Text} (W : TextOK X.C T) {k : Exn} {x : Sem Value} {Q : Flow → Shared → Prop} (hh : X.A.handled = none)
    (h : wpAny (model X.C.prog X.C.w) X.A x (fun v s₁ => ∃ ea oe vs, v = .ref ea ∧ X.C.K.In s₁.heap ∧ s₁.heap.get? ea = some oe ∧ oe.cls = .ref (X.C.cls k) ∧ oe.data = .fields vs ∧ vs[1]? = some .none ∧ E (.ref ea) s₁) E s) :
    wpAny (model X.C.prog X.C.w) X.A (raiseStmt env (some x) none) Q E s := by
  unfold raiseStmt
  refine wpAny_bind (wpAny_mono h (fun v s₁ h₁ => ?_) fun _ _ x => x)
  obtain ⟨ea, oe, vs, rfl, XX, he, hc, hd, h1, hE⟩ := h₁
  refine wpAny_bind (wpAny_pure ?_)
  have nc : ∀ c, oe.data ≠ .cls c := fun c q => by rw [hd] at q; cases q
  have isT : ∀ {Q : Bool → Shared → Prop} {E}, Q false s₁ → wpAny (model X.C.prog X.C.w) X.A (isType (.ref ea)) Q E s₁ := fun hq => by
    obtain ⟨hp, g, d, tk, os⟩ := s₁
    exact ks_wpAny_isType_inst he nc hq
  have tyE : ∀ {Q : Value → Shared → Prop} {E}, Q (.ref (X.C.cls k)) s₁ → wpAny (model X.C.prog X.C.w) X.A (typeOf (.ref ea)) Q E s₁ := fun hq => by
    simp only [typeOf]
    exact wpAny_bind (wpAny_load he (wpAny_pure (hc ▸ hq)))
  refine wpAny_bind (wpAny_holding ?_)
  unfold excFromValue isExcClass
  refine wpAny_bind (wpAny_bind (isT ?_))
  rw [if_neg (by decide)]
  refine wpAny_pure ?_
  rw [if_neg (by decide)]
  unfold isInstance
  refine wpAny_bind (wpAny_bind (tyE ((looks_subIn XX (W.exSub k)) X.A _ E s₁ (fun _ _ e => e) ?_)))
  rw [if_pos rfl]
  refine wpAny_pure ?_
  dsimp only
  refine wpAny_bind (isT ?_)
  rw [if_neg (by decide)]
  unfold raisedInstance
  refine wpAny_bind (wpAny_bind (tyE (wpAny_bind ((looks_typeIn XX (W.exType k)) X.A _ E s₁ (fun _ _ e => e) ?_))))
  rw [if_pos (by decide)]
  refine wpAny_pure ?_
  unfold setFlight
  refine wpAny_bind (wpAny_bind (wpAny_field he hd h1 ?_))
  rw [if_neg (by decide)]
  refine wpAny_pure ?_
  exact wpAny_raiseNew_none hh hE
theorem w_raise {Y : Str} {e : Expr} {xp cp p : Pos} {r : List Stmt} {k : Exn} {x : Str} (hx : (isGlob N Y && Y != ("__debug__" : Str) && !isStar e) = true) (hk : Γ.exn Y = some k) (h1 : Ev Γ N ρ e σ (.ok (.str x) σ₁)) (hs : textOk x = true) (hq : O (.exc k ρ σ₁)) :
    Ws Γ N (.Raise (some (.Call (.Name Y xp) [e] [] cp)) .none p :: r) ρ σ O := ws_cons <| .mk fun X β₀ s₀ E D β s T Q P => by
  rw [Bool.and_eq_true, Bool.and_eq_true, Bool.not_eq_true'] at hx
  obtain ⟨⟨hg, hd⟩, hst⟩ := hx
  have hp : plainArgs [e] = true := by cases e <;> first | rfl | cases hst
  refine wpe (arm_exec_Raise ..) (wpAny_bind (wpAny_standAt ?_))
  show wpAny _ _ (raiseStmt X.env (some (eval (.Call (.Name Y xp) [e] [] cp) X.env >>= fun v => standAt p >>= fun _ => pure v)) none) _ _ _
  refine raise_own (k := k) D.T T.I.hh (wpAny_bind (wpAny_Call_NameR (name_glob (T.here D) hd hg (D.T.exns Y k hk) (callWith_of (P := X.C.K.In) (by rw [plain_any hp cp X.env]; rfl) (keeps_K (D.T.exCall k)) (evalArgs_all hp ?_)))))
  rw [star_cons hst]
  refine PySem.Calls.spliced_cons (h1.run X β s (T.here D) _ E fun vv β₁ h₁ tk₁ x1 S1 rv => PySem.Calls.spliced_nil ?_)
  have T₁ := T.next (tk := tk₁) x1 S1
  refine ⟨inK_now T₁.I, ?_⟩
  cases rv with
  | str _ ty =>
    have t1 := D.deep
    have t2 := D.units
    refine D.T.make k X.A X.fr (by omega) (by omega) β₁ { s with heap := h₁, toks := tk₁ } σ₁ x ty _ _ T₁.I (text_le hs) fun h' tk' ea oe vs a0 kk fe he hc hdd h0 h1 => ?_
    have T₂ := T₁.next (tk := tk') (.of_keeps kk) (T₁.I.sr.keeps T₁.I.fns fun a o e _ => kk a o e)
    exact wpAny_bind (wpAny_standAt (wpAny_pure ⟨ea, oe, vs, rfl, inK_now T₂.I, he, hc, hdd, h1, P (.exc k ρ σ₁) hq _ β₁ { s with heap := h', toks := tk' } T₂.sh (.inr ⟨T₂.x, T₂.I, ea, oe, vs, a0, rfl, he, hc, hdd, h0, h1, fresh_back T₁.x T₁.I.sr fe⟩)⟩))
theorem Fly.ext {C : Conf} {A : Around} {fr : List Env} {σ' : Store} {k : Exn} {e : Value} (I : Inv C A fr β h σ) (f : Fly C fr β h k σ' e β' h') {B : Heap} (hB : ∀ a o, h.get? a = some o → a ∉ β → a ∉ frs fr → B.get? a = some o) (up : h'.UpToSlots h3) (st : B.StaysIn h3) : Ext (frs fr) β h β' h3 := by
  refine ⟨f.grow, fun a o e n m => st _ _ (hB a o e n m), fun a o e n => ?_⟩
  by_cases hf : ∃ vs, o.data = .fields vs
  · obtain ⟨vs, hvs⟩ := hf
    exact ⟨o.slots, st _ _ (hB a o e n (I.fns.not e fun es p q => by rw [hvs] at q; cases q))⟩
  · obtain ⟨sl, q⟩ := f.slots a o e n
    obtain ⟨sl2, q2⟩ := up a _ q fun vs q => hf ⟨vs, q⟩
    exact ⟨sl2, q2⟩
def tryOk (Γ : Ctx) (N : Names) (x y f Y : Str) (args : List Expr) : Bool := canStore N x && canStore N y && isGlob N Y && Y != ("__debug__" : Str) && userCall Γ N f args
theorem w_try {x f Y y : Str} {args : List Expr} {px fp cp p1 xp py p4 p2 p3 p : Pos} {k0 : Nat} {r : List Stmt} {vs : List PV} {d : PV} (hc : tryOk Γ N x y f Y args = true) (h1 : Es Γ N ρ args σ (.ok vs σ₁)) (h2 : Cl Γ f vs σ₁ (.ok d σ₂)) (hr : Ws Γ N r (Vars.set ρ x d) σ₂ O) :
    Ws Γ N (.Try [.Assign [.Name x px] (.Call (.Name f fp) args [] cp) p1] [.ExceptHandler (some (.Name Y xp)) .none [.Assign [.Name y py] (.Constant .none k0 p4) p2] p3] [] [] p :: r) ρ σ O := ws_cons <| .mk fun X β₀ s₀ E D β s T Q P => by
  unfold tryOk at hc
  rw [Bool.and_eq_true, Bool.and_eq_true, Bool.and_eq_true, Bool.and_eq_true] at hc
  exact wpAny_Try_except (wpAny_execs_cons (wpAny_Assign_Name ((v_call hc.2 h1 h2).run X β s (T.here D) _ _ fun v β₁ h₁ tk₁ x1 S1 rv => store_ok hc.1.1.1.1 D (T.next (tk := tk₁) x1 S1) rv fun s' T' _ => wpAny_execs_nil (wpAny_execs_nil (P (.next _ _) hr _ s' T'))) rfl))
theorem w_try_exc {x f Y y : Str} {args : List Expr} {px fp cp p1 xp py p4 p2 p3 p : Pos} {k0 : Nat} {r : List Stmt} {k : Exn} {vs : List PV} (hc : tryOk Γ N x y f Y args = true) (hk : Γ.exn Y = some k) (h1 : Es Γ N ρ args σ (.ok vs σ₁)) (h2 : Cl Γ f vs σ₁ (.exc k σ₂)) (hr : Ws Γ N r (Vars.set ρ y .none) σ₂ O) :
    Ws Γ N (.Try [.Assign [.Name x px] (.Call (.Name f fp) args [] cp) p1] [.ExceptHandler (some (.Name Y xp)) .none [.Assign [.Name y py] (.Constant .none k0 p4) p2] p3] [] [] p :: r) ρ σ O := ws_cons <| .mk fun X β₀ s₀ E D β s T Q P => by
  unfold tryOk at hc
  rw [Bool.and_eq_true, Bool.and_eq_true, Bool.and_eq_true, Bool.and_eq_true] at hc
  obtain ⟨outer, hfr⟩ := D.fr
  obtain ⟨L, hfL⟩ := D.L
  refine wpAny_Try_except (wpAny_execs_cons (wpAny_Assign_Name ((v_call hc.2 h1 h2).run X β s (T.here D) _ _ fun e β₁ h₁ tk₁ fl => ?_) rfl))
  obtain ⟨ea, B, a0, rfl, hfly, hB, hS⟩ := fl.fly
  have hfl' := hfly
  rw [hfr] at hfl'
  refine wpAny_looks_onW (L := L) (by rw [T.I.frames, hfr]) hfL hfl' fun h2 held up2 => wpAny_landsW held fun h3 fly3 up3 => ?_
  have H3 := (T.here D).next (s₁ := { s with heap := h3, toks := tk₁ }) (fl.ext T.I hB (up2.trans up3) fly3.1) (hS.core fun a o e _ _ => fly3.1 a o e)
  obtain ⟨ob, hob, hobc⟩ := fly3.there
  refine wpAny_handleBy_cons (codeAny_handlers_test (name_glob H3 hc.1.2 hc.1.1.2 (D.T.exns Y k hk) ?_)) (by intro q; cases q)
  refine (exm_one (inK_now H3.I) (fun A Q E s kk q => by simp only [typeOf]; exact wpAny_bind (wpAny_load (kk _ _ hob) (wpAny_pure (hobc ▸ q)))) (D.T.exMatch k)) _ _ _ _ (fun _ _ e => e) ?_
  rw [if_pos rfl]
  refine codeAny_handlers_suite (lands_againW fly3 fun h4 fly4 up4 => ?_)
  have T4 := T.next (tk := tk₁) (fl.ext T.I hB ((up2.trans up3).trans up4) fly4.1) (hS.core fun a o e _ _ => fly4.1 a o e)
  refine wpAny_execs_cons (wpAny_Assign_Name ?_ rfl)
  show wpAny _ _ (constValue X.env .none) _ _ _
  exact wpAny_pure (store_ok hc.1.1.1.2 D T4 .none fun s' T' _ => wpAny_execs_nil (P (.next _ _) hr _ s' T'))
end
end Mine
end

-- Sc
section
namespace Mine
open PySem PySem.W PyProof.Rows
variable [Z : Zero Frozen]

theorem cells_some : ∀ (names : List (Str × NameKind)) (n : Nat) (acc : List (Str × Addr)) (x : Str), ((x, NameKind.cell) ∈ names ∨ (acc.lookup x).isSome = true) → ((cellsFrom n names acc).lookup x).isSome = true
  | [], _, acc, x, h => by
    rcases h with h | h
    · cases h
    · exact h
  | (m, k) :: r, n, acc, x, h => by
    unfold cellsFrom
    split
    · rename_i hk
      refine cells_some r _ _ x ?_
      by_cases hx : x = m
      · subst hx; exact .inr (by simp)
      · rcases h with h | h
        · rcases List.mem_cons.mp h with e | h
          · cases e; exact absurd rfl hx
          · exact .inl h
        · right
          rw [List.lookup_cons]
          have : (x == m) = false := by simpa using hx
          rw [this]; exact h
    · rename_i hk
      refine cells_some r _ _ x ?_
      rcases h with h | h
      · rcases List.mem_cons.mp h with e | h
        · cases e; simp at hk
        · exact .inl h
      · exact .inr h


section
variable {Γ : Ctx} {N : Names} {ρ ρ' : Vars} {σ σ₁ σ₂ σ₃ σ₄ : Store} {X : Cx} {β₀ β β₁ β' : List Addr} {s₀ s g : Shared} {h h₁ h' h3 : Heap} {E : Value → Shared → Prop} {O : SO → Prop} {tk : Tok} {J : Addr} {env : Env} {v : PV} {all : List PV} {A : Around} {fr : List Env} {C : Conf}
theorem binds_loc {kindOf : Str → Option NameKind} : ∀ (ps : List Str) (vs : List Value) (ds : List PV) (m : Str → Option Value) (ρ : Vars), VRs β h vs ds → ds.length = ps.length →
    (∀ x d, kindOf x = some .local → ρ x = some d → ∃ v, m x = some v ∧ VR β h v d) → ∀ x d, kindOf x = some .local → Vars.setAll ρ ps ds x = some d → ∃ v, bindL kindOf (ps.zip vs) m x = some v ∧ VR β h v d
  | [], vs, ds, m, ρ, r, hl, hm => by
    have : Vars.setAll ρ [] ds = ρ := by cases ds <;> rfl
    rw [this]; exact hm
  | p :: ps, vs, ds, m, ρ, r, hl, hm => by
    cases r with
    | nil => simp at hl
    | cons ra rr =>
      rename_i v vs d ds
      refine binds_loc ps vs ds _ _ rr (by simpa using hl) fun x e hx he => ?_
      unfold Vars.set at he
      by_cases hxp : x = p
      · subst hxp
        rw [if_pos rfl] at he; cases he
        exact ⟨v, by rw [if_pos hx]; simp, ra⟩
      · rw [if_neg hxp] at he
        obtain ⟨w, hw, rw'⟩ := hm x e hx he
        refine ⟨w, ?_, rw'⟩
        split <;> simp [hxp, hw]
theorem binds_cell {kindOf : Str → Option NameKind} : ∀ (ps : List Str) (vs : List Value) (ds : List PV) (m : Str → Option Value) (ρ : Vars), VRs β h vs ds → ds.length = ps.length →
    (∀ x d, kindOf x = some .cell → ρ x = some d → ∃ v, m x = some v ∧ VR β h v d) → ∀ x d, kindOf x = some .cell → Vars.setAll ρ ps ds x = some d → ∃ v, bindC kindOf (ps.zip vs) m x = some v ∧ VR β h v d
  | [], vs, ds, m, ρ, r, hl, hm => by
    have : Vars.setAll ρ [] ds = ρ := by cases ds <;> rfl
    rw [this]; exact hm
  | p :: ps, vs, ds, m, ρ, r, hl, hm => by
    cases r with
    | nil => simp at hl
    | cons ra rr =>
      rename_i v vs d ds
      refine binds_cell ps vs ds _ _ rr (by simpa using hl) fun x e hx he => ?_
      unfold Vars.set at he
      by_cases hxp : x = p
      · subst hxp
        rw [if_pos rfl] at he; cases he
        exact ⟨v, by rw [if_neg (by rw [hx]; decide)]; simp, ra⟩
      · rw [if_neg hxp] at he
        obtain ⟨w, hw, rw'⟩ := hm x e hx he
        refine ⟨w, ?_, rw'⟩
        split <;> simp [hxp, hw]


/-- what is to hold behind a call, by how its body ends -/
def PostC (X : Cx) (β : List Addr) (s : Shared) (Q : Value → Shared → Prop) (E : Value → Shared → Prop) : SO → Prop
  | .ret d σ => Post X.C X.fr β s relV Q E (.ok d σ)
  | .next _ σ => Post X.C X.fr β s relV Q E (.ok .none σ)
  | .exc k _ σ => Post X.C X.fr β s relV Q E (.exc k σ)
  | .brk _ _ => False
/-- the new frame -/
structure Entered (X : Cx) (D : Def) (ds : List PV) (σ : Store) (β : List Addr) (s : Shared) (env : Env) (s₁ : Shared) : Prop where
  G : EOK env D.names
  F : FOK X.C env D.names s.heap
  T : At D.names ⟨X.C, X.A.deeper env, env :: X.fr, env⟩ β s β s₁ σ (Vars.of D.params ds)
  L : env.frame = some s.heap.objs.size
theorem entered {D : Def} {a : Addr} {o : Obj} {fd : FuncData} {ds : List PV} {vs : List Value} {s₁ : Shared} (FO : FnOK X.C D a o fd) (hlen : ds.length = D.params.length) (I : Inv X.C X.A X.fr β s.heap σ) (rv : VRs β s.heap vs ds)
    (henv : callEnvC fd s.heap.objs.size a = env) (ic : InCallC s env.locals (bindL env.kindOf (D.params.zip vs) fun _ => none) env.cells (bindC env.kindOf (D.params.zip vs) fun _ => none) s₁) : Entered X D ds σ β s env s₁ := by
  have hloc : env.locals = s.heap.objs.size := by rw [← henv]; rfl
  have hcells : env.cells = cellsFrom (s.heap.objs.size + 1) fd.scope.names [] := by rw [← henv]; rfl
  have hfrm : env.frame = some s.heap.objs.size := by rw [← henv]; rfl
  have hscope : env.scope = fd.scope := by rw [← henv]; rfl
  have G : EOK env D.names := ⟨by rw [hscope]; exact FO.kind, by rw [hscope]; exact FO.names, by rw [← henv]; exact FO.glob, by rw [← henv]; exact FO.bui⟩
  have kindOf : env.kindOf = fun x => D.names.lookup x := by funext x; unfold Env.kindOf; rw [G.names]
  have Lnone : s.heap.get? s.heap.objs.size = none := get?_size _
  have keep := ic.toInCall.keep
  have Lns := ic.toInCall.ns
  have baseL : X.C.base.get? s.heap.objs.size = none := by
    cases q : X.C.base.get? s.heap.objs.size with
    | none => rfl
    | some o => rw [I.stays _ _ q] at Lnone; cases Lnone
  have x0 : Ext (frs X.fr) β s.heap β s₁.heap := .of_keeps keep
  have rv' := I.monos x0 rv
  have frs' : frs (env :: X.fr) = s.heap.objs.size :: frs X.fr := by unfold frs; rw [List.filterMap_cons, hfrm]
  refine ⟨G, ⟨by rw [hloc]; exact Lnone, fun y c hy hc => ?_, fun y y' c hy hy' hc hc' => name_of_addr ic.apart (mem_of_lookup hc) (mem_of_lookup hc'), I.stays⟩, ⟨.of_keeps keep, ic.toInCall.same, ?_, ⟨_, Lns, fun x d hx hd => ?_⟩, fun x hx => ?_⟩, hfrm⟩
  · have hlt := ic.above y c (mem_of_lookup hc)
    refine ⟨?_, Nat.ne_of_gt hlt⟩
    rw [hloc] at hlt
    cases q : s.heap.get? c with
    | none => rfl
    | some o => exact absurd (Heap.lt_size q) (Nat.not_lt.mpr (Nat.le_of_lt hlt))
  · have fns : FrOk (frs (env :: X.fr)) s₁.heap := fun L hL => by
      rw [frs'] at hL
      rcases List.mem_cons.mp hL with rfl | hL
      · rw [← hloc]; exact ⟨_, Lns⟩
      · obtain ⟨m, n⟩ := I.fns L hL
        exact ⟨m, n.keeps keep⟩
    refine ⟨I.hh, by show X.A.frames.map _ = _; rw [I.frames]; rfl, fun b o q => keep b o (I.stays b o q), ⟨by rw [G.kind]; decide, ⟨s.heap.objs.size, ?_⟩, FunFrames.move I.ff fun L hL => ?_⟩, fns, I.sr.keeps I.fns fun a o e _ => keep a o e, I.fresh, I.glob, I.bui, I.bfit, I.nolim, I.inK, I.old⟩
    · obtain ⟨o, es, ep, ho, hd, _⟩ := Lns
      rw [hloc] at ho
      exact ⟨o, hfrm, baseL, ho, fun vs q => by rw [hd] at q; cases q⟩
    · obtain ⟨m, n⟩ := I.fns L hL
      exact ⟨m, n.keeps keep⟩
  · exact binds_loc (kindOf := env.kindOf) D.params vs ds _ _ rv' hlen (fun x d _ hd => by cases hd) x d (by rw [kindOf]; exact hx) hd
  · have hs := cells_some D.names (s.heap.objs.size + 1) [] x (.inl (mem_of_lookup hx))
    obtain ⟨c, hc⟩ := Option.isSome_iff_exists.mp hs
    have hc' : env.cells.lookup x = some c := by rw [hcells, FO.names]; exact hc
    refine ⟨c, hc', _, ic.cell x c hc', fun d hd => ?_⟩
    exact binds_cell (kindOf := env.kindOf) D.params vs ds _ _ rv' hlen (fun x d _ hd => by cases hd) x d (by rw [kindOf]; exact hx) hd
theorem hide_frames {base : Heap} {as : List Addr} : ∀ l : List Env, (∀ b ∈ frs l, b ∈ as) → h.FunFrames base l → h.FunFrames (hideAll h as) l
  | [], _, _ => trivial
  | e :: l, hin, ⟨hk, ⟨L, o, hf, _, ho, hdd⟩, hr⟩ => by
    refine ⟨hk, ⟨L, o, hf, hideAll_none as (hin L (List.mem_filterMap.mpr ⟨e, List.mem_cons_self, hf⟩)), ho, hdd⟩, hide_frames l (fun b hb => hin b ?_) hr⟩
    obtain ⟨e', he', q'⟩ := List.mem_filterMap.mp hb
    exact List.mem_filterMap.mpr ⟨e', List.mem_cons_of_mem _ he', q'⟩
/-- an exception leaves the call -/
theorem left {D : Def} {k : Exn} {σ' : Store} {e : Value} {ds : List PV} {s₁ s' : Shared} {Q : Value → Shared → Prop} (I : Inv X.C X.A X.fr β s.heap σ) (N : Entered X D ds σ β s env s₁) (sh : Same s s') (P : Post X.C X.fr β s relV Q E (.exc k σ'))
    (f : Fly X.C (env :: X.fr) β s.heap k σ' e β' s'.heap ∨ Made ⟨X.C, X.A.deeper env, env :: X.fr, env⟩ β s.heap k σ' e β' s'.heap) :
    wpAny (model X.C.prog X.C.w) (X.A.deeper env) (leaving env e) (fun _ s'' => E e s'') E s' := by
  obtain ⟨h0, tk0, rfl⟩ := sh
  have hA : (X.A.deeper env).frames = some (env :: X.fr) := by show X.A.frames.map _ = _; rw [I.frames]; rfl
  have notin : ∀ b o, s.heap.get? b = some o → b ∉ frs X.fr → b ∉ frs (env :: X.fr) := fun b o e n m => by
    unfold frs at m
    rw [List.filterMap_cons, N.L] at m
    rcases List.mem_cons.mp m with rfl | m
    · rw [get?_size] at e; cases e
    · exact n m
  have flds : ∀ {b o vs}, s.heap.get? b = some o → o.data = .fields vs → b ∉ frs X.fr := fun q hvs => I.fns.not q fun es p q => by rw [hvs] at q; cases q
  have slots : ∀ {g h2 : Heap} {B : Heap}, (∀ a o, s.heap.get? a = some o → a ∉ β → ∃ sl, g.get? a = some { o with slots := sl }) → (∀ a o, s.heap.get? a = some o → a ∉ β → a ∉ frs X.fr → B.get? a = some o) → B.StaysIn h2 → g.UpToSlots h2 → ∀ a o, s.heap.get? a = some o → a ∉ β → ∃ sl, h2.get? a = some { o with slots := sl } := by
    intro g h2 B hs hB st up b o q n
    by_cases hff : ∃ vs, o.data = .fields vs
    · obtain ⟨vs, hvs⟩ := hff
      exact ⟨o.slots, st _ _ (hB b o q n (flds q hvs))⟩
    · obtain ⟨sl, q1⟩ := hs b o q n
      obtain ⟨sl2, q2⟩ := up b _ q1 fun vs q => hff ⟨vs, q⟩
      exact ⟨sl2, q2⟩
  rcases f with f | m
  · obtain ⟨ea, B, a0, rfl, hfly, hB, hS⟩ := f.fly
    have hB' : ∀ a o, s.heap.get? a = some o → a ∉ β → a ∉ frs X.fr → B.get? a = some o := fun b o q n m => hB b o q n (notin b o q m)
    refine wpAny_leaves_onW hA N.L hfly fun h2 fly2 up2 => ?_
    exact P _ β' h2 _ ⟨f.grow, slots f.slots hB' fly2.1 up2, ea, B, a0, rfl, fly2, hB', hS⟩
  · obtain ⟨ea, oe, vs, a0, rfl, he, hc, hd, hv0, hv1, hn⟩ := m.obj
    have mI := m.I
    have mx := m.x
    dsimp only at mI mx he hc
    generalize has : ea :: frs (env :: X.fr) = as
    have hea : ea ∈ as := by rw [← has]; exact List.mem_cons_self
    have hfr : ∀ b ∈ frs (env :: X.fr), b ∈ as := fun b hb => by rw [← has]; exact List.mem_cons_of_mem _ hb
    have hBk : ∀ b o, s.heap.get? b = some o → b ∉ β → b ∉ frs X.fr → (hideAll h0 as).get? b = some o := fun b o q n m' =>
      hideAll_get as (mx.keep b o q n (notin b o q m')) fun hm => by
        rw [← has] at hm
        rcases List.mem_cons.mp hm with rfl | hm
        · rw [hn] at q; cases q
        · exact notin b o q m' hm
    refine wpAny_leaving_firstW hA (hide_frames _ hfr mI.ff) N.L he (fun b o q => of_hideAll as q) (hideAll_none as hea) hd hv1 hv0 fun h2 left => ?_
    obtain ⟨k1, ⟨_, _, k2⟩, k3, k4⟩ := left
    rw [hc] at k3
    refine P _ β' h2 _ ⟨mx.grow, slots mx.slots hBk k1 k4, ea, hideAll h0 as, a0, rfl, ⟨k1, hideAll_none as hea, k2, k3⟩, hBk, mI.sr.core fun b o q c _ => hideAll_get as q fun hm => ?_⟩
    rw [← has] at hm
    rcases List.mem_cons.mp hm with rfl | hm
    · rw [he] at q; cases q
      rcases c with ⟨xs, n, q⟩ | ⟨q, _⟩
      · rw [hd] at q; cases q
      · rw [hc] at q; cases q
    · obtain ⟨m2, n2⟩ := mI.fns b hm
      obtain ⟨o2, ho2, hc2, _⟩ := not_core_ns n2
      rw [q] at ho2; cases ho2; exact hc2 c
theorem call_ok {T : Text} {n : Nat} {f : Str} {D : Def} {ds : List PV} {r : R PV} (hD : T.defs f = some D) (hlen : ds.length = D.params.length) (hw : Ws (T.at n) D.names D.body (Vars.of D.params ds) σ O)
    (hO : ∀ (X : Cx) β s Q E, Inv X.C X.A X.fr β s.heap σ → Post X.C X.fr β s relV Q E r → ∀ o, O o → PostC X β s Q E o) : Cl (T.at (n + 1)) f ds σ r := by
  refine .mk fun X β s vs Q E a hT hd hu ha I rv P => ?_
  obtain ⟨a', o, fd, ha', _, FO⟩ := hT.defs f D hD
  rw [ha] at ha'; cases ha'
  have hd : X.A.depth + (n + 1) + 5 < recursionLimit := hd
  have hu : X.A.units + 3 * (n + 1) + 2100 < cLine := hu
  have kn : ∀ x ∈ D.params.zip vs, fd.scope.names.lookup x.1 = some .local ∨ (fd.scope.names.lookup x.1 = some .cell ∧ ((cellsFrom (s.heap.objs.size + 1) fd.scope.names []).lookup x.1).isSome = true) := by
    rintro ⟨x, v⟩ hx
    have hp := List.of_mem_zip hx
    have := List.all_eq_true.mp FO.pars x hp.1
    unfold canStore at this
    rw [Bool.or_eq_true, beq_iff_eq, beq_iff_eq] at this
    rw [FO.names]
    rcases this with q | q
    · exact .inl q
    · exact .inr ⟨q, cells_some _ _ _ _ (.inl (mem_of_lookup q))⟩
  have hvl := rv.length
  refine wpAny_call (codeAny_call_cells (by omega) (I.stays _ _ FO.at_) FO.data (I.nolim.keeps I.stays) (FO.code.keeps I.stays) FO.body (FO.bind vs (by omega)) FO.clo kn (fun s₁ ic => ?_) FO.co FO.gen FO.kind)
  generalize henv : callEnvC fd s.heap.objs.size a = env' at ic ⊢
  have En := entered FO hlen I rv henv ic
  have fmono : ∀ b ∈ frs (env' :: X.fr), b ∈ frs X.fr ∨ s.heap.get? b = none := fun b hb => by
    unfold frs at hb
    rw [List.filterMap_cons, En.L] at hb
    rcases List.mem_cons.mp hb with rfl | hb
    · exact .inr (get?_size _)
    · exact .inl hb
  refine hw.run ⟨X.C, X.A.deeper env', env' :: X.fr, env'⟩ β s _ ⟨hT, ?_, ?_, En.G, En.F, PassesOwn.leaving, ⟨X.fr, rfl⟩, ⟨_, En.L⟩⟩ β s₁ En.T _ fun o ho => ?_
  · show X.A.depth + 1 + n + 5 < recursionLimit; omega
  · show X.A.units + 3 + 3 * n + 2100 < cLine; omega
  have q := hO X β s Q E I P o ho
  cases o with
  | next ρ' σ' =>
    intro β' s' T'
    obtain ⟨h', t', rfl⟩ := T'.sh
    exact q .none β' h' t' (T'.x.mono fmono) T'.I.sr .none
  | brk ρ' σ' => exact q.elim
  | ret d σ' =>
    intro v β' s' x' sh I2 r2
    obtain ⟨h', t', rfl⟩ := sh
    exact q v β' h' t' (x'.mono fmono) I2.sr r2
  | exc k ρ' σ' => exact fun e β' s' sh hf => left (Q := Q) I En sh q hf
end
end Mine
end

-- Sd
section
namespace Mine
open PySem PySem.W PyProof.Rows
variable [Z : Zero Frozen]

/-! ## what nothing points to is forgotten -/
mutual
def PV.low (n : Nat) : PV → Bool
  | .tup ds => PV.lows n ds
  | .ref i => decide (i < n)
  | .none => true
  | .bool _ => true
  | .int _ => true
  | .str _ => true
  | .rng _ _ => true
  | .old _ => true
def PV.lows (n : Nat) : List PV → Bool
  | [] => true
  | d :: r => d.low n && PV.lows n r
end
section
variable {β β' : List Addr} {h h' : Heap} {σ σ' g : Store} {n m : Nat}
mutual
theorem VR.low : ∀ {v : Value} {d : PV}, VR β h v d → d.low β.length = true
  | _, _, .none => rfl
  | _, _, .bool b => rfl
  | _, _, .int i t => rfl
  | _, _, .str s t => rfl
  | _, _, .tup e r => by rw [PV.low]; exact VRs.low r
  | _, _, .ref e => by rw [PV.low]; exact decide_eq_true (List.getElem?_eq_some_iff.mp e).1
  | _, _, .rng e => rfl
  | _, _, .old => rfl
theorem VRs.low : ∀ {vs : List Value} {ds : List PV}, VRs β h vs ds → PV.lows β.length ds = true
  | _, _, .nil => rfl
  | _, _, .cons a r => by rw [PV.lows, VR.low a, VRs.low r]; rfl
end
mutual
theorem PV.low_up (hn : n ≤ m) : ∀ {d : PV}, d.low n = true → d.low m = true
  | .none, _ => rfl
  | .bool _, _ => rfl
  | .int _, _ => rfl
  | .str _, _ => rfl
  | .tup ds, q => by rw [PV.low] at q ⊢; exact PV.lows_up hn q
  | .ref i, q => by rw [PV.low] at q ⊢; have := of_decide_eq_true q; exact decide_eq_true (by omega)
  | .rng _ _, _ => rfl
  | .old _, _ => rfl
theorem PV.lows_up (hn : n ≤ m) : ∀ {ds : List PV}, PV.lows n ds = true → PV.lows m ds = true
  | [], _ => rfl
  | d :: ds, q => by
    rw [PV.lows, Bool.and_eq_true] at q ⊢
    exact ⟨PV.low_up hn q.1, PV.lows_up hn q.2⟩
end
mutual
/-- other places, the same where it looks -/
theorem VR.swap (k : ∀ i, i < n → β'[i]? = β[i]?) : ∀ {v : Value} {d : PV}, VR β h v d → d.low n = true → VR β' h v d
  | _, _, .none, _ => .none
  | _, _, .bool b, _ => .bool b
  | _, _, .int i t, _ => .int i t
  | _, _, .str s t, _ => .str s t
  | _, _, .tup e r, q => .tup e (VRs.swap k r (by rw [PV.low] at q; exact q))
  | _, _, .ref e, q => .ref ((k _ (by rw [PV.low] at q; exact of_decide_eq_true q)).trans e)
  | _, _, .rng e, _ => .rng e
  | _, _, .old, _ => .old
theorem VRs.swap (k : ∀ i, i < n → β'[i]? = β[i]?) : ∀ {vs : List Value} {ds : List PV}, VRs β h vs ds → PV.lows n ds = true → VRs β' h vs ds
  | _, _, .nil, _ => .nil
  | _, _, .cons a r, q => by
    rw [PV.lows, Bool.and_eq_true] at q
    exact .cons (VR.swap k a q.1) (VRs.swap k r q.2)
end
theorem SR.lows (S : SR β h σ) {i : Nat} {ds : List PV} (e : σ[i]? = some (.list ds)) : PV.lows σ.length ds = true := by
  have hi : i < β.length := S.len ▸ (List.getElem?_eq_some_iff.mp e).1
  obtain ⟨vs, n, l, q⟩ := S.cell i _ _ (List.getElem?_eq_getElem hi) e
  rw [← S.len]; exact q.low
theorem take_get (hn : n ≤ β.length) {i : Nat} (hi : i < n) : (β.take n)[i]? = β[i]? := by rw [List.getElem?_take_of_lt hi]
/-- only the first cells -/
theorem SR.first (S : SR β h (σ' ++ g)) (hc : ∀ (i : Nat) (ds : List PV), σ'[i]? = some (Cell.list ds) → PV.lows σ'.length ds = true) : SR (β.take σ'.length) h σ' := by
  have hl := S.len
  rw [List.length_append] at hl
  refine ⟨by rw [List.length_take]; omega, S.nodup.sublist (List.take_sublist _ _), fun i a c ha hcc => ?_⟩
  have hi := (List.getElem?_eq_some_iff.mp hcc).1
  rw [take_get (by omega) hi] at ha
  have q := S.cell i a c ha (by rw [List.getElem?_append_left hi]; exact hcc)
  cases c with
  | list ds =>
    obtain ⟨vs, n, l, r⟩ := q
    exact ⟨vs, n, l, r.swap (fun j hj => take_get (by omega) hj) (hc i ds hcc)⟩
variable {fr : List Addr}
theorem Ext.first (x : Ext fr β h β' h') (hn : β.length ≤ n) : Ext fr β h (β'.take n) h' := by
  obtain ⟨new, rfl, hnew⟩ := x.grow
  refine ⟨⟨new.take (n - β.length), ?_, fun a ha => hnew a (List.mem_of_mem_take ha)⟩, x.keep, x.slots⟩
  rw [List.take_append, List.take_of_length_le hn]
/-- the first cells, and one more -/
theorem SR.pick (S : SR β h (σ' ++ g)) (hc : ∀ (i : Nat) (ds : List PV), σ'[i]? = some (Cell.list ds) → PV.lows σ'.length ds = true) {i : Nat} {ds : List PV} {a : Addr} (hi : σ'.length ≤ i) (e : (σ' ++ g)[i]? = some (.list ds)) (ha : β[i]? = some a) (hd : PV.lows σ'.length ds = true) : SR (β.take σ'.length ++ [a]) h (σ' ++ [.list ds]) := by
  have hl := S.len
  rw [List.length_append] at hl
  obtain ⟨vs, n, l, q⟩ := S.cell i a _ ha e
  have F := S.first hc
  refine F.adopt l (q.swap (fun j hj => take_get (by omega) hj) hd) fun hm => ?_
  obtain ⟨j, hj, hja⟩ := List.mem_iff_getElem.mp hm
  rw [List.length_take] at hj
  rw [List.getElem_take] at hja
  have h1 := List.getElem?_eq_some_iff.mp ha
  have := (List.getElem_inj S.nodup).mp (hja.trans h1.2.symm)
  omega
end

section
variable {Γ : Ctx} {σ σ' : Store} {T : Text} {n : Nat} {f : Str} {D : Def} {ds : List PV} {v : PV}
/-- the store's first cells stay, the rest is forgotten -/
theorem call_gc (hD : T.defs f = some D) (hlen : ds.length = D.params.length) (hv : v.low σ'.length = true) (hs : σ.length ≤ σ'.length) (hc : ∀ (β : List Addr) (h : Heap), SR β h σ → ∀ (i : Nat) (ds : List PV), σ'[i]? = some (Cell.list ds) → PV.lows σ'.length ds = true)
    (hw : Ws (T.at n) D.names D.body (Vars.of D.params ds) σ fun o => ∃ g, o = .ret v (σ' ++ g)) : Cl (T.at (n + 1)) f ds σ (.ok v σ') :=
  call_ok hD hlen hw fun X β s Q E I P o ho => by
    obtain ⟨g, rfl⟩ := ho
    intro w β' h' tk x S r
    have hc' := hc _ _ I.sr
    have hl := S.len
    rw [List.length_append] at hl
    exact P w _ h' tk (x.first (I.sr.len ▸ hs)) (S.first hc') (r.swap (fun j hj => take_get (by omega) hj) hv)
/-- a new list is handed on -/
theorem call_new {xs : List PV} (hD : T.defs f = some D) (hlen : ds.length = D.params.length) (hx : PV.lows σ'.length xs = true) (hs : σ.length ≤ σ'.length) (hc : ∀ (β : List Addr) (h : Heap), SR β h σ → ∀ (i : Nat) (ds : List PV), σ'[i]? = some (Cell.list ds) → PV.lows σ'.length ds = true)
    (hw : Ws (T.at n) D.names D.body (Vars.of D.params ds) σ fun o => ∃ g i, o = .ret (.ref i) (σ' ++ g) ∧ σ'.length ≤ i ∧ (σ' ++ g)[i]? = some (.list xs)) : Cl (T.at (n + 1)) f ds σ (.ok (.ref σ'.length) (σ' ++ [.list xs])) :=
  call_ok hD hlen hw fun X β s Q E I P o ho => by
    obtain ⟨g, i, rfl, hi, he⟩ := ho
    intro w β' h' tk x S r
    have hc' := hc _ _ I.sr
    have hl := S.len
    rw [List.length_append] at hl
    obtain ⟨a, rfl, ha⟩ := r.ref_inv
    have xf := x.first (n := σ'.length) (I.sr.len ▸ hs)
    have na : a ∉ β := fun hm => by
      obtain ⟨new, rfl, hnew⟩ := x.grow
      obtain ⟨j, hj, hja⟩ := List.mem_iff_getElem.mp hm
      have h1 := List.getElem?_eq_some_iff.mp ha
      have h2 : (β ++ new)[j]'(by rw [List.length_append]; omega) = a := by rw [List.getElem_append_left hj]; exact hja
      have := (List.getElem_inj S.nodup).mp (h2.trans h1.2.symm)
      have := I.sr.len
      omega
    have fa : s.heap.get? a = none := by
      obtain ⟨new, rfl, hnew⟩ := x.grow
      rcases List.mem_append.mp (List.mem_of_getElem? ha) with q | q
      · exact absurd q na
      · exact (hnew a q).1
    obtain ⟨new, hg, hnew⟩ := xf.grow
    have x2 : Ext (frs X.fr) β s.heap (β'.take σ'.length ++ [a]) h' := ⟨⟨new ++ [a], by rw [hg, List.append_assoc], fun b hb => by
      rcases List.mem_append.mp hb with hb | hb
      · exact hnew b hb
      · rw [List.mem_singleton] at hb; subst hb; exact ⟨fa, na⟩⟩, x.keep, x.slots⟩
    refine P _ _ h' tk x2 (S.pick hc' hi he ha hx) (.ref ?_)
    have e : (β'.take σ'.length).length = σ'.length := by rw [List.length_take]; omega
    rw [List.getElem?_append_right (by omega), e, Nat.sub_self]; rfl
/-- an exception out of it: what was made in it is forgotten -/
theorem call_exc {k : Exn} (hD : T.defs f = some D) (hlen : ds.length = D.params.length) (hw : Ws (T.at n) D.names D.body (Vars.of D.params ds) σ fun o => ∃ ρ g, o = .exc k ρ (σ ++ g)) : Cl (T.at (n + 1)) f ds σ (.exc k σ) :=
  call_ok hD hlen hw fun X β s Q E I P o ho => by
    obtain ⟨ρ, g, rfl⟩ := ho
    intro e β' h' tk fl
    refine P e (β'.take σ.length) h' tk ⟨?_, fl.slots, ?_⟩
    · obtain ⟨new, rfl, hnew⟩ := fl.grow
      refine ⟨new.take (σ.length - β.length), ?_, fun a ha => hnew a (List.mem_of_mem_take ha)⟩
      rw [List.take_append, List.take_of_length_le (Nat.le_of_eq I.sr.len)]
    · obtain ⟨ea, B, a0, h1, h2, h3, h4⟩ := fl.fly
      exact ⟨ea, B, a0, h1, h2, h3, h4.first fun i ds e => I.sr.lows e⟩
/-- the store stays -/
theorem callw (hD : T.defs f = some D) (hlen : ds.length = D.params.length) (hv : v.low 0 = true) (hw : Ws (T.at n) D.names D.body (Vars.of D.params ds) σ fun o => ∃ g, o = .ret v (σ ++ g)) : Cl (T.at (n + 1)) f ds σ (.ok v σ) :=
  call_gc hD hlen (PV.low_up (Nat.zero_le _) hv) (Nat.le_refl _) (fun β h S i ds e => S.lows e) hw
/-- one cell is turned -/
theorem callm {k : Nat} {xs : List PV} (hD : T.defs f = some D) (hlen : ds.length = D.params.length) (hv : v.low 0 = true) (hx : PV.lows σ.length xs = true) (hw : Ws (T.at n) D.names D.body (Vars.of D.params ds) σ fun o => ∃ g, o = .ret v (σ.set k (.list xs) ++ g)) : Cl (T.at (n + 1)) f ds σ (.ok v (σ.set k (.list xs))) :=
  call_gc hD hlen (PV.low_up (Nat.zero_le _) hv) (by rw [List.length_set]; exact Nat.le_refl _) (fun β h S i ds e => by
    rw [List.length_set]
    by_cases hk : k = i
    · subst hk
      by_cases hlt : k < σ.length
      · rw [List.getElem?_set_self hlt] at e; cases e; exact hx
      · rw [List.getElem?_eq_none (by rw [List.length_set]; omega)] at e; cases e
    · rw [List.getElem?_set_ne hk] at e; exact S.lows e) hw
end
end Mine
end

-- U1
section
namespace Mine
open PySem PySem.W PySem.Calls
variable [Z : Zero Frozen]

section
variable {prog : Program} {w : World} {A : Around} {E : Value → Shared → Prop} {R : Result → Shared → Prop} {h : Heap} {g : Array GenState} {d : Drawn} {t : Nat} {os : OsState}
variable {nm q : Str} {C N : Addr} {bs bm : List Value} {hdct : Bool} {sn : List Str} {sub : List Value} {ab : Bool} {col : Option Bool} {dd : Option Addr} {k0 k1 k2 k3 k5 : Option Value} {K : Frag} {fI : Addr}

theorem own_check_new {M : Model} {rest : List Value} {Q : Unit → Shared → Prop} (hB : bm.contains (.type "Exception") = true) (hC : h.get? C = some (excClassObj nm q C N bs bm hdct sn sub ab col dd k0 k1 k2 k3 k5 "Exception.__new__"))
    (hq : Q () ⟨h, g, d, t, os⟩) : wpAny M A (checkBuiltinCall "Exception.__new__" ⟨.ref C :: rest, []⟩) Q E ⟨h, g, d, t, os⟩ := by
  have Fn := PySem.F.excBase_Exception
  have hcont : (Value.ref C :: bm).contains (.type "Exception") = true := by rw [List.contains_cons, hB, Bool.or_true]
  have hstar := Fn.noStar
  simp only [checkBuiltinCall, Fn.newKind, Fn.newSplit, Fn.newRow]
  repeat (first | refine wpAny_loadPart_at hC ?_ | (refine wpAny_isSubtype_exc hC ?_; rw [hcont]) | refine wpAny_staticBase_exc hC ?_ | refine wpAny_madeBy_exc hC ?_ | simp only [bne_self_eq_false, Bool.false_eq_true, if_false] | wp_step)
  exact hq

theorem own_new {rest : List Value} (hB : bm.contains (.type "Exception") = true) (hA : bm.contains (.type "AttributeError") = false) (hN : bm.contains (.type "NameError") = false)
    (hC : h.get? C = some (excClassObj nm q C N bs bm hdct sn sub ab col dd k0 k1 k2 k3 k5 "Exception.__new__"))
    (hq : R (.ok (.ret (.ref (h.objs.size + 1)))) ⟨(h.push { cls := .type "tuple", data := .seq rest.toArray }).push
      { cls := .ref C, data := .fields #[.ref h.objs.size, .none, .none, .none, .bool false, .none] }, g, d, t, os⟩) (hrest : rest.length ≤ sizeLine) :
    codeAny (model prog w) A (.builtin "Exception.__new__" ⟨.ref C :: rest, []⟩) R ⟨h, g, d, t, os⟩ := by
  have Fn := PySem.F.excBase_Exception
  have hends := Fn.ends
  have hcB : (Value.ref C :: bm).contains (.type "Exception") = true := by rw [List.contains_cons, hB, Bool.or_true]
  have hcA : (Value.ref C :: bm).contains (.type "AttributeError") = false := by rw [List.contains_cons, hA]; rfl
  have hcN : (Value.ref C :: bm).contains (.type "NameError") = false := by rw [List.contains_cons, hN]; rfl
  refine codeAny_builtinAt Fn.entry ?_
  unfold Builtin.«BaseException.__new__»
  refine wpAt_bind ?_
  show wpAt _ _ _ (stack >>= _) _ _ _
  refine wpAt_bind (wpAt_stack fun p below => wpAt_of_wpAny ?_)
  wp_walk
  refine wpAt_of_wpAny ?_
  rw [Fn.owner]
  repeat (first | with_reducible refine wpAny_madeHere_exc Fn.canon hC ?_ | with_reducible refine wpAny_loadPart_at hC ?_ | (with_reducible refine wpAny_isSubtype_exc hC ?_; first | rw [hcB] | rw [hcA] | rw [hcN]) | wp_step)
  show R _ _
  rw [Heap.size_push]
  exact hq

abbrev newExcObj (C t : Addr) : Obj := { cls := .ref C, data := .fields #[.ref t, .none, .none, .none, .bool false, .none] }

theorem own_type_call {rest : List Value} {Q : Fin → Shared → Prop} (X : K.In h) (hB : bm.contains (.type "Exception") = true) (hA : bm.contains (.type "AttributeError") = false) (hN : bm.contains (.type "NameError") = false)
    (hC : h.get? C = some (excClassObj nm q C N bs bm hdct sn sub ab col dd k0 k1 k2 k3 k5 "Exception.__new__")) (hi : findIn K (.ref C) "__init__" = some (some (.ref fI))) (hf : typeIn K (.ref fI) = some (.type "function")) (hrest : rest.length ≤ sizeLine)
    (hq : ∀ h' e t', (∀ b o, h.get? b = some o → h'.get? b = some o) → h.get? e = none → h'.get? e = some (newExcObj C t') →
      wpAny (model prog w) A (call (.ref fI) (.ref e :: rest)) (fun r s' => r = .none ∧ Q (.done (.ret (.ref e))) s') E ⟨h', g, d, t, os⟩) :
    wpAny (model prog w) A (Builtin.«type.__call__» ⟨.ref C :: rest, []⟩) Q E ⟨h, g, d, t, os⟩ := by
  have Fn := PySem.F.excBase_Exception
  repeat (first | with_reducible refine wpAny_loadPart_at hC ?_ | with_reducible refine wpAny_madeBy_exc hC ?_ | wp_step)
  refine codeAny_call_builtin_code (Code.quiet_builtin _ Fn.quiet) (own_check_new hB hC ?_)
  refine own_new hB hA hN hC ?_ hrest
  show wpAny _ _ _ _ _ _
  have up : ∀ b o, h.get? b = some o → ((h.push { cls := .type "tuple", data := .seq rest.toArray }).push (newExcObj C h.objs.size)).get? b = some o := fun b o e => Heap.get?_push_of_some _ (Heap.get?_push_of_some _ e)
  have hC₁ := up _ _ hC
  have hget : ((h.push { cls := .type "tuple", data := .seq rest.toArray }).push (newExcObj C h.objs.size)).get? (h.objs.size + 1) = some (newExcObj C h.objs.size) := by heap_get
  have hcC : (Value.ref C :: bm).contains (.ref C) = true := by simp
  unfold isInstance
  repeat (first | with_reducible refine wpAny_loadPart_at hget ?_ | (with_reducible refine wpAny_isSubtype_exc hC₁ ?_; rw [hcC]) | wp_step)
  have hfI : ∃ oI, h.get? fI = some oI ∧ oI.cls = .type "function" := by
    have hf' : (K.lookup fI).map (·.cls) = some (.type "function") := hf
    obtain ⟨oI, h1, h2⟩ := Option.map_eq_some_iff.mp hf'
    exact ⟨oI, X _ _ h1, h2⟩
  obtain ⟨oI, hfI, hfc⟩ := hfI
  show wpAny _ _ (typeLookup (.ref C) (Str.ofString "__init__")) _ _ _
  refine (looks_findIn (X.keeps up) hi) _ _ _ _ (fun _ _ e => e) ?_
  refine wpAny_holding (wpAny_bind ?_)
  unfold bindSpecial
  refine wpAny_bind (wpAny_typeOf (T := "function") ⟨_, up _ _ hfI, hfc⟩ ?_)
  rw [if_pos (by decide)]
  refine wpAny_pure (wpAny_bind (wpAny_mono (hq _ (h.objs.size + 1) h.objs.size up (Heap.get?_none_of_le (Nat.le_succ _)) hget) (fun r s' hr => ?_) fun _ _ x => x))
  obtain ⟨rfl, hQ⟩ := hr
  wp_walk
  exact hQ

theorem own_call {rest : List Value} {Q : Value → Shared → Prop} (X : K.In h) (hB : bm.contains (.type "Exception") = true) (hA : bm.contains (.type "AttributeError") = false) (hN : bm.contains (.type "NameError") = false)
    (hC : h.get? C = some (excClassObj nm q C N bs bm hdct sn sub ab col dd k0 k1 k2 k3 k5 "Exception.__new__")) (hi : findIn K (.ref C) "__init__" = some (some (.ref fI))) (hf : typeIn K (.ref fI) = some (.type "function")) (hrest : rest.length ≤ sizeLine)
    (hq : ∀ h' e t', (∀ b o, h.get? b = some o → h'.get? b = some o) → h.get? e = none → h'.get? e = some (newExcObj C t') →
      wpAny (model prog w) (A.under (.builtin "type.__call__" ⟨.ref C :: rest, []⟩)) (call (.ref fI) (.ref e :: rest)) (fun r s' => r = .none ∧ Q (.ref e) s') E ⟨h', g, d, t, os⟩) :
    wpAny (model prog w) A (call (.ref C) rest) Q E ⟨h, g, d, t, os⟩ := by
  have f1 := tc_lookup
  have f2 := tc_bind (.ref C)
  have hT : (⟨h, g, d, t, os⟩ : Shared).TypeIs (.ref C) "type" := ⟨_, hC, rfl⟩
  refine wpAny_call (codeAny_of_tree ?_)
  show wpAny _ _ (callAny (.ref C) _) _ _ _
  repeat (any_goals (first | assumption | with_reducible refine wpAny_loadPart_at hC ?_ | wp_step))
  refine ⟨rfl, ?_⟩
  exact codeAny_call_builtin_at (Code.quiet_builtin _ (by decide +kernel)) entry_typeCall (wpAny_check_type_call_sub hC (own_type_call X hB hA hN hC hi hf hrest hq))
end
end Mine
end

-- U2
section
namespace Mine
open PySem PySem.W PySem.Calls
variable [Z : Zero Frozen]

theorem slot_wd_get : Slot "wrapper_descriptor" "__get__" "wrapper_descriptor.__get__" := .of (owner := "wrapper_descriptor") (n := "__get__") (by rw [typeLookup_type, builtinLookup_eq_fast]; kernel_rfl) (by decide +kernel) (by decide +kernel) (by decide +kernel)
  (by first | exact .inl (by decide +kernel) | exact .inr (by decide +kernel)) (by rw [isSubtype_type]; kernel_rfl)
theorem entry_wd_get : entryFor table "wrapper_descriptor.__get__" = some Builtin.«wrapper_descriptor.__get__» := entryFor_of_tree (by kernel_rfl)
theorem args_wd_get (a b c : Value) : argsOk "wrapper_descriptor.__get__" ⟨[a, b, c], []⟩ := by unfold argsOk; kernel_rfl
theorem type_exc_init : typeOf (.builtin "Exception.__init__") = pure (.type "wrapper_descriptor") := by show builtinType _ = _; rw [builtinType_eq_fast]; kernel_rfl

section
variable {prog : Program} {w : World} {A : Around} {E : Value → Shared → Prop} {R : Result → Shared → Prop} {h : Heap} {g : Array GenState} {d : Drawn} {t : Nat} {os : OsState}

theorem wd_get {e C : Addr} {start : Value} {oe : Obj} {Q : Fin → Shared → Prop} (he : h.get? e = some oe) (hc : oe.cls = .ref C) (hsub : Looks (model prog w) h (isSubtype (.ref C) (.type "Exception")) true)
    (hst : start ≠ .none) (hq : Q (.done (.ret (.ref h.objs.size))) ⟨h.push { cls := .type "method-wrapper", data := .fields #[.builtin "Exception.__init__", .ref e] }, g, d, t, os⟩) :
    wpAny (model prog w) A (Builtin.«wrapper_descriptor.__get__» ⟨[.builtin "Exception.__init__", .ref e, start], []⟩) Q E ⟨h, g, d, t, os⟩ := by
  unfold Builtin.«wrapper_descriptor.__get__»
  repeat (first
    | (with_reducible refine wpAny_loadPart_at he ?_; rw [hc])
    | (with_reducible refine Looks.at hsub ?_)
    | wp_step
    | dsimp only)
  have hs : ".".intercalate ("Exception.__init__".cutAt '.').dropLast = "Exception" := by decide +kernel
  rw [hs]
  refine Looks.at hsub ?_
  rw [if_neg (by decide)]
  refine wpAny_pure ?_
  unfold newFields
  exact wpAny_bind (wpAny_newObj_type (wpAny_pure hq) (by size_fits))

/-- what a super object hands on: the built-in beginning, bound -/
theorem super_ga {so D x C : Addr} {ox : Obj} {l₀ l : List Value} {K : Frag} {tk : Tok} {Q : Fin → Shared → Prop}
    (hso : h.get? so = some { cls := .type "super", dict := none, data := .fields #[.ref D, .ref x, .ref C], slots := #[] }) (hno : Looks (model prog w) h (opaqueClassAbove (.ref C)) none)
    (hC : Looks (model prog w) h (mroOf (.ref C)) l₀) (hl : (l₀.dropWhile (· != .ref D)).drop 1 = l) (X : K.In h)
    (hf : alongIn K "__init__" l = some (some (.builtin "Exception.__init__"))) (hx : h.get? x = some ox) (hxc : ox.cls = .ref C) (hsub : Looks (model prog w) h (isSubtype (.ref C) (.type "Exception")) true) (hxC : x ≠ C)
    (hq : Q (.done (.ret (.ref h.objs.size))) ⟨h.push { cls := .type "method-wrapper", data := .fields #[.builtin "Exception.__init__", .ref x] }, g, d, t, os⟩) :
    wpAny (model prog w) A (Builtin.«super.__getattribute__» ⟨[.ref so, .str "__init__" tk], []⟩) Q E ⟨h, g, d, t, os⟩ := by
  have hlk := slot_wd_get.lookup
  have hne : (Value.ref x == Value.ref C) = false := by simp [hxC]
  have hn : ((Str.ofString "__init__") == ("__class__" : Str)) = false := by decide
  have hTf : (⟨h, g, d, t, os⟩ : Shared).TypeIs (.builtin "Exception.__init__") "wrapper_descriptor" := type_exc_init
  have hdt : ({ cls := .type "super", dict := none, data := .fields #[.ref D, .ref x, .ref C], slots := #[] } : Obj).data = .fields #[.ref D, .ref x, .ref C] := rfl
  have f0 : (#[.ref D, .ref x, .ref C] : Array Value)[0]? = some (.ref D) := rfl
  have f1 : (#[.ref D, .ref x, .ref C] : Array Value)[1]? = some (.ref x) := rfl
  have f2 : (#[.ref D, .ref x, .ref C] : Array Value)[2]? = some (.ref C) := rfl
  unfold Builtin.«super.__getattribute__»
  repeat (first
    | (with_reducible refine wpAny_field hso hdt f0 ?_) | (with_reducible refine wpAny_field hso hdt f1 ?_) | (with_reducible refine wpAny_field hso hdt f2 ?_)
    | (with_reducible refine ks_wpAny_notOpaque hno ?_)
    | (with_reducible refine Looks.at hC ?_; rw [hl])
    | (refine ks_forIn_along X (fun _ _ => rfl) rfl ?_ hf)
    | (with_reducible refine wpAny_typeOf hTf ?_)
    | (with_reducible refine wpAny_call_entry slot_wd_get hTf entry_wd_get ?_ (args_wd_get _ _ _))
    | (with_reducible refine wd_get hx hxc hsub (by simp) ?_)
    | (with_reducible refine ⟨_, rfl, ?_⟩)
    | (simp only [hn, hne, Bool.or_false, Bool.false_eq_true, if_false])
    | wp_step
    | dsimp only)
  all_goals first | exact hq | trace_state
end
end Mine
end

-- U3
section
namespace Mine
open PySem PySem.W PySem.Calls
variable [Z : Zero Frozen]

section
variable {prog : Program} {w : World} {A : Around} {E : Value → Shared → Prop} {R : Result → Shared → Prop} {h : Heap} {g : Array GenState} {d : Drawn} {t : Nat} {os : OsState}

theorem super_method {so D x C : Addr} {ox : Obj} {l₀ l : List Value} {K : Frag} {pl : Sem Bool} {Q : Value × List Value → Shared → Prop}
    (hso : h.get? so = some { cls := .type "super", dict := none, data := .fields #[.ref D, .ref x, .ref C], slots := #[] }) (hno : Looks (model prog w) h (opaqueClassAbove (.ref C)) none)
    (hC : Looks (model prog w) h (mroOf (.ref C)) l₀) (hl : (l₀.dropWhile (· != .ref D)).drop 1 = l) (X : K.In h)
    (hf : alongIn K "__init__" l = some (some (.builtin "Exception.__init__"))) (hx : h.get? x = some ox) (hxc : ox.cls = .ref C) (hsub : Looks (model prog w) h (isSubtype (.ref C) (.type "Exception")) true) (hxC : x ≠ C)
    (hq : Q (.ref h.objs.size, []) ⟨h.push { cls := .type "method-wrapper", data := .fields #[.builtin "Exception.__init__", .ref x] }, g, d, t + 1, os⟩) :
    wpAny (model prog w) A (getMethod (.ref so) "__init__" pl) Q E ⟨h, g, d, t, os⟩ := by
  have hlk := PySem.F.ks_slot_super_ga.lookup
  have hcan := PySem.F.ks_canon_super_ga
  have hT : ∀ t', (⟨h, g, d, t', os⟩ : Shared).TypeIs (.ref so) "super" := fun _ => ⟨_, hso, rfl⟩
  unfold getMethod
  refine wpAny_bind (wpAny_specialOf (hT _) hlk ?_)
  show wpAny _ _ (if (Manifest.canonical "super.__getattribute__" != "object.__getattribute__") = true then _ else _) _ _ _
  rw [if_pos hcan]
  unfold getAttr getAttrBy
  refine wpAny_bind (wpAny_bind (wpAny_mkText (wpAny_holding (wpAny_bind (wpAny_typeOf (hT _) (wpAny_bind (wpAny_of_eq hlk ?_)))))))
  show wpAny _ _ (getAttrByItsOwn (.ref so) (.str "__init__" t) (.type "super") (.builtin "super.__getattribute__") true false) _ _ _
  unfold getAttrByItsOwn hookBefore callGetattribute boundAndCalled
  refine wpAny_bind (wpAny_of_eq (show (if onTheHeap (.type "super") then typeLookup (.type "super") "__getattr__" else pure none) = pure none from rfl) ?_)
  refine wpAny_bind (wpAny_attempt (wpAny_holding ?_))
  show wpAny _ _ (bindSpecial (.builtin "super.__getattribute__") (.ref so) >>= _) _ _ _
  refine wpAny_bind (wpAny_of_eq (PySem.F.ks_slot_super_ga.bind _) ?_)
  refine wpAny_mono (Q := fun v s' => v = .ref h.objs.size ∧ s' = ⟨h.push { cls := .type "method-wrapper", data := .fields #[.builtin "Exception.__init__", .ref x] }, g, d, t + 1, os⟩) (E := fun _ _ => False)
    (wpAny_call_entry PySem.F.ks_slot_super_ga (hT _) PySem.F.ks_entry_super_ga (super_ga hso hno hC hl X hf hx hxc hsub hxC ⟨_, rfl, rfl, rfl⟩) (PySem.F.ks_gaArgs_super _ _)) (fun v s' hv => ?_) fun _ _ z => z.elim
  obtain ⟨rfl, rfl⟩ := hv
  exact wpAny_pure (wpAny_pure hq)

abbrev wrapObj (x : Addr) : Obj := { cls := .type "method-wrapper", data := .fields #[.builtin "Exception.__init__", .ref x] }

theorem bound_check {M : Model} {x C N t0 : Addr} {v : Value} {nm q : Str} {bs bm : List Value} {hdct : Bool} {sn : List Str} {sub : List Value} {ab : Bool} {col : Option Bool} {dd : Option Addr} {k0 k1 k2 k3 k5 : Option Value} {id : String} {Q : Unit → Shared → Prop}
    (hx : h.get? x = some (newExcObj C t0)) (hC : h.get? C = some (excClassObj nm q C N bs bm hdct sn sub ab col dd k0 k1 k2 k3 k5 id)) (hq : Q () ⟨h, g, d, t, os⟩) : wpAny M A (checkBoundCall "Exception.__init__" ⟨[.ref x, v], []⟩) Q E ⟨h, g, d, t, os⟩ := by
  have F := PySem.F.excBase_Exception
  have hshort := F.noStar
  simp only [checkBoundCall, F.initKind, F.initSplit, F.initRow]
  rw [if_pos (by decide)]
  unfold Bind.checkArgs
  repeat (first | with_reducible refine wpAny_loadPart_at hx ?_ | with_reducible refine wpAny_loadPart_at hC ?_ | wp_step)
  exact hq

theorem init_put {x t0 : Addr} {C : Addr} {v : Value} {R : Result → Shared → Prop} (hx : h.get? x = some (newExcObj C t0))
    (hq : ∀ h' t1, h'.get? x = some (newExcObj C t1) → (∀ b o, b ≠ x → h.get? b = some o → h'.get? b = some o) → R (.ok (.ret .none)) ⟨h', g, d, t, os⟩) :
    codeAny (model prog w) A (.builtin "Exception.__init__" ⟨[.ref x, v], []⟩) R ⟨h, g, d, t, os⟩ := by
  have F := PySem.F.excBase_Exception
  refine codeAny_builtin F.initEntry ?_
  have hx1 := Heap.get?_push_of_some { cls := .type "tuple", data := .seq [v].toArray } hx
  unfold Builtin.«BaseException.__init__»
  wp_walk
  refine hq _ h.objs.size ?_ fun b o hb e => ?_
  · rw [Heap.get?_update_self _ hx1 rfl]
    rfl
  · rw [Heap.get?_update_other _ _ (Ne.symm hb)]
    exact Heap.get?_push_of_some _ e

theorem bound_call {x mw t0 : Addr} {C N : Addr} {v : Value} {nm q : Str} {bs bm : List Value} {hdct : Bool} {sn : List Str} {sub : List Value} {ab : Bool} {col : Option Bool} {dd : Option Addr} {k0 k1 k2 k3 k5 : Option Value} {id : String} {Q : Value → Shared → Prop}
    (hC : h.get? C = some (excClassObj nm q C N bs bm hdct sn sub ab col dd k0 k1 k2 k3 k5 id)) (hm : h.get? mw = some (wrapObj x)) (hx : h.get? x = some (newExcObj C t0))
    (hq : ∀ h' t1, h'.get? x = some (newExcObj C t1) → (∀ b o, b ≠ x → h.get? b = some o → h'.get? b = some o) → Q .none ⟨h', g, d, t, os⟩) :
    wpAny (model prog w) A (call (.ref mw) [v]) Q E ⟨h, g, d, t, os⟩ := by
  refine wpAny_call (codeAny_of_tree ?_)
  show wpAny _ A.in1 (callAny (.ref mw) ⟨[v], []⟩) _ _ _
  simp only [callAny]
  refine wpAny_bind (wpAny_load hm ?_)
  dsimp only
  rw [if_pos (by decide)]
  refine wpAny_bind (bound_check hx hC ?_)
  refine wpAny_bind (wpAny_pure (wpAny_pure ?_))
  exact ⟨Code.quiet_builtin _ (by decide +kernel), init_put hx hq⟩
end
end Mine
end

-- U4
section
namespace Mine
open PySem PySem.W PySem.Calls
variable [Z : Zero Frozen]

section
variable {prog : Program} {w : World} {A : Around} {E : Value → Shared → Prop} {R : Result → Shared → Prop} {h : Heap} {g : Array GenState} {d : Drawn} {t : Nat} {os : OsState} {K : Frag}
variable {nm q : Str} {C N : Addr} {bs bm : List Value} {hdct : Bool} {sn : List Str} {sub : List Value} {ab : Bool} {col : Option Bool} {dd : Option Addr} {k0 k1 k2 k3 k5 : Option Value} {id : String}

set_option maxHeartbeats 4000000 in
theorem exc_store {x t1 : Addr} {v : Value} {name : Str} {tk : Tok} {Q : Fin → Shared → Prop} (X : K.In h) (hC : h.get? C = some (excClassObj nm q C N bs bm true sn sub ab col dd k0 k1 k2 k3 k5 id)) (hx : h.get? x = some (newExcObj C t1))
    (hpass : refuseLoop (.ref x) "__setattr__" (.ref C :: bm) = pure ()) (hw : findIn K (.ref C) name = some none)
    (hq : ∀ h' tk' dx, h'.get? x = some { newExcObj C t1 with dict := some dx } → (∀ b o, b ≠ x → h.get? b = some o → h'.get? b = some o) → Q (.done (.ret .none)) ⟨h', g, d, tk', os⟩) :
    wpAny (model prog w) A (Builtin.«object.__setattr__» ⟨[.ref x, .str name tk, v], []⟩) Q E ⟨h, g, d, t, os⟩ := by
  have hx₁ : (h.push { cls := .type "dict", data := .dict #[] }).get? x = some (newExcObj C t1) := Heap.get?_push_of_some _ hx
  have hxs : x ≠ h.objs.size := Nat.ne_of_lt (Heap.lt_size hx)
  have hgd : ((h.push { cls := .type "dict", data := .dict #[] }).update x fun o => { cls := o.cls, dict := some h.objs.size, data := o.data, slots := o.slots }).get? h.objs.size = some { cls := .type "dict", data := .dict #[] } :=
    (Heap.get?_update_ne _ _ _ _ hxs.symm).trans (Heap.get?_push_at rfl rfl)
  have hnd : ((h.push { cls := .type "dict", data := .dict #[] }).update x fun o => { cls := o.cls, dict := some h.objs.size, data := o.data, slots := o.slots }).Ns h.objs.size (fun _ => none) :=
    ⟨_, #[], _, hgd, rfl, fun e he => absurd he (by simp), fun _ => rfl⟩
  unfold Builtin.«object.__setattr__»
  repeat (first | rw [refuse_eq] | rw [hpass] | with_reducible refine wpAny_loadPart_at hx ?_ | with_reducible refine wpAny_mroOf_exc hC ?_ | (with_reducible refine Looks.at (looks_findIn X hw) ?_) | (with_reducible refine wpAny_nsSet1 (Heap.Ns1.of_empty hnd) fun h' hn' hs => ?_) | wp_step)
  obtain ⟨oD, esD, epD, hoD, hdD, hcD⟩ := hn'.count (Within.cons name v Within.nil)
  refine wpAny_loadPart hoD ?_
  have hpast : oD.data.pastItsLine = none := by rw [hdD]; exact pastItsLine_dict (Nat.le_trans hcD (by rw [List.length_cons, List.length_nil, sizeLine_eq]; omega))
  simp only [hpast]
  refine wpAny_pure (wpAny_pure (hq h' _ h.objs.size ?_ fun b o hb e => ?_))
  · exact (hs.2 x hxs).trans (Heap.get?_update_self _ hx₁ rfl)
  · exact (hs.2 b (Nat.ne_of_lt (Heap.lt_size e))).trans ((Heap.get?_update_ne _ _ _ _ hb).trans (Heap.get?_push_of_some _ e))

theorem exc_set {x t1 : Addr} {v : Value} {name : Str} {Q : Unit → Shared → Prop} (X : K.In h) (hC : h.get? C = some (excClassObj nm q C N bs bm true sn sub ab col dd k0 k1 k2 k3 k5 id)) (hx : h.get? x = some (newExcObj C t1))
    (hpass : refuseLoop (.ref x) "__setattr__" (.ref C :: bm) = pure ()) (hw : findIn K (.ref C) name = some none) (hs : findIn K (.ref C) "__setattr__" = some (some (.builtin "object.__setattr__"))) (ho : bm.contains (.type "object") = true)
    (hq : ∀ h' tk' dx, h'.get? x = some { newExcObj C t1 with dict := some dx } → (∀ b o, b ≠ x → h.get? b = some o → h'.get? b = some o) → Q () ⟨h', g, d, tk', os⟩) :
    wpAny (model prog w) A (setAttr (.ref x) name v) Q E ⟨h, g, d, t, os⟩ := by
  have SF := PySem.F.store_object
  have I : InstAt h x (newExcObj C t1) C none := ⟨hx, rfl, rfl, trivial⟩
  refine set_plain (s := ⟨h, g, d, t, os⟩) X I hs ?_
  have sub : Looks (model prog w) h (isInstance (.ref x) (.type "object")) true := fun A Q E s k q => by
    obtain ⟨h', g', d', t', os'⟩ := s
    have hx' := k _ _ hx
    have hC' := k _ _ hC
    unfold isInstance
    have hcB : (Value.ref C :: bm).contains (.type "object") = true := by rw [List.contains_cons, ho, Bool.or_true]
    repeat (first | with_reducible refine wpAny_loadPart_at hx' ?_ | (with_reducible refine wpAny_isSubtype_exc hC' ?_; rw [hcB]) | wp_step)
    exact q
  refine codeAny_call_builtin SF.slot.plain SF.entry (@check_slot (model prog w) _ _ _ "object.__setattr__" "object" "__setattr__" (.ref x) [.str name t, v] [] _ SF.kind SF.split sub (SF.args (.ref x) (.str name t) v) ?_)
  exact exc_store X hC hx hpass hw fun h' tk' dx h1 h2 => hq h' tk' dx h1 h2
end
end Mine
end

-- U5
section
namespace Mine
open PySem PySem.W PySem.Calls
variable [Z : Zero Frozen]

abbrev initBody (p0 p1 p2 p3 p4 p5 p6 p7 p8 p9 : Pos) : List Stmt :=
  [.Expr (.Call (.Attribute (.Call (.Name "super" p0) [] [] p1) "__init__" p2) [.Name "what" p3] [] p4) p5, .Assign [.Attribute (.Name "self" p6) "what" p7] (.Name "what" p8) p9]

section
variable {prog : Program} {w : World} {A : Around} {E : Value → Shared → Prop} {R : Result → Shared → Prop} {s : Shared} {K : Frag}
variable {nm q : Str} {C N : Addr} {bs bm : List Value} {sn : List Str} {sub : List Value} {ab : Bool} {col : Option Bool} {dd : Option Addr} {k0 k1 k2 k3 k5 : Option Value} {id : String}
variable {p0 p1 p2 p3 p4 p5 p6 p7 p8 p9 : Pos} {fI cc cda D t0 x : Addr} {oc : Value} {od : Option Addr} {osl : Array (Option Value)} {fd : FuncData} {ar : Arg} {vs : Array Value} {file : Str} {tf : Tok} {ccl cl : Value} {cdd cld : Option Addr} {ccs csl : Array (Option Value)} {cdD : ClassData} {mg mb : Str → Option Value} {y : Str} {ty : Tok}

theorem init_run (hroom : A.depth < recursionLimit) (X : K.In s.heap) (hf : K.lookup fI = some ⟨oc, od, .func fd, osl⟩) (hbody : fd.body = .stmts (initBody p0 p1 p2 p3 p4 p5 p6 p7 p8 p9)) (hline : (p2.endLine == p4.line) = true)
    (hbind : ∀ a b, bindArgs fd ⟨[a, b], []⟩ = pure [(("self" : Str), a), (("what" : Str), b)]) (hp : (fd.params.posonlyargs ++ fd.params.args).head? = some ar) (har : ar.arg = "self")
    (hclo : fd.closure = [(("__class__" : Str), cc)]) (hcode : fd.code = .ref cda) (hglob : fd.globals = mainGlobals) (hbui : fd.builtins = builtinsNs)
    (hk : fd.scope.kind = .function) (hco : fd.scope.isCoroutine = false) (hgen : fd.scope.isGenerator = false) (hcells : ∀ z ∈ fd.scope.names, z.2 ≠ .cell) (hks : fd.scope.names.lookup ("super" : Str) = some .globalImplicit) (hkc : fd.scope.names.lookup ("__class__" : Str) = some .free)
    (hka : fd.scope.names.lookup ("self" : Str) = some .local) (hkw : fd.scope.names.lookup ("what" : Str) = some .local)
    (hcda : K.lookup cda = some ⟨ccl, cdd, .fields vs, ccs⟩) (hvs : vs[2]? = some (.str file tf)) (hfile : ((prog.main.file : Str) == file) = true) (htop : (prog.main.scope.names.lookup ("super" : Str)).isSome = false)
    (hlim : s.heap.NoLimit) (hcd : s.heap.CodeRec fd.code fd.qualname)
    (hcell : K.lookup cc = some ⟨cl, cld, .cell (some (.ref D)), csl⟩) (hD : clsIn K D = some cdD)
    (hC : s.heap.get? C = some (excClassObj nm q C N bs bm true sn sub ab col dd k0 k1 k2 k3 k5 id)) (hsubD : mroIn K C (.ref D) = some true) (hsubE : subIn K (.ref C) (.type "Exception") = some true)
    (hopq : nsIn K cStatics "thirdparty.any" = some none) (hal : alongIn K "__init__" (((Value.ref C :: bm).dropWhile (· != .ref D)).drop 1) = some (some (.builtin "Exception.__init__")))
    (hpass : ∀ v, refuseLoop v "__setattr__" (.ref C :: bm) = pure ()) (hw : findIn K (.ref C) "what" = some none) (hset : findIn K (.ref C) "__setattr__" = some (some (.builtin "object.__setattr__"))) (ho : bm.contains (.type "object") = true)
    (hg : s.heap.Ns mainGlobals mg) (hgs : mg "super" = none) (hb : s.heap.Ns builtinsNs mb) (hbs : mb "super" = some (.type "super"))
    (hx : s.heap.get? x = some (newExcObj C t0)) (hxC : x ≠ C) (hxK : K.lookup x = none)
    (hR : ∀ h' tk t1 dx, h'.get? x = some { newExcObj C t1 with dict := some dx } → (∀ b o, b ≠ x → s.heap.get? b = some o → h'.get? b = some o) → R (.ok (.ret .none)) { s with heap := h', toks := tk }) :
    codeAny (model prog w) A (.call (.ref fI) ⟨[.ref x, .str y ty], []⟩) R s := by
  refine ks_codeAny_call_defAt (binds := [(("self" : Str), .ref x), (("what" : Str), .str y ty)]) hroom (X _ _ hf) rfl hlim hcd hbody (.of_eq (hbind _ _)) hcells (by
    intro z hz
    rcases List.mem_cons.mp hz with rfl | hz
    · exact hka
    · rcases List.mem_cons.mp hz with rfl | hz
      · exact hkw
      · cases hz) (fun h₀ hns keep => ?_) hco hgen hk
  generalize henv : callEnv fd s.heap.objs.size fI = env at hns ⊢
  have ek : env.scope = fd.scope := by rw [← henv]; rfl
  have kn : ∀ z, env.kindOf z = fd.scope.names.lookup z := fun z => by unfold Env.kindOf; rw [ek]
  have eL : env.locals = s.heap.objs.size := by rw [← henv]; rfl
  have eC : env.cells = [(("__class__" : Str), cc)] := by rw [← henv, ← hclo]; rfl
  have eF : env.func = some fI := by rw [← henv]; rfl
  have eD : env.code = .ref cda := by rw [← henv, ← hcode]; rfl
  have eG : env.globals = mainGlobals := by rw [← henv, ← hglob]; rfl
  have eB : env.builtins = builtinsNs := by rw [← henv, ← hbui]; rfl
  have ekk : env.scope.kind = .function := by rw [ek]; exact hk
  have hself : (fun z => ([(("self" : Str), Value.ref x), (("what" : Str), Value.str y ty)].reverse).lookup z) ("self" : Str) = some (.ref x) := by first | rfl | kernel_rfl
  have hwhat : (fun z => ([(("self" : Str), Value.ref x), (("what" : Str), Value.str y ty)].reverse).lookup z) ("what" : Str) = some (.str y ty) := by rfl
  have X₀ := X.keeps keep
  obtain ⟨oD, hD1, hD2⟩ : ∃ oD, h₀.get? D = some oD ∧ oD.data = .cls cdD := by
    unfold clsIn at hD
    split at hD
    · rename_i c d cd' sl ho'
      cases hD
      exact ⟨_, X₀ _ _ ho', rfl⟩
    · cases hD
  have hx₀ := keep _ _ hx
  have hC₀ := keep _ _ hC
  have Lne : x ≠ s.heap.objs.size := Nat.ne_of_lt (Heap.lt_size hx)
  refine ks_wpAt_execs_cons (ks_wpAt_Expr_any (ks_wpAt_MethodCall (pl := (do return (← importBound (.Call (.Name "super" p0) [] [] p1) env).getD true)) ?_ ?_) (by unfold interactive; rw [ekk]; rfl) rfl)
  case refine_2 =>
    have hpos : methodCallPos true (.Call (.Name "super" p0) [] [] p1) env p2 p4 = pure p4 := by unfold methodCallPos; simp [hline]
    rw [arm_eval_Call]
    show (do
      let ov ← attributeBase (.Call (.Name "super" p0) [] [] p1) "__init__" env (eval (.Call (.Name "super" p0) [] [] p1) env)
      standAt p2.atName
      let (f, first) ← holding [ov] (getMethod ov "__init__" _)
      let callPos ← methodCallPos true (.Call (.Name "super" p0) [] [] p1) env p2 p4
      callWith callPos f first (backTo p4 (starEach [.Name "what" p3] env)) []) = _
    rw [hpos]
    simp only [pure_bind]
  refine ks_wpAt_super_base ((kn _).trans hks) ((kn _).trans hkc) (by decide) eF (X₀ _ _ hf) rfl hp eD (X₀ _ _ hcda) rfl hvs hfile htop ?_
  refine ks_loadName_global ekk ((kn _).trans hks) (loadGlobal_builtin (by rw [eG]; exact hg.keeps keep) hgs (by rw [eB]; exact hb.keeps keep) hbs ⟨rfl, ?_⟩)
  refine wpAny_loadName_free ekk ((kn _).trans hkc) (by rw [eC]; rfl) ⟨_, X₀ _ _ hcell, rfl⟩ ?_
  rw [har]
  refine wpAny_loadName_local ekk ((kn _).trans hka) (by rw [eL]; exact hns) hself ?_
  refine ks_wpAny_isType_cls hD1 hD2 ⟨rfl, ?_⟩
  refine ks_wpAny_call_super hD1 hD2 hx₀ rfl (fun c e => by cases e) (looks_mroIn X₀ hsubD) (fun h1 e1 k1 => ?_)
  have X1 := X₀.keeps k1
  refine super_method e1 (looks_opaque X1 hopq) (l₀ := .ref C :: bm) (fun A Q E s' kk q => by
    obtain ⟨hh, g, d, tt, os⟩ := s'
    exact wpAny_mroOf_exc (kk _ _ (k1 _ _ hC₀)) q) rfl X1 hal (k1 _ _ hx₀) rfl (looks_subIn X1 hsubE) hxC ?_
  have k2 : ∀ b o, h1.get? b = some o → (h1.push (wrapObj x)).get? b = some o := fun b o e => Heap.get?_push_of_some _ e
  have hmw : (h1.push (wrapObj x)).get? h1.objs.size = some (wrapObj x) := Heap.get?_push_at rfl rfl
  have hns2 : (h1.push (wrapObj x)).Ns s.heap.objs.size _ := (hns.keeps k1).keeps k2
  unfold callWith
  refine wpAny_bind (wpAny_holding (evalArgs_plain (f := .ref h1.objs.size) (x := eval (.Name "what" p3) env) (rest := []) (spliced_cons (wpAny_Name (wpAny_loadName_local ekk ((kn _).trans hkw) (by rw [eL]; exact hns2) hwhat (spliced_nil (wpAny_bind (wpAny_standAt ?_)))) (by decide)))))
  refine wpAny_bind (m := keeperOf (.ref h1.objs.size)) ?_
  unfold keeperOf
  refine wpAny_bind (wpAny_load hmw ?_)
  dsimp only
  rw [if_pos (by decide)]
  refine wpAny_pure ?_
  refine wpAny_bind (bound_call (k2 _ _ (k1 _ _ hC₀)) hmw (k2 _ _ (k1 _ _ hx₀)) fun h3 t1 hx3 k3 => wpAny_bind (wpAny_holding (wpAny_point (wpAny_pure ?_))))
  have X3 : K.In h3 := fun b o e => k3 b o (fun q => by
    subst q
    rw [hxK] at e; cases e) (k2 _ _ (X1 _ _ e))
  have k03 : ∀ b o, b ≠ x → s.heap.get? b = some o → h3.get? b = some o := fun b o hb e => k3 b o hb (k2 _ _ (k1 _ _ (keep _ _ e)))
  have hns3 : h3.Ns s.heap.objs.size _ := hns2.at' fun o e => k3 _ o Lne.symm e
  refine ks_wpAt_execs_cons (wpAt_of_wpAny ?_)
  refine plainObj_wpAny_Assign_Attribute ?_ rfl
  refine wpAny_Name (wpAny_loadName_local ekk ((kn _).trans hkw) (by rw [eL]; exact hns3) hwhat ?_) (by decide)
  refine wpAny_Name (wpAny_loadName_local ekk ((kn _).trans hka) (by rw [eL]; exact hns3) hself ?_) (by decide)
  refine exc_set X3 (k3 _ _ hxC.symm (k2 _ _ (k1 _ _ hC₀))) hx3 (hpass _) hw hset ho fun h4 tk4 dx hx4 k4 => ?_
  exact wpAt_of_wpAny (wpAny_execs_nil (hR h4 tk4 t1 dx hx4 fun b o hb e => k4 b o hb (k03 b o hb e)))
end
end Mine
end

-- U6
section
namespace Mine
open PySem PySem.W PySem.Calls
variable [Z : Zero Frozen]

section
variable {C : Conf} {k : Exn}
variable {nm q : Str} {N : Addr} {bs bm : List Value} {sn : List Str} {sub : List Value} {ab : Bool} {col : Option Bool} {dd : Option Addr} {k0 k1 k2 k3 k5 : Option Value}
variable {p0 p1 p2 p3 p4 p5 p6 p7 p8 p9 : Pos} {fI cc cda D : Addr} {oc : Value} {od : Option Addr} {osl : Array (Option Value)} {fd : FuncData} {ar : Arg} {vs : Array Value} {file : Str} {tf : Tok} {ccl cl : Value} {cdd cld : Option Addr} {ccs csl : Array (Option Value)} {cdD : ClassData}

theorem makes_ok (hC : C.K.lookup (C.cls k) = some (excClassObj nm q (C.cls k) N bs bm true sn sub ab col dd k0 k1 k2 k3 k5 "Exception.__new__")) (hB : bm.contains (.type "Exception") = true) (hA : bm.contains (.type "AttributeError") = false) (hN : bm.contains (.type "NameError") = false)
    (hi : findIn C.K (.ref (C.cls k)) "__init__" = some (some (.ref fI))) (hft : typeIn C.K (.ref fI) = some (.type "function"))
    (hf : C.K.lookup fI = some ⟨oc, od, .func fd, osl⟩) (hbody : fd.body = .stmts (initBody p0 p1 p2 p3 p4 p5 p6 p7 p8 p9)) (hline : (p2.endLine == p4.line) = true)
    (hbind : ∀ a b, bindArgs fd ⟨[a, b], []⟩ = pure [(("self" : Str), a), (("what" : Str), b)]) (hp : (fd.params.posonlyargs ++ fd.params.args).head? = some ar) (har : ar.arg = "self")
    (hclo : fd.closure = [(("__class__" : Str), cc)]) (hcode : fd.code = .ref cda) (hglob : fd.globals = mainGlobals) (hbui : fd.builtins = builtinsNs)
    (hk : fd.scope.kind = .function) (hco : fd.scope.isCoroutine = false) (hgen : fd.scope.isGenerator = false) (hcells : ∀ z ∈ fd.scope.names, z.2 ≠ .cell) (hks : fd.scope.names.lookup ("super" : Str) = some .globalImplicit) (hkc : fd.scope.names.lookup ("__class__" : Str) = some .free)
    (hka : fd.scope.names.lookup ("self" : Str) = some .local) (hkw : fd.scope.names.lookup ("what" : Str) = some .local)
    (hcda : C.K.lookup cda = some ⟨ccl, cdd, .fields vs, ccs⟩) (hvs : vs[2]? = some (.str file tf)) (hfile : ((C.prog.main.file : Str) == file) = true) (htop : (C.prog.main.scope.names.lookup ("super" : Str)).isSome = false)
    (hcd : codeIn C.K fd.code fd.qualname = true)
    (hcell : C.K.lookup cc = some ⟨cl, cld, .cell (some (.ref D)), csl⟩) (hD : clsIn C.K D = some cdD)
    (hsubD : mroIn C.K (C.cls k) (.ref D) = some true) (hsubE : subIn C.K (.ref (C.cls k)) (.type "Exception") = some true)
    (hopq : nsIn C.K cStatics "thirdparty.any" = some none) (hal : alongIn C.K "__init__" (((Value.ref (C.cls k) :: bm).dropWhile (· != .ref D)).drop 1) = some (some (.builtin "Exception.__init__")))
    (hpass : ∀ v, refuseLoop v "__setattr__" (.ref (C.cls k) :: bm) = pure ()) (hw : findIn C.K (.ref (C.cls k)) "what" = some none) (hset : findIn C.K (.ref (C.cls k)) "__setattr__" = some (some (.builtin "object.__setattr__"))) (ho : bm.contains (.type "object") = true)
    (hgs : C.mg "super" = none) (hbs : bootBuiltins "super" = some (.type "super")) : Makes C k := by
  intro A fr hd hu β s σ y ty Q E I hy hQ
  have X := inK_now I
  have hg := globNow I
  have hb := buiNow I
  have hlim := I.nolim.keeps I.stays
  obtain ⟨h, g, d, t, os⟩ := s
  dsimp only at X hg hb hlim hQ ⊢
  have hC0 := X _ _ hC
  refine own_call (K := C.K) (rest := [.str y ty]) X hB hA hN hC0 hi hft (by show 1 ≤ _; rw [sizeLine_eq]; decide) fun h' e t' keep fe he => ?_
  have X' := X.keeps keep
  have hxK : C.K.lookup e = none := by
    cases z : C.K.lookup e with
    | none => rfl
    | some o => rw [X _ _ z] at fe; cases fe
  have hxC : e ≠ C.cls k := fun z => by rw [z, hC0] at fe; cases fe
  refine wpAny_call (init_run (K := C.K) (s := ⟨h', g, d, t, os⟩) ?_ X' hf hbody hline hbind hp har hclo hcode hglob hbui hk hco hgen hcells hks hkc hka hkw hcda hvs hfile htop (hlim.keeps keep) (codeRec_of X' hcd) hcell hD (keep _ _ hC0) hsubD hsubE hopq hal hpass hw hset ho
    (hg.keeps keep) hgs (hb.keeps keep) (by rw [I.bfit _ (by decide)]; exact hbs) he hxC hxK fun h2 tk t1 dx hx2 k2 => ?_)
  · have : (Code.builtin "type.__call__" ⟨[.ref (C.cls k), .str y ty], []⟩).weight ≤ 2 := by
      have e : (Code.builtin "type.__call__" ⟨[.ref (C.cls k), .str y ty], []⟩).weight = 1 := by kernel_rfl
      omega
    show A.depth + _ < _
    omega
  · refine ⟨rfl, hQ h2 tk e _ _ _ (fun b o hb' => k2 b o (fun z => ?_) (keep _ _ hb')) fe hx2 rfl rfl rfl rfl⟩
    subst z
    rw [fe] at hb'; cases hb'
end
end Mine
end

-- V1
section
namespace Mine
open PySem

/-- the text's own defs, by their places -/
def defAt (p : Program) (k : Nat) : Def := match p.main.body[k]? with
  | some (.FunctionDef _ args body _ _ _ scope _ _ _) => ⟨args.args.map (·.arg), body, scope.names⟩
  | _ => ⟨[], [], []⟩

noncomputable def places1 : List (Str × Nat) := [("part_at", 5), ("replaced", 6), ("is_row_of", 11), ("number_behind", 12), ("index_of", 13), ("variable", 14), ("below", 15), ("moved_within", 16), ("shifted", 17), ("put_in", 18), ("is_redex", 19),
  ("beta", 20), ("first_redex", 21), ("is_beyond", 22), ("normal", 23), ("alike_to", 24), ("_law_pick", 26), ("_law_name", 27), ("_law_tree", 28), ("_law_spots", 29), ("_law_part", 30), ("_law_with", 31), ("_law_put", 32),
  ("_law_is_app_of_lam", 33), ("_law_worked", 34), ("_law_turned", 35), ("_law_end", 36), ("_law_core", 37), ("_law_told", 38), ("law", 39)]
noncomputable def consts1 : List (Str × PV) := [("FIGURES", .str "0123456789"), ("MOST_SIZE", .int 20000), ("MOST_LEVELS", .int 150)]
noncomputable def exns1 : List (Str × Exn) := [("TermFault", .term), ("LimitFault", .limit)]
noncomputable def T1 : Text := { defs := fun f => (places1.lookup f).map (defAt PySem.Challenge.pw_pq0040_01), const := fun x => consts1.lookup x, exn := fun x => exns1.lookup x }

theorem ofString_inj (a b : String) : (Str.ofString a = Str.ofString b) = (a = b) := by
  apply propext
  constructor
  · intro h
    rw [Str.ofString_eq_toList, Str.ofString_eq_toList] at h
    injection h with h
    have h2 : a.toList.map Char.toNat = b.toList.map Char.toNat := by simpa using congrArg Array.toList h
    have inj : Function.Injective Char.toNat := fun x y e => by
      have := congrArg Char.ofNat e
      simpa using this
    exact String.toList_inj.mp ((List.map_inj_right fun x y e => inj e).mp h2)
  · intro h; rw [h]
theorem ofString_beq (a b : String) : (Str.ofString a == Str.ofString b) = (a == b) := by
  rw [Bool.eq_iff_iff, beq_iff_eq, beq_iff_eq, ofString_inj]
theorem strOk_ofString (a : String) : PyData.strOk (Str.ofString a) = true := by
  unfold PyData.strOk
  rw [Str.ofString_eq_toList]
  rw [← Array.all_toList, List.all_eq_true]
  intro x hx
  obtain ⟨c, _, rfl⟩ := List.mem_map.mp hx
  rw [decide_eq_true_eq]
  rcases c.valid with h | h
  · exact Nat.lt_trans h (by decide)
  · exact h.2
theorem strOk_append (a b : Str) : PyData.strOk (a ++ b) = (PyData.strOk a && PyData.strOk b) := by
  unfold PyData.strOk
  show (a.cps ++ b.cps).all _ = _
  simp


end Mine
end

-- V2
section
namespace Mine
open PySem

/-- names -/
inductive Nm where
  | k | m
  | n (i : Nat)
  deriving DecidableEq
/-- trees with names -/
inductive T where
  | nm (x : Nm)
  | lam (x : Nm) (b : T)
  | app (a b : T)
  deriving DecidableEq
/-- trees with places; free names -/
inductive B where
  | var (i : Nat)
  | fr (k : Bool)
  | lam (b : B)
  | app (a b : B)
  deriving DecidableEq
def ntext (i : Nat) : Str := Str.ofString "n" ++ strOfInt (i : Int)
def vtext (i : Nat) : Str := Str.ofString "var" ++ strOfInt (i : Int)
def Nm.text : Nm → Str
  | .k => "k"
  | .m => "m"
  | .n i => ntext i
def frText (k : Bool) : Str := if k then "k" else "m"
def T.pv : T → PV
  | .nm x => .tup [.str "name", .str x.text]
  | .lam x b => .tup [.str "lam", .str x.text, b.pv]
  | .app a b => .tup [.str "app", a.pv, b.pv]
def B.pv : B → PV
  | .var i => .tup [.str (vtext i)]
  | .fr k => .tup [.str (frText k)]
  | .lam b => .tup [.str "lam", b.pv]
  | .app a b => .tup [.str "app", a.pv, b.pv]
def T.size : T → Nat
  | .nm _ => 1
  | .lam _ b => b.size + 1
  | .app a b => a.size + b.size + 1
def B.size : B → Nat
  | .var _ => 1
  | .fr _ => 1
  | .lam b => b.size + 1
  | .app a b => a.size + b.size + 1

theorem empty_append (x : Str) : Str.empty ++ x = x := by
  cases x with | mk c => show Str.mk (#[] ++ c) = _; simp


theorem digits_num (i : Nat) : (strOfInt (i : Int)).cps.toList = (Nat.toDigits 10 i).map Char.toNat := PySem.W.KIN.signs_num i
theorem codes_append (a b : Str) : (a ++ b).cps.toList = a.cps.toList ++ b.cps.toList := by
  show (a.cps ++ b.cps).toList = _
  simp
theorem codes_var : (Str.ofString "var").cps.toList = [118, 97, 114] := by rw [Str.ofString_eq_toList]; rfl
theorem codes_n : (Str.ofString "n").cps.toList = [110] := by rw [Str.ofString_eq_toList]; rfl
theorem codes_v (i : Nat) : (vtext i).cps.toList = [118, 97, 114] ++ (strOfInt (i : Int)).cps.toList := by
  unfold vtext; rw [codes_append, codes_var]
theorem str_ext {a b : Str} (h : a.cps.toList = b.cps.toList) : a = b := by
  cases a; cases b; congr 1; exact Array.toList_inj.mp h
theorem digits_all (i : Nat) : ∀ c ∈ (strOfInt (i : Int)).cps.toList, 48 ≤ c ∧ c ≤ 57 := by
  intro c hc
  rw [digits_num] at hc
  obtain ⟨ch, hch, e⟩ := List.mem_map.mp hc
  have r := PyProof.Rows.digit_range (Nat.isDigit_of_mem_toDigits (by decide) (by decide) hch)
  rw [← e]
  exact r
theorem digits_ne (i : Nat) : (strOfInt (i : Int)).cps.toList ≠ [] := by
  rw [digits_num]
  intro e
  have h := toDigits_len_ge 10 i
  rw [List.map_eq_nil_iff.mp e] at h
  exact absurd h (by decide)
theorem strOk_num (i : Int) : PyData.strOk (strOfInt i) = true := strOk_ofString _
theorem strOk_v (i : Nat) : PyData.strOk (vtext i) = true := by unfold vtext; rw [strOk_append, strOk_ofString, strOk_num]; rfl
theorem strOk_n (i : Nat) : PyData.strOk (ntext i) = true := by unfold ntext; rw [strOk_append, strOk_ofString, strOk_num]; rfl
theorem strOk_nm (x : Nm) : PyData.strOk x.text = true := by
  cases x with
  | k => exact strOk_ofString _
  | m => exact strOk_ofString _
  | n i => exact strOk_n i
theorem strOk_fr (k : Bool) : PyData.strOk (frText k) = true := by cases k <;> exact strOk_ofString _
theorem v_ne (i : Nat) (x : Str) (h : x.cps.toList.take 3 ≠ [118, 97, 114]) : (vtext i == x) = false := by
  rw [beq_eq_false_iff_ne]
  intro e
  apply h
  rw [← e, codes_v]
  rfl
theorem v_ne' (i : Nat) (x : Str) (h : x.cps.toList.take 3 ≠ [118, 97, 114]) : (x == vtext i) = false := by
  have := v_ne i x h
  rw [beq_eq_false_iff_ne] at this ⊢
  exact fun e => this e.symm
theorem signs_txt (a : String) : (Str.ofString a).cps.toList = a.toList.map Char.toNat := by rw [Str.ofString_eq_toList]
theorem v_lam (i : Nat) : (vtext i == Str.ofString "lam") = false := v_ne i _ (by rw [signs_txt]; decide)
theorem v_app (i : Nat) : (vtext i == Str.ofString "app") = false := v_ne i _ (by rw [signs_txt]; decide)
theorem v_fr (i : Nat) (k : Bool) : (vtext i == frText k) = false := by cases k <;> exact v_ne i _ (by unfold frText; simp only [Bool.false_eq_true, ↓reduceIte]; rw [signs_txt]; decide)
theorem fr_lam (k : Bool) : (frText k == Str.ofString "lam") = false := by cases k <;> (unfold frText; simp only [Bool.false_eq_true, ↓reduceIte]; rw [ofString_beq]; decide)
theorem fr_app (k : Bool) : (frText k == Str.ofString "app") = false := by cases k <;> (unfold frText; simp only [Bool.false_eq_true, ↓reduceIte]; rw [ofString_beq]; decide)
theorem v_take (i : Nat) : (⟨((vtext i).cps.toList.take 3).toArray⟩ : Str) = Str.ofString "var" := str_ext (by rw [codes_var, codes_v]; rfl)
theorem v_drop (i : Nat) : (⟨((vtext i).cps.toList.drop 3).toArray⟩ : Str) = strOfInt (i : Int) := str_ext (by rw [codes_v]; rfl)
theorem fr_take (k : Bool) : ((⟨((frText k).cps.toList.take 3).toArray⟩ : Str) == Str.ofString "var") = false := by
  rw [beq_eq_false_iff_ne]
  intro e
  have := congrArg (fun s : Str => s.cps.toList) e
  cases k <;> (simp only [frText, Bool.false_eq_true, ↓reduceIte, signs_txt] at this; exact absurd this (by decide))
theorem int_back (i : Nat) (h : i < 10 ^ 9) : intOfText (strOfInt (i : Int)) = some (i : Int) := by
  have hl : (strOfInt (i : Int)).length ≤ 10 := PySem.W.KT.len_num (by omega) (by omega)
  unfold intOfText
  rw [if_pos (by omega)]
  exact PySem.W.KIN.num_reads (by omega) (by omega)
theorem no_zero (i : Nat) (r : List Nat) (h : (strOfInt (i : Int)).cps.toList = 48 :: r) : r = [] := by
  have hd : NumText.AllDigits (strOfInt (i : Int)).cps.toList := digits_all i
  have ht := NumText.toDigits_all _ hd
  have hv := PySem.W.KIN.val_back i
  rw [← digits_num] at hv
  rw [hv] at ht
  have hl : (Nat.toDigits 10 i).length = r.length + 1 := by
    have := congrArg List.length (digits_num i)
    rw [h, List.length_map] at this
    simpa using this.symm
  rw [h] at ht
  have hle := (List.dropWhile_suffix (l := r) (· == 48)).length_le
  rw [List.dropWhile_cons] at ht
  simp only [beq_self_eq_true, ↓reduceIte] at ht
  split at ht
  · rw [ht] at hl
    simp at hl
    exact hl
  · rename_i x hx
    rw [ht, List.length_map] at hl
    have hx' := congrArg List.length hx
    omega

theorem B.low_pv (t : B) : t.pv.low 0 = true := by
  induction t with
  | var i => rfl
  | fr k => rfl
  | lam b ih => simp [B.pv, PV.low, PV.lows, ih]
  | app a b ih1 ih2 => simp [B.pv, PV.low, PV.lows, ih1, ih2]
theorem T.low_pv (t : T) : t.pv.low 0 = true := by
  induction t with
  | nm x => rfl
  | lam x b ih => simp [T.pv, PV.low, PV.lows, ih]
  | app a b ih1 ih2 => simp [T.pv, PV.low, PV.lows, ih1, ih2]
def pathPV (p : List Nat) : PV := .tup (p.map fun (i : Nat) => PV.int (i : Int))
theorem low_ints (p : List Nat) : PV.lows 0 (p.map fun (i : Nat) => PV.int (i : Int)) = true := by
  induction p with
  | nil => rfl
  | cons i p ih => rw [List.map_cons, PV.lows, ih]; rfl
theorem low_path (p : List Nat) : (pathPV p).low 0 = true := low_ints p
end Mine
end

-- E1
section
namespace Mine
open PySem
variable [Z : Zero Frozen]

/-! # the rules as the runs below use them -/
/-- the call gives v, the store stays -/
def Giv (n : Nat) (f : Str) (args : List PV) (v : PV) : Prop := ∀ σ, Cl (T1.at n) f args σ (.ok v σ)
theorem Giv.at {n : Nat} {f : Str} {args : List PV} {v : PV} {σ : Store} (h : Giv n f args v) : Cl (T1.at n) f args σ (.ok v σ) := h σ
/-- at each depth of at least k -/
def Calls (f : Str) (args : List PV) (k : Nat) (v : PV) : Prop := ∀ n, k ≤ n → Giv n f args v
theorem Calls.mono {f : Str} {args : List PV} {k k2 : Nat} {v : PV} (h : Calls f args k v) (hk : k ≤ k2) : Calls f args k2 v := fun n hn => h n (Nat.le_trans hk hn)
def Faults (f : Str) (args : List PV) (k : Nat) (e : Exn) : Prop := ∀ n, k ≤ n → ∀ σ, Cl (T1.at n) f args σ (.exc e σ)
/-- the body gives v; what it makes besides is left behind -/
def Body (n : Nat) (D : Def) (args : List PV) (v : PV) (σ : Store) : Prop := Ws (T1.at n) D.names D.body (Vars.of D.params args) σ fun o => ∃ g, o = .ret v (σ ++ g)
def BodyX (n : Nat) (D : Def) (args : List PV) (e : Exn) (σ : Store) : Prop := Ws (T1.at n) D.names D.body (Vars.of D.params args) σ fun o => ∃ ρ g, o = .exc e ρ (σ ++ g)
section
variable {f : Str} {args : List PV} {k n : Nat} {v a b c d : PV} {D : Def} {σ σ₁ σ₂ : Store} {e : Exn} {p1 p2 p3 p4 : Str} {body : List Stmt} {N : Names}
theorem calls_of (hD : T1.defs f = some D) (hl : args.length = D.params.length) (hv : v.low 0 = true) (h : ∀ n, k ≤ n → ∀ σ, Body n D args v σ) : Calls f args (k + 1) v := fun n hn σ => by
  obtain ⟨m, rfl⟩ : ∃ m, n = m + 1 := ⟨n - 1, by omega⟩
  exact callw hD hl hv (h m (by omega) σ)
theorem faults_of (hD : T1.defs f = some D) (hl : args.length = D.params.length) (h : ∀ n, k ≤ n → ∀ σ, BodyX n D args e σ) : Faults f args (k + 1) e := fun n hn σ => by
  obtain ⟨m, rfl⟩ : ∃ m, n = m + 1 := ⟨n - 1, by omega⟩
  exact call_exc hD hl (h m (by omega) σ)
theorem call1 (h : Ws (T1.at n) N body (Vars.set Vars.no p1 a) σ fun o => ∃ g, o = .ret v (σ ++ g)) : Body n ⟨[p1], body, N⟩ [a] v σ := h
theorem call2 (h : Ws (T1.at n) N body (Vars.set (Vars.set Vars.no p1 a) p2 b) σ fun o => ∃ g, o = .ret v (σ ++ g)) : Body n ⟨[p1, p2], body, N⟩ [a, b] v σ := h
theorem call3 (h : Ws (T1.at n) N body (Vars.set (Vars.set (Vars.set Vars.no p1 a) p2 b) p3 c) σ fun o => ∃ g, o = .ret v (σ ++ g)) : Body n ⟨[p1, p2, p3], body, N⟩ [a, b, c] v σ := h
theorem call4 (h : Ws (T1.at n) N body (Vars.set (Vars.set (Vars.set (Vars.set Vars.no p1 a) p2 b) p3 c) p4 d) σ fun o => ∃ g, o = .ret v (σ ++ g)) : Body n ⟨[p1, p2, p3, p4], body, N⟩ [a, b, c, d] v σ := h
theorem callx2 (h : Ws (T1.at n) N body (Vars.set (Vars.set Vars.no p1 a) p2 b) σ fun o => ∃ ρ g, o = .exc e ρ (σ ++ g)) : BodyX n ⟨[p1, p2], body, N⟩ [a, b] e σ := h
theorem callx3 (h : Ws (T1.at n) N body (Vars.set (Vars.set (Vars.set Vars.no p1 a) p2 b) p3 c) σ fun o => ∃ ρ g, o = .exc e ρ (σ ++ g)) : BodyX n ⟨[p1, p2, p3], body, N⟩ [a, b, c] e σ := h
theorem retw {d d' : PV} {σ σ' : Store} (hd : d' = d) (hs : ∃ g, σ' = σ ++ g) : ∃ g, SO.ret d' σ' = .ret d (σ ++ g) := by
  obtain ⟨g, rfl⟩ := hs; subst hd; exact ⟨g, rfl⟩
theorem excw {ρ : Vars} {σ σ' : Store} (hs : ∃ g, σ' = σ ++ g) : ∃ ρ' g, SO.exc e ρ σ' = .exc e ρ' (σ ++ g) := by
  obtain ⟨g, rfl⟩ := hs; exact ⟨_, g, rfl⟩
theorem ext_refl {σ : Store} : ∃ g, σ = σ ++ g := ⟨[], (List.append_nil _).symm⟩
theorem ext_app {σ σ' x : Store} (h : ∃ g, σ' = σ ++ g) : ∃ g, σ' ++ x = σ ++ g := by
  obtain ⟨g, rfl⟩ := h; exact ⟨g ++ x, List.append_assoc _ _ _⟩
theorem last_at {σ : Store} {c : Cell} : (σ ++ [c])[σ.length]? = some c := by simp
theorem not_f {c : Bool} (h : c = true) : (!c) = false := by rw [h]; rfl
theorem not_t {c : Bool} (h : c = false) : (!c) = true := by rw [h]; rfl
theorem get_app {σ x : Store} {n : Nat} {c : Cell} (h : σ[n]? = some c) : (σ ++ x)[n]? = some c := by
  rw [List.getElem?_append_left (List.getElem?_eq_some_iff.mp h).1]; exact h
theorem get_hit {σ : Store} {n : Nat} {c c0 : Cell} (h : σ[n]? = some c0) : (σ.set n c)[n]? = some c := List.getElem?_set_self (List.getElem?_eq_some_iff.mp h).1
theorem get_ne {σ : Store} {n k : Nat} {c c0 : Cell} (hn : k ≠ n) (h : σ[n]? = some c0) : (σ.set k c)[n]? = some c0 := by rw [List.getElem?_set_ne hn]; exact h
theorem pre_set {σ σ' : Store} {n : Nat} {c : Cell} (h : ∃ g, σ' = σ ++ g) (hn : σ.length ≤ n) : ∃ g, σ'.set n c = σ ++ g := by
  obtain ⟨g, rfl⟩ := h
  exact ⟨g.set (n - σ.length) c, by rw [List.set_append_right _ _ hn]⟩
theorem pre_trans {σ σ' σ'' : Store} (h : ∃ g, σ' = σ ++ g) (h2 : ∃ g, σ'' = σ' ++ g) : ∃ g, σ'' = σ ++ g := by
  obtain ⟨g, rfl⟩ := h; obtain ⟨g2, rfl⟩ := h2; exact ⟨g ++ g2, List.append_assoc _ _ _⟩
end
theorem vs_hit {ρ : Vars} {x : Str} {d : PV} : Vars.set ρ x d x = some d := if_pos rfl
theorem vs_miss {ρ : Vars} {x y : Str} {d e : PV} (h : (y == x) = false) (hv : ρ y = some e) : Vars.set ρ x d y = some e := by
  unfold Vars.set; rw [if_neg (by simpa using h)]; exact hv
theorem vc_hit {N : Names} {ρ : Vars} {x : Str} {d : PV} : Vars.comp N ρ x d x = some d := if_pos rfl
theorem vc_miss {N : Names} {ρ : Vars} {x y : Str} {d e : PV} (h : (y != x && N.lookup y != some .local) = true) (hv : ρ y = some e) : Vars.comp N ρ x d y = some e := by
  rw [Bool.and_eq_true] at h
  unfold Vars.comp
  rw [if_neg (by simpa using h.1), if_neg (by simpa using h.2)]; exact hv
theorem wif_t {c : Bool} {X Y : Prop} (h : c = true) (hx : X) : if c = true then X else Y := by rw [if_pos h]; exact hx
theorem wif_f {c : Bool} {X Y : Prop} (h : c = false) (hx : Y) : if c = true then X else Y := by rw [if_neg (by rw [h]; decide)]; exact hx
section
variable {Γ : Ctx} {N : Names} {ρ : Vars} {σ σ₁ σ₂ σ₃ : Store} {O O' : SO → Prop} {x : Str} {ifs : List Expr} {elt : Expr} {v d y : PV} {all ds ys : List PV}
theorem Ws.imp {sts : List Stmt} (h : Ws Γ N sts ρ σ O) (hi : ∀ o, O o → O' o) : Ws Γ N sts ρ σ O' := .mk fun X β₀ s₀ E D β s T Q P => h.run X β₀ s₀ E D β s T Q fun o ho => P o (hi o ho)
theorem its_tup : ItemsOf (.tup ds) σ ds := rfl
theorem its_str {x : Str} : ItemsOf (.str x) σ (x.cps.toList.map fun c => .str ⟨#[c]⟩) := rfl
theorem its_list {n : Nat} (hn : σ[n]? = some (.list ds)) : ItemsOf (.ref n) σ ds := hn
theorem its_rng {a b : Int} (h : (a.natAbs < 2 ^ 60 ∧ b.natAbs < 2 ^ 60)) : ItemsOf (.rng a b) σ ((List.range (b - a).toNat).map fun (i : Nat) => PV.int (a + (i : Int))) := ⟨rfl, h⟩
theorem ci_tup (h : small ds.length = true) (h3 : Turns Γ N ρ x ifs elt (.tup ds) ds ds σ ys σ₂) : CompAt Γ N ρ x ifs elt (.tup ds) σ ys σ₂ := ⟨ds, rfl, small_le h, h3⟩
theorem ci_str {s : Str} (h : textOk s = true) (h3 : Turns Γ N ρ x ifs elt (.str s) (s.cps.toList.map fun c => .str ⟨#[c]⟩) (s.cps.toList.map fun c => .str ⟨#[c]⟩) σ ys σ₂) : CompAt Γ N ρ x ifs elt (.str s) σ ys σ₂ := ⟨_, rfl, by have := text_le h; simpa [Str.length] using this, h3⟩
theorem ci_list {n : Nat} (hn : σ[n]? = some (.list ds)) (h : small ds.length = true) (h3 : Turns Γ N ρ x ifs elt (.ref n) ds ds σ ys σ₂) : CompAt Γ N ρ x ifs elt (.ref n) σ ys σ₂ := ⟨ds, hn, small_le h, h3⟩
theorem turns_nil : Turns Γ N ρ x ifs elt v all [] σ [] σ := .nil
theorem turns_cons (h1 : Ei Γ N (Vars.comp N ρ x d) ifs σ (.ok true σ₁)) (h2 : Ev Γ N (Vars.comp N ρ x d) elt σ₁ (.ok y σ₂)) (hi : ItemsOf v σ₂ all) (h3 : Turns Γ N ρ x ifs elt v all ds σ₂ ys σ₃) : Turns Γ N ρ x ifs elt v all (d :: ds) σ (y :: ys) σ₃ := .cons h1 h2 hi h3
theorem turns_skip (h1 : Ei Γ N (Vars.comp N ρ x d) ifs σ (.ok false σ₁)) (hi : ItemsOf v σ₁ all) (h3 : Turns Γ N ρ x ifs elt v all ds σ₁ ys σ₃) : Turns Γ N ρ x ifs elt v all (d :: ds) σ ys σ₃ := .skip h1 hi h3
theorem turns_none (hi : ItemsOf v σ all) : ∀ {ds : List PV}, (∀ d ∈ ds, Ei Γ N (Vars.comp N ρ x d) ifs σ (.ok false σ)) → Turns Γ N ρ x ifs elt v all ds σ [] σ
  | [], _ => .nil
  | d :: ds, h => .skip (h d (List.mem_cons_self ..)) hi (turns_none hi fun x hx => h x (List.mem_cons_of_mem _ hx))
theorem turns_map {α : Type} {f g : α → PV} (hi : ItemsOf v σ all) : ∀ {l : List α}, (∀ a ∈ l, Ei Γ N (Vars.comp N ρ x (f a)) ifs σ (.ok true σ) ∧ Ev Γ N (Vars.comp N ρ x (f a)) elt σ (.ok (g a) σ)) → Turns Γ N ρ x ifs elt v all (l.map f) σ (l.map g) σ
  | [], _ => .nil
  | a :: l, h => .cons (h a (List.mem_cons_self ..)).1 (h a (List.mem_cons_self ..)).2 hi (turns_map hi fun y hy => h y (List.mem_cons_of_mem _ hy))
theorem wforI {x : Str} {body : List Stmt} (I : List PV → Vars → Store → Prop) (h0 : I ds ρ σ) (hb : ∀ d r ρ σ, I (d :: r) ρ σ → Ws Γ N body (Vars.set ρ x d) σ (TurnO v all (I r) O)) (he : ∀ ρ σ, I [] ρ σ → O (.next ρ σ)) : Fg Γ N x body v all O ds ρ σ := wfor I hb he h0
theorem tw_next {K : Vars → Store → Prop} (h : K ρ σ) : TurnW K O (.next ρ σ) := h
theorem tw_brk {K : Vars → Store → Prop} (h : O (.next ρ σ)) : TurnW K O (.brk ρ σ) := h
theorem tw_ret {K : Vars → Store → Prop} (h : O (.ret d σ)) : TurnW K O (.ret d σ) := h
end
theorem eq_tups {a b : List PV} {σ : Store} (h : (PV.lays a && PV.lays b && decide (PV.depths a + 1 < 2000)) = true) : Eqt (.tup a) (.tup b) σ (PyData.eqvAll (PV.toDs a) (PV.toDs b)) := eq_plain (x := .tup a) (y := .tup b) h
theorem rng0 {σ : Store} : ItemsOf (.rng 0 0) σ [] := ⟨rfl, by decide, by decide⟩
theorem rng1 {σ : Store} : ItemsOf (.rng 0 1) σ [.int 0] := ⟨rfl, by decide, by decide⟩
theorem rng2 {σ : Store} : ItemsOf (.rng 0 2) σ [.int 0, .int 1] := ⟨rfl, by decide, by decide⟩
theorem rng13 {σ : Store} : ItemsOf (.rng 1 3) σ [.int 1, .int 2] := ⟨rfl, by decide, by decide⟩
theorem rng12 {σ : Store} : ItemsOf (.rng 1 2) σ [.int 1] := ⟨rfl, by decide, by decide⟩
/-- the call gives a list that is new -/
def GivL (n : Nat) (f : Str) (args : List PV) (ds : List PV) : Prop := ∀ σ, Cl (T1.at n) f args σ (.ok (.ref σ.length) (σ ++ [.list ds]))
theorem GivL.at {n : Nat} {f : Str} {args ds : List PV} {σ : Store} (h : GivL n f args ds) : Cl (T1.at n) f args σ (.ok (.ref σ.length) (σ ++ [.list ds])) := h σ
end Mine
end

section
set_option compiler.extract_closed false
set_option maxHeartbeats 2000000
namespace Mine
open PySem
local macro_rules | `(tactic| walk_at "l") => `(tactic| first
  | rfl
  | with_reducible exact B.low_pv _
  | with_reducible exact T.low_pv _
  | with_reducible exact low_path _
  | with_reducible assumption)
local macro_rules | `(tactic| walk_at "v") => `(tactic| first
  | with_reducible exact vs_hit
  | with_reducible exact vc_hit
  | ((with_reducible apply vs_miss); (· kernel_rfl!); walk_at "v")
  | ((with_reducible apply vc_miss); (· kernel_rfl!); walk_at "v")
  | with_reducible assumption)
local macro_rules | `(tactic| walk_at "b") => `(tactic| first
  | with_reducible assumption
  | kernel_rfl!
  | with_reducible exact decide_eq_true (by assumption)
  | with_reducible exact decide_eq_false (by assumption)
  | with_reducible exact v_lam _ | with_reducible exact v_app _ | with_reducible exact v_fr _ _ | with_reducible exact fr_lam _ | with_reducible exact fr_app _
  | ((with_reducible apply not_f); walk_at "b") | ((with_reducible apply not_t); walk_at "b")
  | exact decide_eq_true (by omega)
  | exact decide_eq_false (by omega))
local macro_rules | `(tactic| walk_at "s") => `(tactic| first
  | kernel_rfl!
  | with_reducible assumption
  | with_reducible exact strOk_v _ | with_reducible exact strOk_fr _ | with_reducible exact strOk_ofString _ | with_reducible exact strOk_nm _ | with_reducible exact strOk_num _)
local macro_rules | `(tactic| walk_at "g") => `(tactic| first
  | with_reducible exact last_at
  | with_reducible assumption
  | ((with_reducible apply get_app); walk_at "g")
  | ((with_reducible apply get_hit); walk_at "g")
  | ((with_reducible apply get_ne); (· first | with_reducible assumption | omega); walk_at "g"))
local macro_rules | `(tactic| walk_at "e") => `(tactic| first
  | with_reducible exact es_nil
  | with_reducible exact rfl
  | with_reducible exact ext_refl
  | with_reducible apply ext_app
  | ((with_reducible apply es_cons); (· exact rfl))
  | ((with_reducible apply v_const); exact rfl)
  | ((with_reducible apply v_name); (· kernel_rfl!); walk_at "v")
  | ((with_reducible apply v_glob); (· kernel_rfl!); exact rfl)
  | ((with_reducible apply v_call); (· kernel_rfl!))
  | ((with_reducible apply v_ins); (· exact rfl); (· kernel_rfl!))
  | with_reducible exact ins_tup | with_reducible exact ins_str | with_reducible exact ins_int
  | ((with_reducible apply v_built); (· kernel_rfl!))
  | with_reducible apply v_bin
  | with_reducible apply v_cmp
  | with_reducible apply v_tup
  | with_reducible apply v_slice
  | ((with_reducible apply v_item); (· exact rfl))
  | with_reducible exact o_none
  | with_reducible apply o_some
  | with_reducible apply v_if
  | with_reducible apply v_bool
  | with_reducible apply v_neg
  | with_reducible apply v_not
  | with_reducible apply v_list
  | ((with_reducible apply v_meth); (· kernel_rfl!))
  | ((with_reducible apply v_joined); (· kernel_rfl!))
  | with_reducible apply ci_tup
  | with_reducible exact turns_nil
  | with_reducible exact f_nil
  | ((with_reducible apply f_text); (· kernel_rfl!))
  | ((with_reducible apply f_field); (· exact rfl))
  | with_reducible apply t_cmp
  | with_reducible apply t_not
  | with_reducible apply t_bool
  | with_reducible apply t_call
  | with_reducible apply t_name
  | with_reducible apply t_const
  | with_reducible exact a_nil
  | with_reducible apply a_and
  | with_reducible apply a_or
  | with_reducible apply b_one
  | with_reducible apply b_and
  | with_reducible apply b_or
  | with_reducible exact i_nil
  | with_reducible apply i_one
  | ((with_reducible apply w_two); (· kernel_rfl!))
  | with_reducible apply w_expr
  | with_reducible apply w_ret
  | with_reducible apply w_if
  | with_reducible apply w_next
  | with_reducible apply w_nil
  | with_reducible apply w_sret
  | ((with_reducible apply wif_t); (· walk_at "b"))
  | ((with_reducible apply wif_f); (· walk_at "b"))
  | with_reducible apply retw
  | with_reducible assumption
  | with_reducible exact op_add | with_reducible exact op_sub
  | ((with_reducible apply op_tup); walk_at "s")
  | ((with_reducible apply op_cat); walk_at "s")
  | ((with_reducible apply op_mod); first | omega | decide)
  | ((with_reducible apply op_div); first | omega | decide)
  | ((with_reducible apply op_mul); omega)
  | ((with_reducible apply len_list); (· walk_at "g"); walk_at "s")
  | ((with_reducible apply eq_lists); (· walk_at "g"); (· walk_at "g"); walk_at "s")
  | with_reducible exact k_lt | with_reducible exact k_le | with_reducible exact k_gt | with_reducible exact k_ge
  | with_reducible apply k_eq
  | with_reducible apply k_ne
  | with_reducible exact k_is_none | with_reducible exact k_is_tup | with_reducible exact k_isnot_none | with_reducible exact k_isnot_tup
  | ((with_reducible apply eq_str) <;> walk_at "s")
  | with_reducible exact eq_int
  | ((with_reducible apply it_tup); (· kernel_rfl!); exact rfl)
  | ((with_reducible apply it_ref); (· walk_at "g"); (· kernel_rfl!); with_reducible assumption)
  | ((with_reducible apply sl_1); walk_at "s")
  | ((with_reducible apply sl_2); walk_at "s")
  | ((with_reducible apply sl_h1); walk_at "s")
  | ((with_reducible apply len_tup); walk_at "s")
  | ((with_reducible apply len_str); walk_at "s")
  | ((with_reducible apply tuple_list) <;> first | walk_at "g" | walk_at "s")
  | ((with_reducible apply int_str); with_reducible assumption)
  | ((with_reducible apply range_1); walk_at "b")
  | ((with_reducible apply range_2); walk_at "b")
  | with_reducible exact its_tup | with_reducible exact its_str
  | ((with_reducible apply its_list); walk_at "g")
  | ((with_reducible refine (?_ : ItemsOf (.rng 0 _) _ [.int 0])); exact rng1)
  | ((with_reducible refine (?_ : ItemsOf (.rng 0 _) _ [.int 0, .int 1])); exact rng2)
  | ((with_reducible refine (?_ : ItemsOf (.rng 1 _) _ [.int 1])); exact rng12)
  | ((with_reducible refine (?_ : ItemsOf (.rng 1 _) _ [.int 1, .int 2])); exact rng13)
  | ((with_reducible apply GivL.at); with_reducible assumption)
  | ((with_reducible apply w_set); (· kernel_rfl!))
  | ((with_reducible apply w_setc); (· kernel_rfl!))
  | ((with_reducible apply w_item); (· exact rfl))
  | ((with_reducible apply w_for); (· kernel_rfl!))
  | with_reducible apply fg_nil
  | with_reducible apply fg_cons
  | with_reducible apply ts_next
  | with_reducible apply ts_ret
  | with_reducible apply ts_brk
  | with_reducible apply ts_exc
  | with_reducible apply tw_ret
  | with_reducible apply tw_brk
  | with_reducible apply w_sbrk
  | with_reducible apply w_brk
  | with_reducible apply excw
  | ((with_reducible apply v_comp); (· kernel_rfl!))
  | with_reducible apply turns_cons
  | ((with_reducible apply c_one); (· exact rfl))
  | with_reducible apply c_cons
  | ((with_reducible apply Giv.at); with_reducible assumption)
  | ((with_reducible apply kn_append); walk_at "g")
  | ((with_reducible apply kn_extend); walk_at "g")
  | ((with_reducible apply kn_pop); walk_at "g")
  | ((with_reducible apply kn_index); walk_at "g")
  | ((with_reducible apply m_append); (· walk_at "g"); walk_at "s")
  | ((with_reducible apply m_extend); (· walk_at "g"); (· walk_at "g"); walk_at "s")
  | ((with_reducible apply str_int); first | with_reducible assumption | omega)
  | ((with_reducible refine (?_ : small _ = true)); walk_at "s")
  | with_reducible exact rfl)
section
variable [Z : Zero Frozen]
-- Q4
theorem below_spec (t : B) : Calls "below" [t.pv] 1 (.int (match t with | .lam _ => 1 | _ => 0)) := by
  refine calls_of rfl rfl (by walk_at "l") fun n _ σ => ?_
  cases t <;> (unfold B.pv; apply call1; dsimp only; repeat walk_at "e")
theorem variable_spec (i : Nat) (h : i < 10 ^ 9) : Calls "variable" [.int i] 1 (B.var i).pv := by
  refine calls_of rfl rfl (by walk_at "l") fun n _ σ => ?_
  have e : Fld (.int (i : Int)) (strOfInt i) := fld_int (by omega)
  apply call1
  dsimp only
  repeat walk_at "e"
  · show PV.tup [.str (([Str.ofString "var", strOfInt i] : List Str).foldl (· ++ ·) Str.empty)] = .tup [.str (vtext i)]
    simp only [List.foldl_cons, List.foldl_nil, empty_append]; rfl
  repeat walk_at "e"
theorem filter_none (ds : List PV) : ds.filter (fun _ => false) = [] := List.filter_eq_nil_iff.mpr (fun _ _ => by simp)
theorem str_digit (c : Nat) (h : 48 ≤ c ∧ c ≤ 57) : c ∈ (Str.ofString "0123456789").cps := by
  have this : c ∈ (Str.ofString "0123456789").cps.toList := by
    rw [signs_txt]
    have e : ∀ k, k < 10 → (48 + k) ∈ ("0123456789" : String).toList.map Char.toNat := by decide
    have h2 := e (c - 48) (by omega)
    rwa [Nat.add_sub_cancel' h.1] at h2
  exact Array.mem_toList_iff.mp this
theorem num_len (i : Nat) (h : i < 10 ^ 9) : (strOfInt (i : Int)).length ≤ 10 := PySem.W.KT.len_num (by omega) (by omega)
theorem num_ne (i : Nat) : strOfInt (i : Int) ≠ Str.ofString "" := fun e => digits_ne i (by rw [e, signs_txt]; rfl)


theorem is_row_spec (i : Nat) (h : i < 10 ^ 9) : Calls "is_row_of" [.str (strOfInt i), .str "0123456789"] 1 (.bool true) := by
  refine calls_of rfl rfl (by walk_at "l") fun n _ σ => ?_
  have hl := num_len i h
  have ht : textOk (strOfInt (i : Int)) = true := text_of (by omega)
  have hne : (strOfInt (i : Int) == Str.ofString "") = false := by rw [beq_eq_false_iff_ne]; exact num_ne i
  have hne' : (!(strOfInt (i : Int) == Str.ofString "")) = true := by rw [hne]; rfl
  apply call2
  dsimp only
  repeat walk_at "e"
  · refine ci_str ht (turns_none its_str fun d hd => ?_)
    obtain ⟨c, hc, rfl⟩ := List.mem_map.mp hd
    have hd := str_digit c (digits_all i c hc)
    have hb : (!((Str.ofString "0123456789").cps.toList.contains c)) = false := by simpa using hd
    rw [← hb]
    repeat walk_at "e"
    exact k_notin rfl
  repeat walk_at "e"
  · rfl
  repeat walk_at "e"
theorem sign_zero (i : Nat) : ∃ d, signAt (strOfInt (i : Int)) 0 = some (.str d) ∧ PyData.strOk d = true ∧ ((d == Str.ofString "0") = true → strOfInt (i : Int) = Str.ofString "0") := by
  cases h : (strOfInt (i : Int)).cps.toList with
  | nil => exact absurd h (digits_ne i)
  | cons c r =>
    have hc := digits_all i c (by rw [h]; exact List.mem_cons_self ..)
    refine ⟨⟨#[c]⟩, by unfold signAt pickAt; rw [h]; rfl, by unfold PyData.strOk; simp; omega, fun e => ?_⟩
    have e := congrArg (fun s : Str => s.cps.toList) (beq_iff_eq.mp e)
    simp only [signs_txt] at e
    have e48 : c = 48 := by simpa using e
    subst e48
    have hr := no_zero i r h
    subst hr
    refine str_ext ?_
    rw [h, signs_txt]; rfl

theorem number_spec (i : Nat) (h : i < 10 ^ 9) : Calls "number_behind" [.str (vtext i), .str "var"] 2 (.int i) := by
  refine calls_of rfl rfl (by walk_at "l") fun n hn σ => ?_
  have hl := num_len i h
  have hr := is_row_spec i h n (by omega)
  have e3 : (Str.ofString "var").length = 3 := by rw [show (Str.ofString "var").length = (Str.ofString "var").cps.toList.length from Array.length_toList.symm, codes_var]; rfl
  have el : (vtext i).length = 3 + (strOfInt (i : Int)).length := by
    rw [show (vtext i).length = (vtext i).cps.toList.length from Array.length_toList.symm, codes_v, List.length_append, Array.length_toList]; rfl
  have ht : textOk (vtext i) = true := text_of (by omega)
  have hi3 : ((Str.ofString "var").length : Int) = ((3 : Nat) : Int) := by rw [e3]
  obtain ⟨d, hd, hd1, hd2⟩ := sign_zero i
  have hb := int_back i h
  have hv1 : (⟨(cut (vtext i).cps.toList (some 3) none).toArray⟩ : Str) = strOfInt (i : Int) := v_drop i
  have hv2 : (⟨(cut (vtext i).cps.toList none (some 3)).toArray⟩ : Str) = Str.ofString "var" := v_take i
  have hq3 : (d == Str.ofString "0") = true → (!(strOfInt (i : Int) == Str.ofString "0")) = false := fun h => by rw [hd2 h]; simp
  have go : ∀ c : Bool, (d == Str.ofString "0") = c → Body n (defAt PySem.Challenge.pw_pq0040_01 12) [.str (vtext i), .str "var"] (.int i) σ := by
    intro c hq
    apply call2
    dsimp only
    repeat walk_at "e"
    · exact sl_str (bd_nat hi3 (by kernel_rfl!)) bd_none ht
    rw [hv1]
    repeat walk_at "e"
    · exact sl_str bd_none (bd_nat hi3 (by kernel_rfl!)) ht
    rw [hv2]
    repeat walk_at "e"
    · exact it_str rfl hd
    repeat walk_at "e"
    · cases c with
      | false => exact wif_f hq rfl
      | true =>
        apply wif_t hq
        have hq4 := hq3 hq
        repeat walk_at "e"
    repeat walk_at "e"
  exact go _ rfl
theorem strOk_take (x : Str) (n : Nat) (h : PyData.strOk x = true) : PyData.strOk ⟨(x.cps.toList.take n).toArray⟩ = true := by
  unfold PyData.strOk at h ⊢
  rw [← Array.all_toList, List.all_eq_true] at h ⊢
  exact fun c hc => h c (List.mem_of_mem_take hc)
def B.index : B → Int
  | .var i => i
  | _ => -1
def B.vars : B → Nat → Prop
  | .var i, b => i < b
  | .fr _, _ => True
  | .lam a, b => a.vars b
  | .app a c, b => a.vars b ∧ c.vars b
theorem number_free (k : Bool) : Calls "number_behind" [.str (frText k), .str "var"] 2 (.int (-1)) := by
  refine calls_of rfl rfl (by walk_at "l") fun n hn σ => ?_
  have e3 : (Str.ofString "var").length = 3 := by rw [show (Str.ofString "var").length = (Str.ofString "var").cps.toList.length from Array.length_toList.symm, codes_var]; rfl
  have ht : textOk (frText k) = true := text_of (by
    rw [show (frText k).length = (frText k).cps.toList.length from Array.length_toList.symm]
    cases k <;> (simp only [frText, Bool.false_eq_true, ↓reduceIte, signs_txt]; decide))
  have hi3 : ((Str.ofString "var").length : Int) = ((3 : Nat) : Int) := by rw [e3]
  have hv : ((⟨(cut (frText k).cps.toList none (some 3)).toArray⟩ : Str) == Str.ofString "var") = false := fr_take k
  have hv2 : (!((⟨(cut (frText k).cps.toList none (some 3)).toArray⟩ : Str) == Str.ofString "var")) = true := by rw [hv]; rfl
  have hs : PyData.strOk (⟨(cut (frText k).cps.toList none (some 3)).toArray⟩ : Str) = true := strOk_take _ 3 (strOk_fr k)
  apply call2
  dsimp only
  repeat walk_at "e"
  · exact sl_str (bd_nat hi3 (by kernel_rfl!)) bd_none ht
  repeat walk_at "e"
  · exact sl_str bd_none (bd_nat hi3 (by kernel_rfl!)) ht
  repeat walk_at "e"
theorem index_spec (t : B) (h : t.vars (10 ^ 9)) : Calls "index_of" [t.pv] 3 (.int t.index) := by
  refine calls_of rfl rfl (by walk_at "l") fun n hn σ => ?_
  cases t with
  | var i =>
    have h1 := number_spec i h n (by omega)
    unfold B.pv B.index; apply call1; dsimp only; repeat walk_at "e"
  | fr k =>
    have h1 := number_free k n (by omega)
    unfold B.pv B.index; apply call1; dsimp only; repeat walk_at "e"
  | _ => unfold B.pv B.index; apply call1; dsimp only; repeat walk_at "e"
end
section
variable [Z : Zero Frozen]
-- Q5
def B.sh : B → Nat → B
  | .var i, a => if a ≤ i then .var (i + 1) else .var i
  | .fr k, _ => .fr k
  | .lam b, a => .lam (b.sh (a + 1))
  | .app b c, a => .app (b.sh a) (c.sh a)
def B.put : B → Nat → B → B
  | .var i, k, u => if i = k then u else if k < i then .var (i - 1) else .var i
  | .fr c, _, _ => .fr c
  | .lam b, k, u => .lam (b.put (k + 1) (u.sh 0))
  | .app a b, k, u => .app (a.put k u) (b.put k u)
theorem B.vars_mono {t : B} {a b : Nat} (h : t.vars a) (hab : a ≤ b) : t.vars b := by
  induction t with
  | var i => exact Nat.lt_of_lt_of_le h hab
  | fr k => trivial
  | lam b ih => exact ih h
  | app x y ih1 ih2 => exact ⟨ih1 h.1, ih2 h.2⟩
theorem B.vars_sh {t : B} {b : Nat} (h : t.vars b) : ∀ a, (t.sh a).vars (b + 1) := by
  induction t with
  | var i => intro a; have : i < b := h; unfold B.sh; split <;> (show _ < _; omega)
  | fr k => intro a; trivial
  | lam b ih => exact fun a => ih h (a + 1)
  | app x y ih1 ih2 => exact fun a => ⟨ih1 h.1 a, ih2 h.2 a⟩
theorem B.size_sh (t : B) : ∀ a, (t.sh a).size = t.size := by
  induction t with
  | var i => intro a; unfold B.sh; split <;> rfl
  | fr k => intro a; rfl
  | lam b ih => intro a; show (b.sh _).size + 1 = _; rw [ih]; rfl
  | app x y ih1 ih2 => intro a; show (x.sh _).size + (y.sh _).size + 1 = _; rw [ih1, ih2]; rfl

theorem below_lam (b : B) : Calls "below" [.tup [.str (Str.ofString "lam"), b.pv]] 1 (.int 1) := below_spec (.lam b)
theorem below_app (a b : B) : Calls "below" [.tup [.str (Str.ofString "app"), a.pv, b.pv]] 1 (.int 0) := below_spec (.app a b)
theorem below_fr (k : Bool) : Calls "below" [.tup [.str (frText k)]] 1 (.int 0) := below_spec (.fr k)
theorem below_var (i : Nat) : Calls "below" [.tup [.str (vtext i)]] 1 (.int 0) := below_spec (.var i)

theorem moved_spec (t : B) (h : t.vars (10 ^ 8)) : ∀ a : Nat, Calls "moved_within" [t.pv, .int 1, .int 0, .int a] (t.size + 4) (t.sh a).pv := by
  induction t with
  | var i =>
    intro a
    refine calls_of rfl rfl (by walk_at "l") fun n hn σ => ?_
    have hi := index_spec (.var i) (B.vars_mono h (by decide)) n (by omega)
    have h' : i < 10 ^ 8 := h
    have hv : Giv n (Str.ofString "variable") [.int ((i : Int) + 1)] (B.var (i + 1)).pv := variable_spec (i + 1) (by omega) n (by omega)
    unfold B.pv B.index at hi
    have hb := below_var i n (by omega)
    by_cases ha : a ≤ i
    · have e1 : (0 : Int) + a ≤ i := by omega
      have e2 : ¬ ((i : Int) + 1 < a) := by omega
      have e3 : (B.var i).sh a = .var (i + 1) := if_pos ha
      rw [e3]; unfold B.pv at hv ⊢; apply call4; dsimp only; repeat walk_at "e"
    · have e1 : ¬ ((0 : Int) + a ≤ i) := by omega
      have e3 : (B.var i).sh a = .var i := if_neg ha
      rw [e3]; unfold B.pv; apply call4; dsimp only; repeat walk_at "e"
      · rfl
      repeat walk_at "e"
  | fr k =>
    intro a
    refine calls_of rfl rfl (by walk_at "l") fun n hn σ => ?_
    have hi := index_spec (.fr k) h n (by omega)
    unfold B.pv B.index at hi
    have hb := below_fr k n (by omega)
    have e1 : ¬ ((0 : Int) + a ≤ -1) := by omega
    show Body n _ [.tup [.str (frText k)], _, _, _] (.tup [.str (frText k)]) σ
    apply call4; dsimp only; repeat walk_at "e"
    · rfl
    repeat walk_at "e"
  | lam b ih =>
    intro a
    refine calls_of rfl rfl (by walk_at "l") fun n hn σ => ?_
    have hi := index_spec (.lam b) (B.vars_mono h (by decide)) n (by omega)
    unfold B.pv B.index at hi
    have hz : (B.lam b).size = b.size + 1 := rfl
    have h1 : Giv n (Str.ofString "moved_within") [b.pv, .int 1, .int 0, .int ((a : Int) + 1)] (b.sh (a + 1)).pv := ih h (a + 1) n (by omega)
    have hb := below_lam b n (by omega)
    have e1 : ¬ ((0 : Int) + a ≤ -1) := by omega
    show Body n _ [.tup [.str "lam", b.pv], _, _, _] (.tup [.str "lam", (b.sh (a + 1)).pv]) σ
    apply call4; dsimp only; repeat walk_at "e"
    · rfl
    repeat walk_at "e"
  | app b c ih1 ih2 =>
    intro a
    refine calls_of rfl rfl (by walk_at "l") fun n hn σ => ?_
    have hi := index_spec (.app b c) (B.vars_mono h (by decide)) n (by omega)
    unfold B.pv B.index at hi
    have hz : (B.app b c).size = b.size + c.size + 1 := rfl
    have h1 := ih1 h.1 a n (by omega)
    have h2 := ih2 h.2 a n (by omega)
    rw [← Int.add_zero (a : Int)] at h1 h2
    have hb := below_app b c n (by omega)
    have e1 : ¬ ((0 : Int) + a ≤ -1) := by omega
    show Body n _ [.tup [.str "app", b.pv, c.pv], _, _, _] (.tup [.str "app", (b.sh a).pv, (c.sh a).pv]) σ
    apply call4; dsimp only; repeat walk_at "e"
    · rfl
    repeat walk_at "e"
theorem shifted_spec (t : B) (h : t.vars (10 ^ 8)) : Calls "shifted" [t.pv, .int 1, .int 0] (t.size + 5) (t.sh 0).pv := by
  refine calls_of rfl rfl (by walk_at "l") fun n hn σ => ?_
  have hm : Giv n (Str.ofString "moved_within") [t.pv, .int 1, .int 0, .int 0] (t.sh 0).pv := moved_spec t h 0 n (by omega)
  apply call3; dsimp only; repeat walk_at "e"
end
section
variable [Z : Zero Frozen]
-- Q6
theorem put_spec (t : B) (h : t.vars (10 ^ 8)) : ∀ (k : Nat) (u : B) (b : Nat), u.vars b → b + t.size ≤ 10 ^ 8 → Calls "put_in" [t.pv, .int k, u.pv] (t.size + u.size + 6) (t.put k u).pv := by
  induction t with
  | var i =>
    intro k u b hu hb
    refine calls_of rfl rfl (by walk_at "l") fun n hn σ => ?_
    have hi := index_spec (.var i) (B.vars_mono h (by decide)) n (by omega)
    have h' : i < 10 ^ 8 := h
    have hv := variable_spec (i - 1) (by omega) n (by omega)
    unfold B.index B.pv at hi
    have e0 : (0 : Int) ≤ i := by omega
    by_cases ha : i = k
    · subst ha
      have e1 : ((i : Int) == i) = true := by simp
      rw [show (B.var i).put i u = u from if_pos rfl, show (B.var i).pv = .tup [.str (vtext i)] from rfl]
      apply call3; dsimp only; repeat walk_at "e"
    · have e1 : ((i : Int) == k) = false := by simp; omega
      by_cases hk : k < i
      · have e2 : ((k : Int) < i) := by omega
        have e3 : (i : Int) - 1 = ((i - 1 : Nat) : Int) := by omega
        have hv : Giv n (Str.ofString "variable") [.int ((i : Int) - 1)] (B.var (i - 1)).pv := by rw [e3]; exact hv
        rw [show (B.var i).put k u = .var (i - 1) from (if_neg ha).trans (if_pos hk), show (B.var i).pv = .tup [.str (vtext i)] from rfl]
        apply call3; dsimp only; repeat walk_at "e"
      · have e2 : ¬ ((k : Int) < i) := by omega
        rw [show (B.var i).put k u = .var i from (if_neg ha).trans (if_neg hk), show (B.var i).pv = .tup [.str (vtext i)] from rfl]
        apply call3; dsimp only; repeat walk_at "e"
  | fr c =>
    intro k u b hu hb
    refine calls_of rfl rfl (by walk_at "l") fun n hn σ => ?_
    have hi := index_spec (.fr c) h n (by omega)
    unfold B.index B.pv at hi
    have hbl := below_fr c n (by omega)
    show Body n _ [.tup [.str (frText c)], _, _] (.tup [.str (frText c)]) σ
    apply call3; dsimp only; repeat walk_at "e"
    · rfl
    repeat walk_at "e"
  | lam c ih =>
    intro k u b hu hb
    refine calls_of rfl rfl (by walk_at "l") fun n hn σ => ?_
    have hz : (B.lam c).size = c.size + 1 := rfl
    have hi := index_spec (.lam c) (B.vars_mono h (by decide)) n (by omega)
    unfold B.index B.pv at hi
    have hbl := below_lam c n (by omega)
    have hs := shifted_spec u (B.vars_mono hu (by omega)) n (by omega)
    have h1 : Giv n (Str.ofString "put_in") [c.pv, .int ((k : Int) + 1), (u.sh 0).pv] (c.put (k + 1) (u.sh 0)).pv :=
      ih h (k + 1) (u.sh 0) (b + 1) (B.vars_sh hu 0) (by omega) n (by rw [B.size_sh]; omega)
    show Body n _ [.tup [.str "lam", c.pv], _, _] (.tup [.str "lam", (c.put (k + 1) (u.sh 0)).pv]) σ
    apply call3; dsimp only; repeat walk_at "e"
    · rfl
    repeat walk_at "e"
  | app x y ih1 ih2 =>
    intro k u b hu hb
    refine calls_of rfl rfl (by walk_at "l") fun n hn σ => ?_
    have hz : (B.app x y).size = x.size + y.size + 1 := rfl
    have hi := index_spec (.app x y) (B.vars_mono h (by decide)) n (by omega)
    unfold B.index B.pv at hi
    have hbl := below_app x y n (by omega)
    have h1 := ih1 h.1 k u b hu (by omega) n (by omega)
    have h2 := ih2 h.2 k u b hu (by omega) n (by omega)
    rw [← Int.add_zero (k : Int)] at h1 h2
    show Body n _ [.tup [.str "app", x.pv, y.pv], _, _] (.tup [.str "app", (x.put k u).pv, (y.put k u).pv]) σ
    apply call3; dsimp only; repeat walk_at "e"
    · rfl
    repeat walk_at "e"

def B.redex : B → Bool
  | .app (.lam _) _ => true
  | _ => false
theorem redex_spec (t : B) : Calls "is_redex" [t.pv] 2 (.bool t.redex) := by
  refine calls_of rfl rfl (by walk_at "l") fun n hn σ => ?_
  cases t with
  | app a b =>
    cases a with
    | var i => have h := below_var i n (by omega); unfold B.redex B.pv B.pv; apply call1; dsimp only; (repeat walk_at "e"); (try rfl); repeat walk_at "e"
    | fr i => have h := below_fr i n (by omega); unfold B.redex B.pv B.pv; apply call1; dsimp only; (repeat walk_at "e"); (try rfl); repeat walk_at "e"
    | lam i => have h := below_lam i n (by omega); unfold B.redex B.pv B.pv; apply call1; dsimp only; (repeat walk_at "e"); (try rfl); repeat walk_at "e"
    | app i j => have h := below_app i j n (by omega); unfold B.redex B.pv B.pv; apply call1; dsimp only; (repeat walk_at "e"); (try rfl); repeat walk_at "e"
  | _ => unfold B.redex B.pv; apply call1; dsimp only; (repeat walk_at "e"); (try rfl); repeat walk_at "e"
end
section
variable [Z : Zero Frozen]
-- Q7
def B.kid : B → Nat → Option B
  | .lam b, 0 => some b
  | .app a _, 0 => some a
  | .app _ b, 1 => some b
  | _, _ => none
def B.part : B → List Nat → Option B
  | t, [] => some t
  | t, i :: p => match t.kid i with
    | some k => k.part p
    | none => none
def B.repl (u : B) : B → List Nat → B
  | _, [] => u
  | .lam b, 0 :: p => .lam (B.repl u b p)
  | .app a b, 0 :: p => .app (B.repl u a p) b
  | .app a b, 1 :: p => .app a (B.repl u b p)
  | t, _ => t

theorem B.pv_tup (t : B) : ∃ w l, t.pv = .tup (.str w :: l) ∧ ∀ i k, t.kid i = some k → l[i]? = some k.pv := by
  cases t with
  | var i => exact ⟨_, [], rfl, fun i k h => by cases i <;> cases h⟩
  | fr i => exact ⟨_, [], rfl, fun i k h => by cases i <;> cases h⟩
  | lam b => exact ⟨_, [b.pv], rfl, fun i k h => by
      match i, h with
      | 0, h => cases h; rfl⟩
  | app a b => exact ⟨_, [a.pv, b.pv], rfl, fun i k h => by
      match i, h with
      | 0, h => cases h; rfl
      | 1, h => cases h; rfl⟩
theorem B.pv_small {t : B} {w : Str} {l : List PV} (h : t.pv = .tup (.str w :: l)) : l.length ≤ 2 := by
  cases t <;> cases h <;> simp
theorem part_spec (t u : B) (p : List Nat) (hl : p.length ≤ 100000) (h : t.part p = some u) : Calls "part_at" [t.pv, pathPV p] 1 u.pv := by
  refine calls_of rfl rfl (by walk_at "l") fun n hn σ => ?_
  have hs : small (p.map fun (i : Nat) => PV.int (i : Int)).length = true := small_of (by simpa using hl)
  apply call2
  dsimp only
  unfold pathPV
  repeat walk_at "e"
  refine wforI (fun ds ρ σ' => ∃ p' t', ds = p'.map (fun (i : Nat) => PV.int (i : Int)) ∧ B.part t' p' = some u ∧ ρ "t" = some t'.pv ∧ ∃ g, σ' = σ ++ g) ⟨p, t, rfl, h, rfl, [], by simp⟩ ?_ ?_
  · rintro d r ρ σ' ⟨p', t', hds, hp, ht, g, rfl⟩
    cases p' with
    | nil => cases hds
    | cons i p' =>
    cases hds
    unfold B.part at hp
    cases hk : t'.kid i with
    | none => rw [hk] at hp; cases hp
    | some t2 =>
    rw [hk] at hp
    obtain ⟨w, l, e1, e2⟩ := t'.pv_tup
    have e3 := B.pv_small e1
    have e4 := e2 i t2 hk
    rw [e1] at ht
    have e5 : (0 : Int) ≤ (i : Int) := by omega
    have e6 := (List.getElem?_eq_some_iff.mp e4).1
    have e7 : ((i : Int) < (((PV.str w :: l).length : Nat) : Int) - 1) := by simp; omega
    have e8 : small (PV.str w :: l).length = true := small_of (by simp; omega)
    have e9 : (PV.str w :: l)[i + 1]? = some t2.pv := e4
    have e10 : Itm (.tup (PV.str w :: l)) (.int ((i : Int) + 1)) (σ ++ g) (.ok t2.pv (σ ++ g)) := it_tup (decide_eq_true (by omega)) (pk_nat (k := i + 1) (by omega) e9)
    repeat walk_at "e"
    exact ⟨p', t2, rfl, hp, vs_hit, g, rfl⟩
  · rintro ρ σ' ⟨p', t', hds, hp, ht, g, rfl⟩
    cases p' with
    | cons i p' => cases hds
    | nil =>
      cases hp
      repeat walk_at "e"
theorem lays_path (p : List Nat) : PV.lays (p.map fun (i : Nat) => PV.int (i : Int)) = true := by
  induction p with
  | nil => rfl
  | cons i p ih => simp [PV.lays, PV.lay, PV.depths, PV.depth, ih]
theorem depths_path (p : List Nat) : PV.depths (p.map fun (i : Nat) => PV.int (i : Int)) = 0 := by
  induction p with
  | nil => rfl
  | cons i p ih => simp [PV.lays, PV.lay, PV.depths, PV.depth, ih]

theorem path_lay (p : List Nat) : (PV.lays (p.map fun (i : Nat) => PV.int (i : Int)) && PV.lays [] && decide (PV.depths (p.map fun (i : Nat) => PV.int (i : Int)) + 1 < 2000)) = true := by
  rw [lays_path, depths_path]; rfl
theorem repl_spec (u : B) : ∀ (p : List Nat) (t v : B), p.length ≤ 1000 → t.part p = some v → Calls "replaced" [t.pv, pathPV p, u.pv] (p.length + 2) (B.repl u t p).pv
  | [], t, v, hl, h => by
    refine calls_of rfl rfl (by walk_at "l") fun n hn σ => ?_
    have e := path_lay []
    unfold pathPV B.repl
    apply call3; dsimp only; repeat walk_at "e"
    · exact eq_tups e
    repeat walk_at "e"
  | i :: p, t, v, hl, h => by
    have hl' : p.length + 1 ≤ 1000 := hl
    unfold B.part at h
    cases hk : t.kid i with
    | none => rw [hk] at h; cases h
    | some k =>
    rw [hk] at h
    refine calls_of rfl rfl (by walk_at "l") fun n hn σ => ?_
    have hn : p.length + 2 ≤ n := by simp at hn; omega
    have hr : Giv n "replaced" [k.pv, .tup (p.map fun (i : Nat) => PV.int (i : Int)), u.pv] (B.repl u k p).pv := repl_spec u p k v (by omega) h n hn
    have hp : Giv n "part_at" [t.pv, .tup [.int i]] k.pv := part_spec t k [i] (by simp) (by simp [B.part, hk]) n (by omega)
    have e1 := path_lay (i :: p)
    have e2 : small (PV.int i :: p.map fun (i : Nat) => PV.int (i : Int)).length = true := small_of (by simp; omega)
    obtain ⟨w, l, h1, h2⟩ := t.pv_tup
    have h3 := B.pv_small h1
    have h4 := (List.getElem?_eq_some_iff.mp (h2 i k hk)).1
    have e3 : small (PV.str w :: l).length = true := small_of (by simp; omega)
    have hv : PV.tup ((PV.str w :: l).take (i + 1) ++ [(B.repl u k p).pv] ++ (PV.str w :: l).drop (i + 2)) = (B.repl u t (i :: p)).pv := by
      match t, i, hk, h1 with
      | .lam b, 0, hk, h1 => cases hk; cases h1; rfl
      | .app a b, 0, hk, h1 => cases hk; cases h1; rfl
      | .app a b, 1, hk, h1 => cases hk; cases h1; rfl
    have e4 : small ((PV.str w :: l).take (i + 1) ++ [(B.repl u k p).pv]).length = true := small_of (by simp; omega)
    have e5 : small ((PV.str w :: l).drop (i + 2)).length = true := small_of (by simp; omega)
    have e6 : small ((PV.str w :: l).take (i + 1)).length = true := small_of (by simp; omega)
    have e7 : (small ((PV.str w :: l).take (i + 1)).length && small [(B.repl u k p).pv].length) = true := by rw [e6]; rfl
    have e8 : (small ((PV.str w :: l).take (i + 1) ++ [(B.repl u k p).pv]).length && small ((PV.str w :: l).drop (i + 2)).length) = true := by rw [e4, e5]; rfl
    have s1 : ∀ σ, Slc (.tup (.str w :: l)) .none (.int ((i : Int) + 1)) σ (.ok (.tup ((PV.str w :: l).take (i + 1))) σ) := fun σ => sl_tup bd_none (bd_nat (k := i + 1) (by omega) (decide_eq_true (by omega))) e3
    have s2 : ∀ σ, Slc (.tup (.str w :: l)) (.int ((i : Int) + 2)) .none σ (.ok (.tup ((PV.str w :: l).drop (i + 2))) σ) := fun σ => sl_tup (bd_nat (k := i + 2) (by omega) (decide_eq_true (by omega))) bd_none e3
    rw [h1] at hp ⊢
    unfold pathPV
    rw [List.map_cons] at e1 ⊢
    apply call3; dsimp only; repeat walk_at "e"
    · exact eq_tups e1
    repeat walk_at "e"
    · exact s1 _
    repeat walk_at "e"
    · exact s2 _
    repeat walk_at "e"
end
section
variable [Z : Zero Frozen]
-- Q8
theorem beta_spec (t c x : B) (p : List Nat) (K b : Nat) (h : t.part p = some (.app (.lam c) x)) (hp : p.length ≤ 1000) (hc : c.vars (10 ^ 8)) (hx : x.vars b) (hb : b + c.size ≤ 10 ^ 8) (hK : c.size + x.size + 6 ≤ K) (hK2 : p.length + 2 ≤ K) :
    Calls "beta" [t.pv, pathPV p] (K + 1) (B.repl (c.put 0 x) t p).pv := by
  refine calls_of rfl rfl (by walk_at "l") fun n hn σ => ?_
  have h1 := part_spec t _ p (by omega) h n (by omega)
  have h2 := redex_spec (.app (.lam c) x) n (by omega)
  have h3 : Giv n (Str.ofString "put_in") [c.pv, .int 0, x.pv] (c.put 0 x).pv := put_spec c hc 0 x b hx hb n (by omega)
  have h4 := repl_spec (c.put 0 x) p t _ hp h n (by omega)
  have h1 : Giv n "part_at" [t.pv, pathPV p] (.tup [.str "app", .tup [.str "lam", c.pv], x.pv]) := h1
  have h2 : Giv n "is_redex" [.tup [.str "app", .tup [.str "lam", c.pv], x.pv]] (.bool true) := h2
  apply call2; dsimp only; repeat walk_at "e"

def B.first : B → Option (List Nat)
  | .app (.lam _) _ => some []
  | .app a b => match a.first with
    | some p => some (0 :: p)
    | none => match b.first with
      | some p => some (1 :: p)
      | none => none
  | .lam b => match b.first with
    | some p => some (0 :: p)
    | none => none
  | _ => none
def optPV : Option (List Nat) → PV
  | none => .none
  | some p => pathPV p
theorem low_opt (p : Option (List Nat)) : (optPV p).low 0 = true := by cases p with
  | none => rfl
  | some p => exact low_path p
theorem first_len : ∀ (t : B) (p : List Nat), t.first = some p → p.length ≤ t.size
  | .var _, _, h => by simp [B.first] at h
  | .fr _, _, h => by simp [B.first] at h
  | .lam b, p, h => by
    unfold B.first at h
    cases hb : b.first with
    | none => rw [hb] at h; exact absurd h (by simp)
    | some q =>
      have := first_len b q hb
      rw [hb] at h; cases h
      show q.length + 1 ≤ b.size + 1
      omega
  | .app a b, p, h => by
    have hz : (B.app a b).size = a.size + b.size + 1 := rfl
    by_cases hr : ∃ c, a = .lam c
    · obtain ⟨c, rfl⟩ := hr
      simp [B.first] at h
      subst h; exact Nat.zero_le _
    · have e : (B.app a b).first = match a.first with
        | some p => some (0 :: p)
        | none => match b.first with
          | some p => some (1 :: p)
          | none => none := by
        cases a with
        | lam c => exact absurd ⟨c, rfl⟩ hr
        | _ => rfl
      rw [e] at h
      cases ha : a.first with
      | some q =>
        have := first_len a q ha
        rw [ha] at h; cases h
        simp only [List.length_cons]; omega
      | none =>
        rw [ha] at h
        cases hb : b.first with
        | none => rw [hb] at h; exact absurd h (by simp)
        | some q =>
          have := first_len b q hb
          rw [hb] at h; cases h
          simp only [List.length_cons]; omega

theorem cat_path (i : Int) (q : List Nat) (h : q.length ≤ 100000) : (small [PV.int i].length && small (q.map fun (i : Nat) => PV.int (i : Int)).length) = true := small2 (by simp) (by simpa using h)
theorem first_spec : ∀ (t : B), t.size ≤ 1000 → Calls "first_redex" [t.pv] (t.size + 3) (optPV t.first)
  | .var i, _ => by
    refine calls_of rfl rfl (low_opt _) fun n hn σ => ?_
    have h2 := redex_spec (.var i) n (by omega)
    unfold B.pv B.redex at h2
    unfold B.pv
    apply call1; dsimp only; repeat walk_at "e"
    · exact rng0
    (repeat walk_at "e"); (try rfl); repeat walk_at "e"
  | .fr k, _ => by
    refine calls_of rfl rfl (low_opt _) fun n hn σ => ?_
    have h2 := redex_spec (.fr k) n (by omega)
    unfold B.pv B.redex at h2
    unfold B.pv
    apply call1; dsimp only; repeat walk_at "e"
    · exact rng0
    (repeat walk_at "e"); (try rfl); repeat walk_at "e"
  | .lam b, hs => by
    have hz : (B.lam b).size = b.size + 1 := rfl
    refine calls_of rfl rfl (low_opt _) fun n hn σ => ?_
    have h2 := redex_spec (.lam b) n (by omega)
    have h3 := first_spec b (by omega) n (by omega)
    unfold B.pv B.redex at h2
    unfold B.pv
    cases hb : b.first with
    | none =>
      rw [hb] at h3
      have h3 : Giv n "first_redex" [b.pv] .none := h3
      have e : (B.lam b).first = none := by unfold B.first; rw [hb]
      rw [e]
      apply call1; dsimp only; repeat walk_at "e"
      (try rfl); repeat walk_at "e"
    | some q =>
      have hl := first_len b q hb
      have e1 := cat_path 0 q (by omega)
      rw [hb] at h3
      have h3 : Giv n "first_redex" [b.pv] (.tup (q.map fun (i : Nat) => PV.int (i : Int))) := h3
      have e : (B.lam b).first = some (0 :: q) := by unfold B.first; rw [hb]
      rw [e]
      apply call1; dsimp only; repeat walk_at "e"
      (try rfl); repeat walk_at "e"
  | .app a b, hs => by
    have hz : (B.app a b).size = a.size + b.size + 1 := rfl
    refine calls_of rfl rfl (low_opt _) fun n hn σ => ?_
    have h2 := redex_spec (.app a b) n (by omega)
    have h3 := first_spec a (by omega) n (by omega)
    have h4 := first_spec b (by omega) n (by omega)
    by_cases hr : ∃ c, a = .lam c
    · obtain ⟨c, rfl⟩ := hr
      unfold B.pv B.redex at h2
      unfold B.pv
      apply call1; dsimp only; repeat walk_at "e"
      · rfl
      (repeat walk_at "e"); (try rfl); repeat walk_at "e"
    · have e : (B.app a b).first = match a.first with
        | some p => some (0 :: p)
        | none => match b.first with
          | some p => some (1 :: p)
          | none => none := by
        cases a with
        | lam c => exact absurd ⟨c, rfl⟩ hr
        | _ => rfl
      have e2 : (B.app a b).redex = false := by
        cases a with
        | lam c => exact absurd ⟨c, rfl⟩ hr
        | _ => rfl
      rw [e2] at h2
      unfold B.pv at h2
      rw [e]
      unfold B.pv
      cases ha : a.first with
      | some q =>
        have hl := first_len a q ha
        have e1 := cat_path 0 q (by omega)
        rw [ha] at h3
        have h3 : Giv n "first_redex" [a.pv] (.tup (q.map fun (i : Nat) => PV.int (i : Int))) := h3
        apply call1; dsimp only; repeat walk_at "e"
        (try rfl); repeat walk_at "e"
      | none =>
        rw [ha] at h3
        have h3 : Giv n "first_redex" [a.pv] .none := h3
        cases hb : b.first with
        | none =>
          rw [hb] at h4
          have h4 : Giv n "first_redex" [b.pv] .none := h4
          apply call1; dsimp only; repeat walk_at "e"
          (try rfl); repeat walk_at "e"
        | some q =>
          have hl := first_len b q hb
          have e1 := cat_path 1 q (by omega)
          rw [hb] at h4
          have h4 : Giv n "first_redex" [b.pv] (.tup (q.map fun (i : Nat) => PV.int (i : Int))) := h4
          apply call1; dsimp only; repeat walk_at "e"
          (try rfl); repeat walk_at "e"
end
section
variable [Z : Zero Frozen]
-- Q9
theorem B.lay_pv (t : B) : t.pv.lay = true := by
  induction t with
  | var i => simp [PV.lay, PV.lays, PV.depth, PV.depths, strOk_ofString, strOk_v, strOk_n, strOk_nm, strOk_fr, strOk_num, B.pv]
  | fr k => simp [PV.lay, PV.lays, PV.depth, PV.depths, strOk_ofString, strOk_v, strOk_n, strOk_nm, strOk_fr, strOk_num, B.pv]
  | lam b ih => simp [PV.lay, PV.lays, PV.depth, PV.depths, strOk_ofString, strOk_v, strOk_n, strOk_nm, strOk_fr, strOk_num, B.pv, ih]
  | app a b ih1 ih2 => simp [PV.lay, PV.lays, PV.depth, PV.depths, strOk_ofString, strOk_v, strOk_n, strOk_nm, strOk_fr, strOk_num, B.pv, ih1, ih2]
theorem B.depth_pv (t : B) : t.pv.depth ≤ t.size := by
  induction t with
  | var i => simp [PV.lay, PV.lays, PV.depth, PV.depths, strOk_ofString, strOk_v, strOk_n, strOk_nm, strOk_fr, strOk_num, B.pv, B.size]
  | fr k => simp [PV.lay, PV.lays, PV.depth, PV.depths, strOk_ofString, strOk_v, strOk_n, strOk_nm, strOk_fr, strOk_num, B.pv, B.size]
  | lam b ih => simp [PV.lay, PV.lays, PV.depth, PV.depths, strOk_ofString, strOk_v, strOk_n, strOk_nm, strOk_fr, strOk_num, B.pv, B.size]; omega
  | app a b ih1 ih2 => simp [PV.lay, PV.lays, PV.depth, PV.depths, strOk_ofString, strOk_v, strOk_n, strOk_nm, strOk_fr, strOk_num, B.pv, B.size]; omega
def onStack (x : B × Nat) : PV := .tup [x.1.pv, .int x.2]
def stackSize : List (B × Nat) → Nat
  | [] => 0
  | x :: r => x.1.size + stackSize r
theorem lays_append (a b : List PV) : PV.lays (a ++ b) = (PV.lays a && PV.lays b) := by
  induction a with
  | nil => simp [PV.lay, PV.lays, PV.depth, PV.depths, strOk_ofString, strOk_v, strOk_n, strOk_nm, strOk_fr, strOk_num]
  | cons x r ih => simp [PV.lay, PV.lays, PV.depth, PV.depths, strOk_ofString, strOk_v, strOk_n, strOk_nm, strOk_fr, strOk_num, ih, Bool.and_assoc]
theorem depths_append (a b : List PV) : PV.depths (a ++ b) = max (PV.depths a) (PV.depths b) := by
  induction a with
  | nil => simp [PV.lay, PV.lays, PV.depth, PV.depths, strOk_ofString, strOk_v, strOk_n, strOk_nm, strOk_fr, strOk_num]
  | cons x r ih => simp [PV.lay, PV.lays, PV.depth, PV.depths, strOk_ofString, strOk_v, strOk_n, strOk_nm, strOk_fr, strOk_num, ih, Nat.max_assoc]
theorem lays_stack (rs : List (B × Nat)) : PV.lays (rs.map onStack).reverse = true := by
  induction rs with
  | nil => rfl
  | cons x r ih => simp only [List.map_cons, List.reverse_cons, lays_append, ih]; simp [PV.lay, PV.lays, PV.depth, PV.depths, strOk_ofString, strOk_v, strOk_n, strOk_nm, strOk_fr, strOk_num, onStack, B.lay_pv]
theorem depths_stack (rs : List (B × Nat)) : PV.depths (rs.map onStack).reverse ≤ stackSize rs + 1 := by
  induction rs with
  | nil => simp [PV.lay, PV.lays, PV.depth, PV.depths, strOk_ofString, strOk_v, strOk_n, strOk_nm, strOk_fr, strOk_num]
  | cons x r ih =>
    have := B.depth_pv x.1
    simp only [List.map_cons, List.reverse_cons, depths_append]
    simp [PV.lay, PV.lays, PV.depth, PV.depths, strOk_ofString, strOk_v, strOk_n, strOk_nm, strOk_fr, strOk_num, onStack, stackSize]; omega
theorem B.size_pos (t : B) : 1 ≤ t.size := by cases t <;> simp [PV.lay, PV.lays, PV.depth, PV.depths, strOk_ofString, strOk_v, strOk_n, strOk_nm, strOk_fr, strOk_num, B.size]
theorem eqv_nil (ds : List PV) : PyData.eqvAll (PV.toDs ds) [] = ds.isEmpty := by cases ds <;> rfl

def B.kids : B → List B
  | .var _ => []
  | .fr _ => []
  | .lam b => [b]
  | .app a b => [a, b]
theorem B.pv_kids (t : B) : ∃ w, t.pv = .tup (.str w :: t.kids.map B.pv) := by cases t <;> exact ⟨_, rfl⟩
theorem B.kids_len (t : B) : t.kids.length ≤ 2 := by cases t <;> simp [PV.lay, PV.lays, PV.depth, PV.depths, strOk_ofString, strOk_v, strOk_n, strOk_nm, strOk_fr, strOk_num, B.kids]
theorem stackSize_append (a b : List (B × Nat)) : stackSize (a ++ b) = stackSize a + stackSize b := by
  induction a with
  | nil => simp [PV.lay, PV.lays, PV.depth, PV.depths, strOk_ofString, strOk_v, strOk_n, strOk_nm, strOk_fr, strOk_num, stackSize]
  | cons x r ih => simp [PV.lay, PV.lays, PV.depth, PV.depths, strOk_ofString, strOk_v, strOk_n, strOk_nm, strOk_fr, strOk_num, stackSize, ih]; omega
theorem B.kids_size (t : B) (l : Nat) : stackSize (t.kids.map fun k => (k, l)).reverse + 1 = t.size := by
  cases t <;> simp [PV.lay, PV.lays, PV.depth, PV.depths, strOk_ofString, strOk_v, strOk_n, strOk_nm, strOk_fr, strOk_num, B.kids, stackSize, B.size] <;> omega
theorem B.kid_size (t : B) : ∀ k ∈ t.kids, k.size + 1 ≤ t.size := by
  cases t <;> simp [PV.lay, PV.lays, PV.depth, PV.depths, strOk_ofString, strOk_v, strOk_n, strOk_nm, strOk_fr, strOk_num, B.kids, B.size]
theorem stack_len (rs : List (B × Nat)) : rs.length ≤ stackSize rs := by
  induction rs with
  | nil => simp [PV.lay, PV.lays, PV.depth, PV.depths, strOk_ofString, strOk_v, strOk_n, strOk_nm, strOk_fr, strOk_num]
  | cons x r ih => have := B.size_pos x.1; simp [PV.lay, PV.lays, PV.depth, PV.depths, strOk_ofString, strOk_v, strOk_n, strOk_nm, strOk_fr, strOk_num, stackSize]; omega

theorem beyond_spec (t : B) (hs : t.size ≤ 150) : Calls "is_beyond" [t.pv] 1 (.bool false) := by
  refine calls_of rfl rfl (by walk_at "l") fun n hn σ => ?_
  apply call1
  dsimp only
  repeat walk_at "e"
  refine w_while (fun m ρ σ' => ∃ (rs : List (B × Nat)) (many : Nat), ρ "waiting" = some (.ref σ.length) ∧ ρ "many" = some (.int many) ∧ m = stackSize rs ∧ many + stackSize rs ≤ t.size ∧ (∀ x ∈ rs, x.2 + x.1.size ≤ t.size + 1) ∧ σ'[σ.length]? = some (.list (rs.map onStack).reverse) ∧ ∃ g, σ' = σ ++ g) t.size ?_ ?_
  · refine ⟨[(t, 1)], 0, ?_, ?_, ?_, ?_, ?_, last_at, _, rfl⟩
    · walk_at "v"
    · exact vs_hit
    · simp [stackSize]
    · simp [stackSize]
    · intro x hx
      simp at hx; subst hx; simp; omega
  · rintro m ρ σ' ⟨rs, many, hw, hm, rfl, hle, hx, hcell, hpre⟩
    have hd := depths_stack rs
    have hd2 : (PV.lays (rs.map onStack).reverse && PV.lays [] && decide (PV.depths (rs.map onStack).reverse < 2000)) = true := by
      rw [lays_stack, decide_eq_true (by omega)]; rfl
    refine ⟨!(PyData.eqvAll (PV.toDs (rs.map onStack).reverse) (PV.toDs [])), σ' ++ [.list []], ?_, ?_⟩
    · repeat walk_at "e"
    · have hsl : σ.length ≤ σ.length := Nat.le_refl _
      cases rs with
      | nil =>
        apply wif_f rfl
        repeat walk_at "e"
      | cons x rs =>
        obtain ⟨y, l⟩ := x
        have hN := hx (y, l) (List.mem_cons_self ..)
        have hp := B.size_pos y
        have hstk := stack_len rs
        have hkl := B.kids_len y
        have hks := B.kids_size y (l + 1)
        dsimp only at hN
        simp only [stackSize] at hle ⊢
        have e1 : ¬ (20000 : Int) < (many : Int) + 1 := by omega
        have e2 : ¬ (150 : Int) < (l : Int) := by omega
        have e4 : small (rs.map onStack).reverse.length = true := small_of (by simp; omega)
        have e5 : small y.kids.length = true := small_of (by omega)
        obtain ⟨w, hy⟩ := B.pv_kids y
        have hc2 : σ'[σ.length]? = some (.list ((rs.map onStack).reverse ++ [PV.tup [PV.tup (PV.str w :: y.kids.map B.pv), PV.int (l : Int)]])) := by
          rw [hcell]; simp [onStack, hy]
        have e6 : small ((rs.map onStack).reverse ++ [PV.tup [PV.tup (PV.str w :: y.kids.map B.pv), PV.int (l : Int)]]).length = true := small_of (by simp; omega)
        have e7 : small (PV.str w :: y.kids.map B.pv).length = true := small_of (by simp; omega)
        have e8 : small (y.kids.map B.pv).length = true := small_of (by simp; omega)
        have he : (!(PyData.eqvAll (PV.toDs (((y, l) :: rs).map onStack).reverse) (PV.toDs []))) = true := by
          rw [show PV.toDs [] = [] from rfl, eqv_nil]; simp
        apply wif_t he
        repeat walk_at "e"
        · exact m_pop (get_app hc2) e6
        have hpre2 := pre_set (c := .list (rs.map onStack).reverse) (ext_app (x := [.list []]) hpre) hsl
        have hc3 : ((σ' ++ [Cell.list []]).set σ.length (.list (rs.map onStack).reverse))[σ.length]? = some (.list (rs.map onStack).reverse) := get_hit (get_app hcell)
        generalize (σ' ++ [Cell.list []]).set σ.length (.list (rs.map onStack).reverse) = σ3 at hc3 hpre2 ⊢
        have hne : σ.length ≠ σ3.length := Nat.ne_of_lt (List.getElem?_eq_some_iff.mp hc3).1
        have e9 : (small (rs.map onStack).reverse.length && small (y.kids.map fun k => PV.tup [k.pv, .int ((l : Int) + 1)]).length && decide (σ.length ≠ σ3.length)) = true := by
          rw [e4, small_of (by simp; omega), decide_eq_true hne]; rfl
        repeat walk_at "e"
        · refine turns_map (g := fun k => PV.tup [k.pv, .int ((l : Int) + 1)]) its_tup fun k hk => ⟨?_, ?_⟩
          · repeat walk_at "e"
          · repeat walk_at "e"
        repeat walk_at "e"
        refine ⟨_, ?_, (y.kids.map fun k => (k, l + 1)).reverse ++ rs, many + 1, ?_, vs_hit, rfl, ?_, ?_, ?_, pre_set (ext_app hpre2) (Nat.le_refl _)⟩
        · rw [stackSize_append]; omega
        · walk_at "v"
        · rw [stackSize_append]; omega
        · intro a hab
          rcases List.mem_append.mp hab with h | h
          · obtain ⟨k, hk, rfl⟩ := List.mem_map.mp (List.mem_reverse.mp h)
            have := B.kid_size y _ hk
            dsimp only; omega
          · exact hx a (List.mem_cons_of_mem _ h)
        · rw [get_hit (c := .list ((rs.map onStack).reverse ++ y.kids.map fun k => PV.tup [k.pv, .int ((l : Int) + 1)])) (get_app hc3)]
          simp [onStack, Function.comp_def]
end
section
variable [Z : Zero Frozen]
-- Q10
def B.step : B → Option B
  | .app (.lam c) x => some (c.put 0 x)
  | .app a b => match a.step with
    | some a' => some (.app a' b)
    | none => match b.step with
      | some b' => some (.app a b')
      | none => none
  | .lam b => match b.step with
    | some b' => some (.lam b')
    | none => none
  | _ => none
theorem B.app_first (a b : B) (h : ¬ ∃ c, a = .lam c) : (B.app a b).first = (match a.first with
    | some p => some (0 :: p)
    | none => match b.first with
      | some p => some (1 :: p)
      | none => none) ∧ (B.app a b).step = (match a.step with
    | some a' => some (.app a' b)
    | none => match b.step with
      | some b' => some (.app a b')
      | none => none) := by
  cases a with
  | lam c => exact absurd ⟨c, rfl⟩ h
  | _ => exact ⟨rfl, rfl⟩
/-- the first place and what is made there -/
theorem B.step_first (t : B) : match t.first with
    | none => t.step = none
    | some p => ∃ c x, t.part p = some (.app (.lam c) x) ∧ t.step = some (B.repl (c.put 0 x) t p) ∧ c.size + x.size ≤ t.size ∧ ∀ b, t.vars b → c.vars b ∧ x.vars b := by
  induction t with
  | var i => rfl
  | fr k => rfl
  | lam b ih =>
    unfold B.first B.step
    cases hb : b.first with
    | none => rw [hb] at ih; simp only at ih ⊢; rw [ih]
    | some p =>
      rw [hb] at ih
      obtain ⟨c, x, h1, h2, h3, h4⟩ := ih
      refine ⟨c, x, h1, by rw [h2]; rfl, ?_, h4⟩
      show _ ≤ b.size + 1
      omega
  | app a b ih1 ih2 =>
    by_cases hr : ∃ c, a = .lam c
    · obtain ⟨c, rfl⟩ := hr
      refine ⟨c, b, rfl, rfl, ?_, fun k h => h⟩
      show _ ≤ c.size + 1 + b.size + 1
      omega
    · obtain ⟨e1, e2⟩ := B.app_first a b hr
      rw [e1, e2]
      have hz : (B.app a b).size = a.size + b.size + 1 := rfl
      cases ha : a.first with
      | some p =>
        rw [ha] at ih1
        obtain ⟨c, x, h1, h2, h3, h4⟩ := ih1
        exact ⟨c, x, h1, by rw [h2]; rfl, by omega, fun k h => h4 k h.1⟩
      | none =>
        rw [ha] at ih1
        simp only at ih1
        rw [ih1]
        cases hb : b.first with
        | none => rw [hb] at ih2; simp only at ih2 ⊢; rw [ih2]
        | some p =>
          rw [hb] at ih2
          obtain ⟨c, x, h1, h2, h3, h4⟩ := ih2
          exact ⟨c, x, h1, by rw [h2]; rfl, by omega, fun k h => h4 k h.2⟩

/-- the end of the steps by the first place, and their number -/
inductive Ends : B → Nat → B → Prop where
  | done {t : B} : t.step = none → t.size ≤ 150 → t.vars (10 ^ 6) → Ends t 0 t
  | more {t t' u : B} {n : Nat} : t.step = some t' → t.size ≤ 150 → t.vars (10 ^ 6) → Ends t' n u → Ends t (n + 1) u

theorem length_txt (a : String) : (Str.ofString a).length = a.toList.length := by
  rw [show (Str.ofString a).length = (Str.ofString a).cps.toList.length from Array.length_toList.symm, signs_txt, List.length_map]


theorem eq_pv (t u : B) (h : t.size ≤ 150) (σ : Store) : Eqt t.pv u.pv σ (PyData.eqv t.pv.toD u.pv.toD) := by
  have hd := B.depth_pv t
  refine eq_plain ?_
  rw [B.lay_pv, B.lay_pv, decide_eq_true (by omega)]; rfl
theorem normal_loop (t u : B) (n most d : Nat) (h : Ends t n u) (hd : 199 ≤ d) (σ : Store) : Ws (T1.at d) (defAt PySem.Challenge.pw_pq0040_01 23).names (defAt PySem.Challenge.pw_pq0040_01 23).body (Vars.of (defAt PySem.Challenge.pw_pq0040_01 23).params [t.pv, .int most]) σ
    fun o => if n ≤ most then ∃ g, o = .ret u.pv (σ ++ g) else ∃ ρ g, o = .exc .limit ρ (σ ++ g) := by
  rw [show defAt PySem.Challenge.pw_pq0040_01 23 = Def.mk _ _ _ from rfl]
  have hm : textOk (Str.ofString "no normal form within what is let") = true := text_of (by rw [length_txt]; decide)
  show Ws _ _ _ (Vars.set (Vars.set Vars.no "t" t.pv) "most" (.int most)) σ _
  dsimp only
  repeat walk_at "e"
  have fin : ∀ (ρ : Vars) (σ' : Store), ¬ n ≤ most → (∃ g, σ' = σ ++ g) → Ws (T1.at d) [(Str.ofString "t", NameKind.local), (Str.ofString "most", NameKind.local), (Str.ofString "many", NameKind.local), (Str.ofString "path", NameKind.local), (Str.ofString "is_beyond", NameKind.globalImplicit), (Str.ofString "first_redex", NameKind.globalImplicit), (Str.ofString "beta", NameKind.globalImplicit), (Str.ofString "LimitFault", NameKind.globalImplicit)] ((defAt PySem.Challenge.pw_pq0040_01 23).body.drop 2) ρ σ'
      fun o => if n ≤ most then ∃ g, o = .ret u.pv (σ ++ g) else ∃ ρ g, o = .exc .limit ρ (σ ++ g) := by
    rintro ρ σ' hnm ⟨g, rfl⟩
    rw [show (defAt PySem.Challenge.pw_pq0040_01 23).body.drop 2 = _ from rfl]
    apply w_raise (k := .limit)
    · kernel_rfl!
    · kernel_rfl!
    · walk_at "e"
    · exact hm
    · rw [if_neg hnm]; exact ⟨_, _, rfl⟩
  refine w_while (fun m ρ σ' => ∃ (t' : B) (many : Nat), Ends t' m u ∧ many + m = n ∧ ρ "t" = some t'.pv ∧ ρ "many" = some (.int many) ∧ ρ "most" = some (.int most) ∧ many ≤ most ∧ ∃ g, σ' = σ ++ g) n ?_ ?_
  · refine ⟨t, 0, h, by omega, ?_, vs_hit, ?_, by omega, ext_refl⟩
    · walk_at "v"
    · walk_at "v"
  · rintro m ρ σ' ⟨t', many, hE, hmn, ht, hmany, hmost, hle, hpre⟩
    have hsz : t'.size ≤ 150 ∧ t'.vars (10 ^ 6) := by cases hE <;> exact ⟨‹_›, ‹_›⟩
    have h1 := beyond_spec t' hsz.1 d (by omega)
    have h2 := first_spec t' (by omega) d (by omega)
    have hsf := B.step_first t'
    refine ⟨!false, σ', ?_, ?_⟩
    · repeat walk_at "e"
    · apply wif_t rfl
      cases hf : t'.first with
      | none =>
        rw [hf] at hsf h2
        simp only at hsf
        cases hE with
        | more e _ _ _ => rw [hsf] at e; exact absurd e (by simp)
        | done _ _ _ =>
          have e : n ≤ most := by omega
          have h2 : Giv d "first_redex" [u.pv] .none := h2
          repeat walk_at "e"
          rw [if_pos e]
          repeat walk_at "e"
      | some p =>
        rw [hf] at hsf h2
        obtain ⟨c, x, q1, q2, q3, q4⟩ := hsf
        have hpl := first_len t' p hf
        have h2 : Giv d "first_redex" [t'.pv] (.tup (p.map fun (i : Nat) => PV.int (i : Int))) := h2
        cases hE with
        | done e _ _ => rw [q2] at e; exact absurd e (by simp)
        | more e _ _ hE' =>
          rename_i t2 n'
          rw [q2] at e
          cases e
          obtain ⟨q5, q6⟩ := q4 _ hsz.2
          have h3 : Giv d "beta" [t'.pv, .tup (p.map fun (i : Nat) => PV.int (i : Int))] _ := beta_spec t' c x p 160 (10 ^ 6) q1 (by omega) (B.vars_mono q5 (by decide)) q6 (by omega) (by omega) (by omega) d (by omega)
          by_cases hmm : many = most
          · have e : ¬ n ≤ most := by omega
            have e2 : ((many : Int) == (most : Int)) = true := by simp; omega
            repeat walk_at "e"
            exact fin _ _ e (by repeat walk_at "e")
          · have e3 : ((many : Int) == (most : Int)) = false := by simp; omega
            repeat walk_at "e"
            refine ⟨_, Nat.lt_succ_self _, _, many + 1, hE', by omega, ?_, vs_hit, ?_, by omega, by repeat walk_at "e"⟩
            · walk_at "v"
            · walk_at "v"
theorem normal_ok (t u : B) (n most : Nat) (h : Ends t n u) (hm : n ≤ most) : Calls "normal" [t.pv, .int most] 200 u.pv :=
  calls_of rfl rfl (B.low_pv _) fun d hd σ => (normal_loop t u n most d h hd σ).imp fun o ho => by rw [if_pos hm] at ho; exact ho
theorem normal_not (t u : B) (n most : Nat) (h : Ends t n u) (hm : ¬ n ≤ most) : Faults "normal" [t.pv, .int most] 200 .limit :=
  faults_of rfl rfl fun d hd σ => (normal_loop t u n most d h hd σ).imp fun o ho => by rw [if_neg hm] at ho; exact ho
theorem alike_ok (t u t' u' : B) (n k most : Nat) (h1 : Ends t n t') (h2 : Ends u k u') (ht : t'.size ≤ 150) (hm : n ≤ most ∧ k ≤ most) : Calls "alike_to" [t.pv, u.pv, .int most] 201 (.bool (PyData.eqv t'.pv.toD u'.pv.toD)) := by
  refine calls_of rfl rfl rfl fun d hd σ => ?_
  have q1 := normal_ok t t' n most h1 hm.1 d hd
  have q2 := normal_ok u u' k most h2 hm.2 d hd
  apply call3; dsimp only; repeat walk_at "e"
  · exact eq_pv _ _ ht _
  repeat walk_at "e"
theorem alike_not (t u t' u' : B) (n k most : Nat) (h1 : Ends t n t') (h2 : Ends u k u') (hm : ¬ (n ≤ most ∧ k ≤ most)) : Faults "alike_to" [t.pv, u.pv, .int most] 201 .limit := by
  refine faults_of rfl rfl fun d hd σ => ?_
  apply callx3
  dsimp only
  apply w_ret_exc
  rotate_left
  · exact excw ext_refl
  by_cases hm1 : n ≤ most
  · have q1 := normal_ok t t' n most h1 hm1 d hd
    have q2 := normal_not u u' k most h2 (fun h => hm ⟨hm1, h⟩) d hd σ
    apply v_cmp_exc2
    · rfl
    · repeat walk_at "e"
    · apply v_call_exc (by kernel_rfl!)
      · repeat walk_at "e"
      · exact q2
  · have q1 := normal_not t t' n most h1 hm1 d hd σ
    apply v_cmp_exc1
    apply v_call_exc (by kernel_rfl!)
    · repeat walk_at "e"
    · exact q1
theorem told_spec (t u t' u' : B) (n k most : Nat) (h1 : Ends t n t') (h2 : Ends u k u') (ht : t'.size ≤ 150) :
    Calls "_law_told" [t.pv, u.pv, .int most] 202 (if n ≤ most ∧ k ≤ most then .bool (PyData.eqv t'.pv.toD u'.pv.toD) else .none) := by
  refine calls_of rfl rfl (by split <;> rfl) fun d hd σ => ?_
  by_cases hm : n ≤ most ∧ k ≤ most
  · rw [if_pos hm]
    have hA := alike_ok t u t' u' n k most h1 h2 ht hm d hd
    apply call3; dsimp only; repeat walk_at "e"
    apply w_try
    · kernel_rfl!
    · repeat walk_at "e"
    · walk_at "e"
    repeat walk_at "e"
  · rw [if_neg hm]
    have hA := alike_not t u t' u' n k most h1 h2 hm d hd σ
    apply call3; dsimp only; repeat walk_at "e"
    apply w_try_exc (k := .limit)
    · kernel_rfl!
    · kernel_rfl!
    · repeat walk_at "e"
    · exact hA
    repeat walk_at "e"
end
section
variable [Z : Zero Frozen]
-- Q11
section
variable {Γ : Ctx} {N : Names} {ρ : Vars} {σ σ₁ σ₂ σ₃ : Store} {x : Str} {ifs : List Expr} {elt : Expr} {v : PV} {all : List PV}
theorem turns_filter {α : Type} {f g : α → PV} {p : α → Bool} (hi : ItemsOf v σ all) : ∀ {l : List α}, (∀ a ∈ l, Ei Γ N (Vars.comp N ρ x (f a)) ifs σ (.ok (p a) σ) ∧ (p a = true → Ev Γ N (Vars.comp N ρ x (f a)) elt σ (.ok (g a) σ))) → Turns Γ N ρ x ifs elt v all (l.map f) σ ((l.filter p).map g) σ
  | [], _ => .nil
  | a :: l, h => by
    have h1 := h a (List.mem_cons_self ..)
    have h2 := turns_filter hi (l := l) fun y hy => h y (List.mem_cons_of_mem _ hy)
    rw [List.filter_cons]
    cases hp : p a with
    | true => rw [hp] at h1; exact .cons h1.1 (h1.2 rfl) hi h2
    | false => rw [hp] at h1; exact .skip h1.1 hi h2
end
def CallsL (f : Str) (args : List PV) (k : Nat) (ds : List PV) : Prop := ∀ n, k ≤ n → GivL n f args ds
def BodyL (n : Nat) (D : Def) (args : List PV) (ds : List PV) (σ : Store) : Prop := Ws (T1.at n) D.names D.body (Vars.of D.params args) σ fun o => ∃ g i, o = .ret (.ref i) (σ ++ g) ∧ σ.length ≤ i ∧ (σ ++ g)[i]? = some (.list ds)
theorem callsL_of {f : Str} {args ds : List PV} {k : Nat} {D : Def} (hD : T1.defs f = some D) (hl : args.length = D.params.length) (hx : PV.lows 0 ds = true) (h : ∀ n, k ≤ n → ∀ σ, BodyL n D args ds σ) : CallsL f args (k + 1) ds := fun n hn σ => by
  obtain ⟨m, rfl⟩ : ∃ m, n = m + 1 := ⟨n - 1, by omega⟩
  exact call_new hD hl (PV.lows_up (Nat.zero_le _) hx) (Nat.le_refl _) (fun β h S i ds e => S.lows e) (h m (by omega) σ)
theorem calll1 {n : Nat} {p1 : Str} {body : List Stmt} {N : Names} {a : PV} {ds : List PV} {σ : Store} (h : Ws (T1.at n) N body (Vars.set Vars.no p1 a) σ fun o => ∃ g i, o = .ret (.ref i) (σ ++ g) ∧ σ.length ≤ i ∧ (σ ++ g)[i]? = some (.list ds)) : BodyL n ⟨[p1], body, N⟩ [a] ds σ := h
theorem retl {i : Nat} {σ σ' : Store} {ds : List PV} (hs : ∃ g, σ' = σ ++ g) (hi : σ.length ≤ i) (h : σ'[i]? = some (.list ds)) : ∃ g j, SO.ret (.ref i) σ' = .ret (.ref j) (σ ++ g) ∧ σ.length ≤ j ∧ (σ ++ g)[j]? = some (.list ds) := by
  obtain ⟨g, rfl⟩ := hs; exact ⟨g, i, rfl, hi, h⟩
def T.kid : T → Nat → Option T
  | .lam _ b, 2 => some b
  | .app a _, 1 => some a
  | .app _ b, 2 => some b
  | _, _ => none
def T.part : T → List Nat → Option T
  | t, [] => some t
  | t, i :: p => match t.kid i with
    | some k => k.part p
    | none => none
def T.repl (u : T) : T → List Nat → T
  | _, [] => u
  | .lam x b, 2 :: p => .lam x (T.repl u b p)
  | .app a b, 1 :: p => .app (T.repl u a p) b
  | .app a b, 2 :: p => .app a (T.repl u b p)
  | t, _ => t
def T.spots : T → List (List Nat)
  | .nm _ => [[]]
  | .lam _ b => [] :: b.spots.map (2 :: ·)
  | .app a b => [] :: (a.spots.map (1 :: ·) ++ b.spots.map (2 :: ·))
def T.put (x : Nm) (u : T) : T → T
  | .nm y => if y = x then u else .nm y
  | .lam y b => .lam y (T.put x u b)
  | .app a b => .app (T.put x u a) (T.put x u b)
def T.redex : T → Bool
  | .app (.lam _ _) _ => true
  | _ => false
theorem T.spots_len (t : T) : t.spots.length = t.size := by
  induction t with
  | nm x => rfl
  | lam x b ih => simp [T.spots, T.size, ih]
  | app a b ih1 ih2 => simp [T.spots, T.size, ih1, ih2]
theorem T.spots_depth (t : T) : ∀ p ∈ t.spots, p.length ≤ t.size := by
  induction t with
  | nm x => simp [T.spots]
  | lam x b ih =>
    simp only [T.spots, T.size, List.mem_cons, List.mem_map]
    rintro p (rfl | ⟨q, hq, rfl⟩)
    · simp
    · have := ih q hq; simp; omega
  | app a b ih1 ih2 =>
    simp only [T.spots, T.size, List.mem_cons, List.mem_append, List.mem_map]
    rintro p (rfl | ⟨q, hq, rfl⟩ | ⟨q, hq, rfl⟩)
    · simp
    · have := ih1 q hq; simp; omega
    · have := ih2 q hq; simp; omega
theorem T.spots_part (t : T) : ∀ p ∈ t.spots, ∃ u, t.part p = some u := by
  induction t with
  | nm x => intro p hp; simp [T.spots] at hp; subst hp; exact ⟨_, rfl⟩
  | lam x b ih =>
    simp only [T.spots, List.mem_cons, List.mem_map]
    rintro p (rfl | ⟨q, hq, rfl⟩)
    · exact ⟨_, rfl⟩
    · exact ih q hq
  | app a b ih1 ih2 =>
    simp only [T.spots, List.mem_cons, List.mem_append, List.mem_map]
    rintro p (rfl | ⟨q, hq, rfl⟩ | ⟨q, hq, rfl⟩)
    · exact ⟨_, rfl⟩
    · exact ih1 q hq
    · exact ih2 q hq
theorem T.lay_pv (t : T) : t.pv.lay = true := by
  induction t with
  | nm x => simp [T.pv, PV.lay, PV.lays, PV.depth, PV.depths, strOk_ofString, strOk_v, strOk_n, strOk_nm, strOk_fr, strOk_num]
  | lam x b ih => simp [T.pv, PV.lay, PV.lays, PV.depth, PV.depths, strOk_ofString, strOk_v, strOk_n, strOk_nm, strOk_fr, strOk_num, ih]
  | app a b ih1 ih2 => simp [T.pv, PV.lay, PV.lays, PV.depth, PV.depths, strOk_ofString, strOk_v, strOk_n, strOk_nm, strOk_fr, strOk_num, ih1, ih2]
theorem T.depth_pv (t : T) : t.pv.depth ≤ t.size := by
  induction t with
  | nm x => simp [T.pv, T.size, PV.lay, PV.lays, PV.depth, PV.depths, strOk_ofString, strOk_v, strOk_n, strOk_nm, strOk_fr, strOk_num]
  | lam x b ih => simp [T.pv, T.size, PV.lay, PV.lays, PV.depth, PV.depths, strOk_ofString, strOk_v, strOk_n, strOk_nm, strOk_fr, strOk_num]; omega
  | app a b ih1 ih2 => simp [T.pv, T.size, PV.lay, PV.lays, PV.depth, PV.depths, strOk_ofString, strOk_v, strOk_n, strOk_nm, strOk_fr, strOk_num]; omega
theorem n_codes (i : Nat) : (ntext i).cps.toList = 110 :: (strOfInt (i : Int)).cps.toList := by
  unfold ntext; rw [codes_append, codes_n]; rfl
theorem Nm.text_inj {x y : Nm} (h : x.text = y.text) : x = y := by
  have e := congrArg (fun s : Str => s.cps.toList) h
  have ek : Nm.k.text.cps.toList = [107] := by show (Str.ofString "k").cps.toList = _; rw [signs_txt]; rfl
  have em : Nm.m.text.cps.toList = [109] := by show (Str.ofString "m").cps.toList = _; rw [signs_txt]; rfl
  have en : ∀ i, (Nm.n i).text.cps.toList = 110 :: (strOfInt (i : Int)).cps.toList := n_codes
  cases x <;> cases y <;> simp only [ek, em, en] at e
  · rfl
  · exact absurd e (by decide)
  · exact absurd e (by simp)
  · exact absurd e (by decide)
  · rfl
  · exact absurd e (by simp)
  · exact absurd e (by simp)
  · exact absurd e (by simp)
  · rename_i i j
    have e2 : (strOfInt (i : Int)).cps.toList = (strOfInt (j : Int)).cps.toList := by simpa using e
    have v1 := PySem.W.KIN.val_back i
    have v2 := PySem.W.KIN.val_back j
    rw [← digits_num, e2, digits_num, v2] at v1
    rw [v1]
theorem Nm.text_beq (x y : Nm) : (x.text == y.text) = decide (x = y) := by
  rw [Bool.eq_iff_iff, beq_iff_eq, decide_eq_true_eq]
  exact ⟨Nm.text_inj, fun h => h ▸ rfl⟩
end
section
variable [Z : Zero Frozen]
-- Q12
theorem isapp_spec (t : T) : Calls "_law_is_app_of_lam" [t.pv] 1 (.bool t.redex) := by
  refine calls_of rfl rfl rfl fun n hn σ => ?_
  cases t with
  | app a b => cases a <;> (unfold T.redex T.pv T.pv; apply call1; dsimp only; (repeat walk_at "e"); (try rfl); repeat walk_at "e")
  | _ => unfold T.redex T.pv; apply call1; dsimp only; (repeat walk_at "e"); (try rfl); repeat walk_at "e"
theorem T.kid_pv {t k : T} {i : Nat} (h : t.kid i = some k) : ∃ l, t.pv = .tup l ∧ l[i]? = some k.pv ∧ l.length = 3 := by
  match t, i, h with
  | .lam x b, 2, h => cases h; exact ⟨_, rfl, rfl, rfl⟩
  | .app a b, 1, h => cases h; exact ⟨_, rfl, rfl, rfl⟩
  | .app a b, 2, h => cases h; exact ⟨_, rfl, rfl, rfl⟩
theorem lpart_spec (t u : T) (p : List Nat) (hl : p.length ≤ 100000) (h : t.part p = some u) : Calls "_law_part" [t.pv, pathPV p] 1 u.pv := by
  refine calls_of rfl rfl (T.low_pv _) fun n hn σ => ?_
  have hs : small (p.map fun (i : Nat) => PV.int (i : Int)).length = true := small_of (by simpa using hl)
  apply call2
  dsimp only
  unfold pathPV
  repeat walk_at "e"
  refine wforI (fun ds ρ σ' => ∃ p' t', ds = p'.map (fun (i : Nat) => PV.int (i : Int)) ∧ T.part t' p' = some u ∧ ρ "tree" = some t'.pv ∧ ∃ g, σ' = σ ++ g) ⟨p, t, rfl, h, rfl, [], by simp⟩ ?_ ?_
  · rintro d r ρ σ' ⟨p', t', hds, hp, ht, g, rfl⟩
    cases p' with
    | nil => cases hds
    | cons i p' =>
    cases hds
    unfold T.part at hp
    cases hk : t'.kid i with
    | none => rw [hk] at hp; cases hp
    | some t2 =>
    rw [hk] at hp
    obtain ⟨l, e1, e2, e3⟩ := T.kid_pv hk
    rw [e1] at ht
    have e4 := (List.getElem?_eq_some_iff.mp e2).1
    have e10 : Itm (.tup l) (.int (i : Int)) (σ ++ g) (.ok t2.pv (σ ++ g)) := it_tup (decide_eq_true (by omega)) (pk_nat (k := i) rfl e2)
    repeat walk_at "e"
    exact ⟨p', t2, rfl, hp, vs_hit, g, rfl⟩
  · rintro ρ σ' ⟨p', t', hds, hp, ht, g, rfl⟩
    cases p' with
    | cons i p' => cases hds
    | nil =>
      cases hp
      repeat walk_at "e"
theorem lwith_spec (u : T) : ∀ (p : List Nat) (t v : T), p.length ≤ 1000 → t.part p = some v → Calls "_law_with" [t.pv, pathPV p, u.pv] (p.length + 1) (T.repl u t p).pv
  | [], t, v, hl, h => by
    refine calls_of rfl rfl (T.low_pv _) fun n hn σ => ?_
    have e := path_lay []
    unfold pathPV T.repl
    apply call3; dsimp only; repeat walk_at "e"
    · exact eq_tups e
    repeat walk_at "e"
  | i :: p, t, v, hl, h => by
    have hl' : p.length + 1 ≤ 1000 := hl
    unfold T.part at h
    cases hk : t.kid i with
    | none => rw [hk] at h; cases h
    | some k =>
    rw [hk] at h
    refine calls_of rfl rfl (T.low_pv _) fun n hn σ => ?_
    have hn : p.length + 1 ≤ n := by simp at hn; omega
    have hr : Giv n "_law_with" [k.pv, .tup (p.map fun (i : Nat) => PV.int (i : Int)), u.pv] (T.repl u k p).pv := lwith_spec u p k v (by omega) h n hn
    have e1 := path_lay (i :: p)
    have e2 : small (PV.int i :: p.map fun (i : Nat) => PV.int (i : Int)).length = true := small_of (by simp; omega)
    obtain ⟨l, h1, h2, h3⟩ := T.kid_pv hk
    have h4 := (List.getElem?_eq_some_iff.mp h2).1
    have e3 : small l.length = true := small_of (by omega)
    have hv : PV.tup (l.take i ++ [(T.repl u k p).pv] ++ l.drop (i + 1)) = (T.repl u t (i :: p)).pv := by
      match t, i, hk, h1 with
      | .lam x b, 2, hk, h1 => cases hk; cases h1; rfl
      | .app a b, 1, hk, h1 => cases hk; cases h1; rfl
      | .app a b, 2, hk, h1 => cases hk; cases h1; rfl
    have e4 : small (l.take i ++ [(T.repl u k p).pv]).length = true := small_of (by simp; omega)
    have e5 : small (l.drop (i + 1)).length = true := small_of (by simp; omega)
    have e6 : small (l.take i).length = true := small_of (by simp; omega)
    have e7 : (small (l.take i).length && small [(T.repl u k p).pv].length) = true := by rw [e6]; rfl
    have e8 : (small (l.take i ++ [(T.repl u k p).pv]).length && small (l.drop (i + 1)).length) = true := by rw [e4, e5]; rfl
    have s1 : ∀ σ, Slc (.tup l) .none (.int (i : Int)) σ (.ok (.tup (l.take i)) σ) := fun σ => sl_tup bd_none (bd_nat (k := i) rfl (decide_eq_true (by omega))) e3
    have s2 : ∀ σ, Slc (.tup l) (.int ((i : Int) + 1)) .none σ (.ok (.tup (l.drop (i + 1))) σ) := fun σ => sl_tup (bd_nat (k := i + 1) (by omega) (decide_eq_true (by omega))) bd_none e3
    have e10 : Itm (.tup l) (.int (i : Int)) σ (.ok k.pv σ) := it_tup (decide_eq_true (by omega)) (pk_nat (k := i) rfl h2)
    rw [h1]
    unfold pathPV
    rw [List.map_cons] at e1 ⊢
    apply call3; dsimp only; repeat walk_at "e"
    · exact eq_tups e1
    repeat walk_at "e"
    · exact s1 _
    repeat walk_at "e"
    · exact s2 _
    repeat walk_at "e"
theorem ins_T (t : T) : Ins t.pv true := by cases t <;> exact ins_tup
theorem eq_name (t : T) (x : Nm) (σ : Store) (h : t.size ≤ 1000) : Eqt t.pv (.tup [.str "name", .str x.text]) σ (decide (t = .nm x)) := by
  have hd := T.depth_pv t
  have e : pyEq t.pv (.tup [.str "name", .str x.text]) = decide (t = .nm x) := by
    cases t <;> simp [pyEq, T.pv, PV.toD, PV.toDs, PyData.eqv, PyData.eqvAll, Nm.text_beq, ofString_beq, T.nm.injEq]
  rw [← e]
  refine eq_plain ?_
  rw [T.lay_pv, decide_eq_true (by omega)]
  simp [PV.lay, PV.lays, strOk_ofString, strOk_nm]
theorem lput_spec (x : Nm) (u : T) : ∀ t : T, t.size ≤ 1000 → Calls "_law_put" [t.pv, .str x.text, u.pv] t.size (T.put x u t).pv
  | .nm y, hs => by
    refine calls_of rfl rfl (T.low_pv _) fun n hn σ => ?_
    have e := eq_name (.nm y) x σ hs
    by_cases h : y = x
    · subst h
      rw [show decide (T.nm y = .nm y) = true by simp] at e
      rw [show T.put y u (.nm y) = u by simp [T.put]]
      apply call3; dsimp only; repeat walk_at "e"
    · rw [show decide (T.nm y = .nm x) = false by simpa [T.nm.injEq] using h] at e
      rw [show T.put x u (.nm y) = .nm y by simp [T.put, h]]
      unfold T.pv at e ⊢
      apply call3; dsimp only; repeat walk_at "e"
  | .lam y b, hs => by
    have hz : (T.lam y b).size = b.size + 1 := rfl
    refine calls_of (k := b.size) rfl rfl (T.low_pv _) fun n hn σ => ?_
    have h1 := lput_spec x u b (by omega) n hn
    have e := eq_name (.lam y b) x σ hs
    rw [show decide (T.lam y b = .nm x) = false from decide_eq_false (by simp)] at e
    have hi := ins_T b
    show Body n _ [.tup [.str "lam", .str y.text, b.pv], _, _] (.tup [.str "lam", .str y.text, (T.put x u b).pv]) σ
    have e : Eqt (.tup [.str "lam", .str y.text, b.pv]) (.tup [.str "name", .str x.text]) σ false := e
    apply call3; dsimp only; repeat walk_at "e"
  | .app a b, hs => by
    have hz : (T.app a b).size = a.size + b.size + 1 := rfl
    refine calls_of (k := a.size + b.size) rfl rfl (T.low_pv _) fun n hn σ => ?_
    have h1 := lput_spec x u a (by omega) n (by omega)
    have h2 := lput_spec x u b (by omega) n (by omega)
    have e := eq_name (.app a b) x σ hs
    rw [show decide (T.app a b = .nm x) = false from decide_eq_false (by simp)] at e
    have hi := ins_T a
    have hi2 := ins_T b
    show Body n _ [.tup [.str "app", a.pv, b.pv], _, _] (.tup [.str "app", (T.put x u a).pv, (T.put x u b).pv]) σ
    have e : Eqt (.tup [.str "app", a.pv, b.pv]) (.tup [.str "name", .str x.text]) σ false := e
    apply call3; dsimp only; repeat walk_at "e"
theorem worked_spec (x : Nm) (c a : T) (hs : c.size ≤ 1000) : Calls "_law_worked" [(T.app (.lam x c) a).pv] (c.size + 1) (T.put x a c).pv := by
  refine calls_of rfl rfl (T.low_pv _) fun n hn σ => ?_
  have h1 := lput_spec x a c hs n hn
  show Body n _ [.tup [.str "app", .tup [.str "lam", .str x.text, c.pv], a.pv]] _ σ
  apply call1; dsimp only; repeat walk_at "e"
end
section
variable [Z : Zero Frozen]
-- Q12b
theorem low_paths (l : List (List Nat)) : PV.lows 0 (l.map pathPV) = true := by
  induction l with
  | nil => rfl
  | cons p l ih => rw [List.map_cons, PV.lows, ih, low_path]; rfl
theorem spots_len2 (t : T) (h : t.size ≤ 1000) : small (t.spots.map pathPV).length = true := small_of (by rw [List.length_map, T.spots_len]; omega)
theorem ext_set {σ σ' : Store} {c : Cell} (h : ∃ g, σ' = σ ++ g) : ∃ g, σ'.set σ.length c = σ ++ g := pre_set h (Nat.le_refl _)
theorem spots_nm (y : Nm) : CallsL "_law_spots" [(T.nm y).pv] 1 [pathPV []] := by
    refine callsL_of (k := 0) rfl rfl rfl fun n hn σ => ?_
    show BodyL n _ [.tup [.str "name", .str y.text]] [.tup []] σ
    apply calll1; dsimp only; repeat walk_at "e"
    exact retl (by repeat walk_at "e") (Nat.le_refl _) (by walk_at "g")
abbrev rawPath (p : List Nat) : PV := .tup (p.map fun (i : Nat) => PV.int (i : Int))
theorem path_in (i : Int) (b : T) (hs : b.size ≤ 1000) : ∀ p ∈ b.spots, (small [PV.int i].length && small (p.map fun (i : Nat) => PV.int (i : Int)).length) = true := fun p hp => by
  have := T.spots_depth b p hp
  exact small2 (by simp) (by simp; omega)
theorem spots_lam (y : Nm) (b : T) (hs : (T.lam y b).size ≤ 1000) (k : Nat) (ih : CallsL "_law_spots" [b.pv] k (b.spots.map pathPV)) : CallsL "_law_spots" [(T.lam y b).pv] (k + 1) ((T.lam y b).spots.map pathPV) := by
    have hz : (T.lam y b).size = b.size + 1 := rfl
    refine callsL_of rfl rfl (low_paths _) fun n hn σ => ?_
    have h1 : GivL n "_law_spots" [b.pv] (b.spots.map rawPath) := ih n hn
    have hpi := path_in 2 b (by omega)
    have e1 : small (b.spots.map rawPath).length = true := spots_len2 b (by omega)
    have e2 : small (b.spots.map fun p => PV.tup ([PV.int 2] ++ p.map fun (i : Nat) => PV.int (i : Int))).length = true := by rw [List.length_map] at e1 ⊢; exact e1
    have hi := ins_T b
    show BodyL n _ [.tup [.str "lam", .str y.text, b.pv]] _ σ
    apply calll1; dsimp only; repeat walk_at "e"
    · refine ci_list last_at e1 (turns_map (g := fun p => PV.tup ([PV.int 2] ++ p.map fun (i : Nat) => PV.int (i : Int))) (its_list last_at) fun p hp => ⟨?_, ?_⟩)
      · repeat walk_at "e"
      · have e := hpi p hp
        repeat walk_at "e"
    repeat walk_at "e"
    · refine m_extend (by walk_at "g") (by walk_at "g") ?_
      rw [e2, decide_eq_true (by simp)]; rfl
    repeat walk_at "e"
    refine retl (ext_set (by repeat walk_at "e")) (Nat.le_refl _) ?_
    rw [get_hit (by walk_at "g")]
    simp [T.spots, pathPV, Function.comp_def]
theorem spots_app (a b : T) (hs : (T.app a b).size ≤ 1000) (k : Nat) (ih : CallsL "_law_spots" [a.pv] k (a.spots.map pathPV)) (ih2 : CallsL "_law_spots" [b.pv] k (b.spots.map pathPV)) : CallsL "_law_spots" [(T.app a b).pv] (k + 1) ((T.app a b).spots.map pathPV) := by
    have hz : (T.app a b).size = a.size + b.size + 1 := rfl
    refine callsL_of rfl rfl (low_paths _) fun n hn σ => ?_
    have h1 : GivL n "_law_spots" [a.pv] (a.spots.map rawPath) := ih n hn
    have h2 : GivL n "_law_spots" [b.pv] (b.spots.map rawPath) := ih2 n hn
    have hpi := path_in 1 a (by omega)
    have hpi2 := path_in 2 b (by omega)
    have e1 : small (a.spots.map rawPath).length = true := spots_len2 a (by omega)
    have e3 : small (b.spots.map rawPath).length = true := spots_len2 b (by omega)
    have l1 := T.spots_len a
    have l2 := T.spots_len b
    have hi := ins_T a
    have hi2 := ins_T b
    show BodyL n _ [.tup [.str "app", a.pv, b.pv]] _ σ
    apply calll1; dsimp only; repeat walk_at "e"
    · refine ci_list last_at e1 (turns_map (g := fun p => PV.tup ([PV.int 1] ++ p.map fun (i : Nat) => PV.int (i : Int))) (its_list last_at) fun p hp => ⟨?_, ?_⟩)
      · repeat walk_at "e"
      · have e := hpi p hp
        repeat walk_at "e"
    repeat walk_at "e"
    · refine m_extend (by walk_at "g") (by walk_at "g") ?_
      rw [small_of (by simp), small_of (by simp; omega), decide_eq_true (by simp)]; rfl
    repeat walk_at "e"
    · refine ci_list last_at e3 (turns_map (g := fun p => PV.tup ([PV.int 2] ++ p.map fun (i : Nat) => PV.int (i : Int))) (its_list last_at) fun p hp => ⟨?_, ?_⟩)
      · repeat walk_at "e"
      · have e := hpi2 p hp
        repeat walk_at "e"
    repeat walk_at "e"
    · refine m_extend (by walk_at "g") (by walk_at "g") ?_
      rw [small_of (by simp; omega), small_of (by simp; omega), decide_eq_true (by simp)]; rfl
    repeat walk_at "e"
    refine retl (ext_set (ext_app (ext_app (ext_set (by repeat walk_at "e"))))) (Nat.le_refl _) ?_
    rw [get_hit (by walk_at "g")]
    simp [T.spots, pathPV, Function.comp_def]
theorem spots_spec : ∀ t : T, t.size ≤ 1000 → CallsL "_law_spots" [t.pv] t.size (t.spots.map pathPV)
  | .nm y, hs => spots_nm y
  | .lam y b, hs => spots_lam y b hs b.size (spots_spec b (by have : (T.lam y b).size = b.size + 1 := rfl; omega))
  | .app a b, hs => by
    have hz : (T.app a b).size = a.size + b.size + 1 := rfl
    exact spots_app a b hs (a.size + b.size) (fun n hn => spots_spec a (by omega) n (by omega)) (fun n hn => spots_spec b (by omega) n (by omega))
end
section
variable [Z : Zero Frozen]
-- Q13
def T.step : T → Option T
  | .app (.lam x c) a => some (T.put x a c)
  | .app a b => match a.step with
    | some a' => some (.app a' b)
    | none => match b.step with
      | some b' => some (.app a b')
      | none => none
  | .lam x b => match b.step with
    | some b' => some (.lam x b')
    | none => none
  | .nm _ => none
def T.redexAt (t : T) (p : List Nat) : Bool := match t.part p with
  | some u => u.redex
  | none => false
def T.backs (t : T) : List (List Nat) := t.spots.filter t.redexAt
theorem T.backs_lam (x : Nm) (b : T) : (T.lam x b).backs = b.backs.map (2 :: ·) := by
  unfold T.backs
  rw [show (T.lam x b).spots = [] :: b.spots.map (2 :: ·) from rfl, List.filter_cons_of_neg (by simp [T.redexAt, T.part, T.redex]), List.filter_map]
  rfl
theorem T.backs_app (a b : T) : (T.app a b).backs = (if (T.app a b).redex then [[]] else []) ++ a.backs.map (1 :: ·) ++ b.backs.map (2 :: ·) := by
  unfold T.backs
  rw [show (T.app a b).spots = [] :: (a.spots.map (1 :: ·) ++ b.spots.map (2 :: ·)) from rfl, List.filter_cons]
  rw [List.filter_append, List.filter_map, List.filter_map]
  have e1 : ((T.app a b).redexAt ∘ fun x => 1 :: x) = a.redexAt := rfl
  have e2 : ((T.app a b).redexAt ∘ fun x => 2 :: x) = b.redexAt := rfl
  rw [e1, e2]
  have e3 : (T.app a b).redexAt [] = (T.app a b).redex := rfl
  rw [e3]
  cases (T.app a b).redex <;> simp
theorem T.redex_iff (a b : T) : ((T.app a b).redex = true ∧ ∃ x c, a = .lam x c) ∨ ((T.app a b).redex = false ∧ (T.app a b).step = match a.step with
    | some a' => some (.app a' b)
    | none => match b.step with
      | some b' => some (.app a b')
      | none => none) := by
  cases a with
  | lam x c => exact .inl ⟨rfl, _, _, rfl⟩
  | _ => exact .inr ⟨rfl, rfl⟩
theorem T.step_backs (t : T) : match t.backs with
    | [] => t.step = none
    | p :: _ => ∃ x c a, t.part p = some (.app (.lam x c) a) ∧ t.step = some (T.repl (T.put x a c) t p) ∧ c.size ≤ t.size ∧ p.length ≤ t.size := by
  induction t with
  | nm x => rfl
  | lam x b ih =>
    rw [T.backs_lam]
    unfold T.step
    cases hb : b.backs with
    | nil => rw [hb] at ih; simp only [List.map_nil] at ih ⊢; rw [ih]
    | cons p r =>
      rw [hb] at ih
      obtain ⟨y, c, a, h1, h2, h3, h4⟩ := ih
      refine ⟨y, c, a, h1, by rw [h2]; rfl, ?_, ?_⟩
      · show _ ≤ b.size + 1
        omega
      · show p.length + 1 ≤ b.size + 1
        omega
  | app a b ih1 ih2 =>
    rw [T.backs_app]
    have hz : (T.app a b).size = a.size + b.size + 1 := rfl
    rcases T.redex_iff a b with ⟨h, x, c, rfl⟩ | ⟨h, hs⟩
    · rw [h]
      refine ⟨x, c, b, rfl, rfl, ?_, Nat.zero_le _⟩
      show _ ≤ c.size + 1 + b.size + 1
      omega
    · rw [h, hs]
      simp only [Bool.false_eq_true, ↓reduceIte, List.nil_append]
      cases ha : a.backs with
      | cons p r =>
        rw [ha] at ih1
        obtain ⟨x, c, y, h1, h2, h3, h4⟩ := ih1
        exact ⟨x, c, y, h1, by rw [h2]; rfl, by omega, by show p.length + 1 ≤ _; omega⟩
      | nil =>
        rw [ha] at ih1
        simp only at ih1
        rw [ih1]
        simp only [List.map_nil, List.nil_append]
        cases hb : b.backs with
        | nil => rw [hb] at ih2; simp only [List.map_nil] at ih2 ⊢; rw [ih2]
        | cons p r =>
          rw [hb] at ih2
          obtain ⟨x, c, y, h1, h2, h3, h4⟩ := ih2
          exact ⟨x, c, y, h1, by rw [h2]; rfl, by omega, by show p.length + 1 ≤ _; omega⟩

inductive TEnds : T → Nat → T → Prop where
  | done {t : T} : t.step = none → t.size ≤ 150 → TEnds t 0 t
  | more {t t' u : T} {n : Nat} : t.step = some t' → t.size ≤ 150 → TEnds t' n u → TEnds t (n + 1) u
theorem lays_paths (l : List (List Nat)) : PV.lays (l.map pathPV) = true := by
  induction l with
  | nil => rfl
  | cons p l ih => simp [pathPV, lays_path, PV.lays, PV.lay] at ih ⊢; exact ih
theorem depths_paths (l : List (List Nat)) : PV.depths (l.map pathPV) ≤ 1 := by
  induction l with
  | nil => simp [PV.depths]
  | cons p l ih => simp [pathPV, depths_path, PV.depths, PV.depth] at ih ⊢; omega
theorem end_spec (t u : T) (n : Nat) (h : TEnds t n u) : Calls "_law_end" [t.pv] 160 (.tup [u.pv, .int n]) := by
  refine calls_of rfl rfl (by rw [PV.low, PV.lows, T.low_pv]; rfl) fun d hd σ => ?_
  apply call1; dsimp only; repeat walk_at "e"
  refine w_while (fun m ρ σ' => ∃ (t' : T) (many : Nat), TEnds t' m u ∧ many + m = n ∧ ρ "tree" = some t'.pv ∧ ρ "many" = some (.int many) ∧ ∃ g, σ' = σ ++ g) n ?_ ?_
  · refine ⟨t, 0, h, by omega, ?_, vs_hit, ext_refl⟩
    walk_at "v"
  · rintro m ρ σ' ⟨t', many, hE, hmn, ht, hmany, hpre⟩
    have hsz : t'.size ≤ 150 := by cases hE <;> assumption
    have h2 : GivL d "_law_spots" [t'.pv] (t'.spots.map pathPV) := spots_spec t' (by omega) d (by omega)
    have hsf := T.step_backs t'
    have e1 : small (t'.spots.map pathPV).length = true := spots_len2 t' (by omega)
    have hdp := T.spots_depth t'
    refine ⟨true, σ', by repeat walk_at "e", ?_⟩
    apply wif_t rfl
    have q2 := depths_paths (t'.spots.filter t'.redexAt)
    have q : (PV.lays ((t'.spots.filter t'.redexAt).map pathPV) && PV.lays [] && decide (PV.depths ((t'.spots.filter t'.redexAt).map pathPV) < 2000)) = true := by
      rw [lays_paths, decide_eq_true (by omega)]; rfl
    have go : ∀ c, PyData.eqvAll (PV.toDs ((t'.spots.filter t'.redexAt).map pathPV)) (PV.toDs []) = c → c = (t'.spots.filter t'.redexAt).isEmpty := fun c h => by
      rw [← h, show PV.toDs [] = [] from rfl, eqv_nil]; simp
    repeat walk_at "e"
    · refine ci_list last_at e1 (turns_filter (f := pathPV) (g := pathPV) (p := t'.redexAt) (its_list last_at) fun p hp => ⟨?_, fun _ => ?_⟩)
      · obtain ⟨v, hv⟩ := T.spots_part t' p hp
        have hpl := hdp p hp
        have c1 := lpart_spec t' v p (by omega) hv d (by omega)
        have c2 := isapp_spec v d (by omega)
        rw [show t'.redexAt p = v.redex by unfold T.redexAt; rw [hv]]
        repeat walk_at "e"
      · repeat walk_at "e"
    repeat walk_at "e"
    rw [show t'.spots.filter t'.redexAt = t'.backs from rfl] at q go ⊢
    cases hb : t'.backs with
    | nil =>
      rw [hb] at hsf
      cases hE with
      | more e _ _ => rw [hsf] at e; cases e
      | done _ _ =>
        have hn : many = n := by omega
        subst hn
        apply wif_t (by rfl)
        repeat walk_at "e"
    | cons p r =>
      rw [hb] at hsf
      obtain ⟨x, c, a, p1, p2, p3, p4⟩ := hsf
      cases hE with
      | done e _ => rw [p2] at e; cases e
      | more e _ hE' =>
        rename_i n'
        rw [p2] at e
        cases e
        have c1 := lpart_spec t' _ p (by omega) p1 d (by omega)
        have c2 := worked_spec x c a (by omega) d (by omega)
        have c3 := lwith_spec (T.put x a c) p t' _ (by omega) p1 d (by omega)
        have b0 : pickAt ((p :: r).map pathPV) 0 = some (pathPV p) := rfl
        apply wif_f (by rfl)
        repeat walk_at "e"
        refine ⟨_, Nat.lt_succ_self _, _, many + 1, hE', by omega, ?_, vs_hit, by repeat walk_at "e"⟩
        walk_at "v"
def core (env : List Nm) : T → B
  | .nm x => if x ∈ env then .var (env.idxOf x) else .fr (decide (x = .k))
  | .lam x b => .lam (core (x :: env) b)
  | .app a b => .app (core env a) (core env b)
/-- what no lam binds is k or m -/
def T.closed (env : List Nm) : T → Prop
  | .nm x => x ∈ env ∨ x = .k ∨ x = .m
  | .lam x b => T.closed (x :: env) b
  | .app a b => T.closed env a ∧ T.closed env b
def envPV (env : List Nm) : List PV := env.map fun x => .str x.text
theorem env_any (env : List Nm) (x : Nm) : ((envPV env).any fun y => PyData.eqv y.toD (PV.str x.text).toD) = decide (x ∈ env) := by
  induction env with
  | nil => simp [envPV]
  | cons y env ih =>
    simp only [envPV, List.map_cons, List.any_cons] at ih ⊢
    rw [ih]
    simp [Bool.decide_or, PyData.eqv, PV.toD, Nm.text_beq]
    rw [show decide (x = y) = decide (y = x) from decide_eq_decide.mpr eq_comm]
theorem env_find (env : List Nm) (x : Nm) (h : x ∈ env) : ((envPV env).findIdx? fun y => PyData.eqv y.toD (PV.str x.text).toD) = some (env.idxOf x) := by
  induction env with
  | nil => exact absurd h (by simp)
  | cons y env ih =>
    simp only [envPV, List.map_cons, List.findIdx?_cons] at ih ⊢
    by_cases e : y = x
    · subst e; simp [PyData.eqv, PV.toD]
    · have := ih (by simpa [Ne.symm e] using h)
      rw [this]
      have e2 : (y == x) = false := by simpa using e
      simp [e, List.idxOf_cons, e2, PyData.eqv, PV.toD, Nm.text_beq]
theorem env_lays (env : List Nm) : PV.lays (envPV env) = true := by
  induction env with
  | nil => rfl
  | cons y env ih => simp only [envPV, List.map_cons] at ih ⊢; simp [ih, PV.lay, PV.lays, PV.depth, PV.depths, strOk_ofString, strOk_nm]
theorem env_depths (env : List Nm) : PV.depths (envPV env) = 0 := by
  induction env with
  | nil => rfl
  | cons y env ih => simp only [envPV, List.map_cons] at ih ⊢; simp [ih, PV.lay, PV.lays, PV.depth, PV.depths, strOk_ofString, strOk_nm]


theorem env_small (env : List Nm) (h : env.length ≤ 1000) : small (envPV env).length = true := small_of (by unfold envPV; rw [List.length_map]; omega)
theorem core_spec : ∀ (t : T) (env : List Nm), T.closed env t → env.length + t.size ≤ 1000 → ∀ n, t.size ≤ n → ∀ (σ : Store) (a : Nat), σ[a]? = some (.list (envPV env)) → Cl (T1.at n) "_law_core" [t.pv, .ref a] σ (.ok (core env t).pv σ)
  | .nm x, env, hc, hs, n, hn, σ, a, ha => by
    obtain ⟨n, rfl⟩ : ∃ m, n = m + 1 := ⟨n - 1, by have := hn; simp [T.size] at this; omega⟩
    refine callw rfl rfl (B.low_pv _) ?_
    have hsz : env.length + 1 ≤ 1000 := hs
    have e2 : (PV.lays (envPV env) && (PV.str x.text).lay && decide (PV.depths (envPV env) < 2000)) = true := by
      rw [env_lays, env_depths, show (PV.str x.text).lay = true from strOk_nm x]; rfl
    have e3 := env_small env (by omega)
    have e1 : ((envPV env).any fun y => pyEq y (.str x.text)) = decide (x ∈ env) := env_any env x
    show Body n _ [.tup [.str "name", .str x.text], .ref a] _ σ
    by_cases hx : x ∈ env
    · rw [decide_eq_true hx] at e1
      have e6 := env_find env x hx
      have e7 : env.idxOf x < env.length := List.idxOf_lt_length_of_mem hx
      have e4 : (PV.lays (envPV env) && (PV.str x.text).lay && decide (PV.depths (envPV env) < 2000) && small (envPV env).length) = true := by rw [e2, e3]; rfl
      rw [show core env (.nm x) = .var (env.idxOf x) from if_pos hx]
      show Body n _ _ (.tup [.str (vtext (env.idxOf x))]) σ
      have l : (textOk (Str.ofString "var") && textOk (strOfInt (env.idxOf x : Int))) = true := by
        have := num_len (env.idxOf x) (by omega)
        rw [text_of (by rw [length_txt]; decide), text_of (by omega)]; rfl
      have hin : ∀ σ : Store, σ[a]? = some (.list (envPV env)) → Cop .In (.str x.text) (.ref a) σ (.ok true σ) := fun σ h => by rw [← e1]; exact k_in h e2
      have e8 : ((env.idxOf x : Int)).natAbs < 10 ^ 9 := by omega
      apply call2; dsimp only; repeat walk_at "e"
      · exact hin _ ha
      repeat walk_at "e"
      · exact m_index ha e4 e6
      repeat walk_at "e"
      · rfl
      repeat walk_at "e"
    · rw [decide_eq_false hx] at e1
      have hf : x.text = frText (decide (x = .k)) := by
        rcases hc with h | h | h
        · exact absurd h hx
        · subst h; rfl
        · subst h; rfl
      rw [show core env (.nm x) = .fr (decide (x = .k)) from if_neg hx]
      show Body n _ _ (.tup [.str (frText (decide (x = .k)))]) σ
      rw [← hf]
      have hin : ∀ σ : Store, σ[a]? = some (.list (envPV env)) → Cop .In (.str x.text) (.ref a) σ (.ok false σ) := fun σ h => by rw [← e1]; exact k_in h e2
      apply call2; dsimp only; repeat walk_at "e"
      · exact hin _ ha
      repeat walk_at "e"
  | .lam x b, env, hc, hs, n, hn, σ, a, ha => by
    obtain ⟨n, rfl⟩ : ∃ m, n = m + 1 := ⟨n - 1, by have := hn; simp [T.size] at this; omega⟩
    have hz : (T.lam x b).size = b.size + 1 := rfl
    refine callw rfl rfl (B.low_pv _) ?_
    have e3 := env_small env (by omega)
    have e4 : (small [PV.str x.text].length && small (envPV env).length) = true := by rw [e3]; rfl
    have ih := fun σ a => core_spec b (x :: env) hc (by simp; omega) n (by omega) σ a
    show Body n _ [.tup [.str "lam", .str x.text, b.pv], .ref a] (.tup [.str "lam", (core (x :: env) b).pv]) σ
    apply call2; dsimp only; repeat walk_at "e"
    · exact op_list last_at (get_app ha) e4
    repeat walk_at "e"
    · exact ih _ _ last_at
    repeat walk_at "e"
  | .app b c, env, hc, hs, n, hn, σ, a, ha => by
    obtain ⟨n, rfl⟩ : ∃ m, n = m + 1 := ⟨n - 1, by have := hn; simp [T.size] at this; omega⟩
    have hz : (T.app b c).size = b.size + c.size + 1 := rfl
    refine callw rfl rfl (B.low_pv _) ?_
    have h1 := core_spec b env hc.1 (by omega) n (by omega) σ a ha
    have h2 := core_spec c env hc.2 (by omega) n (by omega) σ a ha
    show Body n _ [.tup [.str "app", b.pv, c.pv], .ref a] (.tup [.str "app", (core env b).pv, (core env c).pv]) σ
    apply call2; dsimp only; repeat walk_at "e"
end
section
variable [Z : Zero Frozen]
-- Q14
/-- the hand in the store -/
structure HandAt (σ : Store) (h c : Nat) (cells : List Int) (a b : Nat) : Prop where
  hand : σ[h]? = some (.list [.ref c, .int a, .int b])
  cell : σ[c]? = some (.list (cells.map PV.int))
  ne : h ≠ c
  few : cells.length ≤ 100
abbrev handC (c a b : Nat) : Cell := .list [.ref c, .int a, .int b]
theorem HandAt.app {σ : Store} {h c : Nat} {cells : List Int} {a b : Nat} (H : HandAt σ h c cells a b) (g : Store) : HandAt (σ ++ g) h c cells a b := ⟨get_app H.hand, get_app H.cell, H.ne, H.few⟩
theorem HandAt.set {σ : Store} {h c : Nat} {cells : List Int} {a b : Nat} (H : HandAt σ h c cells a b) (a' b' : Nat) : HandAt (σ.set h (handC c a' b')) h c cells a' b' := ⟨get_hit H.hand, get_ne H.ne H.cell, H.ne, H.few⟩
theorem HandAt.lows {σ : Store} {h c : Nat} {cells : List Int} {a b : Nat} (H : HandAt σ h c cells a b) (a' b' : Nat) : PV.lows σ.length [.ref c, .int a', .int b'] = true := by
  simp [PV.lows, PV.low, (List.getElem?_eq_some_iff.mp H.cell).1]
theorem pick_at {cells : List Int} {i : Nat} (h : i < cells.length) : pickAt (cells.map PV.int) (i : Int) = some (.int cells[i]) := pk_nat rfl (by simp [h])
theorem pick_spec {σ : Store} {h c : Nat} {cells : List Int} {a b : Nat} (H : HandAt σ h c cells a b) (wide : Nat) (hw : 1 ≤ wide) (hw2 : wide ≤ 1000) (ha : a ≤ 1000) (n : Nat) (hn : 1 ≤ n) :
    ∃ v : Nat, v < wide ∧ Cl (T1.at n) "_law_pick" [.ref h, .int wide] σ (.ok (.int v) (σ.set h (handC c (a + 1) b))) := by
  obtain ⟨n, rfl⟩ : ∃ m, n = m + 1 := ⟨n - 1, by omega⟩
  have hH := H.hand
  have H2 := H.set (a + 1) b
  have hs2 := H2.hand
  have hc2 := H2.cell
  have hfew := H.few
  have e1 : small (cells.map PV.int).length = true := small_of (by simp; omega)
  have e2 : (0 : Int) < wide ∧ (wide : Int) < 1000000000 := by omega
  have hset : Sti (.ref h) (.int 1) (.int ((a : Int) + 1)) σ (σ.set h (handC c (a + 1) b)) := set_list (k := 1) H.hand rfl (by simp) (by decide)
  have p0 : pickAt [PV.ref c, .int a, .int b] 0 = some (.ref c) := rfl
  have p1 : pickAt [PV.ref c, .int a, .int b] 1 = some (.int a) := rfl
  have q0 : pickAt [PV.ref c, .int ((a + 1 : Nat) : Int), .int b] 0 = some (.ref c) := rfl
  have q1 : pickAt [PV.ref c, .int ((a + 1 : Nat) : Int), .int b] 1 = some (.int ((a + 1 : Nat) : Int)) := rfl
  by_cases hk : a < cells.length
  · have hv0 := Int.emod_nonneg (cells[a]) (b := (wide : Int)) (by omega)
    have hv1 := Int.emod_lt_of_pos (cells[a]) (b := (wide : Int)) (by omega)
    refine ⟨(cells[a] % (wide : Int)).toNat, by omega, callm rfl rfl rfl (H.lows _ _) ?_⟩
    rw [Int.toNat_of_nonneg hv0]
    show Ws _ _ _ (Vars.set (Vars.set Vars.no "hand" (.ref h)) "wide" (.int wide)) σ _
    rw [show defAt PySem.Challenge.pw_pq0040_01 26 = Def.mk _ _ _ from rfl]
    dsimp only
    have e5 : decide (((a + 1 : Nat) : Int) ≤ (((cells.map PV.int).length : Nat) : Int)) = true := decide_eq_true (by simp; omega)
    have p2 : pickAt (cells.map PV.int) (((a + 1 : Nat) : Int) - 1) = some (.int cells[a]) := pk_nat (k := a) (by omega) (by simp [hk])
    repeat walk_at "e"
    · exact it_ref (by walk_at "g") (decide_eq_true (by omega)) p2
    repeat walk_at "e"
  · have e5 : decide (((a + 1 : Nat) : Int) ≤ (((cells.map PV.int).length : Nat) : Int)) = false := decide_eq_false (by simp; omega)
    let w : Int := (7 * ((a + 1 : Nat) : Int) * ((a + 1 : Nat) : Int) + 5 * ((a + 1 : Nat) : Int) + 9 + (((cells.map PV.int).length : Nat) : Int)) / 4
    have hv0 := Int.emod_nonneg w (b := (wide : Int)) (by omega)
    have hv1 := Int.emod_lt_of_pos w (b := (wide : Int)) (by omega)
    refine ⟨(w % (wide : Int)).toNat, by omega, callm rfl rfl rfl (H.lows _ _) ?_⟩
    rw [Int.toNat_of_nonneg hv0]
    show Ws _ _ _ (Vars.set (Vars.set Vars.no "hand" (.ref h)) "wide" (.int wide)) σ _
    rw [show defAt PySem.Challenge.pw_pq0040_01 26 = Def.mk _ _ _ from rfl]
    dsimp only
    repeat walk_at "e"
    all_goals trace_state
end
section
variable [Z : Zero Frozen]
-- Q15
theorem name_spec {σ : Store} {h c : Nat} {cells : List Int} {a b : Nat} (H : HandAt σ h c cells a b) (hb : b ≤ 1000) (n : Nat) (hn : 1 ≤ n) :
    Cl (T1.at n) "_law_name" [.ref h] σ (.ok (.str (ntext (b + 1))) (σ.set h (handC c a (b + 1)))) := by
  obtain ⟨n, rfl⟩ : ∃ m, n = m + 1 := ⟨n - 1, by omega⟩
  have hH := H.hand
  have hs2 := (H.set a (b + 1)).hand
  have hset : Sti (.ref h) (.int 2) (.int ((b : Int) + 1)) σ (σ.set h (handC c a (b + 1))) := set_list (k := 2) H.hand rfl (by simp) (by decide)
  have p1 : pickAt [PV.ref c, .int a, .int b] 2 = some (.int b) := rfl
  have q1 : pickAt [PV.ref c, .int a, .int ((b + 1 : Nat) : Int)] 2 = some (.int ((b + 1 : Nat) : Int)) := rfl
  have l : (textOk (Str.ofString "n") && textOk (strOfInt ((b + 1 : Nat) : Int))) = true := by
    have := num_len (b + 1) (by omega)
    rw [text_of (by rw [length_txt]; decide), text_of (by omega)]; rfl
  refine callm rfl rfl rfl (H.lows _ _) ?_
  show Ws _ _ _ (Vars.set Vars.no "hand" (.ref h)) σ _
  rw [show defAt PySem.Challenge.pw_pq0040_01 27 = Def.mk _ _ _ from rfl]
  dsimp only
  repeat walk_at "e"
  · rfl
  repeat walk_at "e"
end
section
variable [Z : Zero Frozen]
-- Q15b
inductive Drawn : Nat → List Nm → Bool → Nat → T → Nat → Prop where
  | nm {f : Nat} {env : List Nm} {hd : Bool} {b : Nat} {x : Nm} : x ∈ env ∨ x = .k ∨ x = .m → Drawn f env hd b (.nm x) b
  | lam {f : Nat} {env : List Nm} {b : Nat} {t : T} {b' : Nat} : Drawn f (env ++ [.n (b + 1)]) false (b + 1) t b' → Drawn (f + 1) env false b (.lam (.n (b + 1)) t) b'
  | app {f : Nat} {env : List Nm} {hd : Bool} {b : Nat} {t u : T} {b1 b' : Nat} : Drawn f env true b t b1 → Drawn f env false b1 u b' → Drawn (f + 1) env hd b (.app t u) b'
def pk : Nat → Nat
  | 0 => 1
  | f + 1 => 1 + 2 * pk f

theorem pk_pos (f : Nat) : 1 ≤ pk f := by cases f <;> simp [pk]
theorem env_two (env : List Nm) : envPV env ++ [.str (Str.ofString "k"), .str (Str.ofString "m")] = envPV (env ++ [.k, .m]) := by
  unfold envPV; rw [List.map_append]; rfl
theorem env_one (env : List Nm) (i : Nat) : envPV env ++ [.str (ntext i)] = envPV (env ++ [.n i]) := by
  unfold envPV; rw [List.map_append]; rfl

theorem ext_hand {σ σ' : Store} {h : Nat} {c : Cell} (e : ∃ g, σ' = σ ++ g) (hl : h < σ.length) : ∃ g, σ'.set h c = σ.set h c ++ g := by
  obtain ⟨g, rfl⟩ := e
  exact ⟨g, by rw [List.set_append_left _ _ hl]⟩
theorem leaf_tail {env : List Nm} {σ : Store} {h c : Nat} {cells : List Int} {a b r : Nat} (H : HandAt σ h c cells a b) (hr : σ[r]? = some (.list (envPV env))) (ha : a ≤ 1000) (he : env.length ≤ 50) (n : Nat) (hn : 1 ≤ n) {ρ : Vars} (h1 : ρ "way" = some (.int 3)) (h2 : ρ "hand" = some (.ref h)) (h3 : ρ "around" = some (.ref r)) :
    ∃ x : Nm, (x ∈ env ∨ x = .k ∨ x = .m) ∧ Ws (T1.at n) (defAt PySem.Challenge.pw_pq0040_01 28).names ((defAt PySem.Challenge.pw_pq0040_01 28).body.drop 1) ρ σ fun o => ∃ g, o = .ret (T.nm x).pv (σ.set h (handC c (a + 1) b) ++ g) := by
  have hl := (List.getElem?_eq_some_iff.mp H.hand).1
  obtain ⟨v, hv, hp⟩ := pick_spec ((H.app [Cell.list [.str (Str.ofString "k"), .str (Str.ofString "m")]]).app [Cell.list (envPV env ++ [.str (Str.ofString "k"), .str (Str.ofString "m")])]) (env.length + 2) (by omega) (by omega) (by omega) n (by omega)
  have hx : (envPV (env ++ [.k, .m]))[v]? = some (.str ((env ++ [Nm.k, Nm.m])[v]'(by simp; omega)).text) := by
    unfold envPV; rw [List.getElem?_map, List.getElem?_eq_getElem (by simp; omega)]; rfl
  have hmem : (env ++ [Nm.k, Nm.m])[v]'(by simp; omega) ∈ env ++ [Nm.k, Nm.m] := List.getElem_mem _
  generalize (env ++ [Nm.k, Nm.m])[v]'(by simp; omega) = x at hx hmem
  rw [← env_two] at hx
  refine ⟨x, by simpa using hmem, ?_⟩
  have hlen : (envPV env).length = env.length := List.length_map _
  have e4 : (small (envPV env).length && small [PV.str (Str.ofString "k"), .str (Str.ofString "m")].length) = true := by rw [env_small env (by omega)]; rfl
  have e5 : small (envPV env ++ [PV.str (Str.ofString "k"), .str (Str.ofString "m")]).length = true := small_of (by simp; omega)
  have e6 : (((envPV env ++ [PV.str (Str.ofString "k"), .str (Str.ofString "m")]).length : Nat) : Int) = ((env.length + 2 : Nat) : Int) := by simp [hlen]
  have hne : h ≠ (σ ++ [Cell.list [.str (Str.ofString "k"), .str (Str.ofString "m")]]).length := by simp; omega
  have hp2 := hp
  rw [← e6] at hp2
  rw [show defAt PySem.Challenge.pw_pq0040_01 28 = Def.mk _ _ _ from rfl]
  dsimp only [List.drop]
  repeat walk_at "e"
  · exact op_list (get_app hr) last_at e4
  repeat walk_at "e"
  · exact it_ref (get_ne hne last_at) (decide_eq_true (by omega)) (pk_nat rfl hx)
  repeat walk_at "e"
  · rfl
  · exact ext_hand (ext_app (ext_app ext_refl)) hl
theorem tree_spec : ∀ (f : Nat) (env : List Nm) (hd : Bool) {σ : Store} {h c : Nat} {cells : List Int} {a b r : Nat}, HandAt σ h c cells a b → σ[r]? = some (.list (envPV env)) → r ≠ h → a + pk f ≤ 1000 → b + pk f ≤ 1000 → env.length + f ≤ 50 → ∀ n, f + 2 ≤ n →
    ∃ t a' b', Cl (T1.at n) "_law_tree" [.ref h, .ref r, .int f, .bool hd] σ (.ok (T.pv t) (σ.set h (handC c a' b'))) ∧ a' ≤ a + pk f ∧ b' ≤ b + pk f ∧ Drawn f env hd b t b'
  | 0, env, hd, σ, h, c, cells, a, b, r, H, hr, hrh, ha, hb, he, n, hn => by
    obtain ⟨n, rfl⟩ : ∃ m, n = m + 1 := ⟨n - 1, by omega⟩
    have hpk : pk 0 = 1 := rfl
    obtain ⟨x, hx, hw⟩ := leaf_tail (ρ := Vars.set (Vars.set (Vars.set (Vars.set (Vars.set Vars.no "hand" (.ref h)) "around" (.ref r)) "floors" (.int (0 : Nat))) "is_head" (.bool hd)) "way" (.int 3)) H hr (by omega) (by omega) n (by omega) rfl rfl rfl
    refine ⟨.nm x, a + 1, b, callm rfl rfl (T.low_pv _) (H.lows _ _) ?_, by omega, by omega, .nm hx⟩
    rw [show defAt PySem.Challenge.pw_pq0040_01 28 = Def.mk _ _ _ from rfl] at hw ⊢
    show Ws _ _ _ (Vars.set (Vars.set (Vars.set (Vars.set Vars.no "hand" (.ref h)) "around" (.ref r)) "floors" (.int (0 : Nat))) "is_head" (.bool hd)) σ _
    apply w_set
    · kernel_rfl!
    rotate_left
    · exact hw
    repeat walk_at "e"
  | f + 1, env, hd, σ, h, c, cells, a, b, r, H, hr, hrh, ha, hb, he, n, hn => by
    obtain ⟨n, rfl⟩ : ∃ m, n = m + 1 := ⟨n - 1, by omega⟩
    have hpk : pk (f + 1) = 1 + 2 * pk f := rfl
    have hpp := pk_pos f
    obtain ⟨w, hw, hp0⟩ := pick_spec H 4 (by omega) (by omega) (by omega) n (by omega)
    have H1 := H.set (a + 1) b
    have hr1 : (σ.set h (handC c (a + 1) b))[r]? = some (.list (envPV env)) := get_ne (Ne.symm hrh) hr
    have hl := (List.getElem?_eq_some_iff.mp H.hand).1
    have ef : (f : Int) = ((f + 1 : Nat) : Int) - 1 := by omega
    have e0 : decide ((0 : Int) < ((f + 1 : Nat) : Int)) = true := decide_eq_true (by omega)
    by_cases h3 : w = 3
    · subst h3
      obtain ⟨x, hx, hw⟩ := leaf_tail (ρ := Vars.set (Vars.set (Vars.set (Vars.set (Vars.set Vars.no "hand" (.ref h)) "around" (.ref r)) "floors" (.int (f + 1 : Nat))) "is_head" (.bool hd)) "way" (.int 3)) H1 hr1 (by omega) (by omega) n (by omega) rfl rfl rfl
      refine ⟨.nm x, a + 1 + 1, b, callm rfl rfl (T.low_pv _) (H.lows _ _) ?_, by omega, by omega, .nm hx⟩
      rw [List.set_set] at hw
      rw [show defAt PySem.Challenge.pw_pq0040_01 28 = Def.mk _ _ _ from rfl] at hw ⊢
      show Ws _ _ _ (Vars.set (Vars.set (Vars.set (Vars.set Vars.no "hand" (.ref h)) "around" (.ref r)) "floors" (.int (f + 1 : Nat))) "is_head" (.bool hd)) σ _
      apply w_set
      · kernel_rfl!
      rotate_left
      · exact hw
      repeat walk_at "e"
      exact hp0
    · by_cases h0 : w = 0 ∧ hd = false
      · obtain ⟨rfl, rfl⟩ := h0
        have hnm := name_spec H1 (by omega) n (by omega)
        have H2 := H1.set (a + 1) (b + 1)
        have hr2 := get_ne (c := handC c (a + 1) (b + 1)) (Ne.symm hrh) hr1
        rw [List.set_set] at hnm H2 hr2
        have e3 := env_small env (by omega)
        have e4 : (small (envPV env).length && small [PV.str (ntext (b + 1))].length) = true := by rw [e3]; rfl
        obtain ⟨t, a', b', q1, q4, q5, q6⟩ := tree_spec f (env ++ [.n (b + 1)]) false ((H2.app [Cell.list [.str (ntext (b + 1))]]).app [Cell.list (envPV env ++ [.str (ntext (b + 1))])]) (by rw [env_one]; exact last_at) (by simp; omega) (by omega) (by omega) (by simp; omega) n (by omega)
        refine ⟨.lam (.n (b + 1)) t, a', b', callm rfl rfl (T.low_pv _) (H.lows _ _) ?_, by omega, by omega, .lam q6⟩
        rw [ef] at q1
        have hp0 : Cl (T1.at n) "_law_pick" [.ref h, .int 4] σ (.ok (.int 0) (σ.set h (handC c (a + 1) b))) := hp0
        rw [show defAt PySem.Challenge.pw_pq0040_01 28 = Def.mk _ _ _ from rfl]
        show Ws _ _ _ (Vars.set (Vars.set (Vars.set (Vars.set Vars.no "hand" (.ref h)) "around" (.ref r)) "floors" (.int (f + 1 : Nat))) "is_head" (.bool false)) σ _
        dsimp only
        repeat walk_at "e"
        · exact op_list (get_app hr2) last_at e4
        repeat walk_at "e"
        · rfl
        · have e := ext_hand (c := handC c a' b') (ext_app (x := [Cell.list (envPV env ++ [.str (ntext (b + 1))])]) (ext_app (x := [Cell.list [.str (ntext (b + 1))]]) (ext_refl (σ := σ.set h (handC c (a + 1) (b + 1)))))) (by rw [List.length_set]; exact hl)
          rw [List.set_set] at e
          exact e
      · have q := tree_spec f env true H1 hr1 hrh (by omega) (by omega) (by omega) n (by omega)
        obtain ⟨t, a', b', q1, q4, q5, q6⟩ := q
        have H2 := H1.set a' b'
        have hr2 := get_ne (c := handC c a' b') (Ne.symm hrh) hr1
        rw [List.set_set] at q1 H2 hr2
        obtain ⟨u, a'', b'', p1, p4, p5, p6⟩ := tree_spec f env false H2 hr2 hrh (by omega) (by omega) (by omega) n (by omega)
        rw [List.set_set] at p1
        rw [ef] at q1 p1
        refine ⟨.app t u, a'', b'', callm rfl rfl (T.low_pv _) (H.lows _ _) ?_, by omega, by omega, .app q6 p6⟩
        have e1 : ((w : Int) == 0) = true → (!hd) = false := fun e => by
          have : w = 0 := by simpa using e
          cases hd
          · exact absurd ⟨this, rfl⟩ h0
          · rfl
        have e2 : decide ((w : Int) < 3) = true := decide_eq_true (by omega)
        have hp0 : Cl (T1.at n) "_law_pick" [.ref h, .int 4] σ (.ok (.int w) (σ.set h (handC c (a + 1) b))) := hp0
        rw [show defAt PySem.Challenge.pw_pq0040_01 28 = Def.mk _ _ _ from rfl]
        show Ws _ _ _ (Vars.set (Vars.set (Vars.set (Vars.set Vars.no "hand" (.ref h)) "around" (.ref r)) "floors" (.int (f + 1 : Nat))) "is_head" (.bool hd)) σ _
        dsimp only
        cases e : ((w : Int) == 0) with
        | true =>
          have e1 := e1 e
          repeat walk_at "e"
          · rfl
          repeat walk_at "e"
        | false =>
          repeat walk_at "e"
          · rfl
          repeat walk_at "e"
end
section
variable [Z : Zero Frozen]
-- Q16
inductive MadeT (i : Nat) : T → T → Prop where
  | wrap {u : T} : MadeT i u (.app (.lam (.n i) (.nm (.n i))) u)
  | drop {u : T} : MadeT i u (.app (.lam (.n i) u) (.nm .m))
  | arg {u v : T} : MadeT i (.app u v) (.app (.lam (.n i) (.app u (.nm (.n i)))) v)
inductive Turn (b : Nat) : T → T → Nat → Prop where
  | work {t : T} {p : List Nat} {x : Nm} {c a : T} : t.part p = some (.app (.lam x c) a) → Turn b t (T.repl (T.put x a c) t p) b
  | made {t u v : T} {p : List Nat} : t.part p = some u → MadeT (b + 1) u v → Turn b t (T.repl v t p) (b + 1)
theorem n_text (i : Nat) : (Nm.n i).text = ntext i := rfl
theorem m_text : Nm.m.text = Str.ofString "m" := rfl
theorem T.size_pos (t : T) : 1 ≤ t.size := by cases t <;> simp [T.size]
theorem T.redex_some {t : T} (h : t.redex = true) : ∃ x c a, t = .app (.lam x c) a := by
  cases t with
  | app u a =>
    cases u with
    | lam x c => exact ⟨x, c, a, rfl⟩
    | nm x => exact absurd h (by simp [T.redex])
    | app v w => exact absurd h (by simp [T.redex])
  | nm x => exact absurd h (by simp [T.redex])
  | lam x c => exact absurd h (by simp [T.redex])
theorem T.part_size : ∀ (p : List Nat) (t u : T), t.part p = some u → u.size ≤ t.size
  | [], t, u, h => by cases h; exact Nat.le_refl _
  | i :: p, t, u, h => by
    unfold T.part at h
    cases hk : t.kid i with
    | none => rw [hk] at h; exact absurd h (by simp)
    | some k =>
      rw [hk] at h
      have := T.part_size p k u h
      match t, i, hk with
      | .lam x b, 2, hk => rw [← (Option.some.inj hk : b = k)] at this; show _ ≤ b.size + 1; omega
      | .app a b, 1, hk => rw [← (Option.some.inj hk : a = k)] at this; show _ ≤ a.size + b.size + 1; omega
      | .app a b, 2, hk => rw [← (Option.some.inj hk : b = k)] at this; show _ ≤ a.size + b.size + 1; omega

theorem ints_path {l : List (List Nat)} {v : Nat} {p : List Nat} (h : l[v]? = some p) : pickAt (l.map pathPV) (v : Int) = some (pathPV p) := pk_nat rfl (by rw [List.getElem?_map, h]; rfl)
theorem made_tail (t : T) (hs : t.size ≤ 100) {S : Store} {h c m : Nat} {cells : List Int} {a b w : Nat} (H : HandAt S h c cells a b) (hm : S[m]? = some (.list (t.spots.map pathPV))) (hmh : h ≠ m) (ha : a + 1 ≤ 1000) (hb : b + 1 ≤ 1000) (hw : w < 4) (n : Nat) (hn : 149 ≤ n) {ρ : Vars}
    (r1 : ρ "hand" = some (.ref h)) (r2 : ρ "tree" = some t.pv) (r3 : ρ "spots" = some (.ref m)) (r4 : ρ "way" = some (.int w)) :
    ∃ t', Turn b t t' (b + 1) ∧ Ws (T1.at n) (defAt PySem.Challenge.pw_pq0040_01 35).names ((defAt PySem.Challenge.pw_pq0040_01 35).body.drop 3) ρ S fun o => ∃ g, o = .ret (T.pv t') (S.set h (handC c (a + 1) (b + 1)) ++ g) := by
  have hl := T.spots_len t
  have e1 : small (t.spots.map pathPV).length = true := spots_len2 t (by omega)
  obtain ⟨v, hv, hp1⟩ := pick_spec H t.spots.length (by have := T.size_pos t; omega) (by omega) (by omega) n (by omega)
  have el : t.spots.length = (t.spots.map pathPV).length := (List.length_map _).symm
  rw [el] at hp1
  have H2 := H.set (a + 1) b
  have hm2 : (S.set h (handC c (a + 1) b))[m]? = some (.list (t.spots.map pathPV)) := get_ne hmh hm
  have hnm := name_spec H2 (by omega) n (by omega)
  rw [List.set_set] at hnm
  have hx : t.spots[v]? = some (t.spots[v]'hv) := List.getElem?_eq_getElem hv
  have hmem : t.spots[v]'hv ∈ t.spots := List.getElem_mem _
  generalize t.spots[v]'hv = p at hx hmem
  obtain ⟨u, hu⟩ := T.spots_part t p hmem
  have hpl := T.spots_depth t p hmem
  have c1 := lpart_spec t _ p (by omega) hu n (by omega)
  have e6 := ints_path hx
  have cw := fun v => lwith_spec v p t u (by omega) hu n (by omega)
  by_cases hw0 : w = 0
  · subst hw0
    have k0 : Giv n "_law_with" [t.pv, pathPV p, .tup [.str "app", .tup [.str "lam", .str (ntext (b + 1)), u.pv], .tup [.str "name", .str "m"]]] _ := cw (.app (.lam (.n (b + 1)) u) (.nm .m))
    refine ⟨_, .made hu .drop, ?_⟩
    rw [show defAt PySem.Challenge.pw_pq0040_01 35 = Def.mk _ _ _ from rfl]
    dsimp only [List.drop]
    repeat walk_at "e"
    · exact it_ref hm2 (decide_eq_true (by omega)) e6
    repeat walk_at "e"
  · have e0 : ((w : Int) == 0) = false := by simpa using hw0
    have k1 : Giv n "_law_with" [t.pv, pathPV p, .tup [.str "app", .tup [.str "lam", .str (ntext (b + 1)), .tup [.str "name", .str (ntext (b + 1))]], u.pv]] _ := cw (.app (.lam (.n (b + 1)) (.nm (.n (b + 1)))) u)
    by_cases hw1 : w = 1
    · subst hw1
      cases u with
      | app u1 u2 =>
        have k2 : Giv n "_law_with" [t.pv, pathPV p, .tup [.str "app", .tup [.str "lam", .str (ntext (b + 1)), .tup [.str "app", u1.pv, .tup [.str "name", .str (ntext (b + 1))]]], u2.pv]] _ := cw (.app (.lam (.n (b + 1)) (.app u1 (.nm (.n (b + 1))))) u2)
        have c1 : Giv n "_law_part" [t.pv, pathPV p] (.tup [.str "app", u1.pv, u2.pv]) := c1
        refine ⟨_, .made hu .arg, ?_⟩
        rw [show defAt PySem.Challenge.pw_pq0040_01 35 = Def.mk _ _ _ from rfl]
        dsimp only [List.drop]
        repeat walk_at "e"
        · exact it_ref hm2 (decide_eq_true (by omega)) e6
        repeat walk_at "e"
      | nm x =>
        have k1 : Giv n "_law_with" [t.pv, pathPV p, .tup [.str "app", .tup [.str "lam", .str (ntext (b + 1)), .tup [.str "name", .str (ntext (b + 1))]], .tup [.str "name", .str x.text]]] _ := k1
        have c1 : Giv n "_law_part" [t.pv, pathPV p] (.tup [.str "name", .str x.text]) := c1
        refine ⟨_, .made hu .wrap, ?_⟩
        rw [show defAt PySem.Challenge.pw_pq0040_01 35 = Def.mk _ _ _ from rfl]
        dsimp only [List.drop]
        repeat walk_at "e"
        · exact it_ref hm2 (decide_eq_true (by omega)) e6
        repeat walk_at "e"
      | lam x u1 =>
        have k1 : Giv n "_law_with" [t.pv, pathPV p, .tup [.str "app", .tup [.str "lam", .str (ntext (b + 1)), .tup [.str "name", .str (ntext (b + 1))]], .tup [.str "lam", .str x.text, u1.pv]]] _ := k1
        have c1 : Giv n "_law_part" [t.pv, pathPV p] (.tup [.str "lam", .str x.text, u1.pv]) := c1
        refine ⟨_, .made hu .wrap, ?_⟩
        rw [show defAt PySem.Challenge.pw_pq0040_01 35 = Def.mk _ _ _ from rfl]
        dsimp only [List.drop]
        repeat walk_at "e"
        · exact it_ref hm2 (decide_eq_true (by omega)) e6
        repeat walk_at "e"
    · have e2 : ((w : Int) == 1) = false := by simp; omega
      refine ⟨_, .made hu .wrap, ?_⟩
      rw [show defAt PySem.Challenge.pw_pq0040_01 35 = Def.mk _ _ _ from rfl]
      dsimp only [List.drop]
      repeat walk_at "e"
      · exact it_ref hm2 (decide_eq_true (by omega)) e6
      repeat walk_at "e"
theorem turned_spec (t : T) (hs : t.size ≤ 100) {σ : Store} {h c : Nat} {cells : List Int} {a b : Nat} (H : HandAt σ h c cells a b) (ha : a + 2 ≤ 1000) (hb : b + 1 ≤ 1000) (n : Nat) (hn : 150 ≤ n) :
    ∃ t' a' b', Cl (T1.at n) "_law_turned" [.ref h, t.pv] σ (.ok (T.pv t') (σ.set h (handC c a' b'))) ∧ a' ≤ a + 2 ∧ b' ≤ b + 1 ∧ Turn b t t' b' := by
  obtain ⟨n, rfl⟩ : ∃ m, n = m + 1 := ⟨n - 1, by omega⟩
  have hsp : GivL n "_law_spots" [t.pv] (t.spots.map pathPV) := spots_spec t (by omega) n (by omega)
  have hl := T.spots_len t
  have hdp := T.spots_depth t
  have hl0 := (List.getElem?_eq_some_iff.mp H.hand).1
  obtain ⟨w, hw, hp0⟩ := pick_spec (H.app [Cell.list (t.spots.map pathPV)]) 4 (by omega) (by omega) (by omega) n (by omega)
  have H1 := (H.app [Cell.list (t.spots.map pathPV)]).set (a + 1) b
  have e1 : small (t.spots.map pathPV).length = true := spots_len2 t (by omega)
  have hm1 : ((σ ++ [Cell.list (t.spots.map pathPV)]).set h (handC c (a + 1) b))[σ.length]? = some (.list (t.spots.map pathPV)) := get_ne (Nat.ne_of_lt hl0) last_at
  have hp0 : Cl (T1.at n) "_law_pick" [.ref h, .int 4] (σ ++ [Cell.list (t.spots.map pathPV)]) (.ok (.int w) ((σ ++ [Cell.list (t.spots.map pathPV)]).set h (handC c (a + 1) b))) := hp0
  have fin : ∀ c2, ∃ g, ((σ ++ [Cell.list (t.spots.map pathPV)]).set h (handC c (a + 1) b)).set h c2 = σ.set h c2 ++ g := fun c2 => by
    rw [List.set_set]; exact ext_hand (ext_app ext_refl) hl0
  generalize (σ ++ [Cell.list (t.spots.map pathPV)]).set h (handC c (a + 1) b) = S at hp0 H1 hm1 fin
  have q2 := depths_paths t.backs
  have q : (PV.lays (t.backs.map pathPV) && PV.lays [] && decide (PV.depths (t.backs.map pathPV) < 2000)) = true := by
    rw [lays_paths, decide_eq_true (by omega)]; rfl
  have hSl := (List.getElem?_eq_some_iff.mp H1.hand).1
  have fin2 : ∀ (S' : Store) c2, (∃ g, S' = S ++ g) → ∃ g, S'.set h c2 = σ.set h c2 ++ g := fun S' c2 e => pre_trans (fin c2) (ext_hand e hSl)
  have go : (PyData.eqvAll (PV.toDs (t.backs.map pathPV)) (PV.toDs [])) = t.backs.isEmpty := by rw [show PV.toDs [] = [] from rfl, eqv_nil]; simp
  by_cases hA : w = 3 ∧ t.backs ≠ []
  · obtain ⟨rfl, hbk⟩ := hA
    have hbl : t.backs.length ≤ t.spots.length := List.length_filter_le _ _
    have hb1 : 1 ≤ t.backs.length := List.length_pos_iff.mpr hbk
    obtain ⟨v, hv, hp1⟩ := pick_spec ((H1.app [Cell.list (t.backs.map pathPV)]).app [Cell.list []]) t.backs.length hb1 (by omega) (by omega) n (by omega)
    have el : t.backs.length = (t.backs.map pathPV).length := (List.length_map _).symm
    rw [el] at hp1
    have hx : t.backs[v]? = some (t.backs[v]'hv) := List.getElem?_eq_getElem hv
    have hmem : t.backs[v]'hv ∈ t.backs := List.getElem_mem _
    generalize t.backs[v]'hv = p at hx hmem
    have hmem := List.mem_filter.mp hmem
    obtain ⟨u, hu⟩ := T.spots_part t p hmem.1
    have hred : u.redex = true := by have := hmem.2; unfold T.redexAt at this; rw [hu] at this; exact this
    obtain ⟨x, c2, y, rfl⟩ := T.redex_some hred
    have hpl := hdp p hmem.1
    have hus := T.part_size p t _ hu
    have hus2 : (T.app (.lam x c2) y).size = c2.size + 1 + y.size + 1 := rfl
    have c1 := lpart_spec t _ p (by omega) hu n (by omega)
    have c3 := worked_spec x c2 y (by omega) n (by omega)
    have c4 := lwith_spec (T.put x y c2) p t _ (by omega) hu n (by omega)
    have e5 : small (t.backs.map pathPV).length = true := small_of (by simp; omega)
    have e6 := ints_path hx
    have e7 : (!(PyData.eqvAll (PV.toDs (t.backs.map pathPV)) (PV.toDs []))) = true := by rw [go]; simpa using hbk
    refine ⟨_, a + 1 + 1, b, callm rfl rfl (T.low_pv _) (H.lows _ _) ?_, by omega, by omega, .work hu⟩
    show Ws _ _ _ (Vars.set (Vars.set Vars.no "hand" (.ref h)) "tree" t.pv) σ _
    rw [show defAt PySem.Challenge.pw_pq0040_01 35 = Def.mk _ _ _ from rfl]
    dsimp only
    repeat walk_at "e"
    · refine ci_list hm1 e1 (turns_filter (f := pathPV) (g := pathPV) (p := t.redexAt) (its_list hm1) fun p hp => ⟨?_, fun _ => ?_⟩)
      · obtain ⟨v, hv⟩ := T.spots_part t p hp
        have hpl := hdp p hp
        have c1 := lpart_spec t v p (by omega) hv n (by omega)
        have c2 := isapp_spec v n (by omega)
        rw [show t.redexAt p = v.redex by unfold T.redexAt; rw [hv]]
        repeat walk_at "e"
      · repeat walk_at "e"
    rw [show t.spots.filter t.redexAt = t.backs from rfl]
    repeat walk_at "e"
    · exact it_ref (get_ne (Nat.ne_of_lt hSl) (get_app last_at)) (decide_eq_true (by omega)) e6
    repeat walk_at "e"
    exact fin2 _ _ (ext_app (ext_app ext_refl))
  · have tailW : ∀ (S' : Store), (∃ g, S' = S ++ g) → ∀ {ρ : Vars}, ρ "hand" = some (.ref h) → ρ "tree" = some t.pv → ρ "spots" = some (.ref σ.length) → ρ "way" = some (.int w) →
        ∃ t', Turn b t t' (b + 1) ∧ Ws (T1.at n) (defAt PySem.Challenge.pw_pq0040_01 35).names ((defAt PySem.Challenge.pw_pq0040_01 35).body.drop 3) ρ S' fun o => ∃ g, o = .ret (T.pv t') (σ.set h (handC c (a + 1 + 1) (b + 1)) ++ g) := by
      rintro S' ⟨g, rfl⟩ ρ r1 r2 r3 r4
      obtain ⟨t', ht, hw'⟩ := made_tail t hs (H1.app g) (get_app hm1) (Nat.ne_of_lt hl0) (by omega) hb hw n (by omega) r1 r2 r3 r4
      refine ⟨t', ht, hw'.imp fun o ho => ?_⟩
      obtain ⟨g1, rfl⟩ := ho
      obtain ⟨g2, e2⟩ := fin2 (S ++ g) (handC c (a + 1 + 1) (b + 1)) ⟨g, rfl⟩
      exact ⟨g2 ++ g1, by rw [e2, List.append_assoc]⟩
    by_cases h3 : w = 3
    · subst h3
      have hbk : t.backs = [] := Classical.byContradiction fun h => hA ⟨rfl, h⟩
      have e7 : (!(PyData.eqvAll (PV.toDs (t.backs.map pathPV)) (PV.toDs []))) = false := by rw [go]; simp [hbk]
      obtain ⟨t', ht, hw'⟩ := tailW ((S ++ [Cell.list (t.backs.map pathPV)]) ++ [Cell.list []]) (ext_app (ext_app ext_refl)) (ρ := Vars.set (Vars.set (Vars.set (Vars.set (Vars.set Vars.no "hand" (.ref h)) "tree" t.pv) "spots" (.ref σ.length)) "way" (.int (3 : Nat))) "back" (.ref S.length)) rfl rfl rfl rfl
      refine ⟨t', a + 1 + 1, b + 1, callm rfl rfl (T.low_pv _) (H.lows _ _) ?_, by omega, by omega, ht⟩
      show Ws _ _ _ (Vars.set (Vars.set Vars.no "hand" (.ref h)) "tree" t.pv) σ _
      rw [show defAt PySem.Challenge.pw_pq0040_01 35 = Def.mk _ _ _ from rfl] at hw' ⊢
      dsimp only [List.drop] at hw' ⊢
      repeat walk_at "e"
      · refine ci_list hm1 e1 (turns_filter (f := pathPV) (g := pathPV) (p := t.redexAt) (its_list hm1) fun p hp => ⟨?_, fun _ => ?_⟩)
        · obtain ⟨v, hv⟩ := T.spots_part t p hp
          have hpl := hdp p hp
          have c1 := lpart_spec t v p (by omega) hv n (by omega)
          have c2 := isapp_spec v n (by omega)
          rw [show t.redexAt p = v.redex by unfold T.redexAt; rw [hv]]
          repeat walk_at "e"
        · repeat walk_at "e"
      rw [show t.spots.filter t.redexAt = t.backs from rfl]
      repeat first | with_reducible exact hw' | walk_at "e"
    · have e0 : ((w : Int) == 3) = false := by simp; omega
      obtain ⟨t', ht, hw'⟩ := tailW (S ++ [Cell.list (t.backs.map pathPV)]) (ext_app ext_refl) (ρ := Vars.set (Vars.set (Vars.set (Vars.set (Vars.set Vars.no "hand" (.ref h)) "tree" t.pv) "spots" (.ref σ.length)) "way" (.int w)) "back" (.ref S.length)) rfl rfl rfl rfl
      refine ⟨t', a + 1 + 1, b + 1, callm rfl rfl (T.low_pv _) (H.lows _ _) ?_, by omega, by omega, ht⟩
      show Ws _ _ _ (Vars.set (Vars.set Vars.no "hand" (.ref h)) "tree" t.pv) σ _
      rw [show defAt PySem.Challenge.pw_pq0040_01 35 = Def.mk _ _ _ from rfl] at hw' ⊢
      dsimp only [List.drop] at hw' ⊢
      repeat walk_at "e"
      · refine ci_list hm1 e1 (turns_filter (f := pathPV) (g := pathPV) (p := t.redexAt) (its_list hm1) fun p hp => ⟨?_, fun _ => ?_⟩)
        · obtain ⟨v, hv⟩ := T.spots_part t p hp
          have hpl := hdp p hp
          have c1 := lpart_spec t v p (by omega) hv n (by omega)
          have c2 := isapp_spec v n (by omega)
          rw [show t.redexAt p = v.redex by unfold T.redexAt; rw [hv]]
          repeat walk_at "e"
        · repeat walk_at "e"
      rw [show t.spots.filter t.redexAt = t.backs from rfl]
      repeat first | with_reducible exact hw' | walk_at "e"
end
section
variable [Z : Zero Frozen]
-- QQ17
inductive Ty where
  | D | P
  | arr (a b : Ty)
def T.occ (x : Nm) : T → Nat
  | .nm y => if y = x then 1 else 0
  | .lam _ b => T.occ x b
  | .app a b => T.occ x a + T.occ x b
def T.bnd (x : Nm) : T → Nat
  | .nm _ => 0
  | .lam y b => (if y = x then 1 else 0) + T.bnd x b
  | .app a b => T.bnd x a + T.bnd x b
def HasTy (G : Nm → Ty) : T → Ty → Prop
  | .nm x, τ => G x = τ
  | .lam x b, τ => (∃ τ', HasTy G b τ' ∧ T.occ x b ≤ 1 ∧ τ = .arr (G x) τ') ∨ (G x = .D ∧ HasTy G b .D ∧ (τ = .D ∧ T.occ x b ≤ 1 ∨ τ = .P))
  | .app a b, τ => (∃ σ, HasTy G a (.arr σ τ) ∧ HasTy G b σ) ∨ (τ = .D ∧ HasTy G a .D ∧ HasTy G b .D)
def T.ok : List Nm → T → Prop
  | env, .nm x => x ∈ env ∨ x = .k ∨ x = .m
  | env, .lam x b => x ∉ env ∧ (∃ i, x = .n i) ∧ T.ok (x :: env) b
  | env, .app a b => T.ok env a ∧ T.ok env b ∧ ∀ x, T.bnd x a = 0 ∨ T.bnd x b = 0

theorem T.ok_closed : ∀ (t : T) (env : List Nm), T.ok env t → T.closed env t
  | .nm _, _, h => h
  | .lam x b, env, h => T.ok_closed b (x :: env) h.2.2
  | .app a b, env, h => ⟨T.ok_closed a env h.1, T.ok_closed b env h.2.1⟩
theorem T.ok_bnd (y : Nm) : ∀ (t : T) (env : List Nm), T.ok env t → 1 ≤ T.bnd y t → y ∉ env ∧ ∃ i, y = .n i
  | .nm _, _, _, h2 => absurd h2 (by simp [T.bnd])
  | .lam x b, env, h, h2 => by
    by_cases hx : x = y
    · subst hx; exact ⟨h.1, h.2.1⟩
    · have := T.ok_bnd y b (x :: env) h.2.2 (by simpa [T.bnd, hx] using h2)
      exact ⟨fun hm => this.1 (List.mem_cons_of_mem _ hm), this.2⟩
  | .app a b, env, h, h2 => by
    have : 1 ≤ T.bnd y a ∨ 1 ≤ T.bnd y b := by simp only [T.bnd] at h2; omega
    rcases this with q | q
    · exact T.ok_bnd y a env h.1 q
    · exact T.ok_bnd y b env h.2.1 q
theorem T.ok_occ (y : Nm) : ∀ (t : T) (env : List Nm), T.ok env t → 1 ≤ T.occ y t → y ∈ env ∨ 1 ≤ T.bnd y t ∨ y = .k ∨ y = .m
  | .nm x, env, h, h2 => by
    by_cases hx : x = y
    · subst hx; rcases h with h | h
      · exact .inl h
      · exact .inr (.inr h)
    · exact absurd h2 (by simp [T.occ, hx])
  | .lam x b, env, h, h2 => by
    rcases T.ok_occ y b (x :: env) h.2.2 h2 with q | q | q
    · rcases List.mem_cons.mp q with rfl | q
      · exact .inr (.inl (by simp [T.bnd]))
      · exact .inl q
    · exact .inr (.inl (by simp only [T.bnd]; omega))
    · exact .inr (.inr q)
  | .app a b, env, h, h2 => by
    have : 1 ≤ T.occ y a ∨ 1 ≤ T.occ y b := by simp only [T.occ] at h2; omega
    rcases this with q | q
    · rcases T.ok_occ y a env h.1 q with r | r | r
      · exact .inl r
      · exact .inr (.inl (by simp only [T.bnd]; omega))
      · exact .inr (.inr r)
    · rcases T.ok_occ y b env h.2.1 q with r | r | r
      · exact .inl r
      · exact .inr (.inl (by simp only [T.bnd]; omega))
      · exact .inr (.inr r)
theorem T.ok_weaken : ∀ (t : T) (env env' : List Nm), T.ok env t → (∀ z ∈ env, z ∈ env') → (∀ z ∈ env', T.bnd z t = 0) → T.ok env' t
  | .nm x, env, env', h, h1, _ => h.imp (h1 x) id
  | .lam x b, env, env', h, h1, h2 => by
    refine ⟨fun hx => ?_, h.2.1, T.ok_weaken b (x :: env) (x :: env') h.2.2 ?_ ?_⟩
    · have := h2 x hx; simp [T.bnd] at this
    · intro z hz
      rcases List.mem_cons.mp hz with rfl | hz
      · exact List.mem_cons_self ..
      · exact List.mem_cons_of_mem _ (h1 z hz)
    · intro z hz
      rcases List.mem_cons.mp hz with rfl | hz
      · refine Nat.eq_zero_of_not_pos fun hp => ?_
        exact (T.ok_bnd z b (z :: env) h.2.2 hp).1 (List.mem_cons_self ..)
      · have := h2 z hz; simp only [T.bnd] at this; omega
  | .app a b, env, env', h, h1, h2 =>
    ⟨T.ok_weaken a env env' h.1 h1 fun z hz => by have := h2 z hz; simp only [T.bnd] at this; omega, T.ok_weaken b env env' h.2.1 h1 fun z hz => by have := h2 z hz; simp only [T.bnd] at this; omega, h.2.2⟩

theorem T.put_size (x : Nm) (u : T) : ∀ c : T, (T.put x u c).size + T.occ x c = c.size + T.occ x c * u.size
  | .nm y => by
    by_cases h : y = x
    · simp [T.put, T.occ, T.size, h]; omega
    · simp [T.put, T.occ, T.size, h]
  | .lam y b => by have := T.put_size x u b; simp only [T.put, T.occ, T.size]; omega
  | .app a b => by have := T.put_size x u a; have := T.put_size x u b; simp only [T.put, T.occ, T.size, Nat.add_mul]; omega
theorem T.put_bnd (x y : Nm) (u : T) : ∀ c : T, T.bnd y (T.put x u c) = T.bnd y c + T.occ x c * T.bnd y u
  | .nm z => by
    by_cases h : z = x
    · simp [T.put, T.occ, T.bnd, h]
    · simp [T.put, T.occ, T.bnd, h]
  | .lam z b => by have := T.put_bnd x y u b; simp only [T.put, T.occ, T.bnd]; omega
  | .app a b => by have := T.put_bnd x y u a; have := T.put_bnd x y u b; simp only [T.put, T.occ, T.bnd, Nat.add_mul]; omega
theorem T.put_occ (x y : Nm) (u : T) (hxy : y ≠ x) : ∀ c : T, T.occ y (T.put x u c) = T.occ y c + T.occ x c * T.occ y u
  | .nm z => by
    by_cases h : z = x
    · simp [T.put, T.occ, h, Ne.symm hxy]
    · simp [T.put, T.occ, h]
  | .lam z b => by have := T.put_occ x y u hxy b; simp only [T.put, T.occ]; omega
  | .app a b => by have := T.put_occ x y u hxy a; have := T.put_occ x y u hxy b; simp only [T.put, T.occ, Nat.add_mul]; omega
theorem T.put_occ_self (x : Nm) (u : T) (hu : T.occ x u = 0) : ∀ c : T, T.occ x (T.put x u c) = 0
  | .nm z => by
    by_cases h : z = x
    · simp [T.put, h, hu]
    · simp [T.put, T.occ, h]
  | .lam z b => T.put_occ_self x u hu b
  | .app a b => by have := T.put_occ_self x u hu a; have := T.put_occ_self x u hu b; simp only [T.put, T.occ]; omega

/-- a typed part put in -/
theorem HasTy.put {G : Nm → Ty} {x : Nm} {u : T} (hu : HasTy G u (G x)) : ∀ (c : T) (τ : Ty), HasTy G c τ → (∀ y, 1 ≤ T.bnd y c → y ≠ x ∧ T.occ y u = 0) → HasTy G (T.put x u c) τ
  | .nm z, τ, h, _ => by
    by_cases hz : z = x
    · subst hz
      have h : G z = τ := h
      simp only [T.put, if_true]; rw [← h]; exact hu
    · simp only [T.put, if_neg hz]; exact h
  | .lam z b, τ, h, hb => by
    have hz := hb z (by simp [T.bnd])
    have ho : T.occ z (T.put x u b) = T.occ z b := by rw [T.put_occ x z u hz.1, hz.2, Nat.mul_zero, Nat.add_zero]
    have ih := fun σ hσ => HasTy.put hu b σ hσ fun y hy => hb y (by simp only [T.bnd]; omega)
    rcases h with ⟨σ, h1, h2, h3⟩ | ⟨h1, h2, h3⟩
    · exact .inl ⟨σ, ih σ h1, by rw [ho]; exact h2, h3⟩
    · exact .inr ⟨h1, ih .D h2, by rw [ho]; exact h3⟩
  | .app a b, τ, h, hb => by
    have iha := fun σ hσ => HasTy.put hu a σ hσ fun y hy => hb y (by simp only [T.bnd]; omega)
    have ihb := fun σ hσ => HasTy.put hu b σ hσ fun y hy => hb y (by simp only [T.bnd]; omega)
    rcases h with ⟨σ, h1, h2⟩ | ⟨h1, h2, h3⟩
    · exact .inl ⟨σ, iha _ h1, ihb _ h2⟩
    · exact .inr ⟨h1, iha _ h2, ihb _ h3⟩
theorem T.ok_put {x : Nm} {u : T} : ∀ (c : T) (env env' : List Nm), T.ok env c → (∀ z ∈ env, z = x ∨ z ∈ env') → (∀ z ∈ env', z ∈ env) → T.ok env' u → (∀ y, T.bnd y c = 0 ∨ T.bnd y u = 0) → T.occ x c ≤ 1 → T.ok env' (T.put x u c)
  | .nm z, env, env', h, h1, _, hu, _, _ => by
    by_cases hz : z = x
    · simp only [T.put, if_pos hz]; exact hu
    · simp only [T.put, if_neg hz]
      rcases h with h | h
      · rcases h1 z h with h | h
        · exact absurd h hz
        · exact .inl h
      · exact .inr h
  | .lam z b, env, env', h, h1, h2, hu, hd, ho => by
    have hbz : T.bnd z u = 0 := by
      rcases hd z with q | q
      · exact absurd q (by simp [T.bnd])
      · exact q
    refine ⟨fun hz => h.1 (h2 z hz), h.2.1, T.ok_put b (z :: env) (z :: env') h.2.2 ?_ ?_ (T.ok_weaken u env' (z :: env') hu (fun y hy => List.mem_cons_of_mem _ hy) ?_) ?_ ho⟩
    · intro y hy
      rcases List.mem_cons.mp hy with rfl | hy
      · exact .inr (List.mem_cons_self ..)
      · exact (h1 y hy).imp id (List.mem_cons_of_mem _)
    · intro y hy
      rcases List.mem_cons.mp hy with rfl | hy
      · exact List.mem_cons_self ..
      · exact List.mem_cons_of_mem _ (h2 y hy)
    · intro y hy
      rcases List.mem_cons.mp hy with rfl | hy
      · exact hbz
      · exact Nat.eq_zero_of_not_pos fun hp => (T.ok_bnd y u env' hu hp).1 hy
    · intro y
      rcases hd y with q | q
      · exact .inl (by simp only [T.bnd] at q; omega)
      · exact .inr q
  | .app a b, env, env', h, h1, h2, hu, hd, ho => by
    have ho : T.occ x a + T.occ x b ≤ 1 := ho
    refine ⟨T.ok_put a env env' h.1 h1 h2 hu (fun y => (hd y).imp (fun q => by simp only [T.bnd] at q; omega) id) (by omega), T.ok_put b env env' h.2.1 h1 h2 hu (fun y => (hd y).imp (fun q => by simp only [T.bnd] at q; omega) id) (by omega), fun y => ?_⟩
    rw [T.put_bnd, T.put_bnd]
    rcases hd y with q | q
    · have q : T.bnd y a + T.bnd y b = 0 := q
      have : T.occ x a = 0 ∨ T.occ x b = 0 := by omega
      rcases this with e | e
      · left; rw [e]; omega
      · right; rw [e]; omega
    · rw [q]
      rcases h.2.2 y with e | e
      · left; rw [e]; simp
      · right; rw [e]; simp
end
section
variable [Z : Zero Frozen]
-- QQ18
theorem HasTy.congr {G G' : Nm → Ty} {fr : Nm} (hG : ∀ y, y ≠ fr → G' y = G y) : ∀ (t : T) (τ : Ty), T.occ fr t = 0 → T.bnd fr t = 0 → HasTy G t τ → HasTy G' t τ
  | .nm x, τ, h1, _, h => by
    have hx : x ≠ fr := fun e => by simp [T.occ, e] at h1
    show G' x = τ
    rw [hG x hx]; exact h
  | .lam x b, τ, h1, h2, h => by
    have hx : x ≠ fr := fun e => by simp [T.bnd, e] at h2
    have ih := fun σ hσ => HasTy.congr hG b σ h1 (by simp only [T.bnd] at h2; omega) hσ
    rcases h with ⟨σ, q1, q2, q3⟩ | ⟨q1, q2, q3⟩
    · exact .inl ⟨σ, ih σ q1, q2, by rw [hG x hx]; exact q3⟩
    · exact .inr ⟨by rw [hG x hx]; exact q1, ih _ q2, q3⟩
  | .app a b, τ, h1, h2, h => by
    simp only [T.occ] at h1
    simp only [T.bnd] at h2
    have iha := fun σ hσ => HasTy.congr hG a σ (by omega) (by omega) hσ
    have ihb := fun σ hσ => HasTy.congr hG b σ (by omega) (by omega) hσ
    rcases h with ⟨σ, q1, q2⟩ | ⟨q1, q2, q3⟩
    · exact .inl ⟨σ, iha _ q1, ihb _ q2⟩
    · exact .inr ⟨q1, iha _ q2, ihb _ q3⟩

/-- what a change of a part keeps -/
def Local (fr : Nm) (e d : Nat) (u v : T) : Prop := ∀ (env : List Nm) (G : Nm → Ty) (τ : Ty), fr ∉ env → T.ok env u → T.bnd fr u = 0 → T.occ fr u = 0 → G .k = .D → G .m = .D → HasTy G u τ →
  T.ok env v ∧ (∀ y, T.bnd y v ≤ T.bnd y u + (if y = fr then e else 0)) ∧ (∀ i, Nm.n i ≠ fr → T.occ (.n i) v ≤ T.occ (.n i) u) ∧ (∃ G', (∀ y, y ≠ fr → G' y = G y) ∧ HasTy G' v τ) ∧ v.size + d ≤ u.size + 3

theorem Local.repl {fr : Nm} {e d : Nat} {u v : T} (L : Local fr e d u v) : ∀ (p : List Nat) (t : T), t.part p = some u → Local fr e d t (T.repl v t p)
  | [], t, h => by cases h; rw [show T.repl v u [] = v by simp [T.repl]]; exact L
  | i :: p, t, h => by
    unfold T.part at h
    cases hk : t.kid i with
    | none => rw [hk] at h; exact absurd h (by simp)
    | some k =>
      rw [hk] at h
      have ih := Local.repl L p k h
      intro env G τ h1 h2 h3 h4 h5 h6 h7
      match t, i, hk with
      | .lam x b, 2, hk =>
        obtain rfl : b = k := Option.some.inj hk
        have hx : x ≠ fr := fun e => by simp [T.bnd, e] at h3
        have hb : T.bnd fr b = 0 := by simp only [T.bnd] at h3; omega
        have hfr : fr ∉ x :: env := fun hm => (List.mem_cons.mp hm).elim (fun e => hx e.symm) h1
        obtain ⟨j, rfl⟩ := h2.2.1
        have main : ∀ σ, HasTy G b σ → _ := fun σ hσ => ih (.n j :: env) G σ hfr h2.2.2 hb h4 h5 h6 hσ
        have wrap : ∀ σ, HasTy G b σ → T.ok env (.lam (.n j) (T.repl v b p)) ∧ (∀ y, T.bnd y (.lam (.n j) (T.repl v b p)) ≤ T.bnd y (.lam (.n j) b) + (if y = fr then e else 0)) ∧ (∀ i, Nm.n i ≠ fr → T.occ (.n i) (.lam (.n j) (T.repl v b p)) ≤ T.occ (.n i) (.lam (.n j) b)) ∧ (T.lam (.n j) (T.repl v b p)).size + d ≤ (T.lam (.n j) b).size + 3 := by
          intro σ hσ
          obtain ⟨q1, q2, q3, _, q5⟩ := main σ hσ
          refine ⟨⟨h2.1, h2.2.1, q1⟩, fun y => ?_, q3, ?_⟩
          · have := q2 y; simp only [T.bnd]; omega
          · simp only [T.size]; omega
        rcases h7 with ⟨σ, q1, q2, q3⟩ | ⟨q1, q2, q3⟩
        · obtain ⟨w1, w2, w3, w4⟩ := wrap σ q1
          obtain ⟨_, _, r3, ⟨G', r4, r5⟩, _⟩ := main σ q1
          exact ⟨w1, w2, w3, ⟨G', r4, .inl ⟨σ, r5, Nat.le_trans (r3 j hx) q2, by rw [r4 _ hx]; exact q3⟩⟩, w4⟩
        · obtain ⟨w1, w2, w3, w4⟩ := wrap .D q2
          obtain ⟨_, _, r3, ⟨G', r4, r5⟩, _⟩ := main .D q2
          exact ⟨w1, w2, w3, ⟨G', r4, .inr ⟨by rw [r4 _ hx]; exact q1, r5, q3.imp (fun q => ⟨q.1, Nat.le_trans (r3 j hx) q.2⟩) id⟩⟩, w4⟩
      | .app a b, 1, hk =>
        obtain rfl : a = k := Option.some.inj hk
        simp only [T.bnd] at h3
        simp only [T.occ] at h4
        have main : ∀ σ, HasTy G a σ → _ := fun σ hσ => ih env G σ h1 h2.1 (by omega) (by omega) h5 h6 hσ
        have wrap : ∀ σ, HasTy G a σ → T.ok env (.app (T.repl v a p) b) ∧ (∀ y, T.bnd y (.app (T.repl v a p) b) ≤ T.bnd y (.app a b) + (if y = fr then e else 0)) ∧ (∀ i, Nm.n i ≠ fr → T.occ (.n i) (.app (T.repl v a p) b) ≤ T.occ (.n i) (.app a b)) ∧ (T.app (T.repl v a p) b).size + d ≤ (T.app a b).size + 3 := by
          intro σ hσ
          obtain ⟨q1, q2, q3, _, q5⟩ := main σ hσ
          refine ⟨⟨q1, h2.2.1, fun y => ?_⟩, fun y => ?_, fun i hi => ?_, ?_⟩
          · have r := q2 y
            by_cases hy : y = fr
            · subst hy; right; omega
            · rw [if_neg hy] at r
              rcases h2.2.2 y with z | z
              · left; omega
              · exact .inr z
          · have := q2 y; simp only [T.bnd]; omega
          · have := q3 i hi; simp only [T.occ]; omega
          · simp only [T.size]; omega
        rcases h7 with ⟨σ, q1, q2⟩ | ⟨q1, q2, q3⟩
        · obtain ⟨w1, w2, w3, w4⟩ := wrap _ q1
          obtain ⟨_, _, _, ⟨G', r4, r5⟩, _⟩ := main _ q1
          exact ⟨w1, w2, w3, ⟨G', r4, .inl ⟨σ, r5, HasTy.congr r4 b σ (by omega) (by omega) q2⟩⟩, w4⟩
        · obtain ⟨w1, w2, w3, w4⟩ := wrap _ q2
          obtain ⟨_, _, _, ⟨G', r4, r5⟩, _⟩ := main _ q2
          exact ⟨w1, w2, w3, ⟨G', r4, .inr ⟨q1, r5, HasTy.congr r4 b _ (by omega) (by omega) q3⟩⟩, w4⟩
      | .app a b, 2, hk =>
        obtain rfl : b = k := Option.some.inj hk
        simp only [T.bnd] at h3
        simp only [T.occ] at h4
        have main : ∀ σ, HasTy G b σ → _ := fun σ hσ => ih env G σ h1 h2.2.1 (by omega) (by omega) h5 h6 hσ
        have wrap : ∀ σ, HasTy G b σ → T.ok env (.app a (T.repl v b p)) ∧ (∀ y, T.bnd y (.app a (T.repl v b p)) ≤ T.bnd y (.app a b) + (if y = fr then e else 0)) ∧ (∀ i, Nm.n i ≠ fr → T.occ (.n i) (.app a (T.repl v b p)) ≤ T.occ (.n i) (.app a b)) ∧ (T.app a (T.repl v b p)).size + d ≤ (T.app a b).size + 3 := by
          intro σ hσ
          obtain ⟨q1, q2, q3, _, q5⟩ := main σ hσ
          refine ⟨⟨h2.1, q1, fun y => ?_⟩, fun y => ?_, fun i hi => ?_, ?_⟩
          · have r := q2 y
            by_cases hy : y = fr
            · subst hy; left; omega
            · rw [if_neg hy] at r
              rcases h2.2.2 y with z | z
              · exact .inl z
              · right; omega
          · have := q2 y; simp only [T.bnd]; omega
          · have := q3 i hi; simp only [T.occ]; omega
          · simp only [T.size]; omega
        rcases h7 with ⟨σ, q1, q2⟩ | ⟨q1, q2, q3⟩
        · obtain ⟨w1, w2, w3, w4⟩ := wrap _ q2
          obtain ⟨_, _, _, ⟨G', r4, r5⟩, _⟩ := main _ q2
          exact ⟨w1, w2, w3, ⟨G', r4, .inl ⟨σ, HasTy.congr r4 a _ (by omega) (by omega) q1, r5⟩⟩, w4⟩
        · obtain ⟨w1, w2, w3, w4⟩ := wrap _ q3
          obtain ⟨_, _, _, ⟨G', r4, r5⟩, _⟩ := main _ q3
          exact ⟨w1, w2, w3, ⟨G', r4, .inr ⟨q1, HasTy.congr r4 a _ (by omega) (by omega) q2, r5⟩⟩, w4⟩

/-- what is bound in the lam's body stands nowhere in what is put in -/
theorem redex_apart {env : List Nm} {x : Nm} {c a : T} (h : T.ok env (.app (.lam x c) a)) : (∀ y, 1 ≤ T.bnd y c → y ≠ x ∧ T.occ y a = 0) ∧ T.occ x a = 0 := by
  have ha : ∀ y, 1 ≤ T.bnd y (.lam x c) → y ∉ env → (∃ i, y = .n i) → T.occ y a = 0 := by
    rintro y hy he ⟨i, rfl⟩
    refine Nat.eq_zero_of_not_pos fun hp => ?_
    rcases T.ok_occ _ a env h.2.1 hp with q | q | q | q
    · exact he q
    · rcases h.2.2 (.n i) with r | r <;> omega
    · exact absurd q (by simp)
    · exact absurd q (by simp)
  refine ⟨fun y hy => ?_, ha x (by simp [T.bnd]) h.1.1 h.1.2.1⟩
  obtain ⟨q1, q2⟩ := T.ok_bnd y c (x :: env) h.1.2.2 hy
  exact ⟨fun e => q1 (by rw [e]; exact List.mem_cons_self ..), ha y (by simp only [T.bnd]; omega) (fun he => q1 (List.mem_cons_of_mem _ he)) q2⟩
theorem redex_ty {G : Nm → Ty} {x : Nm} {c a : T} {τ : Ty} (h : HasTy G (.app (.lam x c) a) τ) : T.occ x c ≤ 1 ∧ HasTy G c τ ∧ HasTy G a (G x) := by
  rcases h with ⟨σ, h1, h2⟩ | ⟨rfl, h2, h3⟩
  · rcases h1 with ⟨σ', q1, q2, q3⟩ | ⟨_, _, q3⟩
    · cases q3; exact ⟨q2, q1, h2⟩
    · rcases q3 with q3 | q3
      · exact absurd q3.1 (by simp)
      · exact absurd q3 (by simp)
  · rcases h2 with ⟨σ', q1, q2, q3⟩ | ⟨q1, q2, q3⟩
    · exact absurd q3 (by simp)
    · rcases q3 with q3 | q3
      · exact ⟨q3.2, q2, by rw [q1]; exact h3⟩
      · exact absurd q3 (by simp)
theorem Local.work (fr : Nm) (x : Nm) (c a : T) : Local fr 0 4 (.app (.lam x c) a) (T.put x a c) := by
  intro env G τ h1 h2 h3 h4 h5 h6 h7
  obtain ⟨q1, q2, q3⟩ := redex_ty h7
  obtain ⟨r1, r2⟩ := redex_apart h2
  have hs := T.put_size x a c
  have hz : (T.app (.lam x c) a).size = c.size + 1 + a.size + 1 := rfl
  have hap := T.size_pos a
  have ho : T.occ x c = 0 ∨ T.occ x c = 1 := by omega
  refine ⟨T.ok_put c (x :: env) env h2.1.2.2 (fun z hz => (List.mem_cons.mp hz)) (fun z hz => List.mem_cons_of_mem _ hz) h2.2.1 (fun y => ?_) q1, fun y => ?_, fun i hi => ?_, ⟨G, fun _ _ => rfl, HasTy.put q3 c τ q2 r1⟩, ?_⟩
  · rcases h2.2.2 y with q | q
    · left; simp only [T.bnd] at q; omega
    · exact .inr q
  · rw [T.put_bnd]
    simp only [T.bnd]
    rcases ho with o | o <;> rw [o] <;> omega
  · by_cases hx : Nm.n i = x
    · subst hx; rw [T.put_occ_self _ _ r2]; exact Nat.zero_le _
    · rw [T.put_occ x _ a hx]
      simp only [T.occ]
      rcases ho with o | o <;> rw [o] <;> omega
  · rw [hz]
    rcases ho with o | o <;> rw [o] at hs <;> omega
theorem Local.made (i : Nat) {u v : T} (hm : MadeT i u v) : Local (.n i) 1 0 u v := by
  intro env G τ h1 h2 h3 h4 h5 h6 h7
  have upd : ∀ σ : Ty, ∃ G' : Nm → Ty, (∀ y, y ≠ .n i → G' y = G y) ∧ G' (.n i) = σ := fun σ => ⟨fun y => if y = .n i then σ else G y, fun y hy => if_neg hy, if_pos rfl⟩
  have wk : ∀ w : T, T.ok env w → T.bnd (.n i) w = 0 → T.ok (.n i :: env) w := fun w hw hb => T.ok_weaken w env _ hw (fun z hz => List.mem_cons_of_mem _ hz) (fun z hz => by
    rcases List.mem_cons.mp hz with rfl | hz
    · exact hb
    · exact Nat.eq_zero_of_not_pos fun hp => (T.ok_bnd z w env hw hp).1 hz)
  cases hm with
  | wrap =>
    obtain ⟨G', g1, g2⟩ := upd τ
    refine ⟨⟨⟨h1, ⟨i, rfl⟩, .inl (List.mem_cons_self ..)⟩, h2, fun y => ?_⟩, fun y => ?_, fun j hj => ?_, ⟨G', g1, .inl ⟨τ, .inl ⟨τ, g2, by simp [T.occ], by rw [g2]⟩, HasTy.congr g1 u τ h4 h3 h7⟩⟩, ?_⟩
    · by_cases hy : y = .n i
      · subst hy; exact .inr h3
      · left; simp [T.bnd, Ne.symm hy]
    · by_cases hy : y = .n i
      · subst hy; simp [T.bnd]; omega
      · simp [T.bnd, hy, Ne.symm hy]
    · simp [T.occ, Ne.symm hj]
    · simp only [T.size]; omega
  | drop =>
    obtain ⟨G', g1, g2⟩ := upd .D
    refine ⟨⟨⟨h1, ⟨i, rfl⟩, wk u h2 h3⟩, .inr (.inr rfl), fun y => .inr rfl⟩, fun y => ?_, fun j hj => ?_, ⟨G', g1, .inl ⟨.D, .inl ⟨τ, HasTy.congr g1 u τ h4 h3 h7, by omega, by rw [g2]⟩, ?_⟩⟩, ?_⟩
    · by_cases hy : y = .n i
      · subst hy; simp [T.bnd]; omega
      · simp [T.bnd, hy, Ne.symm hy]
    · simp [T.occ]
    · show G' .m = .D
      rw [g1 _ (by simp)]; exact h6
    · simp only [T.size]; omega
  | arg =>
    rename_i p q
    simp only [T.bnd] at h3
    simp only [T.occ] at h4
    have shape : T.ok env (.app (.lam (.n i) (.app p (.nm (.n i)))) q) ∧ (∀ y, T.bnd y (.app (.lam (.n i) (.app p (.nm (.n i)))) q) ≤ T.bnd y (.app p q) + (if y = .n i then 1 else 0)) ∧ (∀ j, Nm.n j ≠ .n i → T.occ (.n j) (.app (.lam (.n i) (.app p (.nm (.n i)))) q) ≤ T.occ (.n j) (.app p q)) := by
      refine ⟨⟨⟨h1, ⟨i, rfl⟩, wk p h2.1 (by omega), .inl (List.mem_cons_self ..), fun y => .inr rfl⟩, h2.2.1, fun y => ?_⟩, fun y => ?_, fun j hj => ?_⟩
      · by_cases hy : y = .n i
        · subst hy; right; omega
        · rcases h2.2.2 y with z | z
          · left; simp [T.bnd, Ne.symm hy, z]
          · exact .inr z
      · by_cases hy : y = .n i
        · subst hy; simp [T.bnd]; omega
        · simp [T.bnd, hy, Ne.symm hy]
      · simp [T.occ, Ne.symm hj]
    have ho : T.occ (.n i) (T.app p (.nm (.n i))) ≤ 1 := by simp [T.occ]; omega
    have hsz : (T.app (.lam (.n i) (.app p (.nm (.n i)))) q).size + 0 ≤ (T.app p q).size + 3 := by simp only [T.size]; omega
    rcases h7 with ⟨σ, q1, q2⟩ | ⟨rfl, q2, q3⟩
    · obtain ⟨G', g1, g2⟩ := upd σ
      exact ⟨shape.1, shape.2.1, shape.2.2, ⟨G', g1, .inl ⟨σ, .inl ⟨τ, .inl ⟨σ, HasTy.congr g1 p _ (by omega) (by omega) q1, g2⟩, ho, by rw [g2]⟩, HasTy.congr g1 q _ (by omega) (by omega) q2⟩⟩, hsz⟩
    · obtain ⟨G', g1, g2⟩ := upd .D
      exact ⟨shape.1, shape.2.1, shape.2.2, ⟨G', g1, .inl ⟨.D, .inl ⟨.D, .inr ⟨rfl, HasTy.congr g1 p _ (by omega) (by omega) q2, g2⟩, ho, by rw [g2]⟩, HasTy.congr g1 q _ (by omega) (by omega) q3⟩⟩, hsz⟩

/-- a tree of the row, names up to b -/
def Inv1 (b : Nat) (t : T) : Prop := T.ok [] t ∧ (∀ i, b < i → T.bnd (.n i) t = 0) ∧ ∃ G τ, G Nm.k = Ty.D ∧ G Nm.m = Ty.D ∧ HasTy G t τ
theorem Inv1.occ {b : Nat} {t : T} (h : Inv1 b t) (i : Nat) (hi : b < i) : T.occ (.n i) t = 0 := by
  refine Nat.eq_zero_of_not_pos fun hp => ?_
  rcases T.ok_occ _ t [] h.1 hp with q | q | q | q
  · exact absurd q (by simp)
  · have := h.2.1 i hi; omega
  · exact absurd q (by simp)
  · exact absurd q (by simp)
theorem Inv1.local {b : Nat} {t : T} (h : Inv1 b t) {e d : Nat} {v : T} (L : Local (.n (b + 1)) e d t v) : Inv1 (b + e) v ∧ v.size + d ≤ t.size + 3 := by
  obtain ⟨h1, h2, G, τ, h3, h4, h5⟩ := h
  obtain ⟨q1, q2, _, ⟨G', q3, q4⟩, q5⟩ := L [] G τ (by simp) h1 (h2 _ (by omega)) (Inv1.occ ⟨h1, h2, G, τ, h3, h4, h5⟩ _ (by omega)) h3 h4 h5
  refine ⟨⟨q1, fun i hi => ?_, G', τ, by rw [q3 _ (by simp)]; exact h3, by rw [q3 _ (by simp)]; exact h4, q4⟩, q5⟩
  have := q2 (.n i)
  have := h2 i (by omega)
  by_cases hi2 : Nm.n i = .n (b + 1)
  · rw [if_pos hi2] at *
    have hi3 : i = b + 1 := by simpa using hi2
    omega
  · rw [if_neg hi2] at *; omega
theorem Inv1.mono {b b' : Nat} {t : T} (h : Inv1 b t) (hb : b ≤ b') : Inv1 b' t := ⟨h.1, fun i hi => h.2.1 i (by omega), h.2.2⟩
theorem turn_inv {b b' : Nat} {t t' : T} (h : Inv1 b t) (ht : Turn b t t' b') : Inv1 b' t' ∧ t'.size ≤ t.size + 3 ∧ b ≤ b' := by
  cases ht with
  | work hp =>
    obtain ⟨q1, q2⟩ := h.local (Local.repl (Local.work (.n (b + 1)) _ _ _) _ _ hp)
    exact ⟨q1, by omega, Nat.le_refl _⟩
  | made hp hm =>
    obtain ⟨q1, q2⟩ := h.local (Local.repl (Local.made (b + 1) hm) _ _ hp)
    exact ⟨q1, by omega, Nat.le_succ _⟩
theorem step_inv {b : Nat} {t t' : T} (h : Inv1 b t) (hs : t.step = some t') : Inv1 b t' ∧ t'.size < t.size := by
  have hb := T.step_backs t
  cases hk : t.backs with
  | nil => rw [hk] at hb; simp only at hb; rw [hb] at hs; exact absurd hs (by simp)
  | cons p r =>
    rw [hk] at hb
    obtain ⟨x, c, a, h1, h2, _⟩ := hb
    rw [h2] at hs
    cases hs
    obtain ⟨q1, q2⟩ := h.local (Local.repl (Local.work (.n (b + 1)) x c a) p t h1)
    exact ⟨q1, by omega⟩
end
section
variable [Z : Zero Frozen]
-- QQ19
theorem core_size : ∀ (t : T) (env : List Nm), (core env t).size = t.size
  | .nm x, env => by unfold core; split <;> rfl
  | .lam x b, env => by show (core _ b).size + 1 = _; rw [core_size b]; rfl
  | .app a b, env => by show (core _ a).size + (core _ b).size + 1 = _; rw [core_size a, core_size b]; rfl
theorem core_vars : ∀ (t : T) (env : List Nm) (N : Nat), env.length + t.size ≤ N → (core env t).vars N
  | .nm x, env, N, h => by
    unfold core
    split
    · rename_i hx
      have := List.idxOf_lt_length_of_mem hx
      show _ < _
      omega
    · trivial
  | .lam x b, env, N, h => by
    have h : env.length + (b.size + 1) ≤ N := h
    exact core_vars b (x :: env) N (by simp; omega)
  | .app a b, env, N, h => by
    have h : env.length + (a.size + b.size + 1) ≤ N := h
    exact ⟨core_vars a env N (by omega), core_vars b env N (by omega)⟩
theorem idx_append (z : Nm) (a b : List Nm) : (a ++ b).idxOf z = if z ∈ a then a.idxOf z else b.idxOf z + a.length := List.idxOf_append

theorem core_sh (y : Nm) (env : List Nm) : ∀ (u : T) (Ξ : List Nm), T.occ y u = 0 → (core (Ξ ++ env) u).sh Ξ.length = core (Ξ ++ y :: env) u
  | .nm z, Ξ, h => by
    have hz : z ≠ y := fun e => by simp [T.occ, e] at h
    unfold core
    by_cases h1 : z ∈ Ξ
    · have := List.idxOf_lt_length_of_mem h1
      simp [h1, idx_append, B.sh]
      omega
    · by_cases h2 : z ∈ env
      · have hz2 : (y == z) = false := by simpa using Ne.symm hz
        simp [h1, h2, hz, idx_append, B.sh, List.idxOf_cons, hz2]
        omega
      · simp [h1, h2, hz, B.sh]
  | .lam x b, Ξ, h => by
    have := core_sh y env b (x :: Ξ) h
    show B.lam ((core (x :: (Ξ ++ env)) b).sh (Ξ.length + 1)) = .lam (core (x :: (Ξ ++ y :: env)) b)
    rw [← List.cons_append, ← List.cons_append, ← this]; rfl
  | .app a b, Ξ, h => by
    simp only [T.occ] at h
    show B.app ((core (Ξ ++ env) a).sh _) ((core (Ξ ++ env) b).sh _) = .app (core _ a) (core _ b)
    rw [core_sh y env a Ξ (by omega), core_sh y env b Ξ (by omega)]
theorem core_put (x : Nm) (u : T) (env : List Nm) : ∀ (c : T) (Δ : List Nm), x ∉ Δ → (∀ y, 1 ≤ T.bnd y c → y ≠ x ∧ T.occ y u = 0) → (core (Δ ++ x :: env) c).put Δ.length (core (Δ ++ env) u) = core (Δ ++ env) (T.put x u c)
  | .nm z, Δ, hx, _ => by
    by_cases hz : z = x
    · subst hz
      simp only [T.put, if_true]
      unfold core
      simp [hx, idx_append, B.put]
    · simp only [T.put, if_neg hz]
      unfold core
      have hz2 : (x == z) = false := by simpa using Ne.symm hz
      by_cases h1 : z ∈ Δ
      · have h3 := List.idxOf_lt_length_of_mem h1
        have h4 : ¬ Δ.idxOf z = Δ.length := by omega
        have h5 : ¬ Δ.length < Δ.idxOf z := by omega
        simp [h1, idx_append, B.put, h4, h5]
      · by_cases h2 : z ∈ env
        · have h4 : ¬ env.idxOf z + 1 + Δ.length = Δ.length := by omega
          have h5 : Δ.length < env.idxOf z + 1 + Δ.length := by omega
          have h6 : env.idxOf z + 1 + Δ.length - 1 = env.idxOf z + Δ.length := by omega
          simp [h1, h2, hz, idx_append, B.put, List.idxOf_cons, hz2, h4, h5, h6]
        · simp [h1, h2, hz, B.put]
  | .lam y b, Δ, hx, hb => by
    have hy := hb y (by simp [T.bnd])
    have ih := core_put x u env b (y :: Δ) (by simp [Ne.symm hy.1, hx]) (fun w hw => hb w (by simp only [T.bnd]; omega))
    have hs := core_sh y (Δ ++ env) u [] hy.2
    show B.lam ((core (y :: (Δ ++ x :: env)) b).put (Δ.length + 1) ((core (Δ ++ env) u).sh 0)) = .lam (core (y :: (Δ ++ env)) (T.put x u b))
    have hs : (core (Δ ++ env) u).sh 0 = core (y :: (Δ ++ env)) u := hs
    rw [hs]
    exact congrArg B.lam ih
  | .app a b, Δ, hx, hb => by
    show B.app ((core _ a).put _ _) ((core _ b).put _ _) = .app (core _ (T.put x u a)) (core _ (T.put x u b))
    rw [core_put x u env a Δ hx (fun w hw => hb w (by simp only [T.bnd]; omega)), core_put x u env b Δ hx (fun w hw => hb w (by simp only [T.bnd]; omega))]

theorem core_step : ∀ (t : T) (env : List Nm), T.ok env t → (core env t).step = (t.step).map (core env)
  | .nm x, env, _ => by unfold core; split <;> rfl
  | .lam x b, env, h => by
    have ih := core_step b (x :: env) h.2.2
    show (match (core (x :: env) b).step with | some b' => some (B.lam b') | none => none) = _
    rw [ih]
    show _ = (match b.step with | some b' => some (T.lam x b') | none => none).map (core env)
    cases b.step <;> rfl
  | .app (.lam x c) a, env, h => by
    show some ((core (x :: env) c).put 0 (core env a)) = some (core env (T.put x a c))
    exact congrArg some (core_put x a env c [] (by simp) (redex_apart h).1)
  | .app (.nm x) b, env, h => by
    have ihb := core_step b env h.2.1
    have e : (B.app (core env (.nm x)) (core env b)).step = match (core env b).step with | some b' => some (B.app (core env (.nm x)) b') | none => none := by
      unfold core; split <;> rfl
    show (B.app (core env (.nm x)) (core env b)).step = _
    rw [e, ihb]
    show _ = (match b.step with | some b' => some (T.app (.nm x) b') | none => none).map _
    cases b.step <;> rfl
  | .app (.app a1 a2) b, env, h => by
    have iha := core_step (.app a1 a2) env h.1
    have ihb := core_step b env h.2.1
    have e : (B.app (core env (.app a1 a2)) (core env b)).step = match (core env (.app a1 a2)).step with
      | some a' => some (B.app a' (core env b))
      | none => match (core env b).step with | some b' => some (B.app (core env (.app a1 a2)) b') | none => none := rfl
    show (B.app (core env (.app a1 a2)) (core env b)).step = _
    rw [e, iha, ihb]
    have e2 : (T.app (.app a1 a2) b).step = match (T.app a1 a2).step with
      | some a' => some (.app a' b)
      | none => match b.step with | some b' => some (.app (.app a1 a2) b') | none => none := rfl
    rw [e2]
    cases (T.app a1 a2).step with
    | some a' => rfl
    | none => cases b.step <;> rfl

/-- the end of both ways -/
theorem ends_of {b : Nat} : ∀ (k : Nat) (t : T), t.size ≤ k → t.size ≤ 150 → Inv1 b t → ∃ n u, TEnds t n u ∧ Ends (core [] t) n (core [] u) ∧ n ≤ k ∧ Inv1 b u ∧ u.size ≤ 150
  | 0, t, hk, _, _ => by have := T.size_pos t; omega
  | k + 1, t, hk, hs, h => by
    have hc := core_step t [] h.1
    have hsz : (core [] t).size ≤ 150 := by rw [core_size]; exact hs
    have hv : (core [] t).vars (10 ^ 6) := core_vars t [] _ (by simp; omega)
    cases hst : t.step with
    | none =>
      rw [hst] at hc
      exact ⟨0, t, .done hst hs, .done hc hsz hv, Nat.zero_le _, h, hs⟩
    | some t' =>
      rw [hst] at hc
      obtain ⟨i1, i2⟩ := step_inv h hst
      obtain ⟨n, u, q1, q2, q3, q4, q5⟩ := ends_of k t' (by omega) (by omega) i1
      exact ⟨n + 1, u, .more hst hs q1, .more hc hsz hv q2, by omega, q4, q5⟩

/-- what is drawn -/
theorem drawn_ok {f : Nat} {env : List Nm} {hd : Bool} {b : Nat} {t : T} {b' : Nat} (h : Drawn f env hd b t b') : (∀ i, Nm.n i ∈ env → i ≤ b) → T.ok env t ∧ b ≤ b' ∧ (∀ y, 1 ≤ T.bnd y t → ∃ i, y = .n i ∧ b < i ∧ i ≤ b') ∧ t.size ≤ 2 ^ (f + 1) - 1 := by
  induction h with
  | nm hx =>
    intro he
    rename_i f env hd b x
    refine ⟨hx, Nat.le_refl _, fun y hy => absurd hy (by simp [T.bnd]), ?_⟩
    have : 2 ^ (f + 1) ≥ 2 := by rw [Nat.pow_succ]; have := Nat.one_le_two_pow (n := f); omega
    simp only [T.size]; omega
  | lam h ih =>
    intro he
    rename_i f env b t b'
    obtain ⟨q1, q2, q3, q4⟩ := ih (fun i hi => by
      rcases List.mem_append.mp hi with h | h
      · have := he i h; omega
      · have : i = b + 1 := by simpa using h
        omega)
    refine ⟨⟨fun hm => by have := he _ hm; omega, ⟨_, rfl⟩, T.ok_weaken t _ _ q1 (fun z hz => ?_) fun z hz => ?_⟩, by omega, fun y hy => ?_, ?_⟩
    · rcases List.mem_append.mp hz with h | h
      · exact List.mem_cons_of_mem _ h
      · have : z = .n (b + 1) := by simpa using h
        rw [this]; exact List.mem_cons_self ..
    · refine Nat.eq_zero_of_not_pos fun hp => ?_
      obtain ⟨i, rfl, h1, h2⟩ := q3 z hp
      rcases List.mem_cons.mp hz with e | e
      · have : i = b + 1 := by simpa using e
        omega
      · have := he i e; omega
    · by_cases hy2 : Nm.n (b + 1) = y
      · exact ⟨b + 1, hy2.symm, by omega, by omega⟩
      · obtain ⟨i, h1, h2, h3⟩ := q3 y (by simpa [T.bnd, hy2] using hy)
        exact ⟨i, h1, by omega, h3⟩
    · have e : 2 ^ (f + 1 + 1) = 2 ^ (f + 1) * 2 := Nat.pow_succ ..
      have : 2 ^ (f + 1) ≥ 1 := Nat.one_le_two_pow
      simp only [T.size]; omega
  | app h1 h2 ih1 ih2 =>
    intro he
    rename_i f env hd b t u b1 b'
    obtain ⟨q1, q2, q3, q4⟩ := ih1 he
    obtain ⟨p1, p2, p3, p4⟩ := ih2 (fun i hi => by have := he i hi; omega)
    refine ⟨⟨q1, p1, fun y => ?_⟩, by omega, fun y hy => ?_, ?_⟩
    · by_cases hy : T.bnd y t = 0
      · exact .inl hy
      · right
        obtain ⟨i, rfl, r1, r2⟩ := q3 y (by omega)
        refine Nat.eq_zero_of_not_pos fun hp => ?_
        obtain ⟨j, e, s1, s2⟩ := p3 _ hp
        have : i = j := by simpa using e
        omega
    · simp only [T.bnd] at hy
      by_cases h : 1 ≤ T.bnd y t
      · obtain ⟨i, r0, r1, r2⟩ := q3 y h; exact ⟨i, r0, r1, by omega⟩
      · obtain ⟨i, r0, r1, r2⟩ := p3 y (by omega); exact ⟨i, r0, by omega, r2⟩
    · have e : 2 ^ (f + 1 + 1) = 2 ^ (f + 1) * 2 := Nat.pow_succ ..
      have : 2 ^ (f + 1) ≥ 1 := Nat.one_le_two_pow
      simp only [T.size]; omega
theorem drawn0 {env : List Nm} {hd : Bool} {b : Nat} {t : T} {b' : Nat} (h : Drawn 0 env hd b t b') : ∃ x, t = .nm x := by
  cases h; exact ⟨_, rfl⟩
theorem drawn1 {env : List Nm} {hd : Bool} {b : Nat} {t : T} {b' : Nat} (h : Drawn 1 env hd b t b') : HasTy (fun _ => .D) t .D := by
  cases h with
  | nm _ => rfl
  | lam h =>
    obtain ⟨x, rfl⟩ := drawn0 h
    exact .inr ⟨rfl, rfl, .inl ⟨rfl, by unfold T.occ; split <;> omega⟩⟩
  | app h1 h2 =>
    obtain ⟨x, rfl⟩ := drawn0 h1
    obtain ⟨y, rfl⟩ := drawn0 h2
    exact .inr ⟨rfl, rfl, rfl⟩
theorem drawn_inv {f : Nat} {b : Nat} {t : T} {b' : Nat} (hf : f = 1 ∨ f = 2) (h : Drawn f [] false b t b') : Inv1 b' t ∧ t.size ≤ 7 := by
  obtain ⟨q1, q2, q3, q4⟩ := drawn_ok h (by simp)
  have hty : ∃ τ, HasTy (fun _ => Ty.D) t τ := by
    rcases hf with rfl | rfl
    · exact ⟨_, drawn1 h⟩
    · cases h with
      | nm _ => exact ⟨.D, rfl⟩
      | lam h => exact ⟨.P, .inr ⟨rfl, drawn1 h, .inr rfl⟩⟩
      | app h1 h2 => exact ⟨.D, .inr ⟨rfl, drawn1 h1, drawn1 h2⟩⟩
  obtain ⟨τ, hτ⟩ := hty
  refine ⟨⟨q1, fun i hi => Nat.eq_zero_of_not_pos fun hp => ?_, fun _ => .D, τ, rfl, rfl, hτ⟩, ?_⟩
  · obtain ⟨j, e, h1, h2⟩ := q3 _ hp
    have : i = j := by simpa using e
    omega
  · rcases hf with rfl | rfl
    · exact Nat.le_trans q4 (by decide)
    · exact Nat.le_trans q4 (by decide)
end
section
variable [Z : Zero Frozen]
-- Q20
theorem str_comm (a b : Str) : (a == b) = (b == a) := by rw [Bool.eq_iff_iff, beq_iff_eq, beq_iff_eq]; exact eq_comm
theorem B.eqv_comm : ∀ (t u : B), PyData.eqv t.pv.toD u.pv.toD = PyData.eqv u.pv.toD t.pv.toD
  | .var i, u => by cases u <;> simp only [B.pv, PV.toD, PV.toDs, PyData.eqv, PyData.eqvAll, Bool.and_true, Bool.and_false] <;> exact str_comm _ _
  | .fr i, u => by cases u <;> simp only [B.pv, PV.toD, PV.toDs, PyData.eqv, PyData.eqvAll, Bool.and_true, Bool.and_false] <;> exact str_comm _ _
  | .lam b, u => by cases u <;> simp only [B.pv, PV.toD, PV.toDs, PyData.eqv, PyData.eqvAll, Bool.and_true, Bool.and_false] <;> rw [B.eqv_comm b]
  | .app a b, u => by cases u <;> simp only [B.pv, PV.toD, PV.toDs, PyData.eqv, PyData.eqvAll, Bool.and_true, Bool.and_false] <;> rw [B.eqv_comm a, B.eqv_comm b]
structure Ent where
  t : T
  n : Nat
  u : T
def Ent.good (b : Nat) (e : Ent) : Prop := TEnds e.t e.n e.u ∧ Ends (core [] e.t) e.n (core [] e.u) ∧ e.n ≤ 150 ∧ Inv1 b e.t ∧ Inv1 b e.u ∧ e.t.size ≤ 150 ∧ e.u.size ≤ 150
theorem ents {b : Nat} : ∀ (row : List T), (∀ t ∈ row, Inv1 b t ∧ t.size ≤ 150) → ∃ es : List Ent, es.map Ent.t = row ∧ ∀ e ∈ es, e.good b
  | [], _ => ⟨[], rfl, by simp⟩
  | t :: r, h => by
    obtain ⟨es, h1, h2⟩ := ents r fun x hx => h x (List.mem_cons_of_mem _ hx)
    obtain ⟨q1, q2⟩ := h t (List.mem_cons_self ..)
    obtain ⟨n, u, p1, p2, p3, p4, p5⟩ := ends_of 150 t q2 q2 q1
    refine ⟨⟨t, n, u⟩ :: es, by simp [h1], fun e he => ?_⟩
    rcases List.mem_cons.mp he with rfl | he
    · exact ⟨p1, p2, p3, q1, p4, q2, p5⟩
    · exact h2 e he
/-- the row so far -/
structure RowAt (σ : Store) (h c r : Nat) (cells : List Int) (a b : Nat) (row : List T) (s : Nat) : Prop where
  hand : HandAt σ h c cells a b
  cellr : σ[r]? = some (.list (row.map T.pv))
  ne : h ≠ r
  nc : c ≠ r
  inv : ∀ t ∈ row, Inv1 b t ∧ t.size ≤ s
  few : row.length ≤ 20
section
variable {σ : Store} {h c r : Nat} {cells : List Int} {a b : Nat} {row : List T} {s : Nat}
theorem RowAt.app (R : RowAt σ h c r cells a b row s) (g : Store) : RowAt (σ ++ g) h c r cells a b row s := ⟨R.hand.app g, get_app R.cellr, R.ne, R.nc, R.inv, R.few⟩
theorem RowAt.hset (R : RowAt σ h c r cells a b row s) (a' : Nat) {b' : Nat} (hb : b ≤ b') : RowAt (σ.set h (handC c a' b')) h c r cells a' b' row s := ⟨R.hand.set a' b', get_ne R.ne R.cellr, R.ne, R.nc, fun t ht => ⟨(R.inv t ht).1.mono hb, (R.inv t ht).2⟩, R.few⟩
theorem RowAt.push (R : RowAt σ h c r cells a b row s) {t : T} (ht : Inv1 b t ∧ t.size ≤ s) (hf : row.length + 1 ≤ 20) : RowAt (σ.set r (.list (row.map T.pv ++ [t.pv]))) h c r cells a b (row ++ [t]) s :=
  ⟨⟨get_ne (Ne.symm R.ne) R.hand.hand, get_ne (Ne.symm R.nc) R.hand.cell, R.hand.ne, R.hand.few⟩, by rw [get_hit R.cellr, List.map_append]; rfl, R.ne, R.nc, fun x hx => by
    rcases List.mem_append.mp hx with h | h
    · exact R.inv x h
    · rw [List.mem_singleton.mp h]; exact ht, by simp; omega⟩
end
theorem eq_bb {a : Bool} {σ : Store} : Eqt (.bool a) (.bool a) σ true := by cases a <;> exact eq_plain (x := .bool _) (y := .bool _) rfl
theorem eq_nn {σ : Store} : Eqt .none .none σ true := eq_plain (x := .none) (y := .none) rfl
theorem pk_last {α : Type} (l : List α) (x : α) : pickAt (l ++ [x]) (-1) = some x := by
  unfold pickAt
  rw [if_neg (by omega), if_pos (by simp; omega), show ((-1 : Int) + ((l ++ [x]).length : Nat)).toNat = l.length by simp; omega]
  simp
local macro_rules | `(tactic| walk_at "e") => `(tactic| first
  | with_reducible exact max_2
  | with_reducible exact int_int
  | ((with_reducible apply it_ref); (· walk_at "g"); (· first | with_reducible assumption | exact decide_eq_true (by omega)); with_reducible assumption)
  | with_reducible exact eq_bb
  | with_reducible exact eq_nn)
/-- how the law must end -/
def Tru (o : SO) : Prop := ∃ σ, o = .ret (.bool true) σ
abbrev lawD : Def := defAt PySem.Challenge.pw_pq0040_01 39
theorem law_end (es : List Ent) {b : Nat} (hgood : ∀ e ∈ es, e.good b) (h1 : 1 ≤ es.length) (h2 : es.length ≤ 100) {σ : Store} {ρ : Vars} {ds : List PV} {r kE kC v : Nat} (hds : ds.length = es.length) (hR : σ[r]? = some (.list ds)) (hE : σ[kE]? = some (.list (es.map fun e => PV.tup [e.u.pv, .int e.n])))
    (hC : σ[kC]? = some (.list (es.map fun e => (core [] e.t).pv))) (n : Nat) (hn : 300 ≤ n) (r1 : ρ "row" = some (.ref r)) (r2 : ρ "ends" = some (.ref kE)) (r3 : ρ "cores" = some (.ref kC)) (r4 : ρ "most" = some (.int v)) :
    Ws (T1.at n) lawD.names (lawD.body.drop 7) ρ σ Tru := by
  rw [show lawD = Def.mk _ _ _ from rfl]
  dsimp only [List.drop]
  have s1 : small ds.length = true := small_of (by omega)
  have hI : ∀ σ : Store, ItemsOf (.rng 0 ds.length) σ ((List.range ds.length).map fun (i : Nat) => PV.int (0 + (i : Int))) := fun σ => by
    have := its_rng (σ := σ) (a := 0) (b := ds.length) ⟨by decide, by omega⟩
    rwa [show ((ds.length : Int) - 0).toNat = ds.length by omega] at this
  repeat walk_at "e"
  · exact hI _
  refine wforI (fun xs ρ σ' => (∀ d ∈ xs, ∃ i : Nat, i < es.length ∧ d = .int i) ∧ ρ "row" = some (.ref r) ∧ ρ "ends" = some (.ref kE) ∧ ρ "cores" = some (.ref kC) ∧ ρ "most" = some (.int v) ∧ ∃ g, σ' = σ ++ g) ?_ ?_ ?_
  · refine ⟨fun d hd => ?_, r1, r2, r3, r4, ext_refl⟩
    obtain ⟨i, hi, rfl⟩ := List.mem_map.mp hd
    exact ⟨i, by have := List.mem_range.mp hi; omega, by simp⟩
  · rintro d xs ρ σ' ⟨hd, r1, r2, r3, r4, g, rfl⟩
    obtain ⟨i, hi, rfl⟩ := hd d (List.mem_cons_self ..)
    have hd' : ∀ d ∈ xs, ∃ i : Nat, i < es.length ∧ d = .int i := fun x hx => hd x (List.mem_cons_of_mem _ hx)
    have hj : (i + 1) % es.length < es.length := Nat.mod_lt _ (by omega)
    have f4 : ((i : Int) + 1) % (ds.length : Int) = (((i + 1) % es.length : Nat) : Int) := by rw [hds]; simp
    have f5 : (0 : Int) < (ds.length : Int) ∧ (ds.length : Int) < 1000000000 := by omega
    generalize (i + 1) % es.length = j at hj f4
    have f6 : decide ((((i : Int) + 1) % (ds.length : Int)).natAbs < 2 ^ 62) = true := by rw [f4]; exact decide_eq_true (by omega)
    have he1 : es[i]? = some es[i] := List.getElem?_eq_getElem hi
    have he2 : es[j]? = some es[j] := List.getElem?_eq_getElem hj
    have g1 := hgood _ (List.getElem_mem hi)
    have g2 := hgood _ (List.getElem_mem hj)
    generalize es[i] = ea at he1 g1
    generalize es[j] = eb at he2 g2
    have x1 : pickAt (es.map fun e => PV.tup [e.u.pv, .int e.n]) (i : Int) = some (.tup [ea.u.pv, .int ea.n]) := pk_nat rfl (by rw [List.getElem?_map, he1]; rfl)
    have x2 : pickAt (es.map fun e => PV.tup [e.u.pv, .int e.n]) (((i : Int) + 1) % (ds.length : Int)) = some (.tup [eb.u.pv, .int eb.n]) := pk_nat f4 (by rw [List.getElem?_map, he2]; rfl)
    have x3 : pickAt (es.map fun e => (core [] e.t).pv) (i : Int) = some (core [] ea.t).pv := pk_nat rfl (by rw [List.getElem?_map, he1]; rfl)
    have x4 : pickAt (es.map fun e => (core [] e.t).pv) (((i : Int) + 1) % (ds.length : Int)) = some (core [] eb.t).pv := pk_nat f4 (by rw [List.getElem?_map, he2]; rfl)
    have zA : (core [] ea.u).size ≤ 150 := by rw [core_size]; exact g1.2.2.2.2.2.2
    have zB : (core [] eb.u).size ≤ 150 := by rw [core_size]; exact g2.2.2.2.2.2.2
    have tA := told_spec _ _ _ _ _ _ v g1.2.1 g2.2.1 zA n (by omega)
    have tB := told_spec _ _ _ _ _ _ v g2.2.1 g1.2.1 zB n (by omega)
    rw [B.eqv_comm (core [] eb.u)] at tB
    have cA := core_spec ea.u [] (T.ok_closed _ _ g1.2.2.2.2.1.1) (by have := g1.2.2.2.2.2.2; simp; omega) n (by have := g1.2.2.2.2.2.2; omega)
    have cB := core_spec eb.u [] (T.ok_closed _ _ g2.2.2.2.2.1.1) (by have := g2.2.2.2.2.2.2; simp; omega) n (by have := g2.2.2.2.2.2.2; omega)
    have y3 := B.depth_pv (core [] ea.u)
    have eqc : ∀ σ : Store, Eqt (core [] ea.u).pv (core [] eb.u).pv σ (PyData.eqv (core [] ea.u).pv.toD (core [] eb.u).pv.toD) := fun σ => eq_plain (by rw [B.lay_pv, B.lay_pv, decide_eq_true (by omega)]; rfl)
    by_cases hm : ea.n ≤ v ∧ eb.n ≤ v
    · rw [if_pos hm] at tA
      rw [if_pos ⟨hm.2, hm.1⟩] at tB
      have hm3 : max (ea.n : Int) (eb.n : Int) ≤ (v : Int) := by omega
      generalize PyData.eqv (core [] ea.u).pv.toD (core [] eb.u).pv.toD = q at tA tB eqc
      repeat walk_at "e"
      · exact cA _ _ last_at
      repeat walk_at "e"
      · exact cB _ _ last_at
      repeat walk_at "e"
      · exact eqc _
      repeat walk_at "e"
      · exact hI _
      exact ⟨hd', by walk_at "v", by walk_at "v", by walk_at "v", by walk_at "v", by repeat walk_at "e"⟩
    · rw [if_neg hm] at tA
      rw [if_neg (fun h => hm ⟨h.2, h.1⟩)] at tB
      have hm2 : ¬ max (ea.n : Int) (eb.n : Int) ≤ (v : Int) := by omega
      repeat walk_at "e"
      · exact hI _
      exact ⟨hd', by walk_at "v", by walk_at "v", by walk_at "v", by walk_at "v", by repeat walk_at "e"⟩
  · rintro ρ σ' _
    repeat walk_at "e"
    exact ⟨_, rfl⟩
section
variable {Γ : Ctx} {N : Names} {ρ : Vars} {σ σ₁ : Store} {O : SO → Prop} {x : Str} {ifs : List Expr} {elt : Expr} {v : PV} {all : List PV}
theorem turns_grow {α : Type} {f g : α → PV} (hi : ∀ G, ItemsOf v (σ ++ G) all) : ∀ {l : List α} {G0 : Store}, (∀ a ∈ l, ∀ G, ∃ G', Ei Γ N (Vars.comp N ρ x (f a)) ifs (σ ++ G) (.ok true (σ ++ G)) ∧ Ev Γ N (Vars.comp N ρ x (f a)) elt (σ ++ G) (.ok (g a) (σ ++ G'))) →
    ∃ G', Turns Γ N ρ x ifs elt v all (l.map f) (σ ++ G0) (l.map g) (σ ++ G')
  | [], G0, _ => ⟨G0, .nil⟩
  | a :: l, G0, h => by
    obtain ⟨G1, q1, q2⟩ := h a (List.mem_cons_self ..) G0
    obtain ⟨G2, q3⟩ := turns_grow hi (l := l) (G0 := G1) fun y hy => h y (List.mem_cons_of_mem _ hy)
    exact ⟨G2, .cons q1 q2 (hi _) q3⟩
theorem grow_ex {α : Type} {f g : α → PV} {n : Nat} {l : List α} {K : List PV → Store → Prop} (hn : σ[n]? = some (.list (l.map f))) (hs : small (l.map f).length = true) (h : ∀ a ∈ l, ∀ G, ∃ G', Ei Γ N (Vars.comp N ρ x (f a)) ifs (σ ++ G) (.ok true (σ ++ G)) ∧ Ev Γ N (Vars.comp N ρ x (f a)) elt (σ ++ G) (.ok (g a) (σ ++ G')))
    (k : ∀ G', K (l.map g) (σ ++ G')) : ∃ ys σ₂, CompAt Γ N ρ x ifs elt (.ref n) σ ys σ₂ ∧ K ys σ₂ := by
  obtain ⟨G', q⟩ := turns_grow (v := .ref n) (G0 := []) (fun G => its_list (get_app hn)) h
  rw [List.append_nil] at q
  exact ⟨_, _, ci_list hn hs q, k G'⟩
theorem w_setc_ex {x y : Str} {elt iter : Expr} {py q px p : Pos} {ifs : List Expr} {scope : Scope} {r : List Stmt} {v : PV} (hx : (canStore N x && (compOk N scope y && noSet iter)) = true) (h1 : Ev Γ N ρ iter σ (.ok v σ₁)) (h2 : ∃ ys σ₂, CompAt Γ (relab N scope.names) ρ y ifs elt v σ₁ ys σ₂ ∧ Ws Γ N r (Vars.set ρ x (.ref σ₂.length)) (σ₂ ++ [.list ys]) O) :
    Ws Γ N (.Assign [.Name x px] (.ListComp elt [⟨.Name y py, iter, ifs, 0⟩] scope q) p :: r) ρ σ O := by
  obtain ⟨ys, σ₂, h2, h3⟩ := h2
  exact w_setc hx h1 h2 h3
end
local macro_rules | `(tactic| walk_at "e") => `(tactic| ((with_reducible apply w_setc_ex); (· kernel_rfl!)))
theorem law_5 {σ : Store} {h c r : Nat} {cells : List Int} {a b : Nat} {row : List T} (R : RowAt σ h c r cells a b row 50) (h1 : 1 ≤ row.length) (ha : a ≤ 100) (n : Nat) (hn : 300 ≤ n) {ρ : Vars} (r1 : ρ "row" = some (.ref r)) (r2 : ρ "hand" = some (.ref h)) :
    Ws (T1.at n) lawD.names (lawD.body.drop 5) ρ σ Tru := by
  obtain ⟨v, hv, hp⟩ := pick_spec R.hand 4 (by omega) (by omega) (by omega) n (by omega)
  have hp : Cl (T1.at n) "_law_pick" [.ref h, .int 4] σ (.ok (.int v) (σ.set h (handC c (a + 1) b))) := hp
  have R2 := R.hset (a + 1) (Nat.le_refl b)
  obtain ⟨es, hes, hgood⟩ := ents (b := b) row fun t ht => ⟨(R.inv t ht).1, by have := (R.inv t ht).2; omega⟩
  have hcell := R2.cellr
  have hel : es.length = row.length := by rw [← hes, List.length_map]
  have hfew := R.few
  rw [← hes, List.map_map] at hcell
  have hs : small (es.map (T.pv ∘ Ent.t)).length = true := small_of (by rw [List.length_map]; omega)
  generalize σ.set h (handC c (a + 1) b) = S at hp hcell
  have hend := fun {σ : Store} {ρ : Vars} {kE kC : Nat} hR hE hC r1 r2 r3 r4 => law_end es hgood (by omega) (by omega) (σ := σ) (ρ := ρ) (kE := kE) (kC := kC) (ds := es.map (T.pv ∘ Ent.t)) (r := r) (v := v) (by simp) hR hE hC n hn r1 r2 r3 r4
  rw [show lawD = Def.mk _ _ _ from rfl] at hend ⊢
  dsimp only [List.drop] at hend ⊢
  repeat walk_at "e"
  · refine ci_list hcell hs (turns_map (f := T.pv ∘ Ent.t) (g := fun e => PV.tup [e.u.pv, .int e.n]) (its_list hcell) fun e he => ⟨?_, ?_⟩)
    · repeat walk_at "e"
    · have c1 := end_spec e.t e.u e.n (hgood e he).1 n (by omega)
      show Ev _ _ (Vars.comp _ _ _ e.t.pv) _ _ _
      repeat walk_at "e"
  repeat walk_at "e"
  · refine grow_ex (f := T.pv ∘ Ent.t) (g := fun e => (core [] e.t).pv) (get_app hcell) hs (fun e he G => ⟨G ++ [.list []], by repeat walk_at "e", ?_⟩) fun G => ?_
    · have c1 := core_spec e.t [] (T.ok_closed _ _ (hgood e he).2.2.2.1.1) (by have := (hgood e he).2.2.2.2.2.1; simp; omega) n (by have := (hgood e he).2.2.2.2.2.1; omega)
      rw [← List.append_assoc]
      show Ev _ _ (Vars.comp _ _ _ e.t.pv) _ _ _
      repeat walk_at "e"
      exact c1 _ _ last_at
    · refine hend (get_app (get_app (get_app hcell))) (get_app (get_app last_at)) last_at ?_ ?_ ?_ ?_
      all_goals walk_at "v"
theorem law_4 {σ : Store} {h c r : Nat} {cells : List Int} {a b : Nat} {rs : List T} {t : T} (R : RowAt σ h c r cells a b (rs ++ [t]) 50) (hr : σ[r]? = some (.list (rs.map T.pv ++ [t.pv]))) (hz : t.size ≤ 40) (hl : rs.length ≤ 15) (ha : a ≤ 50) (hb : b ≤ 50) (n : Nat) (hn : 300 ≤ n) {ρ : Vars} (r1 : ρ "row" = some (.ref r)) (r2 : ρ "hand" = some (.ref h)) :
    Ws (T1.at n) lawD.names (lawD.body.drop 4) ρ σ Tru := by
  obtain ⟨j1, j2⟩ := R.inv t (by simp)
  obtain ⟨t', a', b', p1, p4, p5, p6⟩ := turned_spec t (by omega) R.hand (by omega) (by omega) n (by omega)
  obtain ⟨k1, k2, k3⟩ := turn_inv j1 p6
  have R2 := (R.hset a' k3).push (t := t') ⟨k1, by omega⟩ (by simp; omega)
  have hend := law_5 R2 (by simp) (by omega) n hn (ρ := ρ) r1 r2
  have e1 := pk_last (rs.map T.pv) t.pv
  have e2 : small (rs.map T.pv ++ [t.pv]).length = true := small_of (by simp; omega)
  have hne := R.ne
  simp only [List.map_append, List.map_cons, List.map_nil] at hend
  rw [show lawD = Def.mk _ _ _ from rfl] at hend ⊢
  dsimp only [List.drop] at hend ⊢
  repeat first | with_reducible exact hend | walk_at "e"
theorem law_3 {σ : Store} {h c r : Nat} {cells : List Int} {a b : Nat} {row : List T} (R : RowAt σ h c r cells a b row 50) (hl : row.length ≤ 15) (ha : a ≤ 40) (hb : b ≤ 40) (n : Nat) (hn : 300 ≤ n) {ρ : Vars} (r1 : ρ "row" = some (.ref r)) (r2 : ρ "hand" = some (.ref h)) :
    Ws (T1.at n) lawD.names (lawD.body.drop 3) ρ σ Tru := by
  have hpk : pk 1 = 3 := rfl
  have hlt := (List.getElem?_eq_some_iff.mp R.hand.hand).1
  obtain ⟨t, a', b', p1, p4, p5, p6⟩ := tree_spec 1 [] false (r := σ.length) (R.hand.app [Cell.list []]) last_at (by omega) (by omega) (by omega) (by decide) n (by omega)
  have p1 : Cl (T1.at n) "_law_tree" [.ref h, .ref σ.length, .int 1, .bool false] (σ ++ [Cell.list []]) (.ok t.pv ((σ ++ [Cell.list []]).set h (handC c a' b'))) := p1
  obtain ⟨y1, y2⟩ := drawn_inv (.inl rfl) p6
  have R2 := (((R.app [Cell.list []]).hset a' (drawn_ok p6 (by simp)).2.1).push (t := t) ⟨y1, by omega⟩ (by omega))
  have hcell := R2.cellr
  rw [List.map_append] at hcell
  have hend := law_4 R2 hcell (by omega) (by omega) (by omega) (by omega) n hn (ρ := ρ) r1 r2
  have e2 : small (row.map T.pv).length = true := small_of (by simp; omega)
  have hne := R.ne
  have hr := R.cellr
  rw [show lawD = Def.mk _ _ _ from rfl] at hend ⊢
  dsimp only [List.drop] at hend ⊢
  repeat first | with_reducible exact hend | walk_at "e"
theorem law_2 {σ : Store} {h c r : Nat} {cells : List Int} {a b : Nat} {t1 : T} (R : RowAt σ h c r cells a b [t1] 7) (ha : a ≤ 10) (hb : b ≤ 10) (n : Nat) (hn : 300 ≤ n) {ρ : Vars} (r1 : ρ "row" = some (.ref r)) (r2 : ρ "hand" = some (.ref h)) :
    Ws (T1.at n) lawD.names (lawD.body.drop 2) ρ σ Tru := by
  obtain ⟨w, hw, hp⟩ := pick_spec R.hand 3 (by omega) (by omega) (by omega) n (by omega)
  have hp : Cl (T1.at n) "_law_pick" [.ref h, .int 3] σ (.ok (.int w) (σ.set h (handC c (a + 1) b))) := hp
  have R2 := R.hset (a + 1) (Nat.le_refl b)
  have hl3 := fun {σ cells a b row} (R : RowAt σ h c r cells a b row 50) hl ha hb {ρ : Vars} r1 r2 => law_3 R hl ha hb n hn (ρ := ρ) r1 r2
  rw [show lawD = Def.mk _ _ _ from rfl] at hl3 ⊢
  dsimp only [List.drop] at hl3 ⊢
  have hI : ∀ σ : Store, ItemsOf (.rng 0 (1 + (w : Int))) σ _ := fun σ => its_rng (σ := σ) ⟨by decide, by omega⟩
  repeat walk_at "e"
  · exact hI _
  have hlen : ((1 : Int) + (w : Int) - 0).toNat ≤ 3 := by omega
  generalize ((1 : Int) + (w : Int) - 0).toNat = k at hlen hI
  refine wforI (fun ds ρ σ' => ∃ a b rs t, RowAt σ' h c r cells a b (rs ++ [t]) 50 ∧ (∀ t' ∈ rs ++ [t], t'.size + 3 * ds.length ≤ 30) ∧ a + 2 * ds.length ≤ 30 ∧ b + ds.length ≤ 30 ∧ rs.length + ds.length ≤ 10 ∧ ρ "hand" = some (.ref h) ∧ ρ "row" = some (.ref r)) ?_ ?_ ?_
  · refine ⟨_, _, [], t1, ⟨R2.hand, R2.cellr, R2.ne, R2.nc, fun t ht => ⟨(R2.inv t ht).1, by have := (R2.inv t ht).2; omega⟩, R2.few⟩, fun t ht => ?_, ?_, ?_, ?_, r2, r1⟩
    · have := (R2.inv t ht).2
      simp; omega
    all_goals simp <;> omega
  · rintro d ds ρ σ' ⟨a, b, rs, t, R, hsz, ha, hb, hrow, r2, r1⟩
    simp only [List.length_cons] at hsz ha hb hrow
    obtain ⟨j1, j2⟩ := R.inv t (by simp)
    have hst := hsz t (by simp)
    obtain ⟨t', a', b', p1, p4, p5, p6⟩ := turned_spec t (by omega) R.hand (by omega) (by omega) n (by omega)
    obtain ⟨k1, k2, k3⟩ := turn_inv j1 p6
    have R2 := (R.hset a' k3).push (t := t') ⟨k1, by omega⟩ (by simp; omega)
    have e1 := pk_last (rs.map T.pv) t.pv
    have e2 : small (rs.map T.pv ++ [t.pv]).length = true := small_of (by simp; omega)
    have hne := R.ne
    have hr := R.cellr
    simp only [List.map_append, List.map_cons, List.map_nil] at hr R2
    repeat walk_at "e"
    · exact hI _
    refine ⟨a', b', rs ++ [t], t', R2, fun x hx => ?_, by omega, by omega, by simp; omega, by walk_at "v", by walk_at "v"⟩
    rcases List.mem_append.mp hx with hx | hx
    · have := hsz x hx; omega
    · rw [List.mem_singleton.mp hx]; omega
  · rintro ρ σ' ⟨a, b, rs, t, R, hsz, ha, hb, hrow, r2, r1⟩
    exact hl3 R (by simp at hrow ⊢; omega) (by omega) (by omega) r1 r2
theorem law_1 {σ : Store} {h c : Nat} {cells : List Int} (H : HandAt σ h c cells 0 0) (n : Nat) (hn : 300 ≤ n) {ρ : Vars} (r2 : ρ "hand" = some (.ref h)) :
    Ws (T1.at n) lawD.names (lawD.body.drop 1) ρ σ Tru := by
  have hpk : pk 2 = 7 := rfl
  have hlt := (List.getElem?_eq_some_iff.mp H.hand).1
  have hlc := (List.getElem?_eq_some_iff.mp H.cell).1
  obtain ⟨t, a', b', p1, p4, p5, p6⟩ := tree_spec 2 [] false (r := σ.length) (H.app [Cell.list []]) last_at (by omega) (by omega) (by omega) (by decide) n (by omega)
  have p1 : Cl (T1.at n) "_law_tree" [.ref h, .ref σ.length, .int 2, .bool false] (σ ++ [Cell.list []]) (.ok t.pv ((σ ++ [Cell.list []]).set h (handC c a' b'))) := p1
  obtain ⟨y1, y2⟩ := drawn_inv (.inr rfl) p6
  have hl : ((σ ++ [Cell.list []]).set h (handC c a' b')).length = σ.length + 1 := by simp
  have R2 : RowAt ((σ ++ [Cell.list []]).set h (handC c a' b') ++ [Cell.list [t.pv]]) h c ((σ ++ [Cell.list []]).set h (handC c a' b')).length cells a' b' [t] 7 := ⟨((H.app _).set a' b').app _, last_at, by omega, by omega, fun x hx => by rw [List.mem_singleton.mp hx]; exact ⟨y1, y2⟩, by simp⟩
  have hend := fun {ρ : Vars} r1 r2 => law_2 R2 (by omega) (by omega) n hn (ρ := ρ) r1 r2
  rw [show lawD = Def.mk _ _ _ from rfl] at hend ⊢
  dsimp only [List.drop] at hend ⊢
  repeat first | with_reducible refine hend ?_ ?_ | walk_at "e"
  all_goals walk_at "v"
theorem law_true (hns : (Zero.zero : Frozen).ns.length ≤ 63) (n : Nat) (hn : 300 ≤ n) : Ws (T1.at n) lawD.names lawD.body (Vars.of lawD.params [.old (Zero.zero : Frozen).ns]) [] Tru := by
  show Ws (T1.at n) lawD.names lawD.body (Vars.set Vars.no "script" (.old (Zero.zero : Frozen).ns)) [] Tru
  have hsl := fun σ => sl_old (σ := σ) bd_none (bd_nat (i := 50) (k := 50) rfl (by decide)) (small_of (n := (Zero.zero : Frozen).ns.length) (by omega))
  have hend := fun {σ : Store} {h c : Nat} {cells : List Int} (H : HandAt σ h c cells 0 0) {ρ : Vars} r2 => law_1 H n hn (ρ := ρ) r2
  rw [show lawD = Def.mk _ _ _ from rfl] at hend ⊢
  dsimp only [List.drop] at hend ⊢
  generalize (Zero.zero : Frozen).ns = ns at hns hsl ⊢
  have e0 : cut (ns.map PV.int) none (some 50) = (ns.take 50).map PV.int := by unfold cut; simp
  rw [e0] at hsl
  have e1 : small ((ns.take 50).map PV.int).length = true := small_of (by simp; omega)
  repeat walk_at "e"
  · exact hsl _
  repeat walk_at "e"
  · refine ci_list last_at e1 (turns_map (f := PV.int) (g := fun i => PV.int (i % 5040)) (its_list last_at) fun i hi => ⟨?_, ?_⟩)
    · repeat walk_at "e"
    · repeat walk_at "e"
  repeat first | with_reducible refine hend (h := 2) (c := 1) (cells := (ns.take 50).map (· % 5040)) ?_ ?_ | walk_at "e"
  · exact ⟨rfl, by rw [List.map_map]; rfl, by decide, by simp; omega⟩
  · rfl
end
end Mine
end

-- Jn1
section
namespace Mine
open PySem PySem.W PyProof.Rows
variable [Z : Zero Frozen]
def objAt (K : Frag) (a : Addr) : Obj := match K.lookup a with
  | some o => o
  | none => { cls := .none, data := .plain }
def fdAt (K : Frag) (a : Addr) : FuncData := match (objAt K a).data with
  | .func fd => fd
  | _ => default
/-- the text's function in the fragment -/
structure FnIn (K : Frag) (D : Def) (a : Addr) : Prop where
  at_ : K.lookup a = some (objAt K a)
  data : (objAt K a).data = .func (fdAt K a)
  code : codeIn K (fdAt K a).code (fdAt K a).qualname = true
  body : (fdAt K a).body = .stmts D.body
  bind : ∀ vals : List Value, vals.length = D.params.length → bindArgs (fdAt K a) ⟨vals, []⟩ = pure (D.params.zip vals)
  clo : (fdAt K a).closure = []
  kind : (fdAt K a).scope.kind = .function
  co : (fdAt K a).scope.isCoroutine = false
  gen : (fdAt K a).scope.isGenerator = false
  names : (fdAt K a).scope.names = D.names
  glob : (fdAt K a).globals = mainGlobals
  bui : (fdAt K a).builtins = builtinsNs
  pars : D.params.all (canStore D.names) = true
theorem FnIn.ok {C : Conf} {D : Def} {a : Addr} (f : FnIn C.K D a) (X : C.K.In C.base) : FnOK C D a (objAt C.K a) (fdAt C.K a) :=
  ⟨X _ _ f.at_, f.data, codeRec_of X f.code, f.body, f.bind, f.clo, f.kind, f.co, f.gen, f.names, f.glob, f.bui, f.pars⟩
theorem len1 {α : Type} {l : List α} (h : l.length = 1) : ∃ a, l = [a] := by
  match l, h with
  | [a], _ => exact ⟨a, rfl⟩
theorem len2 {α : Type} {l : List α} (h : l.length = 2) : ∃ a b, l = [a, b] := by
  match l, h with
  | [a, b], _ => exact ⟨a, b, rfl⟩
theorem len3 {α : Type} {l : List α} (h : l.length = 3) : ∃ a b c, l = [a, b, c] := by
  match l, h with
  | [a, b, c], _ => exact ⟨a, b, c, rfl⟩
theorem len4 {α : Type} {l : List α} (h : l.length = 4) : ∃ a b c d, l = [a, b, c, d] := by
  match l, h with
  | [a, b, c, d], _ => exact ⟨a, b, c, d, rfl⟩
theorem fnIn1_5 (P : Params) : FnIn (K1 P) (defAt PySem.Challenge.pw_pq0040_01 5) 74 :=
  ⟨by kernel_rfl, by kernel_rfl, by kernel_rfl, by kernel_rfl, fun vals hl => by
    obtain ⟨a, b, rfl⟩ := len2 (show vals.length = 2 from hl)
    kernel_rfl, by kernel_rfl, by kernel_rfl, by kernel_rfl, by kernel_rfl, by kernel_rfl, by kernel_rfl, by kernel_rfl, by kernel_rfl⟩
theorem fnIn1_6 (P : Params) : FnIn (K1 P) (defAt PySem.Challenge.pw_pq0040_01 6) 81 :=
  ⟨by kernel_rfl, by kernel_rfl, by kernel_rfl, by kernel_rfl, fun vals hl => by
    obtain ⟨a, b, c, rfl⟩ := len3 (show vals.length = 3 from hl)
    kernel_rfl, by kernel_rfl, by kernel_rfl, by kernel_rfl, by kernel_rfl, by kernel_rfl, by kernel_rfl, by kernel_rfl, by kernel_rfl⟩
theorem fnIn1_11 (P : Params) : FnIn (K1 P) (defAt PySem.Challenge.pw_pq0040_01 11) 86 :=
  ⟨by kernel_rfl, by kernel_rfl, by kernel_rfl, by kernel_rfl, fun vals hl => by
    obtain ⟨a, b, rfl⟩ := len2 (show vals.length = 2 from hl)
    kernel_rfl, by kernel_rfl, by kernel_rfl, by kernel_rfl, by kernel_rfl, by kernel_rfl, by kernel_rfl, by kernel_rfl, by kernel_rfl⟩
theorem fnIn1_12 (P : Params) : FnIn (K1 P) (defAt PySem.Challenge.pw_pq0040_01 12) 93 :=
  ⟨by kernel_rfl, by kernel_rfl, by kernel_rfl, by kernel_rfl, fun vals hl => by
    obtain ⟨a, b, rfl⟩ := len2 (show vals.length = 2 from hl)
    kernel_rfl, by kernel_rfl, by kernel_rfl, by kernel_rfl, by kernel_rfl, by kernel_rfl, by kernel_rfl, by kernel_rfl, by kernel_rfl⟩
theorem fnIn1_13 (P : Params) : FnIn (K1 P) (defAt PySem.Challenge.pw_pq0040_01 13) 100 :=
  ⟨by kernel_rfl, by kernel_rfl, by kernel_rfl, by kernel_rfl, fun vals hl => by
    obtain ⟨a, rfl⟩ := len1 (show vals.length = 1 from hl)
    kernel_rfl, by kernel_rfl, by kernel_rfl, by kernel_rfl, by kernel_rfl, by kernel_rfl, by kernel_rfl, by kernel_rfl, by kernel_rfl⟩
theorem fnIn1_14 (P : Params) : FnIn (K1 P) (defAt PySem.Challenge.pw_pq0040_01 14) 107 :=
  ⟨by kernel_rfl, by kernel_rfl, by kernel_rfl, by kernel_rfl, fun vals hl => by
    obtain ⟨a, rfl⟩ := len1 (show vals.length = 1 from hl)
    kernel_rfl, by kernel_rfl, by kernel_rfl, by kernel_rfl, by kernel_rfl, by kernel_rfl, by kernel_rfl, by kernel_rfl, by kernel_rfl⟩
theorem fnIn1_15 (P : Params) : FnIn (K1 P) (defAt PySem.Challenge.pw_pq0040_01 15) 114 :=
  ⟨by kernel_rfl, by kernel_rfl, by kernel_rfl, by kernel_rfl, fun vals hl => by
    obtain ⟨a, rfl⟩ := len1 (show vals.length = 1 from hl)
    kernel_rfl, by kernel_rfl, by kernel_rfl, by kernel_rfl, by kernel_rfl, by kernel_rfl, by kernel_rfl, by kernel_rfl, by kernel_rfl⟩
theorem fnIn1_16 (P : Params) : FnIn (K1 P) (defAt PySem.Challenge.pw_pq0040_01 16) 119 :=
  ⟨by kernel_rfl, by kernel_rfl, by kernel_rfl, by kernel_rfl, fun vals hl => by
    obtain ⟨a, b, c, d, rfl⟩ := len4 (show vals.length = 4 from hl)
    kernel_rfl, by kernel_rfl, by kernel_rfl, by kernel_rfl, by kernel_rfl, by kernel_rfl, by kernel_rfl, by kernel_rfl, by kernel_rfl⟩
theorem fnIn1_17 (P : Params) : FnIn (K1 P) (defAt PySem.Challenge.pw_pq0040_01 17) 126 :=
  ⟨by kernel_rfl, by kernel_rfl, by kernel_rfl, by kernel_rfl, fun vals hl => by
    obtain ⟨a, b, c, rfl⟩ := len3 (show vals.length = 3 from hl)
    kernel_rfl, by kernel_rfl, by kernel_rfl, by kernel_rfl, by kernel_rfl, by kernel_rfl, by kernel_rfl, by kernel_rfl, by kernel_rfl⟩
theorem fnIn1_18 (P : Params) : FnIn (K1 P) (defAt PySem.Challenge.pw_pq0040_01 18) 131 :=
  ⟨by kernel_rfl, by kernel_rfl, by kernel_rfl, by kernel_rfl, fun vals hl => by
    obtain ⟨a, b, c, rfl⟩ := len3 (show vals.length = 3 from hl)
    kernel_rfl, by kernel_rfl, by kernel_rfl, by kernel_rfl, by kernel_rfl, by kernel_rfl, by kernel_rfl, by kernel_rfl, by kernel_rfl⟩
theorem fnIn1_19 (P : Params) : FnIn (K1 P) (defAt PySem.Challenge.pw_pq0040_01 19) 138 :=
  ⟨by kernel_rfl, by kernel_rfl, by kernel_rfl, by kernel_rfl, fun vals hl => by
    obtain ⟨a, rfl⟩ := len1 (show vals.length = 1 from hl)
    kernel_rfl, by kernel_rfl, by kernel_rfl, by kernel_rfl, by kernel_rfl, by kernel_rfl, by kernel_rfl, by kernel_rfl, by kernel_rfl⟩
theorem fnIn1_20 (P : Params) : FnIn (K1 P) (defAt PySem.Challenge.pw_pq0040_01 20) 145 :=
  ⟨by kernel_rfl, by kernel_rfl, by kernel_rfl, by kernel_rfl, fun vals hl => by
    obtain ⟨a, b, rfl⟩ := len2 (show vals.length = 2 from hl)
    kernel_rfl, by kernel_rfl, by kernel_rfl, by kernel_rfl, by kernel_rfl, by kernel_rfl, by kernel_rfl, by kernel_rfl, by kernel_rfl⟩
theorem fnIn1_21 (P : Params) : FnIn (K1 P) (defAt PySem.Challenge.pw_pq0040_01 21) 152 :=
  ⟨by kernel_rfl, by kernel_rfl, by kernel_rfl, by kernel_rfl, fun vals hl => by
    obtain ⟨a, rfl⟩ := len1 (show vals.length = 1 from hl)
    kernel_rfl, by kernel_rfl, by kernel_rfl, by kernel_rfl, by kernel_rfl, by kernel_rfl, by kernel_rfl, by kernel_rfl, by kernel_rfl⟩
theorem fnIn1_22 (P : Params) : FnIn (K1 P) (defAt PySem.Challenge.pw_pq0040_01 22) 157 :=
  ⟨by kernel_rfl, by kernel_rfl, by kernel_rfl, by kernel_rfl, fun vals hl => by
    obtain ⟨a, rfl⟩ := len1 (show vals.length = 1 from hl)
    kernel_rfl, by kernel_rfl, by kernel_rfl, by kernel_rfl, by kernel_rfl, by kernel_rfl, by kernel_rfl, by kernel_rfl, by kernel_rfl⟩
theorem fnIn1_23 (P : Params) : FnIn (K1 P) (defAt PySem.Challenge.pw_pq0040_01 23) 164 :=
  ⟨by kernel_rfl, by kernel_rfl, by kernel_rfl, by kernel_rfl, fun vals hl => by
    obtain ⟨a, b, rfl⟩ := len2 (show vals.length = 2 from hl)
    kernel_rfl, by kernel_rfl, by kernel_rfl, by kernel_rfl, by kernel_rfl, by kernel_rfl, by kernel_rfl, by kernel_rfl, by kernel_rfl⟩
theorem fnIn1_24 (P : Params) : FnIn (K1 P) (defAt PySem.Challenge.pw_pq0040_01 24) 171 :=
  ⟨by kernel_rfl, by kernel_rfl, by kernel_rfl, by kernel_rfl, fun vals hl => by
    obtain ⟨a, b, c, rfl⟩ := len3 (show vals.length = 3 from hl)
    kernel_rfl, by kernel_rfl, by kernel_rfl, by kernel_rfl, by kernel_rfl, by kernel_rfl, by kernel_rfl, by kernel_rfl, by kernel_rfl⟩
theorem fnIn1_26 (P : Params) : FnIn (K1 P) (defAt PySem.Challenge.pw_pq0040_01 26) 178 :=
  ⟨by kernel_rfl, by kernel_rfl, by kernel_rfl, by kernel_rfl, fun vals hl => by
    obtain ⟨a, b, rfl⟩ := len2 (show vals.length = 2 from hl)
    kernel_rfl, by kernel_rfl, by kernel_rfl, by kernel_rfl, by kernel_rfl, by kernel_rfl, by kernel_rfl, by kernel_rfl, by kernel_rfl⟩
theorem fnIn1_27 (P : Params) : FnIn (K1 P) (defAt PySem.Challenge.pw_pq0040_01 27) 185 :=
  ⟨by kernel_rfl, by kernel_rfl, by kernel_rfl, by kernel_rfl, fun vals hl => by
    obtain ⟨a, rfl⟩ := len1 (show vals.length = 1 from hl)
    kernel_rfl, by kernel_rfl, by kernel_rfl, by kernel_rfl, by kernel_rfl, by kernel_rfl, by kernel_rfl, by kernel_rfl, by kernel_rfl⟩
theorem fnIn1_28 (P : Params) : FnIn (K1 P) (defAt PySem.Challenge.pw_pq0040_01 28) 192 :=
  ⟨by kernel_rfl, by kernel_rfl, by kernel_rfl, by kernel_rfl, fun vals hl => by
    obtain ⟨a, b, c, d, rfl⟩ := len4 (show vals.length = 4 from hl)
    kernel_rfl, by kernel_rfl, by kernel_rfl, by kernel_rfl, by kernel_rfl, by kernel_rfl, by kernel_rfl, by kernel_rfl, by kernel_rfl⟩
theorem fnIn1_29 (P : Params) : FnIn (K1 P) (defAt PySem.Challenge.pw_pq0040_01 29) 197 :=
  ⟨by kernel_rfl, by kernel_rfl, by kernel_rfl, by kernel_rfl, fun vals hl => by
    obtain ⟨a, rfl⟩ := len1 (show vals.length = 1 from hl)
    kernel_rfl, by kernel_rfl, by kernel_rfl, by kernel_rfl, by kernel_rfl, by kernel_rfl, by kernel_rfl, by kernel_rfl, by kernel_rfl⟩
theorem fnIn1_30 (P : Params) : FnIn (K1 P) (defAt PySem.Challenge.pw_pq0040_01 30) 204 :=
  ⟨by kernel_rfl, by kernel_rfl, by kernel_rfl, by kernel_rfl, fun vals hl => by
    obtain ⟨a, b, rfl⟩ := len2 (show vals.length = 2 from hl)
    kernel_rfl, by kernel_rfl, by kernel_rfl, by kernel_rfl, by kernel_rfl, by kernel_rfl, by kernel_rfl, by kernel_rfl, by kernel_rfl⟩
theorem fnIn1_31 (P : Params) : FnIn (K1 P) (defAt PySem.Challenge.pw_pq0040_01 31) 211 :=
  ⟨by kernel_rfl, by kernel_rfl, by kernel_rfl, by kernel_rfl, fun vals hl => by
    obtain ⟨a, b, c, rfl⟩ := len3 (show vals.length = 3 from hl)
    kernel_rfl, by kernel_rfl, by kernel_rfl, by kernel_rfl, by kernel_rfl, by kernel_rfl, by kernel_rfl, by kernel_rfl, by kernel_rfl⟩
theorem fnIn1_32 (P : Params) : FnIn (K1 P) (defAt PySem.Challenge.pw_pq0040_01 32) 216 :=
  ⟨by kernel_rfl, by kernel_rfl, by kernel_rfl, by kernel_rfl, fun vals hl => by
    obtain ⟨a, b, c, rfl⟩ := len3 (show vals.length = 3 from hl)
    kernel_rfl, by kernel_rfl, by kernel_rfl, by kernel_rfl, by kernel_rfl, by kernel_rfl, by kernel_rfl, by kernel_rfl, by kernel_rfl⟩
theorem fnIn1_33 (P : Params) : FnIn (K1 P) (defAt PySem.Challenge.pw_pq0040_01 33) 223 :=
  ⟨by kernel_rfl, by kernel_rfl, by kernel_rfl, by kernel_rfl, fun vals hl => by
    obtain ⟨a, rfl⟩ := len1 (show vals.length = 1 from hl)
    kernel_rfl, by kernel_rfl, by kernel_rfl, by kernel_rfl, by kernel_rfl, by kernel_rfl, by kernel_rfl, by kernel_rfl, by kernel_rfl⟩
theorem fnIn1_34 (P : Params) : FnIn (K1 P) (defAt PySem.Challenge.pw_pq0040_01 34) 230 :=
  ⟨by kernel_rfl, by kernel_rfl, by kernel_rfl, by kernel_rfl, fun vals hl => by
    obtain ⟨a, rfl⟩ := len1 (show vals.length = 1 from hl)
    kernel_rfl, by kernel_rfl, by kernel_rfl, by kernel_rfl, by kernel_rfl, by kernel_rfl, by kernel_rfl, by kernel_rfl, by kernel_rfl⟩
theorem fnIn1_35 (P : Params) : FnIn (K1 P) (defAt PySem.Challenge.pw_pq0040_01 35) 235 :=
  ⟨by kernel_rfl, by kernel_rfl, by kernel_rfl, by kernel_rfl, fun vals hl => by
    obtain ⟨a, b, rfl⟩ := len2 (show vals.length = 2 from hl)
    kernel_rfl, by kernel_rfl, by kernel_rfl, by kernel_rfl, by kernel_rfl, by kernel_rfl, by kernel_rfl, by kernel_rfl, by kernel_rfl⟩
theorem fnIn1_36 (P : Params) : FnIn (K1 P) (defAt PySem.Challenge.pw_pq0040_01 36) 240 :=
  ⟨by kernel_rfl, by kernel_rfl, by kernel_rfl, by kernel_rfl, fun vals hl => by
    obtain ⟨a, rfl⟩ := len1 (show vals.length = 1 from hl)
    kernel_rfl, by kernel_rfl, by kernel_rfl, by kernel_rfl, by kernel_rfl, by kernel_rfl, by kernel_rfl, by kernel_rfl, by kernel_rfl⟩
theorem fnIn1_37 (P : Params) : FnIn (K1 P) (defAt PySem.Challenge.pw_pq0040_01 37) 247 :=
  ⟨by kernel_rfl, by kernel_rfl, by kernel_rfl, by kernel_rfl, fun vals hl => by
    obtain ⟨a, b, rfl⟩ := len2 (show vals.length = 2 from hl)
    kernel_rfl, by kernel_rfl, by kernel_rfl, by kernel_rfl, by kernel_rfl, by kernel_rfl, by kernel_rfl, by kernel_rfl, by kernel_rfl⟩
theorem fnIn1_38 (P : Params) : FnIn (K1 P) (defAt PySem.Challenge.pw_pq0040_01 38) 254 :=
  ⟨by kernel_rfl, by kernel_rfl, by kernel_rfl, by kernel_rfl, fun vals hl => by
    obtain ⟨a, b, c, rfl⟩ := len3 (show vals.length = 3 from hl)
    kernel_rfl, by kernel_rfl, by kernel_rfl, by kernel_rfl, by kernel_rfl, by kernel_rfl, by kernel_rfl, by kernel_rfl, by kernel_rfl⟩
theorem fnIn1_39 (P : Params) : FnIn (K1 P) (defAt PySem.Challenge.pw_pq0040_01 39) 259 :=
  ⟨by kernel_rfl, by kernel_rfl, by kernel_rfl, by kernel_rfl, fun vals hl => by
    obtain ⟨a, rfl⟩ := len1 (show vals.length = 1 from hl)
    kernel_rfl, by kernel_rfl, by kernel_rfl, by kernel_rfl, by kernel_rfl, by kernel_rfl, by kernel_rfl, by kernel_rfl, by kernel_rfl⟩
noncomputable def addrs1 : List (Str × Nat × Addr) := [("part_at", 5, 74), ("replaced", 6, 81), ("is_row_of", 11, 86), ("number_behind", 12, 93), ("index_of", 13, 100), ("variable", 14, 107), ("below", 15, 114), ("moved_within", 16, 119), ("shifted", 17, 126), ("put_in", 18, 131), ("is_redex", 19, 138), ("beta", 20, 145), ("first_redex", 21, 152), ("is_beyond", 22, 157), ("normal", 23, 164), ("alike_to", 24, 171), ("_law_pick", 26, 178), ("_law_name", 27, 185), ("_law_tree", 28, 192), ("_law_spots", 29, 197), ("_law_part", 30, 204), ("_law_with", 31, 211), ("_law_put", 32, 216), ("_law_is_app_of_lam", 33, 223), ("_law_worked", 34, 230), ("_law_turned", 35, 235), ("_law_end", 36, 240), ("_law_core", 37, 247), ("_law_told", 38, 254), ("law", 39, 259)]
end Mine
end

-- Jn2
section
namespace Mine
open PySem PySem.W PyProof.Rows
variable [Z : Zero Frozen]

noncomputable def cls1 : Exn → Addr
  | .term => 53
  | .limit => 65
/-- the world of a call -/
noncomputable def conf1 (w : World) (h : Heap) (mg mb : Str → Option Value) : Conf := { prog := PySem.Challenge.pw_pq0040_01, w := w, base := h, K := K1 w.params, mg := mg, mb := mb, cls := cls1 }

theorem no_cells {ns : List (Str × NameKind)} (h : (ns.all fun z => z.2 != .cell) = true) : ∀ z ∈ ns, z.2 ≠ .cell := fun z hz => by
  have := List.all_eq_true.mp h z hz
  simpa using this
section
variable {w : World} {h : Heap} {mg mb : Str → Option Value}
theorem makes1_term (hgs : mg "super" = none) : Makes (conf1 w h mg mb) .term :=
  makes_ok (k := .term) (C := conf1 w h mg mb) (fI := 30) (N := 52) (cc := 18) (cda := 29) (D := 40) (fd := fdAt (K1 w.params) 30) (hC := rfl) (hB := by kernel_rfl) (hA := by kernel_rfl) (hN := by kernel_rfl) (hi := by kernel_rfl) (hft := by kernel_rfl)
    (hf := rfl) (hbody := rfl) (hline := by kernel_rfl) (hbind := fun a b => by kernel_rfl) (hp := rfl) (har := by kernel_rfl) (hclo := by kernel_rfl) (hcode := by kernel_rfl) (hglob := by kernel_rfl) (hbui := by kernel_rfl)
    (hk := by kernel_rfl) (hco := by kernel_rfl) (hgen := by kernel_rfl) (hcells := no_cells (by kernel_rfl)) (hks := by kernel_rfl) (hkc := by kernel_rfl) (hka := by kernel_rfl) (hkw := by kernel_rfl)
    (hcda := rfl) (hvs := rfl) (hfile := by kernel_rfl) (htop := by kernel_rfl) (hcd := by kernel_rfl) (hcell := rfl) (hD := rfl) (hsubD := by kernel_rfl) (hsubE := by kernel_rfl) (hopq := by kernel_rfl) (hal := by kernel_rfl)
    (hpass := fun v => by kernel_rfl) (hw := by kernel_rfl) (hset := by kernel_rfl) (ho := by kernel_rfl) (hgs := hgs) (hbs := by kernel_rfl)
theorem makes1_limit (hgs : mg "super" = none) : Makes (conf1 w h mg mb) .limit :=
  makes_ok (k := .limit) (C := conf1 w h mg mb) (fI := 30) (N := 64) (cc := 18) (cda := 29) (D := 40) (fd := fdAt (K1 w.params) 30) (hC := rfl) (hB := by kernel_rfl) (hA := by kernel_rfl) (hN := by kernel_rfl) (hi := by kernel_rfl) (hft := by kernel_rfl)
    (hf := rfl) (hbody := rfl) (hline := by kernel_rfl) (hbind := fun a b => by kernel_rfl) (hp := rfl) (har := by kernel_rfl) (hclo := by kernel_rfl) (hcode := by kernel_rfl) (hglob := by kernel_rfl) (hbui := by kernel_rfl)
    (hk := by kernel_rfl) (hco := by kernel_rfl) (hgen := by kernel_rfl) (hcells := no_cells (by kernel_rfl)) (hks := by kernel_rfl) (hkc := by kernel_rfl) (hka := by kernel_rfl) (hkw := by kernel_rfl)
    (hcda := rfl) (hvs := rfl) (hfile := by kernel_rfl) (htop := by kernel_rfl) (hcd := by kernel_rfl) (hcell := rfl) (hD := rfl) (hsubD := by kernel_rfl) (hsubE := by kernel_rfl) (hopq := by kernel_rfl) (hal := by kernel_rfl)
    (hpass := fun v => by kernel_rfl) (hw := by kernel_rfl) (hset := by kernel_rfl) (ho := by kernel_rfl) (hgs := hgs) (hbs := by kernel_rfl)

theorem mg1 (KX : (K1 w.params).In h) (G : h.Ns mainGlobals mg) : ∀ p ∈ addrs1, mg p.1 = some (.ref p.2.2) ∧ fnIn (K1 w.params) p.2.2 = true ∧ FnIn (K1 w.params) (defAt PySem.Challenge.pw_pq0040_01 p.2.1) p.2.2 := by
  unfold addrs1
  repeat' (first | (refine List.forall_mem_cons.mpr ⟨⟨mg_of KX G (by kernel_rfl), by kernel_rfl, ?_⟩, ?_⟩) | exact List.forall_mem_nil _)
  · exact fnIn1_5 _
  · exact fnIn1_6 _
  · exact fnIn1_11 _
  · exact fnIn1_12 _
  · exact fnIn1_13 _
  · exact fnIn1_14 _
  · exact fnIn1_15 _
  · exact fnIn1_16 _
  · exact fnIn1_17 _
  · exact fnIn1_18 _
  · exact fnIn1_19 _
  · exact fnIn1_20 _
  · exact fnIn1_21 _
  · exact fnIn1_22 _
  · exact fnIn1_23 _
  · exact fnIn1_24 _
  · exact fnIn1_26 _
  · exact fnIn1_27 _
  · exact fnIn1_28 _
  · exact fnIn1_29 _
  · exact fnIn1_30 _
  · exact fnIn1_31 _
  · exact fnIn1_32 _
  · exact fnIn1_33 _
  · exact fnIn1_34 _
  · exact fnIn1_35 _
  · exact fnIn1_36 _
  · exact fnIn1_37 _
  · exact fnIn1_38 _
  · exact fnIn1_39 _

theorem places_addrs (f : Str) (k : Nat) (e : places1.lookup f = some k) : ∃ a, (f, k, a) ∈ addrs1 := by
  have hm := mem_of_lookup e
  have : ∀ p ∈ places1, ∃ a, (p.1, p.2, a) ∈ addrs1 := by
    have key : ∀ p ∈ places1, p ∈ addrs1.map (fun q => (q.1, q.2.1)) := by
      rw [show addrs1.map (fun q => (q.1, q.2.1)) = places1 from rfl]; exact fun p h => h
    intro p hp
    obtain ⟨⟨x, y, z⟩, hq, e⟩ := List.mem_map.mp (key p hp)
    dsimp only at e
    subst e
    exact ⟨z, hq⟩
  exact this (f, k) hm

theorem text1 (KX : (K1 w.params).In h) (G : h.Ns mainGlobals mg) : TextOK (conf1 w h mg mb) T1 where
  defs := fun f D e => by
    change (places1.lookup f).map _ = some D at e
    obtain ⟨k, hk, rfl⟩ := Option.map_eq_some_iff.mp e
    obtain ⟨a, ha⟩ := places_addrs f k hk
    obtain ⟨h1, h2, h3⟩ := mg1 KX G _ ha
    exact ⟨a, _, _, h1, h2, FnIn.ok (C := conf1 w h mg mb) h3 KX⟩
  undef := by
    have : ∀ f ∈ bnames, mg f = none := by
      unfold bnames
      repeat' (first | (refine List.forall_mem_cons.mpr ⟨mg_none_of KX G (by kernel_rfl), ?_⟩) | exact List.forall_mem_nil _)
    exact fun f hf _ => this f hf
  const := by
    have : ∀ p ∈ consts1, ∃ v, mg p.1 = some v ∧ ∀ β h, VR β h v p.2 := by
      unfold consts1
      exact List.forall_mem_cons.mpr ⟨⟨.str "0123456789" 282, mg_of KX G (by kernel_rfl), fun _ _ => .str _ _⟩, List.forall_mem_cons.mpr ⟨⟨.int 20000 284, mg_of KX G (by kernel_rfl), fun _ _ => .int _ _⟩,
        List.forall_mem_cons.mpr ⟨⟨.int 150 286, mg_of KX G (by kernel_rfl), fun _ _ => .int _ _⟩, List.forall_mem_nil _⟩⟩⟩
    exact fun x d e => this (x, d) (mem_of_lookup e)
  exns := by
    have : ∀ p ∈ exns1, mg p.1 = some (.ref (cls1 p.2)) := by
      unfold exns1
      exact List.forall_mem_cons.mpr ⟨mg_of KX G (by kernel_rfl), List.forall_mem_cons.mpr ⟨mg_of KX G (by kernel_rfl), List.forall_mem_nil _⟩⟩
    exact fun x k e => this (x, k) (mem_of_lookup e)
  exCall := fun k => by cases k <;> kernel_rfl
  exSub := fun k => by cases k <;> kernel_rfl
  exType := fun k => by cases k <;> kernel_rfl
  exMatch := fun k => by cases k <;> kernel_rfl
  make := fun k => by
    have hgs : mg "super" = none := mg_none_of KX G (by kernel_rfl)
    cases k with
    | term => exact makes1_term hgs
    | limit => exact makes1_limit hgs
end
end Mine
end

-- Jn3
section
namespace Mine
open PySem PySem.W PyProof.Rows

theorem ints_vrs [Z : Zero Frozen] {vs : List Value} {ns : List Int} (h : IntsAre vs ns) (β : List Addr) (g : Heap) : VRs β g vs (ns.map PV.int) := by
  induction h with
  | nil => exact .nil
  | cons i t _ ih => exact .cons (.int _ _) ih
theorem law_cl [Z : Zero Frozen] (hns : (Zero.zero : Frozen).ns.length ≤ 63) : Cl (T1.at 301) "law" [.old (Zero.zero : Frozen).ns] [] (.ok (.bool true) []) :=
  callw (n := 300) rfl rfl rfl ((law_true hns 300 (Nat.le_refl _)).imp fun o ho => by
    obtain ⟨σ, rfl⟩ := ho
    exact ⟨σ, rfl⟩)
theorem law_call {w : World} {s : Shared} {mg mb : Str → Option Value} {l : Addr} {vs : List Value} {ns : List Int} {Q E : Value → Shared → Prop}
    (KX : (K1 w.params).In s.heap) (G : s.heap.Ns mainGlobals mg) (B : s.heap.Ns builtinsNs mb) (hb : ∀ x : Str, x ≠ "__name__" → mb x = bootBuiltins x) (hlim : s.heap.NoLimit)
    (hl : s.heap.IsList l vs.toArray) (hI : IntsAre vs ns) (hn : ns.length ≤ 63)
    (hQ : ∀ h' tk, (∀ a o, s.heap.get? a = some o → h'.get? a = some o) → Q (.bool true) { s with heap := h', toks := tk }) :
    wpAny (model PySem.Challenge.pw_pq0040_01 w) callerA (call (.ref 259) [.ref l]) Q E s := by
  letI Z : Zero Frozen := ⟨⟨l, ns⟩⟩
  have O : TextOK (conf1 w s.heap mg mb) T1 := text1 KX G
  have I : Inv (conf1 w s.heap mg mb) callerA [] [] s.heap [] := by
    refine ⟨rfl, rfl, fun _ _ e => e, trivial, (fun L hL => by cases hL), ⟨rfl, List.nodup_nil, fun i a c ha _ => by simp at ha⟩, (fun a ha => by cases ha), G, B, hb, hlim, KX, ?_⟩
    exact ⟨vs, hl, fun β h => ints_vrs hI β h⟩
  refine (law_cl hn).run ⟨conf1 w s.heap mg mb, callerA, [], default⟩ [] s [.ref l] Q E 259 O (by show 1 + claimMargin + 301 + 5 < _; decide) (by show 4 + 3 * 301 + 2100 < _; decide) (mg_of KX G (by kernel_rfl)) I (.cons .old .nil) ?_
  intro v β' h' tk x S r
  cases r
  exact hQ h' tk fun a o e => x.keep a o e (by simp) (by simp [frs])
end Mine
end

-- Jn5
open PySem PySem.W PyProof.Rows
theorem Mine.fa_eq {mg : Str → Option Value} {fa : Addr} {n : Str} (h1 : mg n = some (.ref 259)) (h2 : mg n = some (.ref fa)) : fa = 259 := by
  rw [h1] at h2
  cases h2; rfl
set_option maxRecDepth 100000 in
set_option maxHeartbeats 8000000 in
theorem PySem.Challenge.cw_pq0040_01_holds : PySem.Challenge.rw_pq0040_01.Holds := by
  refine holds_law Mine.said1 fun said => ?_
  refine PySem.W.holds_open (q := Mine.view1) (loose := []) (Xt := fun s => xlAt Mine.view1 [] s && recOk (RowW.records PySem.Challenge.rw_pq0040_01.row.toRowW) s) (XP := XL Mine.view1 []) (Yf := Hook.obs Mine.hook1) (Ya := Hook.val Mine.hook1) (YP := Hook.says Mine.hook1) (N := 3408) Mine.left1 (Hook.of Mine.hook1) (Hook.keeps Mine.hook1) (fun s e => xl_of s (Bool.and_eq_true_iff.mp e).1) XL.keeps (by rfl) (by rfl) (by rfl) (fun s e => recFacts_of (Bool.and_eq_true_iff.mp e).2) (by rfl) said Mine.ok1 Mine.bare1 ?hw ?hc
  case hw => w_witness2
  case hc =>
    intro w s₀ s₁ mg mb G Y fa o pm cd doc dV kV ho hd hcd hD hmg hg args vals as hpre hlay hrd hwl hlo
    have KX : (Mine.K1 w.params).In s₁.heap := Y
    refine Ground.open G ?_
    intro T B D TE TW
    clear Y G D TE TW hd hcd hD ho B
    have hfa := Mine.fa_eq (mg_of KX T.g (by kernel_rfl)) hmg
    clear hmg
    subst hfa
    wrow_args hpre hlay hrd hwl hlo
    rename_i ns hs hlay0 hL1 hr1 hl2 as1 as2 l vs as3 hL ra w1 r0 hI hr hc1 hc2
    refine Mine.law_call KX T.g T.b T.builtins T.nolimit hL hI (by omega) fun h' tk keep => ?_
    exact ⟨.inl ⟨_, .bool true, [], rfl, raisesW_false (by wrow_none_raised), .bool _, postW_of (by wrow_shape) (by wtm_val) (by w_fin), fun _ => ⟨List.nodup_nil, fun a ha => by cases ha⟩⟩, .of_keep keep, rfl, .of_eq hg⟩
