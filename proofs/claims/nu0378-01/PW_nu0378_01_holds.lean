import PyProof.Rows.All
import Wide.All
import OpenK.AllK
import Wide.FinOn
import KE.KRevSl
import PySem.Challenge.RW_nu0378_01
open PySem PySem.W PyProof.Rows
set_option Elab.async false
set_option linter.unusedVariables false
set_option maxRecDepth 100000
namespace Mine
/-! the heap that the top leaves, and that it does -/
noncomputable def vs (s : String) (t : Nat) : Value := .str (Str.ofString s) t
noncomputable def de (P : Params) (s : String) (t : Nat) (v : Value) : DictEntry := { hash := PyData.keyHash P (Str.ofString s), key := vs s t, val := v }
noncomputable def nth (n : Nat) : Stmt := Challenge.pw_nu0378_01.main.body.getD n default
noncomputable def inCls : Stmt → List Stmt
 | .ClassDef _ _ _ b .. => b
 | _ => []
noncomputable def mth (n m : Nat) : Stmt := (inCls (nth n)).getD m default
noncomputable def fnName : Stmt → Str
 | .FunctionDef n .. => n
 | _ => default
noncomputable def fnArgs : Stmt → Arguments
 | .FunctionDef _ a .. => a
 | _ => default
noncomputable def fnBody : Stmt → List Stmt
 | .FunctionDef _ _ b .. => b
 | _ => []
noncomputable def fnScope : Stmt → Scope
 | .FunctionDef _ _ _ _ _ _ s .. => s
 | _ => default
noncomputable def fo (st : Stmt) (q : String) (df m : Value) (c : Addr) : Obj := { cls := .type "function", data := .func { name := fnName st, qualname := Str.ofString q, params := fnArgs st, body := .stmts (fnBody st), scope := fnScope st, globals := 3, closure := [], defaults := df, kwdefaults := .none, pyModule := m, code := .ref c } }
noncomputable def hd.heap_39 (P : Params) : Frag := [
 (2, { cls := .none, data := .dict #[de P "type.__subclasses__.Exception.0" 217 (.int 32 0), de P "type.__subclasses__.Exception.n" 218 (.int 1 0)] 2 }),
 (3, { cls := .type "dict", data := .dict #[de P "__name__" 165 (vs "law_nu0378_01" 381), de P "__doc__" 166 (.none), de P "__package__" 167 (.none), de P "__loader__" 168 (.builtin "__main__.__loader__#opaque"), de P "__spec__" 169 (.none), de P "__annotations__" 170 (.ref 6), de P "__builtins__" 171 (.ref 4), de P "__file__" 173 (vs "/claim/cut.py" 172), de P "__cached__" 174 (.none), de P "LendError" 220 (.ref 32), de P "TypeFault" 236 (.ref 45), de P "parts_of" 246 (.ref 54), de P "rebuilt" 255 (.ref 61), de P "region_text" 262 (.ref 68), de P "type_text" 268 (.ref 73), de P "DEFAULT_INT" 273 (.ref 74), de P "Infer" 380 (.ref 152), de P "_law_pool" 393 (.ref 163), de P "_law_take" 402 (.ref 170), de P "_law_type" 408 (.ref 175), de P "_law_within" 415 (.ref 182), de P "_law_with" 423 (.ref 189), de P "_law_put" 429 (.ref 194), de P "_law_copy" 435 (.ref 199), de P "_law_has" 441 (.ref 204), de P "_law_head" 447 (.ref 209), de P "_law_bound" 457 (.ref 216), de P "_law_solved" 463 (.ref 221), de P "_law_alike" 469 (.ref 226), de P "_law_unknowns" 475 (.ref 233), de P "_law_begun" 483 (.ref 240), de P "_law_is_refused" 492 (.ref 247), de P "_law_answer_right" 498 (.ref 252), de P "law" 515 (.ref 259)] 34 }),
 (15, { cls := .type "tuple", data := .seq #[.type "Exception"] }),
 (22, { cls := .type "tuple", data := .seq #[.int 0 201] }),
 (23, { cls := .type "tuple", data := .seq #[] }),
 (25, { cls := .type "tuple", data := .seq #[vs "self" 205, vs "message" 206, vs "spot" 207] }),
 (26, { cls := .type "tuple", data := .seq #[] }),
 (28, { cls := .type "code", data := .fields #[vs "__init__" 202, vs "LendError.__init__" 203, vs "/claim/cut.py" 204, .int 4 0, .int 3 0, .int 0 0, .int 0 0, .int 3 0, .ref 23, .bool true, .int 181 0, .ref 24, .none, .ref 25, .ref 26, .ref 27, .int 208 0, .int 4 0, vs "/claim/cut.py" 209] }),
 (29, fo (mth 1 0) "LendError.__init__" (.ref 22) (vs "lendcore.errors" 187) 28),
 (30, { cls := .type "tuple", data := .seq #[vs "message" 211, vs "spot" 212] }),
 (31, { cls := .type "dict", data := .dict #[de P "__module__" 196 (vs "lendcore.errors" 187), de P "__firstlineno__" 200 (.int 2 199), de P "__init__" 210 (.ref 29), de P "__static_attributes__" 213 (.ref 30), de P "__weakref__" 215 (.ref 33), de P "__doc__" 216 (.none)] 3 }),
 (32, { cls := .type "type", data := .cls { name := Str.ofString "LendError", bases := [.type "Exception"], mro := [.ref 32, .type "Exception", .type "BaseException", .type "object"], ns := 31, qualname := Str.ofString "LendError", subclasses := [.ref 45] }, slots := #[some (.ref 15), none, some (vs "LendError" 189), some (vs "LendError" 197), some (.builtin "Exception.__new__"), some (.bool true)] }),
 (33, { cls := .type "getset_descriptor", data := .fields #[vs "__weakref__" 214, .ref 32, .builtin "ExceptionGroup.__weakref__", .none] }),
 (36, { cls := .type "tuple", data := .seq #[.ref 32] }),
 (43, { cls := .type "tuple", data := .seq #[] }),
 (44, { cls := .type "dict", data := .dict #[de P "__module__" 228 (vs "lendcore.errors" 187), de P "__firstlineno__" 232 (.int 8 231), de P "__static_attributes__" 233 (.ref 43), de P "__doc__" 234 (.none)] 2 }),
 (45, { cls := .type "type", data := .cls { name := Str.ofString "TypeFault", bases := [.ref 32], mro := [.ref 45, .ref 32, .type "Exception", .type "BaseException", .type "object"], ns := 44, qualname := Str.ofString "TypeFault" }, slots := #[some (.ref 36), none, some (vs "TypeFault" 221), some (vs "TypeFault" 229), some (.builtin "Exception.__new__"), some (.bool true)] }),
 (48, { cls := .type "tuple", data := .seq #[] }),
 (50, { cls := .type "tuple", data := .seq #[vs "told" 242, vs "kind" 243] }),
 (51, { cls := .type "tuple", data := .seq #[] }),
 (53, { cls := .type "code", data := .fields #[vs "parts_of" 239, vs "parts_of" 240, vs "/claim/cut.py" 241, .int 11 0, .int 1 0, .int 0 0, .int 0 0, .int 3 0, .ref 48, .bool true, .int 181 0, .ref 49, .none, .ref 50, .ref 51, .ref 52, .int 244 0, .int 11 0, vs "/claim/cut.py" 245] }),
 (54, fo (nth 4) "parts_of" .none (vs "lendcore.types" 237) 53),
 (55, { cls := .type "tuple", data := .seq #[] }),
 (57, { cls := .type "tuple", data := .seq #[vs "told" 250, vs "parts" 251, vs "kind" 252] }),
 (58, { cls := .type "tuple", data := .seq #[] }),
 (60, { cls := .type "code", data := .fields #[vs "rebuilt" 247, vs "rebuilt" 248, vs "/claim/cut.py" 249, .int 20 0, .int 2 0, .int 0 0, .int 0 0, .int 3 0, .ref 55, .bool true, .int 181 0, .ref 56, .none, .ref 57, .ref 58, .ref 59, .int 253 0, .int 20 0, vs "/claim/cut.py" 254] }),
 (61, fo (nth 5) "rebuilt" .none (vs "lendcore.types" 237) 60),
 (62, { cls := .type "tuple", data := .seq #[] }),
 (64, { cls := .type "tuple", data := .seq #[vs "region" 259] }),
 (65, { cls := .type "tuple", data := .seq #[] }),
 (67, { cls := .type "code", data := .fields #[vs "region_text" 256, vs "region_text" 257, vs "/claim/cut.py" 258, .int 31 0, .int 1 0, .int 0 0, .int 0 0, .int 3 0, .ref 62, .bool true, .int 181 0, .ref 63, .none, .ref 64, .ref 65, .ref 66, .int 260 0, .int 31 0, vs "/claim/cut.py" 261] }),
 (68, fo (nth 6) "region_text" .none (vs "lendcore.types" 237) 67),
 (69, { cls := .type "tuple", data := .seq #[] }),
 (72, { cls := .type "code", data := .fields #[vs "type_text" 263, vs "type_text" 264, vs "/claim/cut.py" 265, .int 35 0, .int 1 0, .int 0 0, .int 0 0, .int 3 0, .ref 69, .bool true, .int 181 0, .ref 70, .none, .none, .none, .ref 71, .int 266 0, .int 35 0, vs "/claim/cut.py" 267] }),
 (73, fo (nth 7) "type_text" .none (vs "lendcore.types" 237) 72),
 (74, { cls := .type "tuple", data := .seq #[vs "int" 271, vs "i32" 272] }),
 (82, { cls := .type "tuple", data := .seq #[] }),
 (84, { cls := .type "tuple", data := .seq #[vs "self" 289] }),
 (85, { cls := .type "tuple", data := .seq #[] }),
 (87, { cls := .type "code", data := .fields #[vs "__init__" 286, vs "Infer.__init__" 287, vs "/claim/cut.py" 288, .int 61 0, .int 1 0, .int 0 0, .int 0 0, .int 3 0, .ref 82, .bool true, .int 181 0, .ref 83, .none, .ref 84, .ref 85, .ref 86, .int 290 0, .int 61 0, vs "/claim/cut.py" 291] }),
 (88, fo (mth 10 0) "Infer.__init__" .none (vs "lendcore.infer" 269) 87),
 (89, { cls := .type "tuple", data := .seq #[] }),
 (91, { cls := .type "tuple", data := .seq #[vs "self" 296] }),
 (92, { cls := .type "tuple", data := .seq #[] }),
 (94, { cls := .type "code", data := .fields #[vs "fresh" 293, vs "Infer.fresh" 294, vs "/claim/cut.py" 295, .int 65 0, .int 1 0, .int 0 0, .int 0 0, .int 3 0, .ref 89, .bool true, .int 181 0, .ref 90, .none, .ref 91, .ref 92, .ref 93, .int 297 0, .int 65 0, vs "/claim/cut.py" 298] }),
 (95, fo (mth 10 1) "Infer.fresh" .none (vs "lendcore.infer" 269) 94),
 (96, { cls := .type "tuple", data := .seq #[] }),
 (98, { cls := .type "tuple", data := .seq #[vs "self" 303] }),
 (99, { cls := .type "tuple", data := .seq #[] }),
 (101, { cls := .type "code", data := .fields #[vs "fresh_int" 300, vs "Infer.fresh_int" 301, vs "/claim/cut.py" 302, .int 70 0, .int 1 0, .int 0 0, .int 0 0, .int 3 0, .ref 96, .bool true, .int 181 0, .ref 97, .none, .ref 98, .ref 99, .ref 100, .int 304 0, .int 70 0, vs "/claim/cut.py" 305] }),
 (102, fo (mth 10 2) "Infer.fresh_int" .none (vs "lendcore.infer" 269) 101),
 (103, { cls := .type "tuple", data := .seq #[] }),
 (105, { cls := .type "tuple", data := .seq #[vs "self" 310, vs "told" 311] }),
 (106, { cls := .type "tuple", data := .seq #[] }),
 (108, { cls := .type "code", data := .fields #[vs "shallow" 307, vs "Infer.shallow" 308, vs "/claim/cut.py" 309, .int 75 0, .int 2 0, .int 0 0, .int 0 0, .int 3 0, .ref 103, .bool true, .int 181 0, .ref 104, .none, .ref 105, .ref 106, .ref 107, .int 312 0, .int 75 0, vs "/claim/cut.py" 313] }),
 (109, fo (mth 10 3) "Infer.shallow" .none (vs "lendcore.infer" 269) 108),
 (110, { cls := .type "tuple", data := .seq #[] }),
 (113, { cls := .type "code", data := .fields #[vs "resolved" 315, vs "Infer.resolved" 316, vs "/claim/cut.py" 317, .int 80 0, .int 2 0, .int 0 0, .int 0 0, .int 3 0, .ref 110, .bool true, .int 181 0, .ref 111, .none, .none, .none, .ref 112, .int 318 0, .int 80 0, vs "/claim/cut.py" 319] }),
 (114, fo (mth 10 4) "Infer.resolved" .none (vs "lendcore.infer" 269) 113),
 (115, { cls := .type "tuple", data := .seq #[] }),
 (117, { cls := .type "tuple", data := .seq #[vs "self" 324, vs "unknown" 325, vs "told" 326, vs "left" 327, vs "here" 328] }),
 (118, { cls := .type "tuple", data := .seq #[] }),
 (120, { cls := .type "code", data := .fields #[vs "occurs" 321, vs "Infer.occurs" 322, vs "/claim/cut.py" 323, .int 84 0, .int 3 0, .int 0 0, .int 0 0, .int 3 0, .ref 115, .bool true, .int 181 0, .ref 116, .none, .ref 117, .ref 118, .ref 119, .int 329 0, .int 84 0, vs "/claim/cut.py" 330] }),
 (121, fo (mth 10 5) "Infer.occurs" .none (vs "lendcore.infer" 269) 120),
 (122, { cls := .type "tuple", data := .seq #[] }),
 (124, { cls := .type "tuple", data := .seq #[vs "self" 335, vs "unknown" 336, vs "told" 337] }),
 (125, { cls := .type "tuple", data := .seq #[] }),
 (127, { cls := .type "code", data := .fields #[vs "bind" 332, vs "Infer.bind" 333, vs "/claim/cut.py" 334, .int 93 0, .int 3 0, .int 0 0, .int 0 0, .int 3 0, .ref 122, .bool true, .int 181 0, .ref 123, .none, .ref 124, .ref 125, .ref 126, .int 338 0, .int 93 0, vs "/claim/cut.py" 339] }),
 (128, fo (mth 10 6) "Infer.bind" .none (vs "lendcore.infer" 269) 127),
 (129, { cls := .type "tuple", data := .seq #[] }),
 (131, { cls := .type "tuple", data := .seq #[vs "self" 344, vs "one" 345, vs "other" 346] }),
 (132, { cls := .type "tuple", data := .seq #[] }),
 (134, { cls := .type "code", data := .fields #[vs "are_alike" 341, vs "Infer.are_alike" 342, vs "/claim/cut.py" 343, .int 103 0, .int 3 0, .int 0 0, .int 0 0, .int 3 0, .ref 129, .bool true, .int 181 0, .ref 130, .none, .ref 131, .ref 132, .ref 133, .int 347 0, .int 103 0, vs "/claim/cut.py" 348] }),
 (135, fo (mth 10 7) "Infer.are_alike" .none (vs "lendcore.infer" 269) 134),
 (136, { cls := .type "tuple", data := .seq #[] }),
 (138, { cls := .type "tuple", data := .seq #[vs "self" 353, vs "one" 354, vs "other" 355, vs "left" 356, vs "here" 357, vs "there" 358, vs "told" 359] }),
 (139, { cls := .type "tuple", data := .seq #[] }),
 (141, { cls := .type "code", data := .fields #[vs "unify" 350, vs "Infer.unify" 351, vs "/claim/cut.py" 352, .int 110 0, .int 3 0, .int 0 0, .int 0 0, .int 3 0, .ref 136, .bool true, .int 181 0, .ref 137, .none, .ref 138, .ref 139, .ref 140, .int 360 0, .int 110 0, vs "/claim/cut.py" 361] }),
 (142, fo (mth 10 8) "Infer.unify" .none (vs "lendcore.infer" 269) 141),
 (143, { cls := .type "tuple", data := .seq #[] }),
 (145, { cls := .type "tuple", data := .seq #[vs "self" 366, vs "n" 367] }),
 (146, { cls := .type "tuple", data := .seq #[] }),
 (148, { cls := .type "code", data := .fields #[vs "default_ints" 363, vs "Infer.default_ints" 364, vs "/claim/cut.py" 365, .int 127 0, .int 1 0, .int 0 0, .int 0 0, .int 3 0, .ref 143, .bool true, .int 181 0, .ref 144, .none, .ref 145, .ref 146, .ref 147, .int 368 0, .int 127 0, vs "/claim/cut.py" 369] }),
 (149, fo (mth 10 9) "Infer.default_ints" .none (vs "lendcore.infer" 269) 148),
 (150, { cls := .type "tuple", data := .seq #[vs "is_number" 371, vs "known" 372] }),
 (151, { cls := .type "dict", data := .dict #[de P "__module__" 281 (vs "lendcore.infer" 269), de P "__firstlineno__" 285 (.int 59 284), de P "__init__" 292 (.ref 88), de P "fresh" 299 (.ref 95), de P "fresh_int" 306 (.ref 102), de P "shallow" 314 (.ref 109), de P "resolved" 320 (.ref 114), de P "occurs" 331 (.ref 121), de P "bind" 340 (.ref 128), de P "are_alike" 349 (.ref 135), de P "unify" 362 (.ref 142), de P "default_ints" 370 (.ref 149), de P "__static_attributes__" 373 (.ref 150), de P "__dict__" 375 (.ref 153), de P "__weakref__" 377 (.ref 154), de P "__doc__" 378 (.none)] 4 }),
 (152, { cls := .type "type", data := .cls { name := Str.ofString "Infer", bases := [.type "object"], mro := [.ref 152, .type "object"], ns := 151, qualname := Str.ofString "Infer" }, slots := #[none, none, some (vs "Infer" 274), some (vs "Infer" 282), some (.builtin "object.__new__"), some (.bool true)] }),
 (153, { cls := .type "getset_descriptor", data := .fields #[vs "__dict__" 374, .ref 152, .builtin "function.__dict__", .builtin "function.__dict__#set"] }),
 (154, { cls := .type "getset_descriptor", data := .fields #[vs "__weakref__" 376, .ref 152, .builtin "ExceptionGroup.__weakref__", .none] }),
 (157, { cls := .type "tuple", data := .seq #[] }),
 (159, { cls := .type "tuple", data := .seq #[vs "script" 386, vs "k" 387, vs "cell" 388, vs "big" 389, vs "mixed" 390] }),
 (160, { cls := .type "tuple", data := .seq #[] }),
 (162, { cls := .type "code", data := .fields #[vs "_law_pool" 383, vs "_law_pool" 384, vs "/claim/cut.py" 385, .int 132 0, .int 2 0, .int 0 0, .int 0 0, .int 3 0, .ref 157, .bool true, .int 181 0, .ref 158, .none, .ref 159, .ref 160, .ref 161, .int 391 0, .int 132 0, vs "/claim/cut.py" 392] }),
 (163, fo (nth 12) "_law_pool" .none (vs "law_nu0378_01" 381) 162),
 (164, { cls := .type "tuple", data := .seq #[] }),
 (166, { cls := .type "tuple", data := .seq #[vs "source" 397, vs "top" 398, vs "drawn" 399] }),
 (167, { cls := .type "tuple", data := .seq #[] }),
 (169, { cls := .type "code", data := .fields #[vs "_law_take" 394, vs "_law_take" 395, vs "/claim/cut.py" 396, .int 139 0, .int 2 0, .int 0 0, .int 0 0, .int 3 0, .ref 164, .bool true, .int 181 0, .ref 165, .none, .ref 166, .ref 167, .ref 168, .int 400 0, .int 139 0, vs "/claim/cut.py" 401] }),
 (170, fo (nth 13) "_law_take" .none (vs "law_nu0378_01" 381) 169),
 (171, { cls := .type "tuple", data := .seq #[] }),
 (174, { cls := .type "code", data := .fields #[vs "_law_type" 403, vs "_law_type" 404, vs "/claim/cut.py" 405, .int 146 0, .int 2 0, .int 0 0, .int 0 0, .int 3 0, .ref 171, .bool true, .int 181 0, .ref 172, .none, .none, .none, .ref 173, .int 406 0, .int 146 0, vs "/claim/cut.py" 407] }),
 (175, fo (nth 14) "_law_type" .none (vs "law_nu0378_01" 381) 174),
 (176, { cls := .type "tuple", data := .seq #[] }),
 (178, { cls := .type "tuple", data := .seq #[vs "thing" 412] }),
 (179, { cls := .type "tuple", data := .seq #[] }),
 (181, { cls := .type "code", data := .fields #[vs "_law_within" 409, vs "_law_within" 410, vs "/claim/cut.py" 411, .int 165 0, .int 1 0, .int 0 0, .int 0 0, .int 3 0, .ref 176, .bool true, .int 181 0, .ref 177, .none, .ref 178, .ref 179, .ref 180, .int 413 0, .int 165 0, vs "/claim/cut.py" 414] }),
 (182, fo (nth 15) "_law_within" .none (vs "law_nu0378_01" 381) 181),
 (183, { cls := .type "tuple", data := .seq #[] }),
 (185, { cls := .type "tuple", data := .seq #[vs "thing" 419, vs "inner" 420] }),
 (186, { cls := .type "tuple", data := .seq #[] }),
 (188, { cls := .type "code", data := .fields #[vs "_law_with" 416, vs "_law_with" 417, vs "/claim/cut.py" 418, .int 171 0, .int 2 0, .int 0 0, .int 0 0, .int 3 0, .ref 183, .bool true, .int 181 0, .ref 184, .none, .ref 185, .ref 186, .ref 187, .int 421 0, .int 171 0, vs "/claim/cut.py" 422] }),
 (189, fo (nth 16) "_law_with" .none (vs "law_nu0378_01" 381) 188),
 (190, { cls := .type "tuple", data := .seq #[] }),
 (193, { cls := .type "code", data := .fields #[vs "_law_put" 424, vs "_law_put" 425, vs "/claim/cut.py" 426, .int 181 0, .int 3 0, .int 0 0, .int 0 0, .int 3 0, .ref 190, .bool true, .int 181 0, .ref 191, .none, .none, .none, .ref 192, .int 427 0, .int 181 0, vs "/claim/cut.py" 428] }),
 (194, fo (nth 17) "_law_put" .none (vs "law_nu0378_01" 381) 193),
 (195, { cls := .type "tuple", data := .seq #[] }),
 (198, { cls := .type "code", data := .fields #[vs "_law_copy" 430, vs "_law_copy" 431, vs "/claim/cut.py" 432, .int 185 0, .int 2 0, .int 0 0, .int 0 0, .int 3 0, .ref 195, .bool true, .int 181 0, .ref 196, .none, .none, .none, .ref 197, .int 433 0, .int 185 0, vs "/claim/cut.py" 434] }),
 (199, fo (nth 18) "_law_copy" .none (vs "law_nu0378_01" 381) 198),
 (200, { cls := .type "tuple", data := .seq #[] }),
 (203, { cls := .type "code", data := .fields #[vs "_law_has" 436, vs "_law_has" 437, vs "/claim/cut.py" 438, .int 190 0, .int 2 0, .int 0 0, .int 0 0, .int 3 0, .ref 200, .bool true, .int 181 0, .ref 201, .none, .none, .none, .ref 202, .int 439 0, .int 190 0, vs "/claim/cut.py" 440] }),
 (204, fo (nth 19) "_law_has" .none (vs "law_nu0378_01" 381) 203),
 (205, { cls := .type "tuple", data := .seq #[] }),
 (208, { cls := .type "code", data := .fields #[vs "_law_head" 442, vs "_law_head" 443, vs "/claim/cut.py" 444, .int 192 0, .int 1 0, .int 0 0, .int 0 0, .int 3 0, .ref 205, .bool true, .int 181 0, .ref 206, .none, .none, .none, .ref 207, .int 445 0, .int 192 0, vs "/claim/cut.py" 446] }),
 (209, fo (nth 20) "_law_head" .none (vs "law_nu0378_01" 381) 208),
 (210, { cls := .type "tuple", data := .seq #[] }),
 (212, { cls := .type "tuple", data := .seq #[vs "one" 451, vs "other" 452, vs "left" 453, vs "right" 454] }),
 (213, { cls := .type "tuple", data := .seq #[] }),
 (215, { cls := .type "code", data := .fields #[vs "_law_bound" 448, vs "_law_bound" 449, vs "/claim/cut.py" 450, .int 194 0, .int 2 0, .int 0 0, .int 0 0, .int 3 0, .ref 210, .bool true, .int 181 0, .ref 211, .none, .ref 212, .ref 213, .ref 214, .int 455 0, .int 194 0, vs "/claim/cut.py" 456] }),
 (216, fo (nth 21) "_law_bound" .none (vs "law_nu0378_01" 381) 215),
 (217, { cls := .type "tuple", data := .seq #[] }),
 (220, { cls := .type "code", data := .fields #[vs "_law_solved" 458, vs "_law_solved" 459, vs "/claim/cut.py" 460, .int 202 0, .int 2 0, .int 0 0, .int 0 0, .int 3 0, .ref 217, .bool true, .int 181 0, .ref 218, .none, .none, .none, .ref 219, .int 461 0, .int 202 0, vs "/claim/cut.py" 462] }),
 (221, fo (nth 22) "_law_solved" .none (vs "law_nu0378_01" 381) 220),
 (222, { cls := .type "tuple", data := .seq #[] }),
 (225, { cls := .type "code", data := .fields #[vs "_law_alike" 464, vs "_law_alike" 465, vs "/claim/cut.py" 466, .int 221 0, .int 4 0, .int 0 0, .int 0 0, .int 3 0, .ref 222, .bool true, .int 181 0, .ref 223, .none, .none, .none, .ref 224, .int 467 0, .int 221 0, vs "/claim/cut.py" 468] }),
 (226, fo (nth 23) "_law_alike" .none (vs "law_nu0378_01" 381) 225),
 (227, { cls := .type "tuple", data := .seq #[] }),
 (229, { cls := .type "tuple", data := .seq #[] }),
 (230, { cls := .type "tuple", data := .seq #[] }),
 (232, { cls := .type "code", data := .fields #[vs "_law_unknowns" 470, vs "_law_unknowns" 471, vs "/claim/cut.py" 472, .int 231 0, .int 0 0, .int 0 0, .int 0 0, .int 3 0, .ref 227, .bool true, .int 181 0, .ref 228, .none, .ref 229, .ref 230, .ref 231, .int 473 0, .int 231 0, vs "/claim/cut.py" 474] }),
 (233, fo (nth 24) "_law_unknowns" .none (vs "law_nu0378_01" 381) 232),
 (234, { cls := .type "tuple", data := .seq #[] }),
 (236, { cls := .type "tuple", data := .seq #[vs "found" 479, vs "made" 480] }),
 (237, { cls := .type "tuple", data := .seq #[] }),
 (239, { cls := .type "code", data := .fields #[vs "_law_begun" 476, vs "_law_begun" 477, vs "/claim/cut.py" 478, .int 233 0, .int 0 0, .int 0 0, .int 0 0, .int 3 0, .ref 234, .bool true, .int 181 0, .ref 235, .none, .ref 236, .ref 237, .ref 238, .int 481 0, .int 233 0, vs "/claim/cut.py" 482] }),
 (240, fo (nth 25) "_law_begun" .none (vs "law_nu0378_01" 381) 239),
 (241, { cls := .type "tuple", data := .seq #[] }),
 (243, { cls := .type "tuple", data := .seq #[vs "one" 487, vs "other" 488, vs "found" 489] }),
 (244, { cls := .type "tuple", data := .seq #[] }),
 (246, { cls := .type "code", data := .fields #[vs "_law_is_refused" 484, vs "_law_is_refused" 485, vs "/claim/cut.py" 486, .int 237 0, .int 2 0, .int 0 0, .int 0 0, .int 3 0, .ref 241, .bool true, .int 181 0, .ref 242, .none, .ref 243, .ref 244, .ref 245, .int 490 0, .int 237 0, vs "/claim/cut.py" 491] }),
 (247, fo (nth 26) "_law_is_refused" .none (vs "law_nu0378_01" 381) 246),
 (248, { cls := .type "tuple", data := .seq #[] }),
 (251, { cls := .type "code", data := .fields #[vs "_law_answer_right" 493, vs "_law_answer_right" 494, vs "/claim/cut.py" 495, .int 244 0, .int 3 0, .int 0 0, .int 0 0, .int 3 0, .ref 248, .bool true, .int 181 0, .ref 249, .none, .none, .none, .ref 250, .int 496 0, .int 244 0, vs "/claim/cut.py" 497] }),
 (252, fo (nth 27) "_law_answer_right" .none (vs "law_nu0378_01" 381) 251),
 (253, { cls := .type "tuple", data := .seq #[] }),
 (255, { cls := .type "tuple", data := .seq #[vs "script" 502, vs "source" 503, vs "found" 504, vs "answer" 505, vs "pairs" 506, vs "turn" 507, vs "one" 508, vs "other" 509, vs "fault" 510, vs "inner" 511, vs "numbers" 512] }),
 (256, { cls := .type "tuple", data := .seq #[] }),
 (258, { cls := .type "code", data := .fields #[vs "law" 499, vs "law" 500, vs "/claim/cut.py" 501, .int 258 0, .int 1 0, .int 0 0, .int 0 0, .int 3 0, .ref 253, .bool true, .int 181 0, .ref 254, .none, .ref 255, .ref 256, .ref 257, .int 513 0, .int 258 0, vs "/claim/cut.py" 514] }),
 (259, fo (nth 28) "law" .none (vs "law_nu0378_01" 381) 258)]
noncomputable def hd.view_39 : Program := { Challenge.pw_nu0378_01 with main := { Challenge.pw_nu0378_01.main with body := [nth 1, nth 2, nth 4, nth 5, nth 6, nth 7, nth 9, nth 10, nth 12, nth 13, nth 14, nth 15, nth 16, nth 17, nth 18, nth 19, nth 20, nth 21, nth 22, nth 23, nth 24, nth 25, nth 26, nth 27, nth 28] } }
noncomputable abbrev hd.at : List Nat := [2, 3, 15, 22, 23, 25, 26, 28, 29, 30, 31, 32, 33, 36, 43, 44, 45, 48, 50, 51, 53, 54, 55, 57, 58, 60, 61, 62, 64, 65, 67, 68, 69, 72, 73, 74, 82, 84, 85, 87, 88, 89, 91, 92, 94, 95, 96, 98, 99, 101, 102, 103, 105, 106, 108, 109, 110, 113, 114, 115, 117, 118, 120, 121, 122, 124, 125, 127, 128, 129, 131, 132, 134, 135, 136, 138, 139, 141, 142, 143, 145, 146, 148, 149, 150, 151, 152, 153, 154, 157, 159, 160, 162, 163, 164, 166, 167, 169, 170, 171, 174, 175, 176, 178, 179, 181, 182, 183, 185, 186, 188, 189, 190, 193, 194, 195, 198, 199, 200, 203, 204, 205, 208, 209, 210, 212, 213, 215, 216, 217, 220, 221, 222, 225, 226, 227, 229, 230, 232, 233, 234, 236, 237, 239, 240, 241, 243, 244, 246, 247, 248, 251, 252, 253, 255, 256, 258, 259]
theorem hd.at_ok (P : Params) : hd.at = (hd.heap_39 P).map (·.1) := by kernel_rfl
noncomputable abbrev hd.hook := kHook hd.heap_39 hd.at hd.at_ok
noncomputable def topRunT (tb : String → Option Builtin) (p : Program) (w : World) (n₀ : Nat) (ann : Option Value) : Nat → SharedT → Thread → Option SharedT
 | 0, _, _ => none
 | n + 1, s, t => match through t with
  | true => some s
  | false => match stepOk n₀ ann t with
   | false => none
   | true => match stepT (denote tb) p w s t with
    | some (s', t') => topRunT tb p w n₀ ann n s' t'
    | none => none
theorem topRun_T {tb : String → Option Builtin} {p : Program} {w : World} {n₀ : Nat} {ann : Option Value} : ∀ {n : Nat} {s r : SharedT} {t : Thread}, topRunT tb p w n₀ ann n s t = some r → topRun tb p w n₀ ann n s.abs t = some r.abs
 | 0, _, _, _, h => by cases h
 | n + 1, s, r, t, h => by
  unfold topRunT at h
  unfold topRun
  cases he : through t with
  | true => rw [he] at h; cases h; rfl
  | false =>
   rw [he] at h
   cases hk : stepOk n₀ ann t with
   | false => rw [hk] at h; cases h
   | true =>
    rw [hk] at h
    cases hs : stepT (denote tb) p w s t with
    | none => rw [hs] at h; cases h
    | some r => obtain ⟨s₂, t₂⟩ := r; rw [hs] at h; rw [stepT_spec hs]; exact topRun_T h
noncomputable def treeOf : List Obj → Nat → BT → BT
 | [], _, t => t
 | o :: l, n, t => treeOf l (n + 1) (t.ins n o)
theorem left_cut {p q : Program} {loose : List Str} {Xt : Shared → Bool} {α : Type} {Yf : Shared → α} {Ya : World → α} {N N' m₀ : Nat} {ann : Option Value} {g0 : Bool} {sB : World → OsState → SharedT} {tB : Thread}
 (open_ : ∀ w : World, (fencedOpening treeTable p w N).map (fun s => (s.heap, s.gens, s.drawn, s.toks)) = some (boot_heap w.params, Array.mk [], boot_drawn, boot_toks))
 (size : ∀ w : World, ((boot_heap w.params).isNs mainGlobals, (boot_heap w.params).objs.size, (boot_heap w.params).nsMap mainGlobals "__annotations__") = (true, m₀, ann))
 (pre : ∀ w os r, topRun treeTable p w m₀ ann N' (sB w os).abs tB = some r → topRun treeTable p w m₀ ann N ⟨boot_heap w.params, Array.mk [], boot_drawn, boot_toks, os⟩ (topStub p) = some r)
 (h : ∀ w : World, (fun os => (topRunT treeTable p w m₀ ann N' (sB w os) tB).map fun r => (staticsOk (importedModules p.main.body) (boot_heap w.params) r.abs.heap && namesBound p r.abs.heap && gensDone r.abs && laidKept (boot_heap w.params) r.abs.heap, openSeen q loose (importedModules p.main.body) Xt g0 r.abs, Yf r.abs)) =
  fun _ => some (true, openGood q loose, Ya w)) : LeftO p q loose Xt Yf Ya N g0 := fun w => by
 obtain ⟨⟨h0, gs, d, k, os⟩, e, e'⟩ := Option.map_eq_some_iff.mp (open_ w)
 simp only [Prod.mk.injEq] at e'
 obtain ⟨rfl, rfl, rfl, rfl⟩ := e'
 obtain ⟨r, hr, h3⟩ := Option.map_eq_some_iff.mp (congrFun (h w) os)
 obtain ⟨c1, c2⟩ := Prod.mk.inj h3
 have hrun := pre w os _ (topRun_T hr)
 obtain ⟨z1, z⟩ := Prod.mk.inj (size w)
 obtain ⟨z2, z3⟩ := Prod.mk.inj z
 unfold openEnds
 rw [e]
 show (topFrom treeTable p w N _).map _ = _
 unfold topFrom
 dsimp only
 rw [z1, z2, z3, hrun]
 show Option.map _ (match staticsOk (importedModules p.main.body) (boot_heap w.params) r.abs.heap && namesBound p r.abs.heap && gensDone r.abs && laidKept (boot_heap w.params) r.abs.heap with | true => some r.abs | false => none) = _
 rw [c1]
 exact congrArg some c2
theorem cut3 {tb : String → Option Builtin} {p : Program} {w : World} {n₀ : Nat} {ann : Option Value} {env : Env} {q : Pos} {c : Code} {b : List Stmt} {i j n0 nA nB N : Nat} {s0 sA sB r : Shared} {p0 p1 pA pB : Pos}
 (h0 : segRun tb p w n₀ ann 1 n0 s0 (blockOf b env c p0 [topFrame q]) = some (.next, s0, c, p1))
 (hA : segRun tb p w n₀ ann 1 nA s0 (piecesOf (b.take i) env c p1 [topFrame q]) = some (.next, sA, c, pA))
 (hB : segRun tb p w n₀ ann 1 nB sA (piecesOf ((b.drop i).take j) env c pA [topFrame q]) = some (.next, sB, c, pB))
 (k : topRun tb p w n₀ ann N sB (restOf ((b.drop i).drop j) env c pB [topFrame q]) = some r) : topRun tb p w n₀ ann (n0 + (nA + (nB + N))) s0 ⟨denote tb (.body b env), c, p0, [topFrame q]⟩ = some r := by
 have h2 := piece_app hB k
 rw [List.take_append_drop] at h2
 have h1 := piece_app hA h2
 rw [List.take_append_drop] at h1
 exact piece_block h0 h1
noncomputable abbrev hd.pN : Program := Challenge.rw_nu0378_01.row.toRowW.1
noncomputable def hd.env : Env := { scope := hd.pN.main.scope, locals := mainNs, globals := mainNs, cells := [], code := .ref 13, frame := some 14 }
noncomputable def hd.cd : Code := .body (behindTheImports hd.pN) hd.env
noncomputable abbrev hd.p0 : Pos := ⟨0, 0, 0, 0⟩
noncomputable def hd.te : Obj := { cls := .type "tuple", data := .seq #[] }
noncomputable def hd.em : Obj := { cls := .none, data := .fields #[] }
noncomputable def hd.cn (l : List (Nat × Nat × Nat)) : Obj := { cls := .none, data := .fields ⟨l.flatMap fun (a, b, c) => [.int a 0, .int b 0, .ref c]⟩ }
noncomputable def hd.co (n : String) (t : Nat) (l : Int) (r : Addr) : Obj := { cls := .type "code", data := .fields #[vs n t, vs n (t + 1), vs "/claim/cut.py" (t + 2), .int l 0, .int 0 0, .int 0 0, .int 0 0, .int 0 0, .ref r, .bool false, .int 181 0, .ref (r + 1), .none, .none, .none, .none, .int (t + 3) 0, .int l 0, vs "/claim/cut.py" (t + 4)] }
noncomputable def hd.fra (c l : Addr) (m : Value) : Obj := { cls := .type "frame", slots := #[some (.ref c), some (.ref 3), some (.ref l), none, some m, none, some (.ref 0)] }
noncomputable def hd.bf (n : String) (v : Value) : Obj := { cls := .type "builtin_function_or_method", data := .fields #[.builtin n, v] }
noncomputable def hd.su (c : Addr) : Obj := { cls := .type "super", data := .fields #[.ref c, .ref c, .ref c] }
noncomputable def hd.di (l : List DictEntry) (n : Nat) : Obj := { cls := .type "dict", data := .dict ⟨l⟩ n }
noncomputable def hd.fi (st : Stmt) (q : String) : Obj := { cls := .none, data := .func { name := fnName st, qualname := Str.ofString q, params := fnArgs st, body := .stmts (fnBody st), scope := fnScope st, globals := 0, closure := [], defaults := .none, kwdefaults := .none } }
noncomputable def hd.k1 : List (Nat × Nat × Nat) := [(2, 0, 20), (8, 0, 41), (11, 0, 53), (20, 0, 60), (31, 0, 67), (35, 0, 72)]
noncomputable def hd.ex (P : Params) (k : List (Nat × Nat × Nat)) : List Obj := [boot_o_0 P, boot_o_1 P, boot_o_4 P, boot_o_5 P, boot_o_6 P, boot_o_7 P, boot_o_8 P, boot_o_9 P, boot_o_10 P, hd.te, hd.cn k, hd.co "<module>" 182 1 11, hd.fra 13 3 (vs "__main__" 164),
 hd.bf "type.__prepare__" (.type "type"), hd.di [de P "__module__" 196 (vs "lendcore.errors" 187), de P "__qualname__" 198 (vs "LendError" 197), de P "__firstlineno__" 200 (.int 2 199), de P "__init__" 210 (.ref 29), de P "__static_attributes__" 213 (.ref 30)] 5, hd.te, hd.cn [(4, 4, 28)], hd.co "LendError" 191 2 18, hd.fra 20 17 (vs "lendcore.errors" 187),
 hd.em, hd.fi (mth 1 0) "LendError.__init__", hd.su 32, hd.bf "object.__init_subclass__" (.ref 32),
 hd.bf "type.__prepare__" (.type "type"), hd.di [de P "__module__" 228 (vs "lendcore.errors" 187), de P "__qualname__" 230 (vs "TypeFault" 229), de P "__firstlineno__" 232 (.int 8 231), de P "__static_attributes__" 233 (.ref 43)] 4, hd.te, hd.em, hd.co "TypeFault" 223 8 39, hd.fra 41 38 (vs "lendcore.errors" 187), hd.su 45, hd.bf "object.__init_subclass__" (.ref 45),
 hd.em, hd.fi (nth 4) "parts_of", hd.em, hd.fi (nth 5) "rebuilt", hd.em, hd.fi (nth 6) "region_text", hd.em, hd.fi (nth 7) "type_text",
 hd.te, hd.bf "type.__prepare__" (.type "type"), hd.di [de P "__module__" 281 (vs "lendcore.infer" 269), de P "__qualname__" 283 (vs "Infer" 282), de P "__firstlineno__" 285 (.int 59 284), de P "__init__" 292 (.ref 88), de P "fresh" 299 (.ref 95), de P "fresh_int" 306 (.ref 102), de P "shallow" 314 (.ref 109), de P "resolved" 320 (.ref 114), de P "occurs" 331 (.ref 121), de P "bind" 340 (.ref 128), de P "are_alike" 349 (.ref 135), de P "unify" 362 (.ref 142), de P "default_ints" 370 (.ref 149), de P "__static_attributes__" 373 (.ref 150)] 14,
 hd.te, hd.cn [(61, 4, 87), (65, 4, 94), (70, 4, 101), (75, 4, 108), (80, 4, 113), (84, 4, 120), (93, 4, 127), (103, 4, 134), (110, 4, 141), (127, 4, 148)], hd.co "Infer" 276 59 78, hd.fra 80 77 (vs "lendcore.infer" 269),
 hd.em, hd.fi (mth 10 0) "Infer.__init__", hd.em, hd.fi (mth 10 1) "Infer.fresh", hd.em, hd.fi (mth 10 2) "Infer.fresh_int", hd.em, hd.fi (mth 10 3) "Infer.shallow", hd.em, hd.fi (mth 10 4) "Infer.resolved", hd.em, hd.fi (mth 10 5) "Infer.occurs", hd.em, hd.fi (mth 10 6) "Infer.bind", hd.em, hd.fi (mth 10 7) "Infer.are_alike", hd.em, hd.fi (mth 10 8) "Infer.unify", hd.em, hd.fi (mth 10 9) "Infer.default_ints", hd.su 152, hd.bf "object.__init_subclass__" (.ref 152)]
noncomputable def hd.mer : Nat → Nat → Frag → List Obj → List Obj
 | 0, _, _, _ => []
 | n + 1, k, [], e => match e with
  | x :: e => x :: hd.mer n (k + 1) [] e
  | [] => []
 | n + 1, k, (a, o) :: f, e => match Nat.beq a k with
  | true => o :: hd.mer n (k + 1) f e
  | false => match e with
   | x :: e => x :: hd.mer n (k + 1) ((a, o) :: f) e
   | [] => []
noncomputable def hd.gl (P : Params) (k : Nat) : Obj → Obj
 | { data := .dict es _, .. } => hd.di (de P "__name__" 165 (vs "lendcore.infer" 269) :: (es.toList.drop 1).take k) (k + 1)
 | o => o
noncomputable def hd.sta (n k t : Nat) (l : List (Nat × Nat × Nat)) (w : World) (os : OsState) : SharedT := ⟨treeOf (hd.mer n 0 (match hd.heap_39 w.params with
 | x :: (a, o) :: f => x :: (a, hd.gl w.params k o) :: f
 | f => f) (hd.ex w.params l)) 0 .nil, n, {}, #[], {}, t, os⟩
noncomputable def hd.s0 (w : World) (os : OsState) : SharedT := ⟨treeOf ((boot_heap w.params).objs.toList ++ [hd.te, hd.em, hd.co "<module>" 182 1 11, hd.fra 13 3 (vs "__main__" 164)]) 0 .nil, 15, {}, #[], {}, 187, os⟩
noncomputable abbrev hd.sA := hd.sta 75 15 274 hd.k1
noncomputable abbrev hd.sB := hd.sta 157 16 381 (hd.k1 ++ [(59, 0, 80)])
theorem hd.open_ : ∀ w : World, (fencedOpening treeTable hd.pN w 3354).map (fun s => (s.heap, s.gens, s.drawn, s.toks)) = some (boot_heap w.params, Array.mk [], boot_drawn, boot_toks) := boot_open (by rfl) (by rfl) fun s => by rfl
theorem hd.size (w : World) : ((boot_heap w.params).isNs mainGlobals, (boot_heap w.params).objs.size, (boot_heap w.params).nsMap mainGlobals "__annotations__") = (true, 11, some (.ref 6)) := by kernel_rfl
theorem hd.pre (w : World) : (fun os => topGo treeTable hd.pN w 11 (some (.ref 6)) 12 ⟨boot_heap w.params, Array.mk [], boot_drawn, boot_toks, os⟩ (topStub hd.pN)) = fun os => some ((hd.s0 w os).abs, ⟨denote treeTable hd.cd, hd.cd, hd.p0, [topFrame hd.p0]⟩) := by kernel_rfl
theorem hd.blk (w : World) : (fun os => segRunT treeTable hd.pN w 11 (some (.ref 6)) 1 1 (hd.s0 w os) (blockOf (behindTheImports hd.pN) hd.env hd.cd hd.p0 [topFrame hd.p0])) = fun os => some (.next, hd.s0 w os, hd.cd, hd.p0) := by kernel_rfl
theorem hd.runA (w : World) : (fun os => segRunT treeTable hd.pN w 11 (some (.ref 6)) 1 800 (hd.s0 w os) (piecesOf ((behindTheImports hd.pN).take 10) hd.env hd.cd hd.p0 [topFrame hd.p0])) = fun os => some (.next, hd.sA w os, hd.cd, ⟨58, 0, 58, 11⟩) := by kernel_rfl
theorem hd.runB (w : World) : (fun os => segRunT treeTable hd.pN w 11 (some (.ref 6)) 1 800 (hd.sA w os) (piecesOf (((behindTheImports hd.pN).drop 10).take 1) hd.env hd.cd ⟨58, 0, 58, 11⟩ [topFrame hd.p0])) = fun os => some (.next, hd.sB w os, hd.cd, ⟨59, 0, 130, 43⟩) := by kernel_rfl
noncomputable abbrev hd.tB : Thread := restOf (((behindTheImports hd.pN).drop 10).drop 1) hd.env hd.cd ⟨59, 0, 130, 43⟩ [topFrame hd.p0]
theorem hd.runC (w : World) : (fun os => (topRunT treeTable hd.pN w 11 (some (.ref 6)) 1741 (hd.sB w os) hd.tB).map fun r => (staticsOk (importedModules hd.pN.main.body) (boot_heap w.params) r.abs.heap && namesBound hd.pN r.abs.heap && gensDone r.abs && laidKept (boot_heap w.params) r.abs.heap, openSeen hd.view_39 [Str.ofString "LendError"] (importedModules hd.pN.main.body) (fun s => xlAt hd.view_39 [] s && recOk (Challenge.rw_nu0378_01.row.records) s) true r.abs, hd.hook.obs r.abs)) =
 fun _ => some (true, openGood hd.view_39 [Str.ofString "LendError"], hd.hook.val w) := by kernel_rfl
theorem hd.whole (w : World) (os : OsState) (r : Shared) (k : topRun treeTable hd.pN w 11 (some (.ref 6)) 1741 (hd.sB w os).abs hd.tB = some r) :
 topRun treeTable hd.pN w 11 (some (.ref 6)) (12 + (1 + (800 + (800 + 1741)))) ⟨boot_heap w.params, Array.mk [], boot_drawn, boot_toks, os⟩ (topStub hd.pN) = some r := by
 have h0 := segRun_of (congrFun (hd.blk w) os)
 have hA := segRun_of (congrFun (hd.runA w) os)
 have hB := segRun_of (congrFun (hd.runB w) os)
 have h1 := congrFun (hd.pre w) os
 exact go_top (n := 12) (N := 1 + (800 + (800 + 1741))) h1 (cut3 (tb := treeTable) (p := hd.pN) (w := w) (n₀ := 11) (ann := some (.ref 6)) (env := hd.env) (q := hd.p0) (c := hd.cd) (b := behindTheImports hd.pN) (i := 10) (j := 1) (n0 := 1) (nA := 800) (nB := 800) (N := 1741) (s0 := (hd.s0 w os).abs) (sA := (hd.sA w os).abs) (sB := (hd.sB w os).abs) (r := r) (p0 := hd.p0) (p1 := hd.p0) (pA := ⟨58, 0, 58, 11⟩) (pB := ⟨59, 0, 130, 43⟩) h0 hA hB k)
theorem hd.whole3 (w : World) (os : OsState) (r : Shared) (k : topRun treeTable hd.pN w 11 (some (.ref 6)) 1741 (hd.sB w os).abs hd.tB = some r) :
 topRun treeTable hd.pN w 11 (some (.ref 6)) 3354 ⟨boot_heap w.params, Array.mk [], boot_drawn, boot_toks, os⟩ (topStub hd.pN) = some r := by
 have e : 12 + (1 + (800 + (800 + 1741))) = 3354 := rfl
 have h := hd.whole w os r k
 rw [e] at h
 exact h
theorem hd.left0 : LeftO hd.pN hd.view_39 [Str.ofString "LendError"] (fun s => xlAt hd.view_39 [] s && recOk (Challenge.rw_nu0378_01.row.records) s) hd.hook.obs hd.hook.val 3354 true :=
 left_cut hd.open_ hd.size hd.whole3 hd.runC
theorem hd.left : LeftO Challenge.rw_nu0378_01.row.toRowW.1 hd.view_39 [Str.ofString "LendError"] (fun s => xlAt hd.view_39 [] s && recOk (Challenge.rw_nu0378_01.row.records) s) hd.hook.obs hd.hook.val 3354 true := hd.left0
noncomputable def hd.law : DefRec := ⟨fnName (nth 28), fnArgs (nth 28), fnBody (nth 28), fnScope (nth 28), ⟨258, 0, 278, 105⟩⟩
noncomputable abbrev hd.lp : Program := Challenge.rw_nu0378_01.row.prog
theorem hd.sd1 : noRoadLSs { strict := !(importedModules hd.lp.main.body).all cThrough.contains, foot := none, bare := (["vars", "dir", "locals"] : List Str).filter (readsOut hd.lp hd.lp.main.body) } hd.lp.main.body = true := by kernel_rfl
theorem hd.sd2 : looksOpen hd.lp = true := by
 delta looksOpen
 rw [hd.sd1]
 kernel_rfl
theorem hd.sd3 : Challenge.rw_nu0378_01.row.wellSaid = true := by
 delta OpenRow.wellSaid OpenRow.partSaid
 rw [hd.sd2]
 kernel_rfl
theorem hd.said : Challenge.rw_nu0378_01.wellSaid = true := by
 delta OpenLaw.wellSaid
 rw [hd.sd3]
 kernel_rfl
theorem hd.wit : Challenge.rw_nu0378_01.row.toRowW.promised := by w_witness2
theorem hd (walk : WalkO hd.view_39 [Str.ofString "LendError"] (XL hd.view_39 []) hd.hook.says Challenge.rw_nu0378_01.row.toRowW hd.law [] (fun f vs => call f vs)) : Challenge.rw_nu0378_01.Holds :=
 holds_law hd.said fun said => holds_open (q := hd.view_39) (loose := [Str.ofString "LendError"]) (YP := hd.hook.says) (d := hd.law) (kwd := []) (N := 3354) hd.left hd.hook.of hd.hook.keeps (fun s e => xl_of s (Bool.and_eq_true_iff.mp e).1) XL.keeps (by kernel_rfl) (by kernel_rfl) (by kernel_rfl)
  (fun s e => recFacts_of (Bool.and_eq_true_iff.mp e).2) (by kernel_rfl) said (by decide +kernel) ⟨rfl, rfl, rfl, rfl, rfl, by decide +kernel⟩ hd.wit walk
theorem ar_dec : ∀ {n i m : Nat}, n + i = m + 1 → i < m → n - 1 + (i + 1) = m + 1
 | 0, i, m, h, hi => by rw [Nat.zero_add] at h; rw [h] at hi; exact absurd (Nat.lt_of_succ_lt hi) (Nat.lt_irrefl m)
 | n + 1, i, m, h, _ => (Nat.succ_add n i).symm.trans h
theorem ar_lt : ∀ {n i m : Nat}, n + i = m + 1 → i < m → n - 1 < n
 | 0, i, m, h, hi => by rw [Nat.zero_add] at h; rw [h] at hi; exact absurd (Nat.lt_of_succ_lt hi) (Nat.lt_irrefl m)
 | n + 1, _, _, _, _ => Nat.lt_succ_self n
theorem ar_end {n i : Nat} (h : n - i = 0) (hi : i ≤ n) : i = n := Nat.le_antisymm hi (Nat.le_of_sub_eq_zero h)
theorem ar_go {n i k : Nat} (h : n - i = k + 1) : i < n := Nat.lt_of_sub_ne_zero (h ▸ Nat.succ_ne_zero k)
theorem ar_nx {n i k : Nat} (h : n - i = k + 1) : n - (i + 1) = k := by rw [Nat.sub_succ, h]; rfl
inductive D where
 | none
 | bool (b : Bool)
 | int (i : Int)
 | str (x : Str)
 | tup (l : List D)
 | raw (v : Value)
structure Cx where
 h0 : Heap
 prog : Program
 w : World
 K : Frag
 X : K.In h0
 T : ∃ p loose mg mb, TopRead p loose mg mb h0
 B : Addr → Prop
 hB : ∀ b o, h0.get? b = some o → ¬ B b
mutual
inductive Rep (B : Addr → Prop) (h : Heap) : Value → D → Prop
 | none : Rep B h .none .none
 | bool (b : Bool) : Rep B h (.bool b) (.bool b)
 | int (i : Int) (t : Tok) : Rep B h (.int i t) (.int i)
 | str (x : Str) (t : Tok) : Rep B h (.str x t) (.str x)
 | tup {a : Addr} {vs : List Value} {n : Nat} {l : List D} : ¬ B a → IsT h a vs.toArray n → RepAll B h vs l → Rep B h (.ref a) (.tup l)
 | raw (v : Value) : Rep B h v (.raw v)
inductive RepAll (B : Addr → Prop) (h : Heap) : List Value → List D → Prop
 | nil : RepAll B h [] []
 | cons {v : Value} {d : D} {vs : List Value} {l : List D} : Rep B h v d → RepAll B h vs l → RepAll B h (v :: vs) (d :: l)
end
section
variable {B B' : Addr → Prop} {h h' : Heap} (k : ∀ a vs n, ¬ B a → IsT h a vs n → ¬ B' a ∧ IsT h' a vs n)
include k
theorem Rep.turn {v : Value} {d : D} (r : Rep B h v d) : Rep B' h' v d :=
 Rep.rec (motive_1 := fun v d _ => Rep B' h' v d) (motive_2 := fun vs l _ => RepAll B' h' vs l) .none .bool .int .str (fun hb ht _ r => .tup (k _ _ _ hb ht).1 (k _ _ _ hb ht).2 r) .raw .nil (fun _ _ a b => .cons a b) r
theorem RepAll.turn {vs : List Value} {l : List D} (r : RepAll B h vs l) : RepAll B' h' vs l :=
 RepAll.rec (motive_1 := fun v d _ => Rep B' h' v d) (motive_2 := fun vs l _ => RepAll B' h' vs l) .none .bool .int .str (fun hb ht _ r => .tup (k _ _ _ hb ht).1 (k _ _ _ hb ht).2 r) .raw .nil (fun _ _ a b => .cons a b) r
end
theorem Rep.mono {B : Addr → Prop} {h h' : Heap} (k : ∀ a vs n, ¬ B a → IsT h a vs n → IsT h' a vs n) {v : Value} {d : D} (r : Rep B h v d) : Rep B h' v d := r.turn fun a vs n hb t => ⟨hb, k a vs n hb t⟩
theorem RepAll.mono {B : Addr → Prop} {h h' : Heap} (k : ∀ a vs n, ¬ B a → IsT h a vs n → IsT h' a vs n) {vs : List Value} {l : List D} (r : RepAll B h vs l) : RepAll B h' vs l := r.turn fun a vs n hb t => ⟨hb, k a vs n hb t⟩
theorem RepAll.length {B : Addr → Prop} {h : Heap} {vs : List Value} {l : List D} (r : RepAll B h vs l) : vs.length = l.length := by
 induction vs generalizing l with
 | nil => cases r; rfl
 | cons v vs ih => cases r with | cons _ r => simp [ih r]
theorem RepAll.append {B : Addr → Prop} {h : Heap} {vs ws : List Value} {l m : List D} (r : RepAll B h vs l) (q : RepAll B h ws m) : RepAll B h (vs ++ ws) (l ++ m) := by
 induction vs generalizing l with
 | nil => cases r; exact q
 | cons v vs ih => cases r with | cons a r => exact .cons a (ih r)
theorem RepAll.get {B : Addr → Prop} {h : Heap} {vs : List Value} {l : List D} (r : RepAll B h vs l) {k : Nat} {d : D} (hk : l[k]? = some d) : ∃ v, vs[k]? = some v ∧ Rep B h v d := by
 induction vs generalizing l k with
 | nil => cases r; simp at hk
 | cons v vs ih =>
  cases r with
  | cons a r =>
   cases k with
   | zero => simp at hk; subst hk; exact ⟨v, rfl, a⟩
   | succ k => simpa using ih r (by simpa using hk)
noncomputable def RepInv (B : Addr → Prop) (h : Heap) (v : Value) : D → Prop
 | .none => v = .none
 | .bool b => v = .bool b
 | .int i => ∃ t, v = .int i t
 | .str x => ∃ t, v = .str x t
 | .tup l => ∃ a vs n, v = .ref a ∧ ¬ B a ∧ IsT h a (List.toArray vs) n ∧ RepAll B h vs l
 | .raw w => v = w
theorem Rep.inv {B : Addr → Prop} {h : Heap} {v : Value} {d : D} (r : Rep B h v d) : RepInv B h v d := by
 cases r with
 | none => exact rfl
 | bool b => exact rfl
 | int i t => exact ⟨t, rfl⟩
 | str x t => exact ⟨t, rfl⟩
 | tup hb ht r => exact ⟨_, _, _, rfl, hb, ht, r⟩
 | raw v => exact rfl
noncomputable def RepAllInv (B : Addr → Prop) (h : Heap) (vs : List Value) : List D → Prop
 | [] => vs = []
 | d :: l => ∃ v ws, vs = v :: ws ∧ Rep B h v d ∧ RepAll B h ws l
theorem RepAll.inv {B : Addr → Prop} {h : Heap} {vs : List Value} {l : List D} (r : RepAll B h vs l) : RepAllInv B h vs l := by
 cases r with
 | nil => exact rfl
 | cons a r => exact ⟨_, _, rfl, a, r⟩
inductive MO where
 | list (xs : List D)
 | inst (C dx : Addr)
 | attrs (f : Str → Option Value) (m : Nat)
 | dict (hash : D → Int) (ps : List (D × D))
 | obj (P : Obj → Prop)
inductive EntRep (B : Addr → Prop) (h : Heap) (hash : D → Int) : List DictEntry → List (D × D) → Prop
 | nil : EntRep B h hash [] []
 | cons {e : DictEntry} {k v : D} {es : List DictEntry} {ps : List (D × D)} : e.hash = hash k → Rep B h e.key k → Rep B h e.val v → EntRep B h hash es ps → EntRep B h hash (e :: es) ((k, v) :: ps)
theorem EntRep.mono {B B' : Addr → Prop} {h h' : Heap} {hash : D → Int} (k : ∀ v d, Rep B h v d → Rep B' h' v d) {es : List DictEntry} {ps : List (D × D)} (r : EntRep B h hash es ps) : EntRep B' h' hash es ps := by
 induction r with
 | nil => exact .nil
 | cons a b c _ ih => exact .cons a (k _ _ b) (k _ _ c) ih
noncomputable abbrev Mem := Addr → Option MO
noncomputable def MemOk (B : Addr → Prop) (h : Heap) (a : Addr) : MO → Prop
 | .list xs => ∃ vs n, h.get? a = some (listOf (List.toArray vs) n) ∧ RepAll B h vs xs
 | .inst C dx => h.get? a = some (instObj C dx)
 | .attrs f m => ∃ es n, h.get? a = some (dictOf es n) ∧ es.length ≤ m ∧ ∀ x, getL x es = some (f x)
 | .dict hash ps => ∃ es n, h.get? a = some (dictOf es n) ∧ EntRep B h hash es ps
 | .obj P => ∃ o, h.get? a = some o ∧ P o ∧ ∀ vs n, o.data ≠ .seq vs n
noncomputable def upd (μ : Mem) (a : Addr) (o : MO) : Mem := fun b => if b = a then some o else μ b
structure Ok (C : Cx) (s : Shared) (μ : Mem) : Prop where
 mem : ∀ a mo, μ a = some mo → MemOk C.B s.heap a mo
 base : ∀ b o, C.h0.get? b = some o → μ b = none ∧ s.heap.get? b = some o
 ban : ∀ b, C.B b → μ b = none ∧ ∃ o, s.heap.get? b = some o
structure Step (s : Shared) (μ : Mem) (s' : Shared) (μ' : Mem) : Prop where
 eq : s' = { s with heap := s'.heap, toks := s'.toks }
 keep : ∀ b o, s.heap.get? b = some o → μ b = none → μ' b = none ∧ s'.heap.get? b = some o
theorem Step.refl (s : Shared) (μ : Mem) : Step s μ s μ := ⟨rfl, fun _ _ h1 h2 => ⟨h2, h1⟩⟩
theorem Step.trans {s s1 s2 : Shared} {μ μ1 μ2 : Mem} (x : Step s μ s1 μ1) (y : Step s1 μ1 s2 μ2) : Step s μ s2 μ2 := by
 refine ⟨?_, fun b o h1 h2 => ?_⟩
 · rw [y.eq, x.eq]
 · obtain ⟨a, c⟩ := x.keep b o h1 h2
   exact y.keep b o c a
theorem Step.toks {s : Shared} {μ : Mem} (t : Nat) : Step s μ { s with toks := t } μ := ⟨rfl, fun _ _ h1 h2 => ⟨h2, h1⟩⟩
theorem MemOk.notTuple {B : Addr → Prop} {h : Heap} {a : Addr} {mo : MO} {vs : Array Value} {n : Nat} (x : MemOk B h a mo) (y : IsT h a vs n) : False := by
 cases mo with
 | list xs => obtain ⟨ws, m, e, _⟩ := x; rw [y] at e; simp at e
 | inst C dx => have e : h.get? a = _ := x; rw [y] at e; simp at e
 | attrs f m => obtain ⟨es, m, e, _⟩ := x; rw [y] at e; simp at e
 | dict f ps => obtain ⟨es, m, e, _⟩ := x; rw [y] at e; simp at e
 | obj P => obtain ⟨o, e, _, e2⟩ := x; rw [y] at e; cases e; exact e2 _ _ rfl
section
variable {C : Cx}
theorem Step.tuple {s s' : Shared} {μ μ' : Mem} (x : Step s μ s' μ') (k : Ok C s μ) (a : Addr) (vs : Array Value) (n : Nat) (t : IsT s.heap a vs n) : IsT s'.heap a vs n := by
 cases e : μ a with
 | none => exact (x.keep a _ t e).2
 | some mo => exact ((k.mem a mo e).notTuple t).elim
theorem Step.rep {s s' : Shared} {μ μ' : Mem} (x : Step s μ s' μ') (k : Ok C s μ) {v : Value} {d : D} (r : Rep C.B s.heap v d) : Rep C.B s'.heap v d := r.mono fun a vs n _ t => x.tuple k a vs n t
theorem Step.repAll {s s' : Shared} {μ μ' : Mem} (x : Step s μ s' μ') (k : Ok C s μ) {vs : List Value} {l : List D} (r : RepAll C.B s.heap vs l) : RepAll C.B s'.heap vs l := r.mono fun a vs n _ t => x.tuple k a vs n t
structure FrameOk (C : Cx) (h : Heap) (μ : Mem) (env : Env) (ρ : Str → Option D) : Prop where
 kind : env.scope.kind = .function
 globals : env.globals = mainGlobals
 builtins : env.builtins = builtinsNs
 free : μ env.locals = none ∧ C.h0.get? env.locals = none
 ns : ∃ m, h.Ns env.locals m ∧ ∀ x d, ρ x = some d →
  (env.kindOf x = some .local ∧ ∃ v, m x = some v ∧ Rep C.B h v d) ∨
  ((env.kindOf x = some .cell ∨ env.kindOf x = some .free) ∧ ∃ c v, env.cells.lookup x = some c ∧ h.IsCell c (some v) ∧ Rep C.B h v d)
 cells : ∀ x c, env.cells.lookup x = some c → μ c = none ∧ C.h0.get? c = none ∧ c ≠ env.locals ∧ ∃ v, h.IsCell c v
 inj : ∀ x y c, env.cells.lookup x = some c → env.cells.lookup y = some c → x = y
theorem FrameOk.step {s s' : Shared} {μ μ' : Mem} {env : Env} {ρ : Str → Option D} (F : FrameOk C s.heap μ env ρ) (x : Step s μ s' μ') (k : Ok C s μ) : FrameOk C s'.heap μ' env ρ := by
 obtain ⟨m, hn, hv⟩ := F.ns
 obtain ⟨o, es, ep, ho, r⟩ := id hn
 obtain ⟨f1, f2⟩ := x.keep _ _ ho F.free.1
 have cl : ∀ x c v, env.cells.lookup x = some c → s.heap.IsCell c v → μ' c = none ∧ s'.heap.IsCell c v := fun y c v hy hc => by
  obtain ⟨oc, hoc, hd⟩ := hc
  obtain ⟨a, b⟩ := x.keep c oc hoc (F.cells y c hy).1
  exact ⟨a, oc, b, hd⟩
 refine ⟨F.kind, F.globals, F.builtins, ⟨f1, F.free.2⟩, ⟨m, ⟨o, es, ep, f2, r⟩, fun y d hy => ?_⟩, fun y c hy => ?_, F.inj⟩
 · rcases hv y d hy with ⟨h1, v, h2, h3⟩ | ⟨h1, c, v, h2, h3, h4⟩
   · exact .inl ⟨h1, v, h2, x.rep k h3⟩
   · exact .inr ⟨h1, c, v, h2, (cl y c _ h2 h3).2, x.rep k h4⟩
 · obtain ⟨_, g, n, v, hc⟩ := F.cells y c hy
   obtain ⟨a, b⟩ := cl y c v hy hc
   exact ⟨a, g, n, v, b⟩
end
structure Br (b : Bool) (P Q : Prop) : Prop where
 t : b = true → P
 f : b = false → Q
structure Br' (b : Bool) (Q P : Prop) : Prop where
 f : b = false → Q
 t : b = true → P
noncomputable def Sub (μ μ' : Mem) : Prop := ∀ a mo, μ a = some mo → μ' a = some mo
inductive Fg (P : Mem → Prop) (μ' : Mem) : Prop
 | mk (μ3 : Mem) (s : Sub μ3 μ') (p : P μ3)
inductive Pv (C : Cx) (s : Shared) (μ : Mem) (Q : D → Mem → Prop) (v : Value) (s' : Shared) : Prop
 | mk (d : D) (μ' : Mem) (r : Rep C.B s'.heap v d) (k : Ok C s' μ') (t : Step s μ s' μ') (q : Q d μ')
inductive Pl (C : Cx) (s : Shared) (μ : Mem) (Q : List D → Mem → Prop) (v : List Value) (s' : Shared) : Prop
 | mk (d : List D) (μ' : Mem) (r : RepAll C.B s'.heap v d) (k : Ok C s' μ') (t : Step s μ s' μ') (q : Q d μ')
inductive Pb (C : Cx) (s : Shared) (μ : Mem) (Q : Bool → Mem → Prop) (b : Bool) (s' : Shared) : Prop
 | mk (μ' : Mem) (k : Ok C s' μ') (t : Step s μ s' μ') (q : Q b μ')
noncomputable abbrev No (_ : Value) (_ : Shared) : Prop := False
noncomputable def Ev (C : Cx) (A : Around) (env : Env) (t : Sem Value) (ρ : Str → Option D) (μ : Mem) (Q : D → Mem → Prop) : Prop :=
 ∀ s, Ok C s μ → FrameOk C s.heap μ env ρ → wpAny (model C.prog C.w) A t (Pv C s μ Q) No s
noncomputable def Es (C : Cx) (A : Around) (env : Env) (t : Sem (List Value)) (ρ : Str → Option D) (μ : Mem) (Q : List D → Mem → Prop) : Prop :=
 ∀ s, Ok C s μ → FrameOk C s.heap μ env ρ → wpAny (model C.prog C.w) A t (Pl C s μ Q) No s
noncomputable def Et (C : Cx) (A : Around) (env : Env) (t : Sem Bool) (ρ : Str → Option D) (μ : Mem) (Q : Bool → Mem → Prop) : Prop :=
 ∀ s, Ok C s μ → FrameOk C s.heap μ env ρ → wpAny (model C.prog C.w) A t (Pb C s μ Q) No s
noncomputable def Bin (C : Cx) (A : Around) (op : Operator) (a b : D) (μ : Mem) (Q : D → Mem → Prop) : Prop :=
 ∀ s va vb, Ok C s μ → Rep C.B s.heap va a → Rep C.B s.heap vb b → wpAny (model C.prog C.w) A (binaryOp op va vb) (Pv C s μ Q) No s
noncomputable def Cmp (C : Cx) (A : Around) (op : CmpOp) (a b : D) (μ : Mem) (Q : D → Mem → Prop) : Prop :=
 ∀ s va vb, Ok C s μ → Rep C.B s.heap va a → Rep C.B s.heap vb b → wpAny (model C.prog C.w) A (compareOp op va vb) (Pv C s μ Q) No s
noncomputable def Una (C : Cx) (A : Around) (op : UnaryOp) (a : D) (μ : Mem) (Q : D → Mem → Prop) : Prop :=
 ∀ s va, Ok C s μ → Rep C.B s.heap va a → wpAny (model C.prog C.w) A (unaryOp op va) (Pv C s μ Q) No s
noncomputable def Tru (C : Cx) (A : Around) (a : D) (μ : Mem) (Q : Bool → Mem → Prop) : Prop :=
 ∀ s va, Ok C s μ → Rep C.B s.heap va a → wpAny (model C.prog C.w) A (truthy va) (Pb C s μ Q) No s
noncomputable def Get (C : Cx) (A : Around) (a i : D) (μ : Mem) (Q : D → Mem → Prop) : Prop :=
 ∀ s va vi, Ok C s μ → Rep C.B s.heap va a → Rep C.B s.heap vi i → ∃ T id, s.TypeIs va T ∧ typeLookup (.type T) "__getitem__" = pure (some (.builtin id)) ∧ wpAny (model C.prog C.w) A (getItem va vi) (Pv C s μ Q) No s
noncomputable def Call (C : Cx) (A : Around) (f : Value) (ds : List D) (μ : Mem) (Q : D → Mem → Prop) : Prop :=
 ∀ s vs, Ok C s μ → RepAll C.B s.heap vs ds → wpAny (model C.prog C.w) A (call f vs) (Pv C s μ Q) No s
/-! what stands behind a part -/
@[reducible] noncomputable def BinQ (C : Cx) (A : Around) (op : Operator) (Q : D → Mem → Prop) (a b : D) (μ : Mem) : Prop := Bin C A op a b μ Q
@[reducible] noncomputable def CmpQ (C : Cx) (A : Around) (op : CmpOp) (Q : D → Mem → Prop) (a b : D) (μ : Mem) : Prop := Cmp C A op a b μ Q
@[reducible] noncomputable def GetQ (C : Cx) (A : Around) (Q : D → Mem → Prop) (a b : D) (μ : Mem) : Prop := Get C A a b μ Q
@[reducible] noncomputable def UnaQ (C : Cx) (A : Around) (op : UnaryOp) (Q : D → Mem → Prop) (a : D) (μ : Mem) : Prop := Una C A op a μ Q
@[reducible] noncomputable def TruQ (C : Cx) (A : Around) (Q : Bool → Mem → Prop) (a : D) (μ : Mem) : Prop := Tru C A a μ Q
@[reducible] noncomputable def EvQ (C : Cx) (A : Around) (env : Env) (e : Expr) (ρ : Str → Option D) (K : D → D → Mem → Prop) (a : D) (μ : Mem) : Prop := Ev C A env (eval e env) ρ μ (K a)
@[reducible] noncomputable def ConsK (Q : List D → Mem → Prop) (d : D) (ds : List D) (μ : Mem) : Prop := Q (d :: ds) μ
@[reducible] noncomputable def ConsQ (C : Cx) (A : Around) (env : Env) (l : List Expr) (pos : Pos) (ρ : Str → Option D) (Q : List D → Mem → Prop) (d : D) (μ : Mem) : Prop := Es C A env (spliced (backTo pos (starEach l env))) ρ μ (ConsK Q d)
@[reducible] noncomputable def TupQ (Q : D → Mem → Prop) (ds : List D) (μ : Mem) : Prop := ds.length ≤ sizeLine ∧ Q (.tup ds) μ
@[reducible] noncomputable def LstQ (Q : D → Mem → Prop) (ds : List D) (μ : Mem) : Prop := ds.length ≤ sizeLine ∧ ∀ a, μ a = none → Q (.raw (.ref a)) (upd μ a (.list ds))
@[reducible] noncomputable def NotQ (Q : Bool → Mem → Prop) (b : Bool) (μ : Mem) : Prop := Q (!b) μ
@[reducible] noncomputable def AndT (C : Cx) (A : Around) (env : Env) (y : Expr) (ρ : Str → Option D) (Q : Bool → Mem → Prop) (b : Bool) (μ : Mem) : Prop := Br b (Et C A env (isTrue y env (eval y env)) ρ μ Q) (Q false μ)
@[reducible] noncomputable def OrT (C : Cx) (A : Around) (env : Env) (y : Expr) (ρ : Str → Option D) (Q : Bool → Mem → Prop) (b : Bool) (μ : Mem) : Prop := Br' b (Et C A env (isTrue y env (eval y env)) ρ μ Q) (Q true μ)
@[reducible] noncomputable def IfQ (C : Cx) (A : Around) (env : Env) (x y : Expr) (ρ : Str → Option D) (Q : D → Mem → Prop) (b : Bool) (μ : Mem) : Prop := Br b (Ev C A env (eval x env) ρ μ Q) (Ev C A env (eval y env) ρ μ Q)
@[reducible] noncomputable def OrQ2 (C : Cx) (A : Around) (env : Env) (y : Expr) (ρ : Str → Option D) (Q : D → Mem → Prop) (d : D) (b : Bool) (μ : Mem) : Prop := Br b (Q d μ) (Ev C A env (eval y env) ρ μ Q)
@[reducible] noncomputable def OrQ (C : Cx) (A : Around) (env : Env) (y : Expr) (ρ : Str → Option D) (Q : D → Mem → Prop) (d : D) (μ : Mem) : Prop := Tru C A d μ (OrQ2 C A env y ρ Q d)
@[reducible] noncomputable def AndQ2 (C : Cx) (A : Around) (env : Env) (y : Expr) (ρ : Str → Option D) (Q : D → Mem → Prop) (d : D) (b : Bool) (μ : Mem) : Prop := Br' b (Q d μ) (Ev C A env (eval y env) ρ μ Q)
@[reducible] noncomputable def AndQ (C : Cx) (A : Around) (env : Env) (y : Expr) (ρ : Str → Option D) (Q : D → Mem → Prop) (d : D) (μ : Mem) : Prop := Tru C A d μ (AndQ2 C A env y ρ Q d)
section
variable {C : Cx} {A : Around} {env : Env} {ρ : Str → Option D} {μ : Mem} {Q : D → Mem → Prop}
theorem Pv.after {s s1 : Shared} {μ1 : Mem} {Q Q' : D → Mem → Prop} (t : Step s μ s1 μ1) (q : ∀ d μ', Q d μ' → Q' d μ') (v : Value) (s' : Shared) : Pv C s1 μ1 Q v s' → Pv C s μ Q' v s' :=
 fun ⟨d, μ', r, k, t', h⟩ => ⟨d, μ', r, k, t.trans t', q _ _ h⟩
theorem Pb.after {s s1 : Shared} {μ1 : Mem} {Q Q' : Bool → Mem → Prop} (t : Step s μ s1 μ1) (q : ∀ d μ', Q d μ' → Q' d μ') (v : Bool) (s' : Shared) : Pb C s1 μ1 Q v s' → Pb C s μ Q' v s' :=
 fun ⟨μ', k, t', h⟩ => ⟨μ', k, t.trans t', q _ _ h⟩
theorem Ev.mono {t : Sem Value} {Q' : D → Mem → Prop} (h : Ev C A env t ρ μ Q) (q : ∀ d μ', Q d μ' → Q' d μ') : Ev C A env t ρ μ Q' :=
 fun s k F => wpAny_mono (h s k F) (Pv.after (.refl _ _) q) fun _ _ x => x
theorem Call.mono {f : Value} {ds : List D} {Q' : D → Mem → Prop} (h : Call C A f ds μ Q) (q : ∀ d μ', Q d μ' → Q' d μ') : Call C A f ds μ Q' :=
 fun s vs k r => wpAny_mono (h s vs k r) (Pv.after (.refl _ _) q) fun _ _ x => x
theorem Ok.toks {s : Shared} (k : Ok C s μ) (t : Nat) : Ok C { s with toks := t } μ := ⟨k.mem, k.base, k.ban⟩
theorem Ev.cint {i : Int} {k : Nat} {pos : Pos} (h : Q (.int i) μ) : Ev C A env (eval (.Constant (.int i) k pos) env) ρ μ Q :=
 fun s o _ => wpAny_Constant_int ⟨_, μ, .int i _, o.toks _, .toks _, h⟩
theorem Ev.cstr {x : Str} {k : Nat} {pos : Pos} (h : Q (.str x) μ) : Ev C A env (eval (.Constant (.str x) k pos) env) ρ μ Q :=
 fun s o _ => wpAny_Constant_str ⟨_, μ, .str x _, o.toks _, .toks _, h⟩
theorem Ev.cbool {b : Bool} {k : Nat} {pos : Pos} (h : Q (.bool b) μ) : Ev C A env (eval (.Constant (.bool b) k pos) env) ρ μ Q :=
 fun s o _ => wpAny_Constant_bool ⟨_, μ, .bool b, o, .refl _ _, h⟩
theorem Ev.cnone {k : Nat} {pos : Pos} (h : Q .none μ) : Ev C A env (eval (.Constant .none k pos) env) ρ μ Q :=
 fun s o _ => wpAny_Constant_none ⟨_, μ, .none, o, .refl _ _, h⟩
theorem Ev.name {x : Str} {pos : Pos} {d : D} (hx : ρ x = some d) (h : Q d μ) (hd : (x == ("__debug__" : Str)) = false := by decide) (hc : (x == ("__classdict__" : Str)) = false := by decide) : Ev C A env (eval (.Name x pos) env) ρ μ Q := by
 intro s o F
 obtain ⟨m, hn, hv⟩ := F.ns
 rcases hv x d hx with ⟨h1, v, h2, h3⟩ | ⟨h1, c, v, h2, h3, h4⟩
 · exact wpAny_Name (wpAny_loadName_local F.kind h1 hn h2 ⟨d, μ, h3, o, .refl _ _, h⟩) hd
 · rcases h1 with h1 | h1
   · exact wpAny_Name (wpAny_loadName_cell F.kind h1 h2 h3 ⟨d, μ, h4, o, .refl _ _, h⟩) hd
   · exact wpAny_Name (wpAny_loadName_free F.kind h1 h2 h3 ⟨d, μ, h4, o, .refl _ _, h⟩ hc) hd
theorem Ev.binop {l r : Expr} {op : Operator} {pos : Pos} (h : Ev C A env (eval l env) ρ μ (EvQ C A env r ρ (BinQ C A op Q))) :
 Ev C A env (eval (.BinOp l op r pos) env) ρ μ Q := by
 intro s k F
 refine wpAny_BinOp (wpAny_mono (h s k F) ?_ fun _ _ x => x)
 rintro v1 s1 ⟨d1, μ1, r1, k1, t1, h1⟩
 refine wpAny_mono (h1 s1 k1 (F.step t1 k)) ?_ fun _ _ x => x
 rintro v2 s2 ⟨d2, μ2, r2, k2, t2, h2⟩
 exact wpAny_mono (h2 s2 v1 v2 k2 (t2.rep k1 r1) r2) (Pv.after (t1.trans t2) fun _ _ x => x) fun _ _ x => x
theorem Ev.unop {x : Expr} {op : UnaryOp} {pos : Pos} (h : Ev C A env (eval x env) ρ μ (UnaQ C A op Q)) : Ev C A env (eval (.UnaryOp op x pos) env) ρ μ Q := by
 intro s k F
 refine wpAny_UnaryOp (wpAny_mono (h s k F) ?_ fun _ _ x => x)
 rintro v1 s1 ⟨d1, μ1, r1, k1, t1, h1⟩
 exact wpAny_mono (h1 s1 v1 k1 r1) (Pv.after t1 fun _ _ x => x) fun _ _ x => x
theorem Ev.cmp {l r : Expr} {op : CmpOp} {pos : Pos} (h : Ev C A env (eval l env) ρ μ (EvQ C A env r ρ (CmpQ C A op Q)))
 (hm : behindInMarks op r = false := by with_unfolding_all rfl) :
 Ev C A env (eval (.Compare l [op] [r] pos) env) ρ μ Q := by
 intro s k F
 refine wpAny_Compare1 (wpAny_mono (h s k F) ?_ fun _ _ x => x) hm
 rintro v1 s1 ⟨d1, μ1, r1, k1, t1, h1⟩
 refine wpAny_mono (h1 s1 k1 (F.step t1 k)) ?_ fun _ _ x => x
 rintro v2 s2 ⟨d2, μ2, r2, k2, t2, h2⟩
 exact wpAny_mono (h2 s2 v1 v2 k2 (t2.rep k1 r1) r2) (Pv.after (t1.trans t2) fun _ _ x => x) fun _ _ x => x
theorem Es.nil {pos : Pos} {Q : List D → Mem → Prop} (h : Q [] μ) : Es C A env (spliced (backTo pos (starEach [] env))) ρ μ Q :=
 fun s k _ => wpAny_items_nil ⟨_, μ, .nil, k, .refl _ _, h⟩
theorem Es.cons {pos : Pos} {e : Expr} {rest : List Expr} {Q : List D → Mem → Prop}
 (h : Ev C A env (eval e env) ρ μ (ConsQ C A env rest pos ρ Q))
 (he : starEach (e :: rest) env = (false, eval e env) :: starEach rest env := by rfl) : Es C A env (spliced (backTo pos (starEach (e :: rest) env))) ρ μ Q := by
 intro s k F
 refine wpAny_items_cons (wpAny_mono (h s k F) ?_ fun _ _ x => x) he
 rintro v1 s1 ⟨d1, μ1, r1, k1, t1, h1⟩
 refine wpAny_mono (h1 s1 k1 (F.step t1 k)) ?_ fun _ _ x => x
 rintro v2 s2 ⟨d2, μ2, r2, k2, t2, h2⟩
 exact ⟨_, μ2, .cons (t2.rep k1 r1) r2, k2, t1.trans t2, h2⟩
theorem Ok.push  {s : Shared} (k : Ok C s μ) (o : Obj) : Ok C { s with heap := s.heap.push o } μ := by
 have kp : ∀ b ob, s.heap.get? b = some ob → (s.heap.push o).get? b = some ob := fun b ob e => Heap.get?_push_of_some _ e
 refine ⟨fun a mo e => ?_, fun b ob e => ⟨(k.base b ob e).1, kp _ _ (k.base b ob e).2⟩, fun b e => ⟨(k.ban b e).1, let ⟨o, ho⟩ := (k.ban b e).2; ⟨o, kp _ _ ho⟩⟩⟩
 have := k.mem a mo e
 cases mo with
 | list xs => obtain ⟨vs, n, h1, h2⟩ := this; exact ⟨vs, n, kp _ _ h1, h2.mono fun a vs n _ t => kp _ _ t⟩
 | inst C dx => exact kp _ _ this
 | attrs f m => obtain ⟨vs, n, h1, h2⟩ := this; exact ⟨vs, n, kp _ _ h1, h2⟩
 | dict f ps => obtain ⟨vs, n, h1, h2⟩ := this; exact ⟨vs, n, kp _ _ h1, h2.mono fun v d r => r.mono fun a vs n _ t => kp _ _ t⟩
 | obj P => obtain ⟨o, h1, h2⟩ := this; exact ⟨o, kp _ _ h1, h2⟩
theorem Step.push {s : Shared} (k : Ok C s μ) (o : Obj) : Step s μ { s with heap := s.heap.push o } μ := ⟨rfl, fun _ _ h1 h2 => ⟨h2, Heap.get?_push_of_some _ h1⟩⟩
theorem Ok.noBan {s : Shared} (k : Ok C s μ) : ¬ C.B s.heap.objs.size := fun e => let ⟨_, ho⟩ := (k.ban _ e).2; Nat.lt_irrefl _ (Heap.lt_size ho)
theorem Ev.tuple {elts : List Expr} {j : Nat} {pos : Pos} (h : Es C A env (spliced (backTo pos (starEach elts env))) ρ μ (TupQ Q)) : Ev C A env (eval (.Tuple elts j pos) env) ρ μ Q := by
 intro s k F
 refine wpAny_Tuple_spliced (wpAny_mono (h s k F) ?_ fun _ _ x => x)
 rintro vs s1 ⟨ds, μ1, r1, k1, t1, h0, h1⟩
 refine ⟨r1.length ▸ h0, _, μ1, .tup (n := 0) k1.noBan (Heap.get?_push_size _ rfl) (r1.mono fun a vs n _ t => Heap.get?_push_of_some _ t), k1.push _, t1.trans (Step.push k1 _), h1⟩
theorem Ok.new  {s : Shared} (k : Ok C s μ) {o : Obj} {mo : MO} (hm : MemOk C.B (s.heap.push o) s.heap.objs.size mo) : Ok C { s with heap := s.heap.push o } (upd μ s.heap.objs.size mo) := by
 have k' := k.push o
 refine ⟨fun a mo' e => ?_, fun b ob e => ⟨?_, (k'.base b ob e).2⟩, fun b e => ⟨?_, (k'.ban b e).2⟩⟩
 · unfold upd at e
   split at e
   · rename_i q; cases e; subst q; exact hm
   · exact k'.mem a mo' e
 · unfold upd
   rw [if_neg (Nat.ne_of_lt (Heap.lt_size (k.base b ob e).2))]
   exact (k.base b ob e).1
 · obtain ⟨h1, o', ho'⟩ := k.ban b e
   unfold upd
   rw [if_neg (Nat.ne_of_lt (Heap.lt_size ho'))]
   exact h1
theorem Step.new {s : Shared} {o : Obj} {mo : MO} : Step s μ { s with heap := s.heap.push o } (upd μ s.heap.objs.size mo) :=
 ⟨rfl, fun b _ h1 h2 => ⟨by unfold upd; rw [if_neg (Nat.ne_of_lt (Heap.lt_size h1))]; exact h2, Heap.get?_push_of_some _ h1⟩⟩
theorem Ok.fresh  {s : Shared} (k : Ok C s μ) : μ s.heap.objs.size = none := by
 cases e : μ s.heap.objs.size with
 | none => rfl
 | some mo =>
  have := k.mem _ _ e
  have lt : ∀ o, s.heap.get? s.heap.objs.size = some o → False := fun o e => Nat.lt_irrefl _ (Heap.lt_size e)
  cases mo with
  | list xs => obtain ⟨vs, n, h1, _⟩ := this; exact (lt _ h1).elim
  | inst C dx => exact (lt _ this).elim
  | attrs f m => obtain ⟨vs, n, h1, _⟩ := this; exact (lt _ h1).elim
  | dict f ps => obtain ⟨vs, n, h1, _⟩ := this; exact (lt _ h1).elim
  | obj P => obtain ⟨vs, h1, _⟩ := this; exact (lt _ h1).elim
theorem Ev.list {elts : List Expr} {pos : Pos} (h : Es C A env (spliced (backTo pos (starEach elts env))) ρ μ (LstQ Q)) : Ev C A env (eval (.List elts pos) env) ρ μ Q := by
 intro s k F
 refine wpAny_List_spliced (wpAny_mono (h s k F) ?_ fun _ _ x => x)
 rintro vs s1 ⟨ds, μ1, r1, k1, t1, h0, h1⟩
 exact ⟨r1.length ▸ h0, _, _, .raw _, k1.new (mo := .list ds) ⟨vs, 0, Heap.get?_push_size _ rfl, r1.mono fun a vs n _ t => Heap.get?_push_of_some _ t⟩, t1.trans Step.new, h1 _ k1.fresh⟩
theorem Et.cmp {l r : Expr} {op : CmpOp} {pos : Pos} {Q : Bool → Mem → Prop} {whole : Sem Value} (h : Ev C A env (eval l env) ρ μ (EvQ C A env r ρ (CmpQ C A op (TruQ C A Q))))
 (hm : behindInMarks op r = false := by with_unfolding_all rfl) :
 Et C A env (isTrue (.Compare l [op] [r] pos) env whole) ρ μ Q := by
 intro s k F
 refine wpAny_isTrue_Compare1 (wpAny_mono (h s k F) ?_ fun _ _ x => x) hm
 rintro v1 s1 ⟨d1, μ1, r1, k1, t1, h1⟩
 refine wpAny_mono (h1 s1 k1 (F.step t1 k)) ?_ fun _ _ x => x
 rintro v2 s2 ⟨d2, μ2, r2, k2, t2, h2⟩
 refine wpAny_mono (h2 s2 v1 v2 k2 (t2.rep k1 r1) r2) ?_ fun _ _ x => x
 rintro v3 s3 ⟨d3, μ3, r3, k3, t3, h3⟩
 exact wpAny_mono (h3 s3 v3 k3 r3) (Pb.after ((t1.trans t2).trans t3) fun _ _ x => x) fun _ _ x => x
theorem Et.not {x : Expr} {pos : Pos} {Q : Bool → Mem → Prop} {whole : Sem Value} (h : Et C A env (isTrue x env (eval x env)) ρ μ (NotQ Q)) : Et C A env (isTrue (.UnaryOp .Not x pos) env whole) ρ μ Q :=
 fun s k F => wpAny_isTrue_Not (wpAny_mono (h s k F) (fun _ _ ⟨μ', k', t, q⟩ => ⟨μ', k', t, q⟩) fun _ _ x => x)
theorem Et.value {e : Expr} {Q : Bool → Mem → Prop} {whole : Sem Value} (h : Ev C A env whole ρ μ (TruQ C A Q))
 (he : isTrue e env whole = (do let v ← whole; standAt e.pos; holding [v] (truthy v)) := by rfl) : Et C A env (isTrue e env whole) ρ μ Q := by
 intro s k F
 refine wpAny_isTrue_value (wpAny_mono (h s k F) ?_ fun _ _ x => x) he
 rintro v1 s1 ⟨d1, μ1, r1, k1, t1, h1⟩
 exact wpAny_mono (h1 s1 v1 k1 r1) (Pb.after t1 fun _ _ x => x) fun _ _ x => x
theorem Et.and2 {x y : Expr} {pos : Pos} {Q : Bool → Mem → Prop} {whole : Sem Value}
 (h : Et C A env (isTrue x env (eval x env)) ρ μ (AndT C A env y ρ Q)) : Et C A env (isTrue (.BoolOp .And [x, y] pos) env whole) ρ μ Q := by
 intro s k F
 refine wpAny_isTrue_BoolOp (wpAny_allTrue_And_cons (wpAny_mono (h s k F) ?_ fun _ _ x => x))
 rintro b s1 ⟨μ1, k1, t1, h1, h2⟩
 cases b with
 | false => exact ⟨μ1, k1, t1, h2 rfl⟩
 | true =>
  refine wpAny_allTrue_And_cons (wpAny_mono (h1 rfl s1 k1 (F.step t1 k)) ?_ fun _ _ x => x)
  rintro c s2 ⟨μ2, k2, t2, h3⟩
  cases c with
  | false => exact ⟨μ2, k2, t1.trans t2, h3⟩
  | true => exact wpAny_allTrue_And_nil ⟨μ2, k2, t1.trans t2, h3⟩
theorem Et.or2 {x y : Expr} {pos : Pos} {Q : Bool → Mem → Prop} {whole : Sem Value}
 (h : Et C A env (isTrue x env (eval x env)) ρ μ (OrT C A env y ρ Q)) : Et C A env (isTrue (.BoolOp .Or [x, y] pos) env whole) ρ μ Q := by
 intro s k F
 refine wpAny_isTrue_BoolOp (wpAny_allTrue_Or_cons (wpAny_mono (h s k F) ?_ fun _ _ x => x))
 rintro b s1 ⟨μ1, k1, t1, h1, h2⟩
 cases b with
 | true => exact ⟨μ1, k1, t1, h2 rfl⟩
 | false =>
  refine wpAny_allTrue_Or_cons (wpAny_mono (h1 rfl s1 k1 (F.step t1 k)) ?_ fun _ _ x => x)
  rintro c s2 ⟨μ2, k2, t2, h3⟩
  cases c with
  | true => exact ⟨μ2, k2, t1.trans t2, h3⟩
  | false => exact wpAny_allTrue_Or_nil ⟨μ2, k2, t1.trans t2, h3⟩
theorem Ev.ifexp {test body orelse : Expr} {pos : Pos} (h : Et C A env (isTrue test env (eval test env)) ρ μ (IfQ C A env body orelse ρ Q)) :
 Ev C A env (eval (.IfExp test body orelse pos) env) ρ μ Q := by
 intro s k F
 refine wpAny_IfExp (wpAny_mono (h s k F) ?_ fun _ _ x => x)
 rintro b s1 ⟨μ1, k1, t1, h1, h2⟩
 cases b with
 | false => exact wpAny_mono (h2 rfl s1 k1 (F.step t1 k)) (Pv.after t1 fun _ _ x => x) fun _ _ x => x
 | true => exact wpAny_mono (h1 rfl s1 k1 (F.step t1 k)) (Pv.after t1 fun _ _ x => x) fun _ _ x => x
theorem Ev.or2 {x y : Expr} {pos : Pos} (h : Ev C A env (eval x env) ρ μ (OrQ C A env y ρ Q)) : Ev C A env (eval (.BoolOp .Or [x, y] pos) env) ρ μ Q := by
 intro s k F
 refine wpAny_Or2 (wpAny_mono (h s k F) ?_ fun _ _ x => x)
 rintro v s1 ⟨d, μ1, r1, k1, t1, h1⟩
 refine wpAny_mono (h1 s1 v k1 r1) ?_ fun _ _ x => x
 rintro b s2 ⟨μ2, k2, t2, h2, h3⟩
 cases b with
 | true => exact ⟨d, μ2, t2.rep k1 r1, k2, t1.trans t2, h2 rfl⟩
 | false => exact wpAny_mono (h3 rfl s2 k2 (F.step (t1.trans t2) k)) (Pv.after (t1.trans t2) fun _ _ x => x) fun _ _ x => x
theorem Ev.and2 {x y : Expr} {pos : Pos} (h : Ev C A env (eval x env) ρ μ (AndQ C A env y ρ Q)) : Ev C A env (eval (.BoolOp .And [x, y] pos) env) ρ μ Q := by
 intro s k F
 refine wpAny_And2 (wpAny_mono (h s k F) ?_ fun _ _ x => x)
 rintro v s1 ⟨d, μ1, r1, k1, t1, h1⟩
 refine wpAny_mono (h1 s1 v k1 r1) ?_ fun _ _ x => x
 rintro b s2 ⟨μ2, k2, t2, h2, h3⟩
 cases b with
 | false => exact ⟨d, μ2, t2.rep k1 r1, k2, t1.trans t2, h2 rfl⟩
 | true => exact wpAny_mono (h3 rfl s2 k2 (F.step (t1.trans t2) k)) (Pv.after (t1.trans t2) fun _ _ x => x) fun _ _ x => x
theorem Ev.sub {value slice : Expr} {pos : Pos} (h : Ev C A env (eval value env) ρ μ (EvQ C A env slice ρ (GetQ C A Q)))
 (hs : ∀ o i, ∃ l, subscripted slice false o i = operate l (getItem o i) := by intro _ _; exact ⟨_, rfl⟩) : Ev C A env (eval (.Subscript value slice pos) env) ρ μ Q := by
 intro s k F
 rw [eval_Subscript]
 refine wpAny_bind (wpAny_mono (h s k F) ?_ fun _ _ x => x)
 rintro v1 s1 ⟨d1, μ1, r1, k1, t1, h1⟩
 refine wpAny_bind (wpAny_holding (wpAny_mono (h1 s1 k1 (F.step t1 k)) ?_ fun _ _ x => x))
 rintro v2 s2 ⟨d2, μ2, r2, k2, t2, h2⟩
 refine wpAny_bind (wpAny_standAt ?_)
 obtain ⟨T, id, hT, hl, hg⟩ := h2 s2 v1 v2 k2 (t2.rep k1 r1) r2
 refine wpAny_bind ?_
 rw [getitemInPython_of_ne hT.not_modules]
 refine wpAny_bind (wpAny_specialOf hT hl ?_)
 refine wpAny_pure (wpAny_bind ?_)
 obtain ⟨l, e⟩ := hs v1 v2
 rw [e]
 refine wpAny_operating (wpAny_mono hg ?_ fun _ _ x => x)
 rintro v3 s3 ⟨d3, μ3, r3, k3, t3, h3⟩
 exact wpAny_bind (wpAny_letTemporaryGo (wpAny_pure ⟨d3, μ3, r3, k3, (t1.trans t2).trans t3, h3⟩))
end
/-! statements -/
inductive Out where
 | next | brk | cont
 | ret (d : D)
inductive OutRep (B : Addr → Prop) (h : Heap) : Flow → Out → Prop
 | next : OutRep B h .next .next
 | brk : OutRep B h .brk .brk
 | cont : OutRep B h .cont .cont
 | ret {v : Value} {d : D} : Rep B h v d → OutRep B h (.ret v) (.ret d)
noncomputable def Own (env : Env) (b : Addr) : Prop := b = env.locals ∨ ∃ x, env.cells.lookup x = some b
structure StepF (env : Env) (s : Shared) (μ : Mem) (s' : Shared) (μ' : Mem) : Prop where
 eq : s' = { s with heap := s'.heap, toks := s'.toks }
 keep : ∀ b o, s.heap.get? b = some o → μ b = none → ¬ Own env b → μ' b = none ∧ s'.heap.get? b = some o
theorem StepF.refl (env : Env) (s : Shared) (μ : Mem) : StepF env s μ s μ := ⟨rfl, fun _ _ h1 h2 _ => ⟨h2, h1⟩⟩
theorem Step.f {s s' : Shared} {μ μ' : Mem} (env : Env) (x : Step s μ s' μ') : StepF env s μ s' μ' := ⟨x.eq, fun b o h1 h2 _ => x.keep b o h1 h2⟩
theorem StepF.trans {env : Env} {s s1 s2 : Shared} {μ μ1 μ2 : Mem} (x : StepF env s μ s1 μ1) (y : StepF env s1 μ1 s2 μ2) : StepF env s μ s2 μ2 := by
 refine ⟨?_, fun b o h1 h2 h3 => ?_⟩
 · rw [y.eq, x.eq]
 · obtain ⟨a, c⟩ := x.keep b o h1 h2 h3
   exact y.keep b o c a h3
noncomputable abbrev Xp := Addr → Shared → (Str → Option D) → Mem → Prop
noncomputable abbrev noX : Xp := fun _ _ _ _ => False
inductive Px (C : Cx) (env : Env) (s : Shared) (μ : Mem) (Q : Out → (Str → Option D) → Mem → Prop) (f : Flow) (s' : Shared) : Prop
 | mk (o : Out) (ρ' : Str → Option D) (μ' : Mem) (r : OutRep C.B s'.heap f o) (k : Ok C s' μ') (F : FrameOk C s'.heap μ' env ρ') (t : StepF env s μ s' μ') (q : Q o ρ' μ')
inductive PE (C : Cx) (env : Env) (s : Shared) (μ : Mem) (X : Xp) (e : Value) (s' : Shared) : Prop
 | mk (a : Addr) (ρ' : Str → Option D) (μ' : Mem) (e' : e = .ref a) (k : Ok C s' μ') (F : FrameOk C s'.heap μ' env ρ') (t : StepF env s μ s' μ') (q : X a s' ρ' μ')
inductive Pu (C : Cx) (env : Env) (s : Shared) (μ : Mem) (Q : (Str → Option D) → Mem → Prop) (s' : Shared) : Prop
 | mk (ρ' : Str → Option D) (μ' : Mem) (k : Ok C s' μ') (F : FrameOk C s'.heap μ' env ρ') (t : StepF env s μ s' μ') (q : Q ρ' μ')
noncomputable def Ex (C : Cx) (A : Around) (env : Env) (t : Sem Flow) (ρ : Str → Option D) (μ : Mem) (Q : Out → (Str → Option D) → Mem → Prop) (X : Xp) : Prop :=
 ∀ s, Ok C s μ → FrameOk C s.heap μ env ρ → wpAny (model C.prog C.w) A t (Px C env s μ Q) (PE C env s μ X) s
@[reducible] noncomputable def SeqQ (C : Cx) (A : Around) (env : Env) (rest : List Stmt) (Q : Out → (Str → Option D) → Mem → Prop) (X : Xp) : Out → (Str → Option D) → Mem → Prop
 | .next => fun ρ μ => Ex C A env (execs rest env) ρ μ Q X
 | .brk => Q .brk
 | .cont => Q .cont
 | .ret d => Q (.ret d)
@[reducible] noncomputable def IteQ (C : Cx) (A : Around) (env : Env) (x y : List Stmt) (ρ : Str → Option D) (Q : Out → (Str → Option D) → Mem → Prop) (X : Xp) (b : Bool) (μ : Mem) : Prop := Br b (Ex C A env (execs x env) ρ μ Q X) (Ex C A env (execs y env) ρ μ Q X)
@[reducible] noncomputable def RetQ (Q : Out → (Str → Option D) → Mem → Prop) (ρ : Str → Option D) (d : D) (μ : Mem) : Prop := Q (.ret d) ρ μ
noncomputable def bnd (ρ : Str → Option D) (x : Str) (d : D) : Str → Option D := fun y => if y = x then some d else ρ y
@[reducible] noncomputable def AsnQ (Q : Out → (Str → Option D) → Mem → Prop) (ρ : Str → Option D) (x : Str) (d : D) (μ : Mem) : Prop := Q .next (bnd ρ x d) μ
section
variable {C : Cx} {A : Around} {env : Env} {ρ : Str → Option D} {μ : Mem} {Q : Out → (Str → Option D) → Mem → Prop} {X : Xp}
theorem FrameOk.notTuple {C : Cx} {h : Heap} (F : FrameOk C h μ env ρ) {a : Addr} {vs : Array Value} {n : Nat} (t : IsT h a vs n) : ¬ Own env a := by
 rintro (e | ⟨x, hx⟩)
 · obtain ⟨m, ⟨o, es, ep, ho, hd, _⟩, _⟩ := F.ns
   rw [← e, t] at ho; cases ho; simp at hd
 · obtain ⟨_, _, _, v, o, ho, hd⟩ := F.cells x a hx
   rw [t] at ho; cases ho; simp at hd
theorem StepF.tuple {s s' : Shared} {μ' : Mem} (x : StepF env s μ s' μ') (k : Ok C s μ) (F : FrameOk C s.heap μ env ρ) (a : Addr) (vs : Array Value) (n : Nat) (t : IsT s.heap a vs n) : IsT s'.heap a vs n := by
 cases e : μ a with
 | none => exact (x.keep a _ t e (F.notTuple t)).2
 | some mo => exact ((k.mem a mo e).notTuple t).elim
theorem StepF.repAll {s s' : Shared} {μ' : Mem} (x : StepF env s μ s' μ') (k : Ok C s μ) (F : FrameOk C s.heap μ env ρ) {vs : List Value} {l : List D} (r : RepAll C.B s.heap vs l) : RepAll C.B s'.heap vs l := r.mono fun a vs n _ t => x.tuple k F a vs n t
theorem Px.after {s s1 : Shared} {μ1 : Mem} {Q' : Out → (Str → Option D) → Mem → Prop} (t : StepF env s μ s1 μ1) (q : ∀ o ρ' μ', Q o ρ' μ' → Q' o ρ' μ') (f : Flow) (s' : Shared) : Px C env s1 μ1 Q f s' → Px C env s μ Q' f s' :=
 fun ⟨o, ρ', μ', r, k, F, t', h⟩ => ⟨o, ρ', μ', r, k, F, t.trans t', q _ _ _ h⟩
theorem PE.after {s s1 : Shared} {μ1 : Mem} {X' : Xp} (t : StepF env s μ s1 μ1) (q : ∀ a s ρ' μ', X a s ρ' μ' → X' a s ρ' μ') (e : Value) (s' : Shared) : PE C env s1 μ1 X e s' → PE C env s μ X' e s' :=
 fun ⟨a, ρ', μ', r, k, F, t', h⟩ => ⟨a, ρ', μ', r, k, F, t.trans t', q _ _ _ _ h⟩
theorem Ex.mono {t : Sem Flow} {Q' : Out → (Str → Option D) → Mem → Prop} (h : Ex C A env t ρ μ Q X) (q : ∀ o ρ' μ', Q o ρ' μ' → Q' o ρ' μ') : Ex C A env t ρ μ Q' X :=
 fun s k F => wpAny_mono (h s k F) (Px.after (.refl _ _ _) q) fun _ _ x => x
theorem Ex.nil (h : Q .next ρ μ) : Ex C A env (execs [] env) ρ μ Q X := fun s k F => wpAny_execs_nil ⟨.next, ρ, μ, .next, k, F, .refl _ _ _, h⟩
theorem Ex.cons {st : Stmt} {rest : List Stmt} (h : Ex C A env (exec st env) ρ μ (SeqQ C A env rest Q X) X) : Ex C A env (execs (st :: rest) env) ρ μ Q X := by
 intro s k F
 refine wpAny_execs_cons (wpAny_mono (h s k F) ?_ fun _ _ x => x)
 rintro f s1 ⟨o, ρ1, μ1, r, k1, F1, t1, h1⟩
 cases r with
 | next => exact wpAny_mono (h1 s1 k1 F1) (Px.after t1 fun _ _ _ x => x) (PE.after t1 fun _ _ _ _ x => x)
 | brk => exact ⟨.brk, ρ1, μ1, .brk, k1, F1, t1, h1⟩
 | cont => exact ⟨.cont, ρ1, μ1, .cont, k1, F1, t1, h1⟩
 | ret r => exact ⟨.ret _, ρ1, μ1, .ret r, k1, F1, t1, h1⟩
theorem Ex.ite {test : Expr} {body orelse : List Stmt} {pos : Pos}
 (h : Et C A env (isTrue test env (eval test env)) ρ μ (IteQ C A env body orelse ρ Q X)) : Ex C A env (exec (.If test body orelse pos) env) ρ μ Q X := by
 intro s k F
 refine wpAny_If (wpAny_mono (h s k F) ?_ fun _ _ x => x.elim)
 rintro b s1 ⟨μ1, k1, t1, h1, h2⟩
 cases b with
 | false => exact wpAny_mono (h2 rfl s1 k1 (F.step t1 k)) (Px.after (t1.f env) fun _ _ _ x => x) (PE.after (t1.f env) fun _ _ _ _ x => x)
 | true => exact wpAny_mono (h1 rfl s1 k1 (F.step t1 k)) (Px.after (t1.f env) fun _ _ _ x => x) (PE.after (t1.f env) fun _ _ _ _ x => x)
theorem Ex.ret {e : Expr} {pos : Pos} (h : Ev C A env (eval e env) ρ μ (RetQ Q ρ)) : Ex C A env (exec (.Return (some e) pos) env) ρ μ Q X := by
 intro s k F
 refine wpAny_Return_some (wpAny_mono (h s k F) ?_ fun _ _ x => x.elim)
 rintro v s1 ⟨d, μ1, r, k1, t1, h1⟩
 exact ⟨.ret d, ρ, μ1, .ret r, k1, F.step t1 k, t1.f env, h1⟩
theorem Ex.cont {pos : Pos} (h : Q .cont ρ μ) : Ex C A env (exec (.Continue pos) env) ρ μ Q X := fun s k F => wpAny_Continue ⟨.cont, ρ, μ, .cont, k, F, .refl _ _ _, h⟩
theorem Ok.own {s : Shared} {h' : Heap} {c : Addr} {t : Nat} (k : Ok C s μ) (hs : Heap.SameBut c s.heap h') (hc : μ c = none ∧ C.h0.get? c = none) (hex : ∃ o, h'.get? c = some o) (hT : ∀ vs n, ¬ IsT s.heap c vs n) : Ok C { s with heap := h', toks := t } μ := by
 have kp : ∀ b o, b ≠ c → s.heap.get? b = some o → h'.get? b = some o := fun b o n e => (hs.2 b n).trans e
 have tp : ∀ a vs n, IsT s.heap a vs n → IsT h' a vs n := fun a vs n t => kp a _ (fun e => hT vs n (e ▸ t)) t
 have ne : ∀ a mo, μ a = some mo → a ≠ c := fun a mo e q => by rw [q, hc.1] at e; cases e
 refine ⟨fun a mo e => ?_, fun b o e => ⟨(k.base b o e).1, kp b o (fun q => by rw [q, hc.2] at e; cases e) (k.base b o e).2⟩, fun b e => ⟨(k.ban b e).1, ?_⟩⟩
 rotate_left
 · obtain ⟨o, ho⟩ := (k.ban b e).2
   by_cases q : b = c
   · rw [q]; exact hex
   · exact ⟨o, kp b o q ho⟩
 have := k.mem a mo e
 cases mo with
 | list xs => obtain ⟨vs, n, h1, h2⟩ := this; exact ⟨vs, n, kp _ _ (ne _ _ e) h1, h2.mono fun a vs n _ t => tp a vs n t⟩
 | inst C dx => exact kp _ _ (ne _ _ e) this
 | attrs f m => obtain ⟨es, n, h1, h2⟩ := this; exact ⟨es, n, kp _ _ (ne _ _ e) h1, h2⟩
 | dict f ps => obtain ⟨es, n, h1, h2⟩ := this; exact ⟨es, n, kp _ _ (ne _ _ e) h1, h2.mono fun v d r => r.mono fun a vs n _ t => tp a vs n t⟩
 | obj P => obtain ⟨o, h1, h2⟩ := this; exact ⟨o, kp _ _ (ne _ _ e) h1, h2⟩
theorem FrameOk.ownOk {C : Cx} {h : Heap} (F : FrameOk C h μ env ρ) {b : Addr} (hb : Own env b) : μ b = none ∧ C.h0.get? b = none := by
 rcases hb with rfl | ⟨x, hx⟩
 · exact F.free
 · exact ⟨(F.cells x b hx).1, (F.cells x b hx).2.1⟩
theorem Eu.store {x : Str} {v : Value} {d : D} {s : Shared} {Qu : (Str → Option D) → Mem → Prop} (k : Ok C s μ) (F : FrameOk C s.heap μ env ρ) (r : Rep C.B s.heap v d) (h : Qu (bnd ρ x d) μ)
 (hl : env.kindOf x = some .local ∨ env.kindOf x = some .cell) (hc : env.kindOf x = some .cell → (env.cells.lookup x).isSome = true) :
 wpAny (model C.prog C.w) A (storeName env x v) (fun _ s' => Pu C env s μ Qu s') No s := by
 obtain ⟨m, hn, hv⟩ := F.ns
 rcases hl with hl | hl
 · refine wpAny_storeName_local hl hn (fun h' hn' hs => ?_) (by rw [F.kind]; rfl)
   have own : Own env env.locals := .inl rfl
   have hT : ∀ vs n, ¬ IsT s.heap env.locals vs n := fun vs n t => F.notTuple t own
   have kp : ∀ b o, b ≠ env.locals → s.heap.get? b = some o → h'.get? b = some o := fun b o n e => (hs.2 b n).trans e
   have rp : ∀ v d, Rep C.B s.heap v d → Rep C.B h' v d := fun v d r => r.mono fun a vs n _ t => kp a _ (fun e => hT vs n (e ▸ t)) t
   refine ⟨bnd ρ x d, μ, k.own hs F.free (let ⟨o, _, _, ho, _⟩ := hn'; ⟨o, ho⟩) hT, ⟨F.kind, F.globals, F.builtins, F.free, ⟨_, hn', fun y e hy => ?_⟩, fun y c hy => ?_, F.inj⟩, ⟨rfl, fun b o h1 h2 h3 => ⟨h2, kp b o (fun e => h3 (.inl e)) h1⟩⟩, h⟩
   · unfold bnd at hy
     by_cases e1 : y = x
     · subst e1; simp at hy; subst hy
       exact .inl ⟨hl, v, by simp, rp _ _ r⟩
     · rw [if_neg e1] at hy
       rcases hv y e hy with ⟨h1, u, h2, h3⟩ | ⟨h1, c, u, h2, ⟨oc, h3, h3'⟩, h4⟩
       · exact .inl ⟨h1, u, by simp [e1, h2], rp _ _ h3⟩
       · exact .inr ⟨h1, c, u, h2, ⟨oc, kp c oc (F.cells y c h2).2.2.1 h3, h3'⟩, rp _ _ h4⟩
   · obtain ⟨a, b, n, u, oc, ho, hd⟩ := F.cells y c hy
     exact ⟨a, b, n, u, oc, kp c oc n ho, hd⟩
 · obtain ⟨c, hcl⟩ := Option.isSome_iff_exists.mp (hc hl)
   obtain ⟨fc1, fc2, fc3, u, hcell⟩ := F.cells x c hcl
   refine wpAny_storeName_cell F.kind hl hcl hcell fun h' hc' hs => ?_
   have own : Own env c := .inr ⟨x, hcl⟩
   have hT : ∀ vs n, ¬ IsT s.heap c vs n := fun vs n t => F.notTuple t own
   have kp : ∀ b o, b ≠ c → s.heap.get? b = some o → h'.get? b = some o := fun b o n e => (hs.2 b n).trans e
   have rp : ∀ v d, Rep C.B s.heap v d → Rep C.B h' v d := fun v d r => r.mono fun a vs n _ t => kp a _ (fun e => hT vs n (e ▸ t)) t
   refine ⟨bnd ρ x d, μ, Ok.own (t := s.toks) k hs ⟨fc1, fc2⟩ (let ⟨o, ho, _⟩ := hc'; ⟨o, ho⟩) hT, ⟨F.kind, F.globals, F.builtins, F.free, ⟨m, hn.sameBut hs (Ne.symm fc3), fun y e hy => ?_⟩, fun y c2 hy => ?_, F.inj⟩, ⟨rfl, fun b o h1 h2 h3 => ⟨h2, kp b o (fun e => h3 (.inr ⟨x, e ▸ hcl⟩)) h1⟩⟩, h⟩
   · unfold bnd at hy
     by_cases e1 : y = x
     · subst e1; simp at hy; subst hy
       exact .inr ⟨.inl hl, c, v, hcl, hc', rp _ _ r⟩
     · rw [if_neg e1] at hy
       rcases hv y e hy with ⟨h1, u, h2, h3⟩ | ⟨h1, c2, u, h2, ⟨oc, h3, h3'⟩, h4⟩
       · exact .inl ⟨h1, u, h2, rp _ _ h3⟩
       · refine .inr ⟨h1, c2, u, h2, ⟨oc, kp c2 oc (fun e => ?_) h3, h3'⟩, rp _ _ h4⟩
         exact e1 (F.inj y x c2 h2 (e ▸ hcl))
   · obtain ⟨a, b, n, u, oc, ho, hd⟩ := F.cells y c2 hy
     by_cases e2 : c2 = c
     · subst e2; exact ⟨a, b, n, _, hc'⟩
     · exact ⟨a, b, n, u, oc, kp c2 oc e2 ho, hd⟩
theorem Ex.assign {x : Str} {px pos : Pos} {value : Expr} (h : Ev C A env (eval value env) ρ μ (AsnQ Q ρ x))
 (hl : env.kindOf x = some .local ∨ env.kindOf x = some .cell := by first | exact .inl rfl | exact .inr rfl) (hc : env.kindOf x = some .cell → (env.cells.lookup x).isSome = true := by intro _; rfl)
 (hs : swapsWith value (some (.Name x px)) pos.line env = pure false := by rfl) : Ex C A env (exec (.Assign [.Name x px] value pos) env) ρ μ Q X := by
 intro s k F
 refine wpAny_Assign_Name (wpAny_mono (h s k F) ?_ fun _ _ x => x.elim) hs
 rintro v s1 ⟨d, μ1, r, k1, t1, h1⟩
 refine wpAny_mono (Eu.store (Qu := fun ρ' μ' => Q .next ρ' μ') k1 (F.step t1 k) r h1 hl hc) ?_ fun _ _ x => x.elim
 rintro _ s2 ⟨ρ', μ', k2, F2, t2, h2⟩
 exact ⟨.next, ρ', μ', .next, k2, F2, (t1.f env).trans t2, h2⟩
end
noncomputable def args : List Str → List D → Str → Option D
 | x :: xs, d :: ds => bnd (args xs ds) x d
 | _, _ => fun _ => none
theorem Sub.refl (μ : Mem) : Sub μ μ := fun _ _ e => e
theorem Sub.trans {μ μ1 μ2 : Mem} (x : Sub μ μ1) (y : Sub μ1 μ2) : Sub μ μ2 := fun a mo e => y a mo (x a mo e)
theorem Sub.new {μ : Mem} {a : Addr} {mo : MO} (h : μ a = none) : Sub μ (upd μ a mo) := fun b m e => by
 unfold upd; split
 · rename_i q; rw [q, h] at e; cases e
 · exact e
theorem Sub.both {μ μ' : Mem} (h : Sub μ μ') (a : Addr) (mo : MO) : Sub (upd μ a mo) (upd μ' a mo) := fun b m e => by
 unfold upd at *; split
 · rename_i q; rw [if_pos q] at e; exact e
 · rename_i q; rw [if_neg q] at e; exact h b m e
theorem Sub.other {μ μ' : Mem} (h : Sub μ μ') {a : Addr} {mo : MO} (n : μ a = none) : Sub μ (upd μ' a mo) := fun b m e => by
 unfold upd; split
 · rename_i q; rw [q, n] at e; cases e
 · exact h b m e
theorem Ok.sub  {s : Shared} {μ μ' : Mem} (k : Ok C s μ') (h : Sub μ μ') : Ok C s μ := by
 have z : ∀ b, μ' b = none → μ b = none := fun b e => by
  cases q : μ b with
  | none => rfl
  | some mo => rw [h b mo q] at e; cases e
 exact ⟨fun a mo e => k.mem a mo (h a mo e), fun b o e => ⟨z b (k.base b o e).1, (k.base b o e).2⟩, fun b e => ⟨z b (k.ban b e).1, (k.ban b e).2⟩⟩
noncomputable def Out.val : Out → D
 | .ret d => d
 | _ => .none
theorem bindL_notin {kf : Str → Option NameKind} {x : Str} : ∀ (names : List Str) (vs : List Value) (m : Str → Option Value), x ∉ names → bindL kf (names.zip vs) m x = m x
 | [], _, _, _ => by simp [bindL]
 | _ :: _, [], _, _ => by simp [bindL]
 | n :: ns, v :: vs, m, h => by
  simp only [List.zip_cons_cons, bindL]
  rw [bindL_notin ns vs _ (fun e => h (.tail _ e))]
  have hn : x ≠ n := fun e => h (e ▸ .head _)
  split <;> simp [hn]
theorem bindC_notin {kf : Str → Option NameKind} {x : Str} : ∀ (names : List Str) (vs : List Value) (m : Str → Option Value), x ∉ names → bindC kf (names.zip vs) m x = m x
 | [], _, _, _ => by simp [bindC]
 | _ :: _, [], _, _ => by simp [bindC]
 | n :: ns, v :: vs, m, h => by
  simp only [List.zip_cons_cons, bindC]
  rw [bindC_notin ns vs _ (fun e => h (.tail _ e))]
  have hn : x ≠ n := fun e => h (e ▸ .head _)
  split <;> simp [hn]
theorem args_get {B : Addr → Prop} {h : Heap} {kf : Str → Option NameKind} {x : Str} {d : D} : ∀ (names : List Str) (vs : List Value) (ds : List D), RepAll B h vs ds → names.Nodup → args names ds x = some d →
 x ∈ names ∧ ∃ v, Rep B h v d ∧ (kf x = some .local → ∀ m, bindL kf (names.zip vs) m x = some v) ∧ (kf x ≠ some .local → ∀ m, bindC kf (names.zip vs) m x = some v)
 | [], _, _, _, _, e => by simp [args] at e
 | _ :: _, _, [], _, _, e => by simp [args] at e
 | n :: ns, vs, d' :: ds, r, nd, e => by
  replace r := r.inv
  obtain ⟨v, vs', rfl, r1, r2⟩ := r
  obtain ⟨n1, n2⟩ := List.nodup_cons.mp nd
  unfold args bnd at e
  by_cases hx : x = n
  · subst hx
    simp at e; subst e
    refine ⟨.head _, v, r1, fun hk m => ?_, fun hk m => ?_⟩
    · simp only [List.zip_cons_cons, bindL]; rw [bindL_notin ns vs' _ n1, if_pos hk]; simp
    · simp only [List.zip_cons_cons, bindC]; rw [bindC_notin ns vs' _ n1, if_neg hk]; simp
  · rw [if_neg hx] at e
    obtain ⟨q, w, h1, h2, h3⟩ := args_get ns vs' ds r2 n2 e
    exact ⟨.tail _ q, w, h1, fun hk m => by simp only [List.zip_cons_cons, bindL]; exact h2 hk _, fun hk m => by simp only [List.zip_cons_cons, bindC]; exact h3 hk _⟩
theorem cellsFrom_acc {x : Str} : ∀ (names : List (Str × NameKind)) (n : Nat) (acc : List (Str × Addr)), ((acc.lookup x).isSome = true ∨ (x, NameKind.cell) ∈ names) → ((cellsFrom n names acc).lookup x).isSome = true
 | [], _, _, h => by rcases h with h | h; exact h; cases h
 | (y, k) :: r, n, acc, h => by
  unfold cellsFrom
  split
  · rename_i hk
    refine cellsFrom_acc r _ _ ?_
    rcases h with h | h
    · left; rw [List.lookup_cons]; split
      · rfl
      · exact h
    · rcases List.mem_cons.mp h with e | h
      · left; cases e; simp [List.lookup_cons]
      · exact .inr h
  · rename_i hk
    refine cellsFrom_acc r _ _ ?_
    rcases h with h | h
    · exact .inl h
    · rcases List.mem_cons.mp h with e | h
      · cases e; simp at hk
      · exact .inr h
noncomputable abbrev fnEnv (fd : FuncData) (L a : Addr) : Env := newEnv fd.scope L mainGlobals (cellsFrom (L + 1) fd.scope.names []) (fd.qualname ++ ".<locals>.") (some a) fd.code none builtinsNs
section
variable {C : Cx} {A : Around} {μ : Mem}
theorem Ok.lt  {s : Shared} (k : Ok C s μ) {a : Addr} (h : s.heap.objs.size ≤ a) : μ a = none := by
 cases e : μ a with
 | none => rfl
 | some mo =>
  have := k.mem _ _ e
  have lt : ∀ o, s.heap.get? a = some o → False := fun o e => Nat.not_lt.mpr h (Heap.lt_size e)
  cases mo with
  | list xs => obtain ⟨vs, n, h1, _⟩ := this; exact (lt _ h1).elim
  | inst C dx => exact (lt _ this).elim
  | attrs f m => obtain ⟨vs, n, h1, _⟩ := this; exact (lt _ h1).elim
  | dict f ps => obtain ⟨vs, n, h1, _⟩ := this; exact (lt _ h1).elim
  | obj P => obtain ⟨vs, h1, _⟩ := this; exact (lt _ h1).elim
theorem Ok.lt0 {s : Shared} (k : Ok C s μ) {a : Addr} (h : s.heap.objs.size ≤ a) : C.h0.get? a = none := by
 cases e : C.h0.get? a with
 | none => rfl
 | some o => exact absurd (Heap.lt_size (k.base a o e).2) (Nat.not_lt.mpr h)
theorem Ok.K {s : Shared} (k : Ok C s μ) : C.K.In s.heap := C.X.keeps fun b o e => (k.base b o e).2
theorem Ok.keeps  {s s' : Shared} (k : Ok C s μ) (kp : ∀ b o, s.heap.get? b = some o → s'.heap.get? b = some o) : Ok C s' μ := by
 refine ⟨fun a mo e => ?_, fun b ob e => ⟨(k.base b ob e).1, kp _ _ (k.base b ob e).2⟩, fun b e => ⟨(k.ban b e).1, let ⟨o, ho⟩ := (k.ban b e).2; ⟨o, kp _ _ ho⟩⟩⟩
 have := k.mem a mo e
 cases mo with
 | list xs => obtain ⟨vs, n, h1, h2⟩ := this; exact ⟨vs, n, kp _ _ h1, h2.mono fun a vs n _ t => kp _ _ t⟩
 | inst C dx => exact kp _ _ this
 | attrs f m => obtain ⟨vs, n, h1, h2⟩ := this; exact ⟨vs, n, kp _ _ h1, h2⟩
 | dict f ps => obtain ⟨vs, n, h1, h2⟩ := this; exact ⟨vs, n, kp _ _ h1, h2.mono fun v d r => r.mono fun a vs n _ t => kp _ _ t⟩
 | obj P => obtain ⟨o, h1, h2⟩ := this; exact ⟨o, kp _ _ h1, h2⟩
theorem fnFrame {s s1 : Shared} {fd : FuncData} {a : Addr} {names : List Str} {vs : List Value} {ds : List D} (k : Ok C s μ) (r : RepAll C.B s.heap vs ds)
 (hk : fd.scope.kind = .function) (hn : (names.all fun x => fd.scope.names.lookup x == some .local || fd.scope.names.lookup x == some .cell) = true) (nd : names.Nodup)
 (I : InCallC s (fnEnv fd s.heap.objs.size a).locals (bindL (fnEnv fd s.heap.objs.size a).kindOf (names.zip vs) fun _ => none) (fnEnv fd s.heap.objs.size a).cells (bindC (fnEnv fd s.heap.objs.size a).kindOf (names.zip vs) fun _ => none) s1) :
 FrameOk C s1.heap μ (fnEnv fd s.heap.objs.size a) (args names ds) := by
 have rk : ∀ v d, Rep C.B s.heap v d → Rep C.B s1.heap v d := fun v d r => r.mono fun a vs n _ t => I.toInCall.keep _ _ t
 have hkf : ∀ x, (fnEnv fd s.heap.objs.size a).kindOf x = fd.scope.names.lookup x := fun _ => rfl
 refine ⟨hk, rfl, rfl, ⟨k.fresh, k.lt0 (Nat.le_refl _)⟩, ⟨_, I.toInCall.ns, fun x d hx => ?_⟩, fun x c hc => ?_, fun x y c h1 h2 => name_of_addr I.apart (mem_of_lookup h1) (mem_of_lookup h2)⟩
 · obtain ⟨hm, v, h1, h2, h3⟩ := args_get (kf := (fnEnv fd s.heap.objs.size a).kindOf) names vs ds r nd hx
   have := List.all_eq_true.mp hn x hm
   rw [Bool.or_eq_true] at this
   rcases this with q | q
   · have q := beq_iff_eq.mp q
     exact .inl ⟨q, v, h2 q _, rk _ _ h1⟩
   · have q := beq_iff_eq.mp q
     have hs := cellsFrom_acc fd.scope.names (s.heap.objs.size + 1) [] (.inr (mem_of_lookup q))
     obtain ⟨c, hc⟩ := Option.isSome_iff_exists.mp hs
     refine .inr ⟨.inl q, c, v, hc, ?_, rk _ _ h1⟩
     have := I.cell x c hc
     rwa [h3 (by rw [hkf, q]; decide)] at this
 · have ab := I.above x c (mem_of_lookup hc)
   have ab' : s.heap.objs.size < c := ab
   exact ⟨k.lt (Nat.le_of_lt ab'), k.lt0 (Nat.le_of_lt ab'), Nat.ne_of_gt ab', _, I.cell x c hc⟩
theorem notOwn {s s1 : Shared} {fd : FuncData} {a : Addr} {m cm : Str → Option Value} (I : InCallC s (fnEnv fd s.heap.objs.size a).locals m (fnEnv fd s.heap.objs.size a).cells cm s1) {b : Addr} {o : Obj} (h : s.heap.get? b = some o) : ¬ Own (fnEnv fd s.heap.objs.size a) b := by
 have this : b < s.heap.objs.size := Heap.lt_size h
 rintro (e | ⟨x, hx⟩)
 · exact absurd (e : b = s.heap.objs.size) (Nat.ne_of_lt this)
 · have ab : s.heap.objs.size < b := I.above x b (mem_of_lookup hx)
   exact Nat.lt_irrefl _ (Nat.lt_trans ab this)
noncomputable def CallC (C : Cx) (A : Around) (f : Value) (ds : List D) (μ : Mem) (Q : D → Mem → Prop) : Prop :=
 ∀ s vs, Ok C s μ → RepAll C.B s.heap vs ds → codeAny (model C.prog C.w) A (.call f ⟨vs, []⟩) (wants (Pv C s μ Q) No) s
theorem CallC.call {f : Value} {ds : List D} {Q : D → Mem → Prop} (h : CallC C A f ds μ Q) : Call C A f ds μ Q := fun s vs k r => wpAny_call (h s vs k r)
@[reducible] noncomputable def FnQ (Q : D → Mem → Prop) : Out → (Str → Option D) → Mem → Prop := fun o _ μ' => Fg (Q o.val) μ'
theorem CallC.fn {a : Addr} {oc : Value} {od : Option Addr} {fd : FuncData} {osl : Array (Option Value)} {body : List Stmt} {ds : List D} {Q : D → Mem → Prop} (names : List Str) (extra : List Value) (exd : List D) (hex : RepAll C.B C.h0 extra exd)
 (ho : C.K.lookup a = some ⟨oc, od, .func fd, osl⟩) (hbody : fd.body = .stmts body) (hg : fd.globals = mainGlobals) (hb : fd.builtins = builtinsNs) (hcl : fd.closure = [])
 (hcd : codeIn C.K fd.code fd.qualname = true) (hroom : A.depth < recursionLimit)
 (hbind : ∀ s vs, vs.length = ds.length → C.K.In s.heap → BindsTo s fd ⟨vs, []⟩ (names.zip (vs ++ extra))) (hn : (names.all fun x => fd.scope.names.lookup x == some .local || fd.scope.names.lookup x == some .cell) = true) (nd : names.Nodup)
 (hk : fd.scope.kind = .function) (hco : fd.scope.isCoroutine = false) (hgen : fd.scope.isGenerator = false)
 (h : ∀ env A', env.scope = fd.scope → (∀ x, fd.scope.names.lookup x = some .cell → (env.cells.lookup x).isSome = true) → A'.handled = A.handled → A'.depth = A.depth + 1 → A'.units = A.units + 3 → A'.frames = A.frames.map (env :: ·) → env.frame = some env.locals →
  Ex C A' env (execs body env) (args names (ds ++ exd)) μ (FnQ Q) noX) : CallC C A (.ref a) ds μ Q := by
 intro s vs k r0
 have X := k.K
 have r : RepAll C.B s.heap (vs ++ extra) (ds ++ exd) := r0.append (hex.mono fun a vs n _ t => (k.base _ _ t).2)
 obtain ⟨p, loose, mg, mb, T⟩ := C.T
 have lim : s.heap.NoLimit := T.nolimit.keeps fun b o e => (k.base b o e).2
 refine codeAny_call_function hroom (X _ _ ho) rfl hco hgen hbody (codeRec_of X hcd) (hbind s vs r0.length X _ _ _ _ ?_)
 rw [hcl, hg, hb]
 have hkind : ∀ x ∈ names.zip (vs ++ extra), fd.scope.names.lookup x.1 = some .local ∨ (fd.scope.names.lookup x.1 = some .cell ∧ ((cellsFrom (s.heap.objs.size + 1) fd.scope.names []).lookup x.1).isSome = true) := fun x hx => by
  have := List.all_eq_true.mp hn x.1 (List.of_mem_zip hx).1
  rw [Bool.or_eq_true] at this
  rcases this with q | q
  · exact .inl (beq_iff_eq.mp q)
  · have q := beq_iff_eq.mp q
    exact .inr ⟨q, cellsFrom_acc _ _ _ (.inr (mem_of_lookup q))⟩
 refine wpAny_newFunctionEnv_cells hk hkind fun env he s1 I => ?_
 have he' : env = fnEnv fd s.heap.objs.size a := he
 subst he'
 refine ⟨lim.keeps I.toInCall.keep, codeAny_func ?_⟩
 have F1 := fnFrame k r hk hn nd I
 have k1 : Ok C s1 μ := k.keeps I.toInCall.keep
 refine wpAny_mono (h (fnEnv fd s.heap.objs.size a) (A.deeper (fnEnv fd s.heap.objs.size a)) rfl (fun x hx => cellsFrom_acc _ _ _ (.inr (mem_of_lookup hx))) rfl rfl rfl rfl rfl s1 k1 F1) ?_ ?_
 · rintro f s2 ⟨o, ρ', μ', rr, k2, F2, t2, μ2, hs, hq⟩
   refine ⟨o.val, μ2, ?_, k2.sub hs, ⟨?_, fun b ob h1 h2 => ?_⟩, hq⟩
   · cases rr with
     | ret r => exact r
     | next => exact .none
     | brk => exact .none
     | cont => exact .none
   · obtain ⟨h', tk, e⟩ := I.toInCall.same
     rw [t2.eq, e]
   · obtain ⟨q1, q2⟩ := t2.keep b ob (I.toInCall.keep b ob h1) h2 (notOwn I h1)
     refine ⟨?_, q2⟩
     cases e : μ2 b with
     | none => rfl
     | some mo => rw [hs b mo e] at q1; cases q1
 · rintro e s2 ⟨_, _, _, _, _, _, _, x⟩
   exact x.elim
theorem Call.fn {a : Addr} {oc : Value} {od : Option Addr} {fd : FuncData} {osl : Array (Option Value)} {body : List Stmt} {ds : List D} {Q : D → Mem → Prop} (names : List Str)
 (ho : C.K.lookup a = some ⟨oc, od, .func fd, osl⟩) (hbody : fd.body = .stmts body) (hg : fd.globals = mainGlobals) (hb : fd.builtins = builtinsNs) (hcl : fd.closure = [])
 (hcd : codeIn C.K fd.code fd.qualname = true) (hroom : A.depth < recursionLimit)
 (hbind : ∀ s vs, vs.length = ds.length → BindsTo s fd ⟨vs, []⟩ (names.zip vs)) (hn : (names.all fun x => fd.scope.names.lookup x == some .local || fd.scope.names.lookup x == some .cell) = true) (nd : names.Nodup)
 (hk : fd.scope.kind = .function) (hco : fd.scope.isCoroutine = false) (hgen : fd.scope.isGenerator = false)
 (h : ∀ env A', env.scope = fd.scope → (∀ x, fd.scope.names.lookup x = some .cell → (env.cells.lookup x).isSome = true) → A'.handled = A.handled → A'.depth = A.depth + 1 → A'.units = A.units + 3 → A'.frames = A.frames.map (env :: ·) → env.frame = some env.locals →
  Ex C A' env (execs body env) (args names ds) μ (FnQ Q) noX) : Call C A (.ref a) ds μ Q :=
 (CallC.fn names [] [] .nil ho hbody hg hb hcl hcd hroom (fun s vs hl _ => by rw [List.append_nil]; exact hbind s vs hl) hn nd hk hco hgen (by rw [List.append_nil]; exact h)).call
end
mutual
noncomputable def D.py : D → PyData
 | .none => .none
 | .bool b => .bool b
 | .int i => .int i
 | .str x => .str x
 | .tup l => .tuple (D.pys l)
 | .raw _ => .none
noncomputable def D.pys : List D → List PyData
 | [] => []
 | d :: ds => D.py d :: D.pys ds
end
mutual
noncomputable def D.ok : D → Bool
 | .none => true
 | .bool _ => true
 | .int _ => true
 | .str x => PyData.strOk x
 | .tup l => D.oks l
 | .raw _ => false
noncomputable def D.oks : List D → Bool
 | [] => true
 | d :: ds => D.ok d && D.oks ds
end
structure Rd (h : Heap) (v : Value) (d : D) : Prop where
 r : ∃ as, Reads h v d.py as
 c : d.py.canLay0 = true
structure Rds (h : Heap) (vs : List Value) (l : List D) : Prop where
 r : ∃ as, ReadsAll h vs (D.pys l) as
 c : PyData.canLayAll0 (D.pys l) = true
section
variable {h : Heap}
theorem Rd.tup {a : Addr} {vs : List Value} {n : Nat} {l : List D} (ht : IsT h a vs.toArray n) (q : Rds h vs l) : Rd h (.ref a) (.tup l) := by
 obtain ⟨⟨as, q⟩, c⟩ := q
 exact ⟨⟨as, .tuple ht rfl rfl (by simpa using q)⟩, c⟩
theorem Rds.cons {v : Value} {d : D} {vs : List Value} {l : List D} (x : Rd h v d) (y : Rds h vs l) : Rds h (v :: vs) (d :: l) := by
 obtain ⟨⟨as, q⟩, c⟩ := x
 obtain ⟨⟨bs, p⟩, e⟩ := y
 exact ⟨⟨_, .cons q p⟩, Bool.and_eq_true_iff.mpr ⟨c, e⟩⟩
theorem oks_cons {d : D} {l : List D} (e : D.oks (d :: l) = true) : d.ok = true ∧ D.oks l = true := Bool.and_eq_true_iff.mp e
theorem RepAll.reads {vs : List Value} {l : List D} (r : RepAll B h vs l) : D.oks l = true → Rds h vs l :=
 RepAll.rec (motive_1 := fun v d _ => d.ok = true → Rd h v d) (motive_2 := fun vs l _ => D.oks l = true → Rds h vs l) (fun _ => ⟨⟨_, .none⟩, rfl⟩) (fun b _ => ⟨⟨_, .bool b⟩, rfl⟩) (fun i t _ => ⟨⟨_, .int i t⟩, rfl⟩)
  (fun x t e => ⟨⟨_, .str x t⟩, e⟩) (fun _ ht _ ih e => Rd.tup ht (ih e)) (fun v e => nomatch e) (fun _ => ⟨⟨_, .nil⟩, rfl⟩) (fun _ _ a b e => Rds.cons (a (oks_cons e).1) (b (oks_cons e).2)) r
theorem Rep.reads {v : Value} {d : D} (r : Rep B h v d) (e : d.ok = true) : Rd h v d := by
 have := RepAll.reads (.cons r .nil) (show (d.ok && true) = true by rw [e]; rfl)
 obtain ⟨⟨as, q⟩, c⟩ := this
 cases q with | cons q _ => exact ⟨⟨_, q⟩, (Bool.and_eq_true_iff.mp c).1⟩
end
noncomputable abbrev D.dep (d : D) : Nat := d.py.depth
section
variable {C : Cx} {A : Around} {μ : Mem} {Q : D → Mem → Prop}
theorem Tru.bool {b : Bool} {Q : Bool → Mem → Prop} (h : Q b μ) : Tru C A (.bool b) μ Q := by
 intro s v k r; (first | (replace r := r.inv; obtain rfl := r) | (replace r := r.inv; obtain ⟨_, rfl⟩ := r) | cases r); exact wpAny_truthy_bool ⟨μ, k, .refl _ _, h⟩
theorem Cmp.eqStr {x y : Str} (h : Q (.bool (x == y)) μ) : Cmp C A .Eq (.str x) (.str y) μ Q := by
 intro s va vb k ra rb; (first | (replace ra := ra.inv; obtain rfl := ra) | (replace ra := ra.inv; obtain ⟨_, rfl⟩ := ra) | cases ra); (first | (replace rb := rb.inv; obtain rfl := rb) | (replace rb := rb.inv; obtain ⟨_, rfl⟩ := rb) | cases rb); exact PyProof.Rows.eq_str ⟨_, μ, .bool _, k, .refl _ _, h⟩
theorem Cmp.eqInt {x y : Int} (h : Q (.bool (x == y)) μ) : Cmp C A .Eq (.int x) (.int y) μ Q := by
 intro s va vb k ra rb; (first | (replace ra := ra.inv; obtain rfl := ra) | (replace ra := ra.inv; obtain ⟨_, rfl⟩ := ra) | cases ra); (first | (replace rb := rb.inv; obtain rfl := rb) | (replace rb := rb.inv; obtain ⟨_, rfl⟩ := rb) | cases rb); exact PyProof.Rows.eq_int ⟨_, μ, .bool _, k, .refl _ _, h⟩
theorem Cmp.neInt {x y : Int} (h : Q (.bool (x != y)) μ) : Cmp C A .NotEq (.int x) (.int y) μ Q := by
 intro s va vb k ra rb; (first | (replace ra := ra.inv; obtain rfl := ra) | (replace ra := ra.inv; obtain ⟨_, rfl⟩ := ra) | cases ra); (first | (replace rb := rb.inv; obtain rfl := rb) | (replace rb := rb.inv; obtain ⟨_, rfl⟩ := rb) | cases rb); exact PyProof.Rows.ne_int ⟨_, μ, .bool _, k, .refl _ _, h⟩
theorem Cmp.ltInt {x y : Int} (h : Q (.bool (decide (x < y))) μ) : Cmp C A .Lt (.int x) (.int y) μ Q := by
 intro s va vb k ra rb; (first | (replace ra := ra.inv; obtain rfl := ra) | (replace ra := ra.inv; obtain ⟨_, rfl⟩ := ra) | cases ra); (first | (replace rb := rb.inv; obtain rfl := rb) | (replace rb := rb.inv; obtain ⟨_, rfl⟩ := rb) | cases rb); exact PyProof.Rows.lt_int ⟨_, μ, .bool _, k, .refl _ _, h⟩
theorem Cmp.gtInt {x y : Int} (h : Q (.bool (decide (y < x))) μ) : Cmp C A .Gt (.int x) (.int y) μ Q := by
 intro s va vb k ra rb; (first | (replace ra := ra.inv; obtain rfl := ra) | (replace ra := ra.inv; obtain ⟨_, rfl⟩ := ra) | cases ra); (first | (replace rb := rb.inv; obtain rfl := rb) | (replace rb := rb.inv; obtain ⟨_, rfl⟩ := rb) | cases rb); exact PyProof.Rows.gt_int ⟨_, μ, .bool _, k, .refl _ _, h⟩
theorem Cmp.geInt {x y : Int} (h : Q (.bool (decide (y ≤ x))) μ) : Cmp C A .GtE (.int x) (.int y) μ Q := by
 intro s va vb k ra rb; (first | (replace ra := ra.inv; obtain rfl := ra) | (replace ra := ra.inv; obtain ⟨_, rfl⟩ := ra) | cases ra); (first | (replace rb := rb.inv; obtain rfl := rb) | (replace rb := rb.inv; obtain ⟨_, rfl⟩ := rb) | cases rb); exact PyProof.Rows.ge_int ⟨_, μ, .bool _, k, .refl _ _, h⟩
theorem Cmp.eqPy {a b : D} (ha : a.ok = true) (hb : b.ok = true) (hu : A.units + min a.dep b.dep < cLine) (h : Q (.bool (PyData.eqv a.py b.py)) μ) : Cmp C A .Eq a b μ Q := by
 intro s va vb k ra rb
 obtain ⟨⟨as, ra⟩, la⟩ := ra.reads ha
 obtain ⟨⟨bs, rb⟩, lb⟩ := rb.reads hb
 exact SeqAt.compareEq_reads ra rb la lb hu ⟨_, μ, .bool _, k, .refl _ _, h⟩
theorem Cmp.nePy {a b : D} (ha : a.ok = true) (hb : b.ok = true) (hu : A.units + min a.dep b.dep < cLine) (h : Q (.bool (!PyData.eqv a.py b.py)) μ) : Cmp C A .NotEq a b μ Q := by
 intro s va vb k ra rb
 obtain ⟨⟨as, ra⟩, la⟩ := ra.reads ha
 obtain ⟨⟨bs, rb⟩, lb⟩ := rb.reads hb
 exact SeqAt.compareNe_reads ra rb la lb hu ⟨_, μ, .bool _, k, .refl _ _, h⟩
theorem pys_strs : ∀ l : List Str, D.pys (l.map .str) = l.map .str
 | [] => rfl
 | x :: l => by simp [D.pys, D.py, pys_strs l]
theorem oks_strs : ∀ l : List Str, l.all PyData.strOk = true → D.oks (l.map .str) = true
 | [], _ => rfl
 | y :: l, h => by simp only [List.all_cons, Bool.and_eq_true] at h; simp [D.oks, D.ok, h.1, oks_strs l h.2]
theorem depth_strs : ∀ l : List Str, PyData.depthAll (l.map .str) = 0
 | [] => rfl
 | x :: l => by simp [PyData.depthAll, PyData.depth, depth_strs l]
theorem any_strs (x : Str) : ∀ l : List Str, ((l.map PyData.str).any fun y => PyData.eqv y (.str x)) = l.contains x
 | [] => rfl
 | y :: l => by
  have := any_strs x l
  have e : (y == x) = (x == y) := by
   by_cases h : y = x
   · subst h; rfl
   · rw [beq_eq_false_iff_ne.mpr h, beq_eq_false_iff_ne.mpr fun e => h e.symm]
  simp only [List.map_cons, List.any_cons, PyData.eqv, this, List.contains_cons, e]
theorem Cmp.inStrs {x : Str} {l : List Str} (hl : (l.all PyData.strOk) = true) (hx : PyData.strOk x = true) (hu : A.units + 1 < cLine) (h : Q (.bool (l.contains x)) μ) : Cmp C A .In (.str x) (.tup (l.map .str)) μ Q := by
 intro s va vb k ra rb
 have ol := oks_strs l hl
 obtain ⟨⟨as, qa⟩, la⟩ := ra.reads (by simpa [D.ok] using hx)
 obtain ⟨⟨bs, qb⟩, lb⟩ := rb.reads (by simpa [D.ok] using ol)
 rw [D.py, pys_strs] at qb lb
 rw [D.py] at qa la
 refine SeqAt.in_tuple_reads qb qa (by simpa [PyData.canLay0] using lb) la ?_ ?_
 · rw [depth_strs]; simpa [PyData.depth] using hu
 · rw [any_strs]; exact ⟨_, μ, .bool _, k, .refl _ _, h⟩
theorem Cmp.notInStrs {x : Str} {l : List Str} (hl : (l.all PyData.strOk) = true) (hx : PyData.strOk x = true) (hu : A.units + 1 < cLine) (h : Q (.bool (!l.contains x)) μ) : Cmp C A .NotIn (.str x) (.tup (l.map .str)) μ Q := by
 intro s va vb k ra rb
 have ol := oks_strs l hl
 obtain ⟨⟨as, qa⟩, la⟩ := ra.reads (by simpa [D.ok] using hx)
 obtain ⟨⟨bs, qb⟩, lb⟩ := rb.reads (by simpa [D.ok] using ol)
 rw [D.py, pys_strs] at qb lb
 rw [D.py] at qa la
 refine SeqAt.notIn_tuple_reads qb qa (by simpa [PyData.canLay0] using lb) la ?_ ?_
 · rw [depth_strs]; simpa [PyData.depth] using hu
 · rw [any_strs]; exact ⟨_, μ, .bool _, k, .refl _ _, h⟩
noncomputable def D.isNone : D → Bool
 | .none => true
 | .raw v => v == .none
 | _ => false
theorem Rep.isNone {h : Heap} {v : Value} {d : D} (r : Rep B h v d) : (v == .none) = d.isNone := by
 cases r <;> rfl
theorem Cmp.isNone {d : D} (h : Q (.bool d.isNone) μ) : Cmp C A .Is d .none μ Q := by
 intro s va vb k ra rb; (first | (replace rb := rb.inv; obtain rfl := rb) | (replace rb := rb.inv; obtain ⟨_, rfl⟩ := rb) | cases rb)
 refine PySem.is_none ?_
 rw [ra.isNone]; exact ⟨_, μ, .bool _, k, .refl _ _, h⟩
theorem Cmp.isNotNone {d : D} (h : Q (.bool (!d.isNone)) μ) : Cmp C A .IsNot d .none μ Q := by
 intro s va vb k ra rb; (first | (replace rb := rb.inv; obtain rfl := rb) | (replace rb := rb.inv; obtain ⟨_, rfl⟩ := rb) | cases rb)
 refine PySem.isNot_none ?_
 rw [ra.isNone]; exact ⟨_, μ, .bool _, k, .refl _ _, h⟩
theorem Get.tup {l : List D} {k : Nat} {d : D} (hx : l[k]? = some d) (hk : k < 2 ^ 62) (h : Q d μ) : Get C A (.tup l) (.int (k : Int)) μ Q := by
 intro s va vi o ra ri
 replace ra := ra.inv
 obtain ⟨a, vs, n, rfl, hb, ht, r⟩ := ra
 (first | (replace ri := ri.inv; obtain rfl := ri) | (replace ri := ri.inv; obtain ⟨_, rfl⟩ := ri) | cases ri)
 refine ⟨"tuple", _, ⟨_, ht, rfl⟩, slot_tuple_getitem.lookup, ?_⟩
 obtain ⟨v, hv, rv⟩ := r.get hx
 have hlt : k < vs.length := by
  rcases Nat.lt_or_ge k vs.length with h | h
  · exact h
  · rw [List.getElem?_eq_none h] at hv; cases hv
 have hj : seqIndex? (k : Int) vs.toArray.size = some k := by
  have := seqIndex_of (k := (k : Int)) (n := vs.toArray.size) (by omega) (by simpa using hlt)
  simpa using this
 exact PyProof.Rows.getItem_tuple ⟨_, ht, rfl, n, rfl⟩ (by omega) (by omega) hj (by simpa using hv) ⟨d, μ, rv, o, .refl _ _, h⟩
theorem Get.list {a : Addr} {xs : List D} {k : Nat} {d : D} (hm : μ a = some (.list xs)) (hx : xs[k]? = some d) (hk : k < 2 ^ 62) (h : Q d μ) : Get C A (.raw (.ref a)) (.int (k : Int)) μ Q := by
 intro s va vi o ra ri
 (first | (replace ra := ra.inv; obtain rfl := ra) | (replace ra := ra.inv; obtain ⟨_, rfl⟩ := ra) | cases ra); (first | (replace ri := ri.inv; obtain rfl := ri) | (replace ri := ri.inv; obtain ⟨_, rfl⟩ := ri) | cases ri)
 obtain ⟨vs, n, ho, r⟩ := o.mem a _ hm
 have hl : s.heap.IsList a vs.toArray := ⟨_, ho, rfl, n, rfl⟩
 refine ⟨"list", _, hl.typeIs, slot_list_getitem.lookup, ?_⟩
 obtain ⟨v, hv, rv⟩ := r.get hx
 exact wpAny_getItem_list hl (by omega) (by omega) (by simpa using hv) ⟨d, μ, rv, o, .refl _ _, h⟩
end
noncomputable def keepOk (K : Frag) (f : Value) : Bool := match f with
 | .ref _ => keepIn K f
 | _ => true
section
variable {C : Cx} {A : Around} {env : Env} {ρ : Str → Option D} {μ : Mem} {Q : D → Mem → Prop}
theorem keepOk.looks {K : Frag} {M : Model} {f : Value} (hk : keepOk K f = true) (h : Heap) (X : K.In h) : ∃ k, (k = Keeper.frame ∨ k = Keeper.machine ∨ k = Keeper.boundFrame) ∧ Looks M h (keeperOf f) k := by
 cases f with
 | ref a => exact keeps_K (f := .ref a) hk h X
 | _ => exact ⟨.machine, .inr (.inl rfl), Looks.of_pure rfl⟩
theorem Ev.glob {x : Str} {pos : Pos} {v : Value} {d : D} (e : nsIn C.K mainGlobals x = some (some v)) (r : Rep C.B C.h0 v d) (h : Q d μ) (hx : env.kindOf x = some .globalImplicit) (hd : (x == ("__debug__" : Str)) = false) : Ev C A env (eval (.Name x pos) env) ρ μ Q := by
 intro s k F
 obtain ⟨p, loose, mg, mb, T⟩ := C.T
 have kp : ∀ b o, C.h0.get? b = some o → s.heap.get? b = some o := fun b o e => (k.base b o e).2
 refine Calls.Name_function_global F.kind hx (Calls.loadGlobal_global (mg := mg) (by rw [F.globals]; exact T.g.keeps kp) (mg_of C.X T.g e) ⟨d, μ, r.mono fun a vs n _ t => kp _ _ t, k, .refl _ _, h⟩) hd
theorem Ev.built {x : Str} {pos : Pos} {v : Value} (e : nsIn C.K mainGlobals x = some none) (hv : bootBuiltins x = some v) (h : Q (.raw v) μ) (hx : env.kindOf x = some .globalImplicit) (hn : x ≠ "__name__") (hd : (x == ("__debug__" : Str)) = false) : Ev C A env (eval (.Name x pos) env) ρ μ Q := by
 intro s k F
 obtain ⟨p, loose, mg, mb, T⟩ := C.T
 have kp : ∀ b o, C.h0.get? b = some o → s.heap.get? b = some o := fun b o e => (k.base b o e).2
 exact Calls.Name_function_global F.kind hx (Calls.loadGlobal_builtin (mg := mg) (mb := mb) (by rw [F.globals]; exact T.g.keeps kp) (mg_none_of C.X T.g e) (by rw [F.builtins]; exact T.b.keeps kp) ((T.builtins x hn).trans hv) ⟨_, μ, .raw v, k, .refl _ _, h⟩) hd
@[reducible] noncomputable def CallQ (C : Cx) (A : Around) (f : Value) (Q : D → Mem → Prop) (ds : List D) (μ : Mem) : Prop := Call C A f ds μ Q
@[reducible] noncomputable def EvCallQ (C : Cx) (A : Around) (env : Env) (l : List Expr) (pos : Pos) (f : Value) (ρ : Str → Option D) (Q : D → Mem → Prop) (d : D) (μ : Mem) : Prop := d = .raw f ∧ Es C A env (spliced (backTo pos (starEach l env))) ρ μ (CallQ C A f Q)
theorem Ev.call {x : Str} {p pos : Pos} {e : Expr} {rest : List Expr} {fv : Value}
 (h : Ev C A env (eval (.Name x p) env) ρ μ (EvCallQ C A env (e :: rest) pos fv ρ Q))
 (hk : keepOk C.K fv = true) (he : starEach (e :: rest) env = (false, eval e env) :: starEach rest env) (hp : (backTo pos (starEach rest env)).any (·.1) = false) :
 Ev C A env (eval (.Call (.Name x p) (e :: rest) [] pos) env) ρ μ Q := by
 intro s k F
 refine wpAny_Call_NameR (wpAny_mono (h s k F) ?_ fun _ _ x => x)
 rintro f s1 ⟨d, μ1, r1, k1, t1, rfl, h1⟩
 (first | (replace r1 := r1.inv; obtain rfl := r1) | (replace r1 := r1.inv; obtain ⟨_, rfl⟩ := r1) | cases r1)
 have h2 := h1 s1 k1 (F.step t1 k)
 rw [he] at h2 ⊢
 refine callWith_of (P := C.K.In) (by show ((false || (backTo pos (starEach rest env)).any (·.1)) || false) = false; rw [hp]; rfl) (keepOk.looks hk) (Calls.evalArgs_plain (wpAny_mono h2 ?_ fun _ _ x => x))
 rintro vs s2 ⟨ds, μ2, r2, k2, t2, h3⟩
 exact ⟨k2.K, wpAny_mono (h3 s2 vs k2 r2) (Pv.after (t1.trans t2) fun _ _ x => x) fun _ _ x => x⟩
theorem Ev.call0 {x : Str} {p pos : Pos} {fv : Value}
 (h : Ev C A env (eval (.Name x p) env) ρ μ fun d μ1 => d = .raw fv ∧ Call C A fv [] μ1 Q) (hk : keepOk C.K fv = true) : Ev C A env (eval (.Call (.Name x p) [] [] pos) env) ρ μ Q := by
 intro s k F
 refine wpAny_Call_NameR (wpAny_mono (h s k F) ?_ fun _ _ x => x)
 rintro f s1 ⟨d, μ1, r1, k1, t1, rfl, h1⟩
 (first | (replace r1 := r1.inv; obtain rfl := r1) | (replace r1 := r1.inv; obtain ⟨_, rfl⟩ := r1) | cases r1)
 refine callWith_of (P := C.K.In) rfl (keepOk.looks hk) (evalArgs_nil3 ⟨k1.K, ?_⟩)
 exact wpAny_mono (h1 s1 [] k1 .nil) (Pv.after t1 fun _ _ x => x) fun _ _ x => x
noncomputable def GetM (C : Cx) (A : Around) (d : D) (name : Str) (μ : Mem) (fv : Value) : Prop :=
 ∀ s v pl (Q : Value × List Value → Shared → Prop) E, Ok C s μ → Rep C.B s.heap v d → Q (fv, [v]) s → wpAny (model C.prog C.w) A (getMethod v name pl) Q E s
@[reducible] noncomputable def CallDQ (C : Cx) (A : Around) (f : Value) (Q : D → Mem → Prop) (d : D) (ds : List D) (μ : Mem) : Prop := Call C A f (d :: ds) μ Q
@[reducible] noncomputable def MethQ (C : Cx) (A : Around) (env : Env) (l : List Expr) (pos : Pos) (name : Str) (ρ : Str → Option D) (Q : D → Mem → Prop) (d : D) (μ : Mem) : Prop := ∃ fv, GetM C A d name μ fv ∧ keepOk C.K fv = true ∧ Es C A env (spliced (backTo pos (starEach l env))) ρ μ (CallDQ C A fv Q d)
theorem Ev.meth {o e : Expr} {name : Str} {apos pos : Pos} {rest : List Expr} {pl : Sem Bool}
 (h : Ev C A env (eval o env) ρ μ (MethQ C A env (e :: rest) pos name ρ Q))
 (hc : eval (.Call (.Attribute o name apos) (e :: rest) [] pos) env = (do
  let ov ← eval o env
  standAt apos.atName
  let (f, first) ← holding [ov] (getMethod ov name pl)
  callWith pos f first (backTo pos (starEach (e :: rest) env)) (backToKw pos (keywordEach [] env))))
 (he : starEach (e :: rest) env = (false, eval e env) :: starEach rest env) (hp : (backTo pos (starEach rest env)).any (·.1) = false) :
 Ev C A env (eval (.Call (.Attribute o name apos) (e :: rest) [] pos) env) ρ μ Q := by
 intro s k F
 rw [hc]
 refine wpAny_bind (wpAny_mono (h s k F) ?_ fun _ _ x => x)
 rintro v s1 ⟨d, μ1, r1, k1, t1, fv, hm, hk, h1⟩
 refine wpAny_bind (wpAny_standAt (wpAny_bind (wpAny_holding (hm s1 v pl _ _ k1 r1 ?_))))
 have h2 := h1 s1 k1 (F.step t1 k)
 show wpAny _ _ (callWith pos fv [v] (backTo pos (starEach (e :: rest) env)) (backToKw pos (keywordEach [] env))) _ _ _
 rw [he] at h2 ⊢
 refine callWith_of (P := C.K.In) (by show ((false || (backTo pos (starEach rest env)).any (·.1)) || false) = false; rw [hp]; rfl) (keepOk.looks hk) (Calls.evalArgs_plain (wpAny_mono h2 ?_ fun _ _ x => x))
 rintro vs s2 ⟨ds, μ2, r2, k2, t2, h3⟩
 exact ⟨k2.K, wpAny_mono (h3 s2 _ k2 (.cons (t2.rep k1 r1) r2)) (Pv.after (t1.trans t2) fun _ _ x => x) fun _ _ x => x⟩
theorem Ev.meth0 {o : Expr} {name : Str} {apos pos : Pos} {pl : Sem Bool}
 (h : Ev C A env (eval o env) ρ μ fun d μ1 => ∃ fv, GetM C A d name μ1 fv ∧ keepOk C.K fv = true ∧ Call C A fv [d] μ1 Q)
 (hc : eval (.Call (.Attribute o name apos) [] [] pos) env = (do
  let ov ← eval o env
  standAt apos.atName
  let (f, first) ← holding [ov] (getMethod ov name pl)
  callWith pos f first (backTo pos (starEach [] env)) (backToKw pos (keywordEach [] env)))) :
 Ev C A env (eval (.Call (.Attribute o name apos) [] [] pos) env) ρ μ Q := by
 intro s k F
 rw [hc]
 refine wpAny_bind (wpAny_mono (h s k F) ?_ fun _ _ x => x)
 rintro v s1 ⟨d, μ1, r1, k1, t1, fv, hm, hk, h1⟩
 refine wpAny_bind (wpAny_standAt (wpAny_bind (wpAny_holding (hm s1 v pl _ _ k1 r1 ?_))))
 show wpAny _ _ (callWith pos fv [v] (backTo pos (starEach [] env)) (backToKw pos (keywordEach [] env))) _ _ _
 refine callWith_of (P := C.K.In) rfl (keepOk.looks hk) (evalArgs_nil3 ⟨k1.K, ?_⟩)
 exact wpAny_mono (h1 s1 _ k1 (.cons r1 .nil)) (Pv.after t1 fun _ _ x => x) fun _ _ x => x
theorem GetM.list {a : Addr} {xs : List D} {name : Str} {id : String} (hm : μ a = some (.list xs)) (slot : Slot "list" name id) (hty : typeOf (.builtin id) = pure (.type "method_descriptor")) : GetM C A (.raw (.ref a)) name μ (.builtin id) := by
 intro s v pl Q E k r h
 (first | (replace r := r.inv; obtain rfl := r) | (replace r := r.inv; obtain ⟨_, rfl⟩ := r) | cases r)
 obtain ⟨vs, n, ho, _⟩ := k.mem a _ hm
 refine getMethod_builtin (T := "list") ⟨_, ho, rfl⟩ F.plainAttrs_list slot hty (fun b e => ?_) h
 cases e; exact ⟨_, ho, rfl⟩
theorem GetM.str {x name : Str} {id : String} (slot : Slot "str" name id) (hty : typeOf (.builtin id) = pure (.type "method_descriptor")) : GetM C A (.str x) name μ (.builtin id) := by
 intro s v pl Q E k r h
 (first | (replace r := r.inv; obtain rfl := r) | (replace r := r.inv; obtain ⟨_, rfl⟩ := r) | cases r)
 exact getMethod_builtin (T := "str") (show Shared.TypeIs s (.str x _) "str" from rfl) F.plainAttrs_str slot hty (fun b e => by cases e) h
theorem Ok.inst {s : Shared} (k : Ok C s μ) {x Cl dx : Addr} {f : Str → Option Value} {m : Nat} (hx : μ x = some (.inst Cl dx)) (hd : μ dx = some (.attrs f m)) :
 ∃ es n, InstAt s.heap x (instObj Cl dx) Cl (some (dictOf es n)) ∧ ∀ y, getL y es = some (f y) := by
 have h1 : s.heap.get? x = some (instObj Cl dx) := k.mem x _ hx
 obtain ⟨es, n, h2, _, h3⟩ := k.mem dx _ hd
 exact ⟨es, n, ⟨h1, rfl, rfl, h2⟩, h3⟩
theorem GetM.inst {x Cl dx fa : Addr} {f : Str → Option Value} {m : Nat} {name : Str} (hx : μ x = some (.inst Cl dx)) (hd : μ dx = some (.attrs f m)) (hg : plainGet C.K Cl name = true)
 (hf : findIn C.K (.ref Cl) name = some (some (.ref fa))) (ht : isFn C.K (.ref fa) = true) (hl : f name = none) : GetM C A (.raw (.ref x)) name μ (.ref fa) := by
 intro s v pl Q E k r h
 (first | (replace r := r.inv; obtain rfl := r) | (replace r := r.inv; obtain ⟨_, rfl⟩ := r) | cases r)
 obtain ⟨es, n, I, he⟩ := k.inst hx hd
 exact method_fn k.K I (plainGet_of hg).1 (plainGet_of hg).2 hf (beq_iff_eq.mp ht) (by show (lookIn name (dictOf es n)).map _ = _; rw [lookIn_dict, he, hl]; rfl) h
theorem Ev.attr {o : Expr} {name : Str} {pos : Pos} {x Cl dx : Addr} {f : Str → Option Value} {m : Nat} {v : Value}
 (h : Ev C A env (eval o env) ρ μ fun d μ1 => d = .raw (.ref x) ∧ μ1 x = some (.inst Cl dx) ∧ μ1 dx = some (.attrs f m) ∧ f name = some v ∧ Q (.raw v) μ1)
 (hg : plainGet C.K Cl name = true) (hh : hasDictIn C.K Cl = true) (ha : findIn C.K (.ref Cl) name = some none) (hv : handedIn v = true)
 (hc : eval (.Attribute o name pos) env = (do
  let o' ← eval o env
  standAt pos.atName
  let r ← holding [o'] (getAttr o' name true)
  letTemporaryGo o o' r
  pure r)) : Ev C A env (eval (.Attribute o name pos) env) ρ μ Q := by
 intro s k F
 rw [hc]
 refine wpAny_bind (wpAny_mono (h s k F) ?_ fun _ _ x => x)
 rintro u s1 ⟨d, μ1, r1, k1, t1, rfl, h1, h2, h3, h4⟩
 (first | (replace r1 := r1.inv; obtain rfl := r1) | (replace r1 := r1.inv; obtain ⟨_, rfl⟩ := r1) | cases r1)
 obtain ⟨es, n, I, he⟩ := k1.inst h1 h2
 refine wpAny_bind (wpAny_standAt (wpAny_bind (wpAny_holding ?_)))
 refine get_value k1.K I (plainGet_of hg).1 (findObj_own hh ha rfl (by rw [lookIn_dict, he, h3])) hv ?_
 exact wpAny_bind (wpAny_letTemporaryGo (wpAny_pure ⟨_, μ1, .raw v, k1.toks _, t1.trans (.toks _), h4⟩))
end
section
variable {C : Cx} {A : Around} {env : Env} {ρ : Str → Option D} {μ : Mem} {Q : D → Mem → Prop}
theorem Ok.setList {s : Shared} {a : Addr} {vs ws : List Value} {n n' : Nat} {ys : List D} {h' : Heap} {t : Nat} (k : Ok C s μ) (hm : μ a = some (.list ys)) {xs : List D} (ha : s.heap.get? a = some (listOf vs.toArray n))
 (hs : Heap.SameBut a s.heap h') (ho : h'.get? a = some (listOf ws.toArray n')) (r : RepAll C.B s.heap ws xs) : Ok C { s with heap := h', toks := t } (upd μ a (.list xs)) ∧ Step s μ { s with heap := h', toks := t } (upd μ a (.list xs)) := by
 have kp : ∀ b o, b ≠ a → s.heap.get? b = some o → h'.get? b = some o := fun b o n e => (hs.2 b n).trans e
 have nT : ∀ us m, ¬ IsT s.heap a us m := fun us m t => by have t : s.heap.get? a = _ := t; rw [ha] at t; simp at t
 have tp : ∀ b us m, IsT s.heap b us m → IsT h' b us m := fun b us m t => kp b _ (fun e => nT us m (e ▸ t)) t
 refine ⟨⟨fun b mo e => ?_, fun b o e => ⟨?_, ?_⟩, fun b e => ?_⟩, ⟨rfl, fun b o h1 h2 => ?_⟩⟩
 · unfold upd at e
   split at e
   · rename_i q; cases e; subst q; exact ⟨ws, n', ho, r.mono fun a vs n _ t => tp a vs n t⟩
   · rename_i q
     have := k.mem b mo e
     cases mo with
     | list xs => obtain ⟨vs, n, h1, h2⟩ := this; exact ⟨vs, n, kp _ _ q h1, h2.mono fun a vs n _ t => tp a vs n t⟩
     | inst C dx => exact kp _ _ q this
     | attrs f m => obtain ⟨es, n, h1, h2⟩ := this; exact ⟨es, n, kp _ _ q h1, h2⟩
     | dict f ps => obtain ⟨es, n, h1, h2⟩ := this; exact ⟨es, n, kp _ _ q h1, h2.mono fun v d r => r.mono fun a vs n _ t => tp a vs n t⟩
     | obj P => obtain ⟨o, h1, h2⟩ := this; exact ⟨o, kp _ _ q h1, h2⟩
 · have h1 := (k.base b o e).1
   unfold upd; rw [if_neg (fun q => by rw [q, hm] at h1; cases h1)]; exact h1
 · have h1 := (k.base b o e).1
   exact kp b o (fun q => by rw [q, hm] at h1; cases h1) (k.base b o e).2
 · obtain ⟨h1, o, h2⟩ := k.ban b e
   have q : b ≠ a := fun q => by rw [q, hm] at h1; cases h1
   exact ⟨by unfold upd; rw [if_neg q]; exact h1, o, kp b o q h2⟩
 · have q : b ≠ a := fun q => by rw [q, hm] at h2; cases h2
   exact ⟨by unfold upd; rw [if_neg q]; exact h2, kp b o q h1⟩
theorem RepAll.split {h : Heap} : ∀ {xs ys : List D} {ws : List Value}, RepAll B h ws (xs ++ ys) → ∃ us vs, ws = us ++ vs ∧ RepAll B h us xs ∧ RepAll B h vs ys
 | [], ys, ws, r => ⟨[], ws, rfl, .nil, r⟩
 | x :: xs, ys, ws, r => by
  replace r := r.inv
  obtain ⟨_, _, rfl, a, r⟩ := r
  obtain ⟨us, vs, rfl, h1, h2⟩ := RepAll.split r
  exact ⟨_ :: us, vs, rfl, .cons a h1, h2⟩
theorem Call.append {a : Addr} {xs : List D} {d : D} (hm : μ a = some (.list xs)) (hz : xs.length ≤ sizeLine) (h : Q .none (upd μ a (.list (xs ++ [d])))) : Call C A (.builtin "list.append") [.raw (.ref a), d] μ Q := by
 intro s vs k r
 replace r := r.inv
 obtain ⟨_, _, rfl, r1, r⟩ := r
 replace r := r.inv
 obtain ⟨_, _, rfl, r2, r⟩ := r
 (first | (replace r := r.inv; obtain rfl := r) | (replace r := r.inv; obtain ⟨_, rfl⟩ := r) | cases r); (first | (replace r1 := r1.inv; obtain rfl := r1) | (replace r1 := r1.inv; obtain ⟨_, rfl⟩ := r1) | cases r1)
 rename_i v
 obtain ⟨ws, n, ho, rr⟩ := k.mem a _ hm
 have hl : s.heap.IsList a ws.toArray := ⟨_, ho, rfl, n, rfl⟩
 have hu : (s.heap.update a (Obj.mapSeq fun x => x.push v)).get? a = some (listOf (ws ++ [v]).toArray (n + 1)) := by
  have := IsL.update (h := s.heap) (l := a) (items := ws.toArray) (n := n) ho (fun x => x.push v)
  simpa using this
 obtain ⟨k', t'⟩ := Ok.setList (t := s.toks) k hm (xs := xs ++ [d]) ho (Heap.SameBut.update ..) hu (rr.append (.cons r2 .nil))
 exact call_meets (T := "list") F.slot_list_append hl.typeIs F.entry_list_append (F.args_list_append_2 _ _) (list_append a ws.toArray n v (by simpa [rr.length] using hz)) ⟨ho, .none, _, .none, k', t', h⟩
theorem Call.pop {a : Addr} {xs : List D} {d : D} (hm : μ a = some (.list (xs ++ [d]))) (hz : xs.length + 1 ≤ sizeLine) (h : Q d (upd μ a (.list xs))) : Call C A (.builtin "list.pop") [.raw (.ref a)] μ Q := by
 intro s vs k r
 replace r := r.inv
 obtain ⟨_, _, rfl, r1, r⟩ := r
 (first | (replace r := r.inv; obtain rfl := r) | (replace r := r.inv; obtain ⟨_, rfl⟩ := r) | cases r); (first | (replace r1 := r1.inv; obtain rfl := r1) | (replace r1 := r1.inv; obtain ⟨_, rfl⟩ := r1) | cases r1)
 obtain ⟨ws, n, ho, rr⟩ := k.mem a _ hm
 have hl : s.heap.IsList a ws.toArray := ⟨_, ho, rfl, n, rfl⟩
 obtain ⟨us, vs, rfl, r1, r2⟩ := rr.split
 replace r2 := r2.inv
 obtain ⟨v, _, rfl, r2, r3⟩ := r2
 (first | (replace r3 := r3.inv; obtain rfl := r3) | (replace r3 := r3.inv; obtain ⟨_, rfl⟩ := r3) | cases r3)
 have hlen : us.length = xs.length := r1.length
 have hu : ∃ m, (s.heap.update a (Obj.mapSeq fun x => x.eraseIdxIfInBounds ((us ++ [v]).toArray.size - 1))).get? a = some (listOf us.toArray m) := by
  have := IsL.update (h := s.heap) (l := a) (items := (us ++ [v]).toArray) (n := n) ho (fun x => x.eraseIdxIfInBounds ((us ++ [v]).toArray.size - 1))
  have e : (us ++ [v]).toArray.eraseIdxIfInBounds ((us ++ [v]).toArray.size - 1) = us.toArray := by
   apply Array.toList_inj.mp
   simp [List.eraseIdx_append_of_length_le]
  rw [e] at this
  exact ⟨_, this⟩
 obtain ⟨m, hu⟩ := hu
 obtain ⟨k', t'⟩ := Ok.setList (t := s.toks) k hm (xs := xs) ho (Heap.SameBut.update ..) hu r1
 exact call_meets (T := "list") F.slot_list_pop hl.typeIs F.entry_list_pop (F.args_list_pop_1 _) (MeetsSeq.list_pop_last a (us ++ [v]).toArray n v (by simp) (by simp; omega)) ⟨ho, d, _, t'.rep k r2, k', t', h⟩
theorem notLong {b : Bool} {n : Nat} (h : n ≤ sizeLine) : ¬ (!b && Builtin.List.listTooLong n) = true := by
 unfold Builtin.List.listTooLong
 rw [decide_eq_false (Nat.not_lt.mpr h)]; simp
theorem Call.extendTup {a : Addr} {xs ys : List D} (hm : μ a = some (.list xs)) (hz : xs.length + ys.length ≤ sizeLine) (h : Q .none (upd μ a (.list (xs ++ ys)))) : Call C A (.builtin "list.extend") [.raw (.ref a), .tup ys] μ Q := by
 intro s vs k r
 replace r := r.inv
 obtain ⟨_, _, rfl, r1, r⟩ := r
 replace r := r.inv
 obtain ⟨_, _, rfl, r2, r⟩ := r
 (first | (replace r := r.inv; obtain rfl := r) | (replace r := r.inv; obtain ⟨_, rfl⟩ := r) | cases r); (first | (replace r1 := r1.inv; obtain rfl := r1) | (replace r1 := r1.inv; obtain ⟨_, rfl⟩ := r1) | cases r1)
 replace r2 := r2.inv
 obtain ⟨b, us, m, rfl, _, ht, ru⟩ := r2
 obtain ⟨ws, n, ho, rr⟩ := k.mem a _ hm
 have hl : s.heap.IsList a ws.toArray := ⟨_, ho, rfl, n, rfl⟩
 have hu : ∃ m, (s.heap.update a (Obj.mapSeq fun x => x ++ us.toArray)).get? a = some (listOf (ws ++ us).toArray m) := by
  have := IsL.update (h := s.heap) (l := a) (items := ws.toArray) (n := n) ho (fun x => x ++ us.toArray)
  have e : ws.toArray ++ us.toArray = (ws ++ us).toArray := by simp
  rw [e] at this
  exact ⟨_, this⟩
 obtain ⟨m', hu⟩ := hu
 obtain ⟨k', t'⟩ := Ok.setList (t := s.toks) k hm (xs := xs ++ ys) ho (Heap.SameBut.update ..) hu (rr.append ru)
 have z1 : ws.toArray.size ≤ sizeLine := by simp [rr.length]; omega
 have z2 : ws.toArray.size + us.toArray.size ≤ sizeLine := by simp [rr.length, ru.length]; omega
 exact call_meets (T := "list") F.slot_list_extend hl.typeIs F.entry_list_extend (F.args_list_extend_2 _ _) (AutoSeq1.list_extend_list_tuple_0 a ws.toArray n b us.toArray m (notLong z2) z1 (Nat.le_succ_of_le z2)) ⟨ho, ht, .none, _, .none, k', t', h⟩
theorem Call.extendList {a b : Addr} {xs ys : List D} (hm : μ a = some (.list xs)) (hb : μ b = some (.list ys)) (hz : xs.length + ys.length ≤ sizeLine) (h : Q .none (upd μ a (.list (xs ++ ys)))) : Call C A (.builtin "list.extend") [.raw (.ref a), .raw (.ref b)] μ Q := by
 intro s vs k r
 replace r := r.inv
 obtain ⟨_, _, rfl, r1, r⟩ := r
 replace r := r.inv
 obtain ⟨_, _, rfl, r2, r⟩ := r
 (first | (replace r := r.inv; obtain rfl := r) | (replace r := r.inv; obtain ⟨_, rfl⟩ := r) | cases r); (first | (replace r1 := r1.inv; obtain rfl := r1) | (replace r1 := r1.inv; obtain ⟨_, rfl⟩ := r1) | cases r1); (first | (replace r2 := r2.inv; obtain rfl := r2) | (replace r2 := r2.inv; obtain ⟨_, rfl⟩ := r2) | cases r2)
 obtain ⟨us, m, ht, ru⟩ := k.mem b _ hb
 obtain ⟨ws, n, ho, rr⟩ := k.mem a _ hm
 have hl : s.heap.IsList a ws.toArray := ⟨_, ho, rfl, n, rfl⟩
 have hu : ∃ m, (s.heap.update a (Obj.mapSeq fun x => x ++ us.toArray)).get? a = some (listOf (ws ++ us).toArray m) := by
  have := IsL.update (h := s.heap) (l := a) (items := ws.toArray) (n := n) ho (fun x => x ++ us.toArray)
  have e : ws.toArray ++ us.toArray = (ws ++ us).toArray := by simp
  rw [e] at this
  exact ⟨_, this⟩
 obtain ⟨m', hu⟩ := hu
 obtain ⟨k', t'⟩ := Ok.setList (t := s.toks) k hm (xs := xs ++ ys) ho (Heap.SameBut.update ..) hu (rr.append ru)
 have z1 : ws.toArray.size ≤ sizeLine := by simp [rr.length]; omega
 have z2 : ws.toArray.size + us.toArray.size ≤ sizeLine := by simp [rr.length, ru.length]; omega
 exact call_meets (T := "list") F.slot_list_extend hl.typeIs F.entry_list_extend (F.args_list_extend_2 _ _) (AutoSeq1.list_extend_list_list_0 a ws.toArray n b us.toArray m (notLong z2) z1 (Nat.le_succ_of_le z2)) ⟨ho, ht, .none, _, .none, k', t', h⟩
theorem Call.lenList {a : Addr} {xs : List D} (hm : μ a = some (.list xs)) (hz : xs.length < 2 ^ 62) (h : Q (.int (xs.length : Int)) μ) : Call C A (.builtin "len") [.raw (.ref a)] μ Q := by
 intro s vs k r
 replace r := r.inv
 obtain ⟨_, _, rfl, r1, r⟩ := r
 (first | (replace r := r.inv; obtain rfl := r) | (replace r := r.inv; obtain ⟨_, rfl⟩ := r) | cases r); (first | (replace r1 := r1.inv; obtain rfl := r1) | (replace r1 := r1.inv; obtain ⟨_, rfl⟩ := r1) | cases r1)
 obtain ⟨ws, n, ho, rr⟩ := k.mem a _ hm
 have hl : s.heap.IsList a ws.toArray := ⟨_, ho, rfl, n, rfl⟩
 have e : ws.toArray.size = xs.length := by simp [rr.length]
 refine Calls.call_len_list hl (by rw [e]; omega) ?_
 rw [e]
 exact ⟨_, μ, .int _ _, k.toks _, .toks _, h⟩
theorem Call.lenTup {l : List D} (hz : l.length < 2 ^ 62) (h : Q (.int (l.length : Int)) μ) : Call C A (.builtin "len") [.tup l] μ Q := by
 intro s vs k r
 replace r := r.inv
 obtain ⟨_, _, rfl, r1, r⟩ := r
 (first | (replace r := r.inv; obtain rfl := r) | (replace r := r.inv; obtain ⟨_, rfl⟩ := r) | cases r)
 replace r1 := r1.inv
 obtain ⟨a, ws, n, rfl, _, ht, rr⟩ := r1
 have e : ws.toArray.size = l.length := by simp [rr.length]
 refine PyProof.Rows.len_tuple (items := ws.toArray) ⟨_, ht, rfl, n, rfl⟩ (by rw [e]; omega) ?_
 rw [e]
 exact ⟨_, μ, .int _ _, k.toks _, .toks _, h⟩
theorem Step.grow {s : Shared} (k : Ok C s μ) {h' : Heap} {t : Nat} (hk : ∀ b o, s.heap.get? b = some o → h'.get? b = some o) : Ok C { s with heap := h', toks := t } μ ∧ Step s μ { s with heap := h', toks := t } μ :=
 ⟨k.keeps hk, rfl, fun b o h1 h2 => ⟨h2, hk b o h1⟩⟩
theorem Call.tupleList {a : Addr} {xs : List D} (hm : μ a = some (.list xs)) (hz : xs.length ≤ sizeLine) (h : Q (.tup xs) μ) : Call C A (.type "tuple") [.raw (.ref a)] μ Q := by
 intro s vs k r
 replace r := r.inv
 obtain ⟨_, _, rfl, r1, r⟩ := r
 (first | (replace r := r.inv; obtain rfl := r) | (replace r := r.inv; obtain ⟨_, rfl⟩ := r) | cases r); (first | (replace r1 := r1.inv; obtain rfl := r1) | (replace r1 := r1.inv; obtain ⟨_, rfl⟩ := r1) | cases r1)
 obtain ⟨ws, n, ho, rr⟩ := k.mem a _ hm
 have hl : s.heap.IsList a ws.toArray := ⟨_, ho, rfl, n, rfl⟩
 refine call_tuple_list hl (fun h' hk => ?_) (by simpa [rr.length] using hz)
 obtain ⟨k', t'⟩ := Step.grow (t := s.toks) k (h' := h'.push { cls := .type "tuple", data := .seq ws.toArray }) fun b o e => Heap.get?_push_of_some _ (hk b o e)
 have nb : ¬ C.B h'.objs.size := fun e => by
  obtain ⟨_, o, h2⟩ := k.ban _ e
  exact Nat.lt_irrefl _ (Heap.lt_size (hk _ o h2))
 exact ⟨_, μ, .tup (n := 0) nb (Heap.get?_push_size _ rfl) (t'.repAll k rr), k', t', h⟩
theorem Call.listTup {l : List D} (hz : l.length ≤ sizeLine) (h : ∀ a, μ a = none → Q (.raw (.ref a)) (upd μ a (.list l))) : Call C A (.type "list") [.tup l] μ Q := by
 intro s vs k r
 replace r := r.inv
 obtain ⟨_, _, rfl, r1, r⟩ := r
 (first | (replace r := r.inv; obtain rfl := r) | (replace r := r.inv; obtain ⟨_, rfl⟩ := r) | cases r)
 replace r1 := r1.inv
 obtain ⟨a, ws, n, rfl, _, ht, rr⟩ := r1
 refine call_list_seq a (T := "tuple") (.inr rfl) ht rfl rfl (fun h' c' hk hl => ?_) (by simpa [rr.length] using hz)
 obtain ⟨k', t'⟩ := Step.grow (t := s.toks) k hk
 refine ⟨_, upd μ s.heap.objs.size (.list l), .raw _, ⟨fun b mo e => ?_, fun b o e => ⟨?_, (k'.base b o e).2⟩, fun b e => ?_⟩, ⟨rfl, fun b o h1 h2 => ⟨?_, hk b o h1⟩⟩, h _ k.fresh⟩
 · unfold upd at e
   split at e
   · rename_i q; cases e; subst q; exact ⟨ws, c', hl, t'.repAll k rr⟩
   · exact k'.mem b mo e
 · unfold upd; rw [if_neg (Nat.ne_of_lt (Heap.lt_size (k.base b o e).2))]; exact (k.base b o e).1
 · obtain ⟨q1, o, q2⟩ := k.ban b e
   exact ⟨by unfold upd; rw [if_neg (Nat.ne_of_lt (Heap.lt_size q2))]; exact q1, o, hk b o q2⟩
 · unfold upd; rw [if_neg (Nat.ne_of_lt (Heap.lt_size h1))]; exact h2
theorem Call.intInt {i : Int} (h : Q (.int i) μ) : Call C A (.type "int") [.int i] μ Q := by
 intro s vs k r
 replace r := r.inv
 obtain ⟨_, _, rfl, r1, r⟩ := r
 (first | (replace r := r.inv; obtain rfl := r) | (replace r := r.inv; obtain ⟨_, rfl⟩ := r) | cases r); (first | (replace r1 := r1.inv; obtain rfl := r1) | (replace r1 := r1.inv; obtain ⟨_, rfl⟩ := r1) | cases r1); exact PySem.call_int_int ⟨_, μ, .int _ _, k, .refl _ _, h⟩
theorem Call.intBool {b : Bool} (h : Q (.int (if b then 1 else 0)) μ) : Call C A (.type "int") [.bool b] μ Q := by
 intro s vs k r
 replace r := r.inv
 obtain ⟨_, _, rfl, r1, r⟩ := r
 (first | (replace r := r.inv; obtain rfl := r) | (replace r := r.inv; obtain ⟨_, rfl⟩ := r) | cases r); (first | (replace r1 := r1.inv; obtain rfl := r1) | (replace r1 := r1.inv; obtain ⟨_, rfl⟩ := r1) | cases r1); exact PySem.call_int_bool ⟨_, μ, .int _ _, k.toks _, .toks _, h⟩
theorem Call.maxInt {a b : Int} (hh : A.handled = none) (h : Q (.int (if b > a then b else a)) μ) : Call C A (.builtin "max") [.int a, .int b] μ Q := by
 intro s vs k r
 replace r := r.inv
 obtain ⟨_, _, rfl, r1, r⟩ := r
 replace r := r.inv
 obtain ⟨_, _, rfl, r2, r⟩ := r
 (first | (replace r := r.inv; obtain rfl := r) | (replace r := r.inv; obtain ⟨_, rfl⟩ := r) | cases r); (first | (replace r1 := r1.inv; obtain rfl := r1) | (replace r1 := r1.inv; obtain ⟨_, rfl⟩ := r1) | cases r1); (first | (replace r2 := r2.inv; obtain rfl := r2) | (replace r2 := r2.inv; obtain ⟨_, rfl⟩ := r2) | cases r2)
 refine max_two_ints hh fun h' tk hk => ?_
 obtain ⟨k', t'⟩ := Step.grow (t := tk) k hk
 split <;> (rename_i q; first | rw [if_pos q] at h | rw [if_neg q] at h) <;> exact ⟨_, μ, .int _ _, k', t', h⟩
theorem Call.strInt {i : Int} (hi : i.natAbs.log2 < 1920) (h : Q (.str (toString i)) μ) : Call C A (.type "str") [.int i] μ Q := by
 intro s vs k r
 replace r := r.inv
 obtain ⟨_, _, rfl, r1, r⟩ := r
 (first | (replace r := r.inv; obtain rfl := r) | (replace r := r.inv; obtain ⟨_, rfl⟩ := r) | cases r); (first | (replace r1 := r1.inv; obtain rfl := r1) | (replace r1 := r1.inv; obtain ⟨_, rfl⟩ := r1) | cases r1); exact PySem.P.str_of_int hi ⟨_, μ, .str _ _, k.toks _, .toks _, h⟩
theorem Call.isStr {x : Str} (h : Q (.bool true) μ) : Call C A (.builtin "isinstance") [.str x, .raw (.type "str")] μ Q := by
 intro s vs k r
 replace r := r.inv
 obtain ⟨_, _, rfl, r1, r⟩ := r
 replace r := r.inv
 obtain ⟨_, _, rfl, r2, r⟩ := r
 (first | (replace r := r.inv; obtain rfl := r) | (replace r := r.inv; obtain ⟨_, rfl⟩ := r) | cases r); (first | (replace r1 := r1.inv; obtain rfl := r1) | (replace r1 := r1.inv; obtain ⟨_, rfl⟩ := r1) | cases r1); (first | (replace r2 := r2.inv; obtain rfl := r2) | (replace r2 := r2.inv; obtain ⟨_, rfl⟩ := r2) | cases r2); exact PySem.IsiPair.str_str ⟨_, μ, .bool _, k, .refl _ _, h⟩
theorem Bin.add {a b : Int} (h : Q (.int (a + b)) μ) : Bin C A .Add (.int a) (.int b) μ Q := by
 intro s va vb k ra rb; (first | (replace ra := ra.inv; obtain rfl := ra) | (replace ra := ra.inv; obtain ⟨_, rfl⟩ := ra) | cases ra); (first | (replace rb := rb.inv; obtain rfl := rb) | (replace rb := rb.inv; obtain ⟨_, rfl⟩ := rb) | cases rb); exact PyProof.Rows.add_int ⟨_, μ, .int _ _, k.toks _, .toks _, h⟩
theorem Bin.sub {a b : Int} (h : Q (.int (a - b)) μ) : Bin C A .Sub (.int a) (.int b) μ Q := by
 intro s va vb k ra rb; (first | (replace ra := ra.inv; obtain rfl := ra) | (replace ra := ra.inv; obtain ⟨_, rfl⟩ := ra) | cases ra); (first | (replace rb := rb.inv; obtain rfl := rb) | (replace rb := rb.inv; obtain ⟨_, rfl⟩ := rb) | cases rb); exact PyProof.Rows.sub_int ⟨_, μ, .int _ _, k.toks _, .toks _, h⟩
theorem Bin.mul {a b : Int} (hm : IntMulOk a b) (h : Q (.int (a * b)) μ) : Bin C A .Mult (.int a) (.int b) μ Q := by
 intro s va vb k ra rb; (first | (replace ra := ra.inv; obtain rfl := ra) | (replace ra := ra.inv; obtain ⟨_, rfl⟩ := ra) | cases ra); (first | (replace rb := rb.inv; obtain rfl := rb) | (replace rb := rb.inv; obtain ⟨_, rfl⟩ := rb) | cases rb); exact PyProof.Rows.mul_int ⟨_, μ, .int _ _, k.toks _, .toks _, h⟩ hm
theorem Bin.mod {a b : Int} (hb : b ≠ 0) (h : Q (.int (a.fmod b)) μ) : Bin C A .Mod (.int a) (.int b) μ Q := by
 intro s va vb k ra rb; (first | (replace ra := ra.inv; obtain rfl := ra) | (replace ra := ra.inv; obtain ⟨_, rfl⟩ := ra) | cases ra); (first | (replace rb := rb.inv; obtain rfl := rb) | (replace rb := rb.inv; obtain ⟨_, rfl⟩ := rb) | cases rb); exact PyProof.Rows.mod_int' hb ⟨_, μ, .int _ _, k.toks _, .toks _, h⟩
theorem Bin.div {a b : Int} (hb : b ≠ 0) (hp : Builtin.divisionGoesByPylong a b = false) (h : Q (.int (a.fdiv b)) μ) : Bin C A .FloorDiv (.int a) (.int b) μ Q := by
 intro s va vb k ra rb; (first | (replace ra := ra.inv; obtain rfl := ra) | (replace ra := ra.inv; obtain ⟨_, rfl⟩ := ra) | cases ra); (first | (replace rb := rb.inv; obtain rfl := rb) | (replace rb := rb.inv; obtain ⟨_, rfl⟩ := rb) | cases rb); exact PyProof.Rows.floordiv_int hb ⟨_, μ, .int _ _, k.toks _, .toks _, h⟩ (.inl hp)
theorem Bin.pow {a n : Int} (hn : 0 ≤ n) (hsz : (Builtin.Int.intBits a : Int) * n ≤ 2 ^ 27) (h : Q (.int (a ^ n.toNat)) μ) : Bin C A .Pow (.int a) (.int n) μ Q := by
 intro s va vb k ra rb; (first | (replace ra := ra.inv; obtain rfl := ra) | (replace ra := ra.inv; obtain ⟨_, rfl⟩ := ra) | cases ra); (first | (replace rb := rb.inv; obtain rfl := rb) | (replace rb := rb.inv; obtain ⟨_, rfl⟩ := rb) | cases rb); exact PyProof.Rows.pow_int hn hsz ⟨_, μ, .int _ _, k.toks _, .toks _, h⟩
theorem Una.neg {a : Int} (h : Q (.int (-a)) μ) : Una C A .USub (.int a) μ Q := by
 intro s va k ra; (first | (replace ra := ra.inv; obtain rfl := ra) | (replace ra := ra.inv; obtain ⟨_, rfl⟩ := ra) | cases ra); exact PyProof.Rows.neg_int ⟨_, μ, .int _ _, k.toks _, .toks _, h⟩
theorem Bin.str {x y : Str} (hz : x.length + y.length ≤ sizeLine) (h : Q (.str (x ++ y)) μ) : Bin C A .Add (.str x) (.str y) μ Q := by
 intro s va vb k ra rb; (first | (replace ra := ra.inv; obtain rfl := ra) | (replace ra := ra.inv; obtain ⟨_, rfl⟩ := ra) | cases ra); (first | (replace rb := rb.inv; obtain rfl := rb) | (replace rb := rb.inv; obtain ⟨_, rfl⟩ := rb) | cases rb); exact PyProof.Rows.add_str (fun t' tk => ⟨_, μ, .str _ _, k.toks _, .toks _, h⟩) hz
theorem Bin.tup {l m : List D} (hl : l ≠ []) (hm : m ≠ []) (hz : l.length + m.length ≤ sizeLine) (h : Q (.tup (l ++ m)) μ) : Bin C A .Add (.tup l) (.tup m) μ Q := by
 intro s va vb k ra rb
 replace ra := ra.inv
 obtain ⟨a, us, n, rfl, _, ta, ua⟩ := ra
 replace rb := rb.inv
 obtain ⟨b, ws, p, rfl, _, tb, ub⟩ := rb
 refine P.add_tuple ta tb (by intro e; exact hl (List.length_eq_zero_iff.mp (by rw [← ua.length]; simpa using e))) (by intro e; exact hm (List.length_eq_zero_iff.mp (by rw [← ub.length]; simpa using e))) ?_ (by simpa [ua.length, ub.length] using hz)
 have hk : ∀ q o, s.heap.get? q = some o → (s.heap.push { cls := .type "tuple", data := .seq (us.toArray ++ ws.toArray) }).get? q = some o := fun q o e => Heap.get?_push_of_some _ e
 obtain ⟨k', t'⟩ := Step.grow (t := s.toks) k hk
 have hh : us.toArray ++ ws.toArray = (us ++ ws).toArray := by simp
 exact ⟨_, μ, .tup (vs := us ++ ws) (n := 0) k.noBan (by rw [hh]; exact Heap.get?_push_size _ rfl) (t'.repAll k (ua.append ub)), k', t', h⟩
theorem Bin.list {a b : Addr} {xs ys : List D} (ha : μ a = some (.list xs)) (hb : μ b = some (.list ys)) (hz : xs.length + ys.length ≤ sizeLine) (h : ∀ c, μ c = none → Q (.raw (.ref c)) (upd μ c (.list (xs ++ ys)))) : Bin C A .Add (.raw (.ref a)) (.raw (.ref b)) μ Q := by
 intro s va vb k ra rb
 (first | (replace ra := ra.inv; obtain rfl := ra) | (replace ra := ra.inv; obtain ⟨_, rfl⟩ := ra) | cases ra); (first | (replace rb := rb.inv; obtain rfl := rb) | (replace rb := rb.inv; obtain ⟨_, rfl⟩ := rb) | cases rb)
 obtain ⟨us, n, ta, ua⟩ := k.mem a _ ha
 obtain ⟨ws, p, tb, ub⟩ := k.mem b _ hb
 refine P.add_list ta tb ?_ (by simpa [ua.length, ub.length] using hz)
 have hh : us.toArray ++ ws.toArray = (us ++ ws).toArray := by simp
 exact ⟨_, _, .raw _, k.new (mo := .list (xs ++ ys)) ⟨us ++ ws, 0, by rw [hh]; exact Heap.get?_push_size _ rfl, (ua.append ub).mono fun a vs n _ t => Heap.get?_push_of_some _ t⟩, Step.new, h _ k.fresh⟩
end
section
variable {C : Cx} {A : Around} {env : Env} {ρ : Str → Option D} {μ : Mem} {Q : Out → (Str → Option D) → Mem → Prop} {X : Xp}
noncomputable def Thru (C : Cx) (A : Around) (env : Env) (X : Xp) : Prop :=
 ∀ s a ρ μ, Ok C s μ → FrameOk C s.heap μ env ρ → X a s ρ μ →
  notedBy (model C.prog C.w) A env (fun e s1 => cameBackBy (model C.prog C.w) A env (fun e s2 => ∃ ρ' μ', e = .ref a ∧ Ok C s2 μ' ∧ FrameOk C s2.heap μ' env ρ' ∧ StepF env s μ s2 μ' ∧ X a s2 ρ' μ') e s1) (.ref a) s
theorem Thru.no : Thru C A env noX := fun _ _ _ _ _ _ x => x.elim
theorem notedBy.mono {E E' : Value → Shared → Prop} {e : Value} {s : Shared} (h : notedBy (model C.prog C.w) A env E e s) (q : ∀ e s, E e s → E' e s) : notedBy (model C.prog C.w) A env E' e s :=
 wpAny_mono h (fun _ s h => q _ s h) (fun e s h => q e s h)
theorem cameBackBy.mono {E E' : Value → Shared → Prop} {e : Value} {s : Shared} (h : cameBackBy (model C.prog C.w) A env E e s) (q : ∀ e s, E e s → E' e s) : cameBackBy (model C.prog C.w) A env E' e s :=
 wpAny_mono h (fun _ s h => q _ s h) (fun e s h => q e s h)
theorem Thru.use {s s0 : Shared} {μ0 : Mem} {e : Value} (T : Thru C A env X) (t : StepF env s0 μ0 s μ) (h : PE C env s μ X e s') : notedBy (model C.prog C.w) A env (fun e s1 => cameBackBy (model C.prog C.w) A env (PE C env s0 μ0 X) e s1) e s' := by
 obtain ⟨a, ρ', μ', rfl, k, F, t', x⟩ := h
 refine notedBy.mono (T s' a ρ' μ' k F x) fun e s1 h1 => cameBackBy.mono h1 fun e s2 h2 => ?_
 obtain ⟨ρ2, μ2, rfl, k2, F2, t2, x2⟩ := h2
 exact ⟨a, ρ2, μ2, rfl, k2, F2, (t.trans t').trans t2, x2⟩
@[reducible] noncomputable def WhileQ (J : Nat → (Str → Option D) → Mem → Prop) (n : Nat) (Q : Out → (Str → Option D) → Mem → Prop) : Out → (Str → Option D) → Mem → Prop
 | .next => fun ρ μ => ∃ m, m < n ∧ J m ρ μ
 | .cont => fun ρ μ => ∃ m, m < n ∧ J m ρ μ
 | .brk => Q .next
 | .ret d => Q (.ret d)
theorem Ex.while {test : Expr} {body : List Stmt} {pos : Pos} (J : Nat → (Str → Option D) → Mem → Prop) (n : Nat) (h0 : J n ρ μ) (T : Thru C A env X)
 (turn : ∀ n ρ μ, J n ρ μ → Et C A env (isTrue test env (eval test env)) ρ μ fun b μ1 => Br' b (Q .next ρ μ1) (Ex C A env (execs body env) ρ μ1 (WhileQ J n Q) X)) : Ex C A env (exec (.While test body [] pos) env) ρ μ Q X := by
 intro s k F
 refine wpAny_While (codeAny_whileLoop (fun n s' => Pu C env s μ (J n) s') ?_ n ⟨ρ, μ, k, F, .refl _ _ _, h0⟩)
 rintro n s1 ⟨ρ1, μ1, k1, F1, t1, j⟩
 refine wpAny_mono (turn n ρ1 μ1 j s1 k1 F1) ?_ fun _ _ x => x.elim
 rintro b s2 ⟨μ2, k2, t2, h1, h2⟩
 cases b with
 | false => exact wpAny_execs_nil ⟨.next, ρ1, μ2, .next, k2, F1.step t2 k1, t1.trans (t2.f env), h1 rfl⟩
 | true =>
  refine wpAny_mono (h2 rfl s2 k2 (F1.step t2 k1)) ?_ fun e s3 h3 => T.use (t1.trans (t2.f env)) h3
  rintro f s3 ⟨o, ρ3, μ3, r, k3, F3, t3, h3⟩
  have tt := (t1.trans (t2.f env)).trans t3
  cases r with
  | next => obtain ⟨m, hm, j'⟩ := h3; exact ⟨m, hm, ρ3, μ3, k3, F3, tt, j'⟩
  | cont => obtain ⟨m, hm, j'⟩ := h3; exact ⟨m, hm, ρ3, μ3, k3, F3, tt, j'⟩
  | brk => exact ⟨.next, ρ3, μ3, .next, k3, F3, tt, h3⟩
  | ret r => exact ⟨.ret _, ρ3, μ3, .ret r, k3, F3, tt, h3⟩
theorem FrameOk.sub {h : Heap} {μ' : Mem} (F : FrameOk C h μ env ρ) (hs : Sub μ' μ) : FrameOk C h μ' env ρ := by
 have z : ∀ b, μ b = none → μ' b = none := fun b e => by
  cases q : μ' b with
  | none => rfl
  | some mo => rw [hs b mo q] at e; cases e
 exact ⟨F.kind, F.globals, F.builtins, ⟨z _ F.free.1, F.free.2⟩, F.ns, fun x c hc => ⟨z _ (F.cells x c hc).1, (F.cells x c hc).2⟩, F.inj⟩
theorem StepF.sub {s s' : Shared} {μ1 μ' : Mem} (hs : Sub μ' μ) (t : StepF env s μ' s' μ1) : StepF env s μ s' μ1 := by
 have z : ∀ b, μ b = none → μ' b = none := fun b e => by
  cases q : μ' b with
  | none => rfl
  | some mo => rw [hs b mo q] at e; cases e
 exact ⟨t.eq, fun b o h1 h2 h3 => t.keep b o h1 (z b h2) h3⟩
theorem Ex.forget {t : Sem Flow} {μ' : Mem} (hs : Sub μ' μ) (h : Ex C A env t ρ μ' Q X) : Ex C A env t ρ μ Q X := by
 intro s k F
 refine wpAny_mono (h s (k.sub hs) (F.sub hs)) ?_ ?_
 · rintro f s' ⟨o, ρ1, μ1, r, k1, F1, t1, q⟩
   exact ⟨o, ρ1, μ1, r, k1, F1, t1.sub hs, q⟩
 · rintro e s' ⟨o, ρ1, μ1, r, k1, F1, t1, q⟩
   exact ⟨o, ρ1, μ1, r, k1, F1, t1.sub hs, q⟩
theorem Step.sub {s s' : Shared} {μ1 μ' : Mem} (hs : Sub μ' μ) (t : Step s μ' s' μ1) : Step s μ s' μ1 := by
 have z : ∀ b, μ b = none → μ' b = none := fun b e => by
  cases q : μ' b with
  | none => rfl
  | some mo => rw [hs b mo q] at e; cases e
 exact ⟨t.eq, fun b o h1 h2 => t.keep b o h1 (z b h2)⟩
noncomputable abbrev Cx.ban (C : Cx) (B : Addr → Prop) (hB : ∀ b o, C.h0.get? b = some o → ¬ B b) : Cx := { C with B := B, hB := hB }
theorem Rep.weak {B B' : Addr → Prop} {h : Heap} (hb : ∀ b, B b → B' b) {v : Value} {d : D} (r : Rep B' h v d) : Rep B h v d := r.turn fun a _ _ n t => ⟨fun q => n (hb a q), t⟩
theorem RepAll.weak {B B' : Addr → Prop} {h : Heap} (hb : ∀ b, B b → B' b) {vs : List Value} {l : List D} (r : RepAll B' h vs l) : RepAll B h vs l := r.turn fun a _ _ n t => ⟨fun q => n (hb a q), t⟩
theorem Rep.more {B B' : Addr → Prop} {h : Heap} (hb : ∀ b o, h.get? b = some o → B' b → B b) {v : Value} {d : D} (r : Rep B h v d) : Rep B' h v d := r.turn fun a _ _ n t => ⟨fun q => n (hb a _ t q), t⟩
theorem RepAll.more {B B' : Addr → Prop} {h : Heap} (hb : ∀ b o, h.get? b = some o → B' b → B b) {vs : List Value} {l : List D} (r : RepAll B h vs l) : RepAll B' h vs l := r.turn fun a _ _ n t => ⟨fun q => n (hb a _ t q), t⟩
theorem MemOk.change {B B' : Addr → Prop} {h : Heap} {a : Addr} {mo : MO} (q : ∀ vs l, RepAll B h vs l → RepAll B' h vs l) (x : MemOk B h a mo) : MemOk B' h a mo := by
 cases mo with
 | list xs => obtain ⟨vs, n, h1, h2⟩ := x; exact ⟨vs, n, h1, q _ _ h2⟩
 | inst C dx => exact x
 | attrs f m => exact x
 | dict f ps => obtain ⟨es, n, h1, h2⟩ := x; exact ⟨es, n, h1, h2.mono fun v d r => by cases q [v] [d] (.cons r .nil) with | cons r _ => exact r⟩
 | obj P => exact x
theorem FrameOk.change {C' : Cx} {h : Heap} (h0 : C'.h0 = C.h0) (q : ∀ v d, Rep C.B h v d → Rep C'.B h v d) (F : FrameOk C h μ env ρ) : FrameOk C' h μ env ρ := by
 obtain ⟨m, hn, hv⟩ := F.ns
 refine ⟨F.kind, F.globals, F.builtins, by rw [h0]; exact F.free, ⟨m, hn, fun x d hx => ?_⟩, by rw [h0]; exact F.cells, F.inj⟩
 rcases hv x d hx with ⟨h1, v, h2, h3⟩ | ⟨h1, c, v, h2, h3, h4⟩
 · exact .inl ⟨h1, v, h2, q _ _ h3⟩
 · exact .inr ⟨h1, c, v, h2, h3, q _ _ h4⟩
theorem Ok.weak {B : Addr → Prop} {hB} {s : Shared} (k : Ok (C.ban B hB) s μ) (hb : ∀ b, C.B b → B b) : Ok C s μ :=
 ⟨fun a mo e => (k.mem a mo e).change fun _ _ r => r.weak hb, k.base, fun b e => k.ban b (hb b e)⟩
end
noncomputable abbrev keepBut (wr : List Addr) (h h' : Heap) : Prop := ∀ b o, b ∉ wr → h.get? b = some o → h'.get? b = some o
structure Iter (C : Cx) (A : Around) (I : Addr) (tg : Expr) (fp wr : List Addr) (B : Addr → Prop) (ds : List D) (St : Nat → Heap → Prop) : Prop where
 sub : ∀ b ∈ wr, b ∈ fp
 ban : ∀ b, C.B b → B b
 frame : ∀ i h h', St i h → (∀ b ∈ fp, ∀ o, h.get? b = some o → h'.get? b = some o) → (∀ a vs n, ¬ B a → IsT h a vs n → IsT h' a vs n) → St i h'
 kind : ∀ i h, St i h → ∀ b ∈ fp, ∃ o, h.get? b = some o ∧ (∀ es ep, o.data ≠ .dict es ep) ∧ (∀ c, o.data ≠ .cell c)
 notT : ∀ i h, St i h → ∀ b ∈ wr, ¬ B b → ∀ vs m, ¬ IsT h b vs m
 item : ∀ i d s (Q : Option Value → Shared → Prop) E, ds[i]? = some d → St i s.heap → (∀ b, B b → ∃ o, s.heap.get? b = some o) → (∀ v h' tk,
  (∀ (Q2 : Unit → Shared → Prop) E2, (∀ h'', Rep B h'' v d → St (i + 1) h'' → keepBut wr s.heap h'' → Q2 () { s with heap := h'', toks := tk }) → wpAny (model C.prog C.w) A (letOwnedTupleGo tg (.ref I) v) Q2 E2 { s with heap := h', toks := tk }) →
  Q (some v) { s with heap := h', toks := tk }) → wpAny (model C.prog C.w) A (pyNext (.ref I)) Q E s
 done : ∀ s (Q : Option Value → Shared → Prop) E, St ds.length s.heap → (∀ h' tk, keepBut wr s.heap h' → (∀ b ∈ wr, B b → ∃ o, h'.get? b = some o) → Q none { s with heap := h', toks := tk }) → wpAny (model C.prog C.w) A (pyNext (.ref I)) Q E s
 self : ∀ i s (Q : Value → Shared → Prop) E, St i s.heap → Q (.ref I) s → wpAny (model C.prog C.w) A (pyIter (.ref I)) Q E s
noncomputable def Fresh (s0 : Shared) (μ0 : Mem) (b : Addr) : Prop := ∀ o, s0.heap.get? b = some o → μ0 b ≠ none
structure IterOk (C : Cx) (A : Around) (env : Env) (ρ : Str → Option D) (μ μ0 : Mem) (s0 s : Shared) (I : Addr) (tg : Expr) (fp wr : List Addr) (B : Addr → Prop) (hB : ∀ b o, C.h0.get? b = some o → ¬ B b) (ds : List D) (St : Nat → Heap → Prop) : Prop where
 it : Iter C A I tg fp wr B ds St
 ok : Ok (C.ban B hB) s μ
 fr : FrameOk (C.ban B hB) s.heap μ env ρ
 st : St 0 s.heap
 fpm : ∀ b ∈ fp, μ b = none
 wr0 : ∀ b ∈ wr, Fresh s0 μ0 b ∧ C.h0.get? b = none
noncomputable def Asg (C : Cx) (A : Around) (env : Env) (tg : Expr) (d : D) (ρ : Str → Option D) (μ : Mem) (Q : (Str → Option D) → Mem → Prop) : Prop :=
 ∀ s v, Ok C s μ → FrameOk C s.heap μ env ρ → Rep C.B s.heap v d → wpAny (model C.prog C.w) A (assign tg env v) (fun _ s' => Pu C env s μ Q s') No s
section
variable {C : Cx} {A : Around} {env : Env} {ρ : Str → Option D} {μ : Mem} {X : Xp}
theorem FrameOk.kindOwn {h : Heap} (F : FrameOk C h μ env ρ) {b : Addr} {o : Obj} (ho : h.get? b = some o) (h1 : ∀ es ep, o.data ≠ .dict es ep) (h2 : ∀ c, o.data ≠ .cell c) : ¬ Own env b := by
 rintro (e | ⟨x, hx⟩)
 · obtain ⟨m, ⟨o', es, ep, ho', hd, _⟩, _⟩ := F.ns
   rw [← e, ho] at ho'; cases ho'; exact h1 _ _ hd
 · obtain ⟨_, _, _, v, o', ho', hd⟩ := F.cells x b hx
   rw [ho] at ho'; cases ho'; exact h2 _ hd
theorem Ok.hidden {s : Shared} {h' : Heap} {tk : Nat} {wr : List Addr} (k : Ok C s μ) (hwr : ∀ b ∈ wr, μ b = none ∧ C.h0.get? b = none) (kp : keepBut wr s.heap h') (tp : ∀ a vs n, ¬ C.B a → IsT s.heap a vs n → IsT h' a vs n)
 (ex : ∀ b ∈ wr, C.B b → ∃ o, h'.get? b = some o) : Ok C { s with heap := h', toks := tk } μ := by
 refine ⟨fun a mo e => ?_, fun b o e => ⟨(k.base b o e).1, kp b o (fun q => by rw [(hwr b q).2] at e; cases e) (k.base b o e).2⟩, fun b e => ⟨(k.ban b e).1, ?_⟩⟩
 · have ne : a ∉ wr := fun q => by rw [(hwr a q).1] at e; cases e
   have := k.mem a mo e
   cases mo with
   | list xs => obtain ⟨vs, n, h1, h2⟩ := this; exact ⟨vs, n, kp _ _ ne h1, h2.mono tp⟩
   | inst C dx => exact kp _ _ ne this
   | attrs f m => obtain ⟨es, n, h1, h2⟩ := this; exact ⟨es, n, kp _ _ ne h1, h2⟩
   | dict f ps => obtain ⟨es, n, h1, h2⟩ := this; exact ⟨es, n, kp _ _ ne h1, h2.mono fun v d r => r.mono tp⟩
   | obj P => obtain ⟨o, h1, h2⟩ := this; exact ⟨o, kp _ _ ne h1, h2⟩
 · by_cases q : b ∈ wr
   · exact ex b q e
   · obtain ⟨o, ho⟩ := (k.ban b e).2; exact ⟨o, kp b o q ho⟩
theorem FrameOk.hidden {h h' : Heap} {wr : List Addr} (F : FrameOk C h μ env ρ) (hown : ∀ b ∈ wr, ¬ Own env b) (kp : keepBut wr h h') (tp : ∀ a vs n, ¬ C.B a → IsT h a vs n → IsT h' a vs n) : FrameOk C h' μ env ρ := by
 obtain ⟨m, hn, hv⟩ := F.ns
 obtain ⟨o, es, ep, ho, r⟩ := id hn
 have cl : ∀ x c v, env.cells.lookup x = some c → h.IsCell c v → h'.IsCell c v := fun y c v hy ⟨oc, hoc, hd⟩ => ⟨oc, kp c oc (fun q => hown c q (.inr ⟨y, hy⟩)) hoc, hd⟩
 refine ⟨F.kind, F.globals, F.builtins, F.free, ⟨m, ⟨o, es, ep, kp _ _ (fun q => hown _ q (.inl rfl)) ho, r⟩, fun y d hy => ?_⟩, fun y c hy => ?_, F.inj⟩
 · rcases hv y d hy with ⟨h1, v, h2, h3⟩ | ⟨h1, c, v, h2, h3, h4⟩
   · exact .inl ⟨h1, v, h2, h3.mono tp⟩
   · exact .inr ⟨h1, c, v, h2, cl y c _ h2 h3, h4.mono tp⟩
 · obtain ⟨f, g, n, v, hc⟩ := F.cells y c hy
   exact ⟨f, g, n, v, cl y c v hy hc⟩
structure Turn (C : Cx) (env : Env) (s0 : Shared) (μ0 : Mem) (fp : List Addr) (B : Addr → Prop) (hB : ∀ b o, C.h0.get? b = some o → ¬ B b) (St : Heap → Prop) (s : Shared) (ρ : Str → Option D) (μ : Mem) : Prop where
 ok : Ok (C.ban B hB) s μ
 fr : FrameOk (C.ban B hB) s.heap μ env ρ
 step : StepF env s0 μ0 s μ
 st : St s.heap
 fpm : ∀ b ∈ fp, μ b = none
theorem StepF.hidden {s0 s : Shared} {μ0 : Mem} {h' : Heap} {tk : Nat} {wr : List Addr} (t : StepF env s0 μ0 s μ) (w0 : ∀ b ∈ wr, Fresh s0 μ0 b) (kp : keepBut wr s.heap h') : StepF env s0 μ0 { s with heap := h', toks := tk } μ := by
 refine ⟨by show _ = { s0 with heap := h', toks := tk }; rw [t.eq], fun b o h1 h2 h3 => ?_⟩
 obtain ⟨a, c⟩ := t.keep b o h1 h2 h3
 exact ⟨a, kp b o (fun q => w0 b q o h1 h2) c⟩
@[reducible] noncomputable def LoopQ (J : Nat → (Str → Option D) → Mem → Prop) (i : Nat) (Q : Out → (Str → Option D) → Mem → Prop) : Out → (Str → Option D) → Mem → Prop
 | .next => J (i + 1)
 | .cont => J (i + 1)
 | .brk => Q .next
 | .ret d => Q (.ret d)
inductive ForOk (C : Cx) (env : Env) (s0 : Shared) (μ0 : Mem) (s : Shared) (fp wr : List Addr) (Q : Out → (Str → Option D) → Mem → Prop) (f : Flow) (s' : Shared) : Prop
 | mk (o : Out) (ρ' : Str → Option D) (μ' : Mem) (ro : OutRep C.B s'.heap f o) (k : Ok C s' μ') (F : FrameOk C s'.heap μ' env ρ') (t : StepF env s0 μ0 s' μ')
  (kf : ∀ b ∈ fp, b ∉ wr → μ' b = none ∧ ∀ o, s.heap.get? b = some o → s'.heap.get? b = some o) (kt : ∀ a vs n, ¬ C.B a → IsT s.heap a vs n → IsT s'.heap a vs n) (q : Q o ρ' μ')
@[reducible] noncomputable def ForR (C : Cx) (A : Around) (env : Env) (s0 : Shared) (μ0 : Mem) (s : Shared) (fp wr : List Addr) (X : Xp) (Q : Out → (Str → Option D) → Mem → Prop) : Result → Shared → Prop
 | .ok f => ForOk C env s0 μ0 s fp wr Q f
 | .error e => cameBackBy (model C.prog C.w) A env (PE C env s0 μ0 X) e
inductive ForI (C : Cx) (env : Env) (s0 : Shared) (μ0 : Mem) (s : Shared) (fp wr : List Addr) (B : Addr → Prop) (hB : ∀ b o, C.h0.get? b = some o → ¬ B b) (ds : List D) (St : Nat → Heap → Prop) (J : Nat → (Str → Option D) → Mem → Prop) (n : Nat) (s1 : Shared) : Prop
 | mk (i : Nat) (ρ1 : Str → Option D) (μ1 : Mem) (hn : n + i = ds.length + 1) (hi : i ≤ ds.length) (T : Turn C env s0 μ0 fp B hB (St i) s1 ρ1 μ1) (j : J i ρ1 μ1) (kf : ∀ b ∈ fp, b ∉ wr → ∀ o, s.heap.get? b = some o → s1.heap.get? b = some o) (kt : ∀ a vs n, ¬ B a → IsT s.heap a vs n → IsT s1.heap a vs n)
theorem for_core {s0 s : Shared} {I : Addr} {tg : Expr} {fp wr : List Addr} {B : Addr → Prop} {hB : ∀ b o, C.h0.get? b = some o → ¬ B b} {ds : List D} {St : Nat → Heap → Prop} {body : List Stmt} {μ0 : Mem}
 (W : IterOk C A env ρ μ μ0 s0 s I tg fp wr B hB ds St) (t0 : StepF env s0 μ0 s μ) (J : Nat → (Str → Option D) → Mem → Prop) (j0 : J 0 ρ μ)
 {Q : Out → (Str → Option D) → Mem → Prop} (T : Thru (C.ban B hB) A env X)
 (turn : ∀ i d ρ μ, ds[i]? = some d → J i ρ μ → Asg (C.ban B hB) A env tg d ρ μ fun ρ1 μ1 => Ex (C.ban B hB) A env (execs body env) ρ1 μ1 (LoopQ J i Q) X)
 (fin : ∀ ρ μ, J ds.length ρ μ → Q .next ρ μ) :
 codeAny (model C.prog C.w) A (.forLoop tg (.ref I) body [] env) (ForR (C.ban B hB) A env s0 μ0 s fp wr X Q) s := by
 refine codeAny_forLoop_any (ForI C env s0 μ0 s fp wr B hB ds St J) ?_ (ds.length + 1)
  ⟨0, ρ, μ, rfl, Nat.zero_le _, ⟨W.ok, W.fr, t0, W.st, W.fpm⟩, j0, fun _ _ _ _ e => e, fun _ _ _ _ t => t⟩
 rintro n s1 ⟨i, ρ1, μ1, hn, hi, T1, j1, kf, kt⟩
 have wrm : ∀ b ∈ wr, μ1 b = none ∧ (C.ban B hB).h0.get? b = none := fun b hb => ⟨T1.fpm b (W.it.sub b hb), (W.wr0 b hb).2⟩
 have wro : ∀ b ∈ wr, ¬ Own env b := fun b hb => by
  obtain ⟨o, ho, h1, h2⟩ := W.it.kind i _ T1.st b (W.it.sub b hb)
  exact T1.fr.kindOwn ho h1 h2
 have tpk : ∀ h', keepBut wr s1.heap h' → ∀ a vs n, ¬ B a → IsT s1.heap a vs n → IsT h' a vs n := fun h' kp a vs n nb t =>
  kp a _ (fun q => W.it.notT i _ T1.st a q nb vs n t) t
 rcases Nat.lt_or_ge i ds.length with hlt | hge
 · obtain ⟨d, hd⟩ : ∃ d, ds[i]? = some d := ⟨_, List.getElem?_eq_getElem hlt⟩
   refine W.it.item i d s1 _ _ hd T1.st (fun b hb => (T1.ok.ban b hb).2) fun v h1 tk hgo => ?_
   refine hgo _ _ fun h2 rv st2 kp => ?_
   have k2 := T1.ok.hidden (tk := tk) wrm kp (tpk _ kp) fun b hb _ => let ⟨o, ho, _⟩ := W.it.kind _ _ st2 b (W.it.sub b hb); ⟨o, ho⟩
   have F2 := T1.fr.hidden wro kp (tpk _ kp)
   have t2 := T1.step.hidden (tk := tk) (fun b hb => (W.wr0 b hb).1) kp
   refine wpAny_mono (turn i d ρ1 μ1 hd j1 { s1 with heap := h2, toks := tk } v k2 F2 rv) ?_ fun _ _ x => x.elim
   rintro _ s3 ⟨ρ3, μ3, k3, F3, t3, h3⟩
   refine wpAny_mono (h3 s3 k3 F3) ?_ ?_
   · rintro f s4 ⟨o, ρ4, μ4, r4, k4, F4, t4, h4⟩
     have tt := t3.trans t4
     have kfp : ∀ b ∈ fp, μ4 b = none ∧ ∀ o, h2.get? b = some o → s4.heap.get? b = some o := fun b hb => by
      obtain ⟨o, ho, q1, q2⟩ := W.it.kind _ _ st2 b hb
      have := tt.keep b o ho (T1.fpm b hb) (F2.kindOwn ho q1 q2)
      exact ⟨this.1, fun o' ho' => by have ho'' : h2.get? b = some o := ho; rw [ho''] at ho'; cases ho'; exact this.2⟩
     have kf4 : ∀ b ∈ fp, b ∉ wr → ∀ o, s.heap.get? b = some o → s4.heap.get? b = some o := fun b hb hw o ho => (kfp b hb).2 o (kp b o hw (kf b hb hw o ho))
     have T4 : Turn C env s0 μ0 fp B hB (St (i + 1)) s4 ρ4 μ4 := ⟨k4, F4, t2.trans tt, W.it.frame _ _ _ st2 (fun b hb o ho => (kfp b hb).2 o ho) fun a vs n nb t => tt.tuple k2 F2 a vs n t, fun b hb => (kfp b hb).1⟩
     have kt4 : ∀ a vs n, ¬ B a → IsT s.heap a vs n → IsT s4.heap a vs n := fun a vs n nb t => tt.tuple k2 F2 a vs n (tpk _ kp a vs n nb (kt a vs n nb t))
     cases r4 with
     | next => exact ⟨n - 1, ar_lt hn hlt, i + 1, ρ4, μ4, ar_dec hn hlt, hlt, T4, h4, kf4, kt4⟩
     | cont => exact ⟨n - 1, ar_lt hn hlt, i + 1, ρ4, μ4, ar_dec hn hlt, hlt, T4, h4, kf4, kt4⟩
     | brk => exact ⟨.next, ρ4, μ4, .next, k4, F4, T4.step, fun b hb hw => ⟨T4.fpm b hb, kf4 b hb hw⟩, kt4, h4⟩
     | ret r => exact ⟨.ret _, ρ4, μ4, .ret r, k4, F4, T4.step, fun b hb hw => ⟨T4.fpm b hb, kf4 b hb hw⟩, kt4, h4⟩
   · intro e s4 h4
     exact T.use (t2.trans t3) h4
 · have hi' : i = ds.length := Nat.le_antisymm hi hge
   subst hi'
   refine W.it.done s1 _ _ T1.st fun h1 tk kp ex => wpAny_execs_nil ?_
   have k2 := T1.ok.hidden (tk := tk) wrm kp (tpk _ kp) ex
   have F2 := T1.fr.hidden wro kp (tpk _ kp)
   have t2 := T1.step.hidden (tk := tk) (fun b hb => (W.wr0 b hb).1) kp
   exact ⟨.next, ρ1, μ1, .next, k2, F2, t2, fun b hb hw => ⟨T1.fpm b hb, fun o ho => kp b o hw (kf b hb hw o ho)⟩, fun a vs n nb t => tpk _ kp a vs n nb (kt a vs n nb t), fin ρ1 μ1 j1⟩
end
section
variable {C : Cx} {A : Around}
theorem letOwned_plain {s : Shared} {I : Addr} {o : Obj} {T : String} {tg : Expr} {v : Value} {Q : Unit → Shared → Prop} {E : Value → Shared → Prop} (ho : s.heap.get? I = some o) (hc : o.cls = .type T)
 (hT : (["enumerate", "zip", "dict_itemiterator", "dict_reverseitemiterator", "odict_iterator", "itertools.zip_longest", "itertools.pairwise"].contains T) = false) (h : Q () s) :
 wpAny (model C.prog C.w) A (letOwnedTupleGo tg (.ref I) v) Q E s := by
 have key : ∀ (x : Sem Unit), x = (do
  let (.ref r, .ref a) := (Value.ref I, v) | return
  let o ← load r
  match o.cls, o.data with
  | .type n, .fields vs =>
   if ["enumerate", "zip", "dict_itemiterator", "dict_reverseitemiterator", "odict_iterator", "itertools.zip_longest", "itertools.pairwise"].contains n && vs[0]? == some (rawInt a) then
    rule "for.unpacks-the-owned-tuple"
    updateField r 0 .none
  | _, _ => pure ()) → wpAny (model C.prog C.w) A x Q E s := by
  rintro x rfl
  cases v with
  | ref a =>
   refine wpAny_bind (wpAny_load ho ?_)
   rw [hc]
   cases o.data with
   | fields vs =>
    show wpAny _ _ (if _ then _ else _) _ _ _
    rw [hT, Bool.false_and]
    exact wpAny_pure h
   | _ => exact wpAny_pure h
  | _ => exact wpAny_pure h
 cases tg with
 | Tuple es k p => exact key _ rfl
 | List es p => exact key _ rfl
 | _ => exact wpAny_pure h
theorem Iter.list (hh : A.handled = none) (I l : Addr) (hI : ¬ C.B I) (hne : l ≠ I) (tg : Expr) (vs : List Value) (n : Nat) (ds : List D) : Iter C A I tg [I, l] [I] C.B ds (fun i h => h.IsListIter I l i ∧ h.get? l = some (listOf vs.toArray n) ∧ RepAll C.B h vs ds) where
 sub := fun b hb => by simp at hb; simp [hb]
 ban := fun _ h => h
 frame := fun i h h' st kp tp => ⟨st.1.at fun o e => kp I (by simp) o e, kp l (by simp) _ st.2.1, st.2.2.mono tp⟩
 kind := fun i h st b hb => by
  obtain ⟨⟨o, ho, hc, hd⟩, hl, _⟩ := st
  rcases List.mem_cons.mp hb with rfl | hb
  · exact ⟨o, ho, by constructor <;> (rw [hd]; intros; intro e; cases e)⟩
  · obtain rfl := List.mem_singleton.mp hb
    exact ⟨_, hl, by constructor <;> (intros; intro e; cases e)⟩
 notT := fun i h st b hb _ us m t => by
  obtain rfl := List.mem_singleton.mp hb
  obtain ⟨⟨o, ho, hc, hd⟩, _⟩ := st
  have t : h.get? b = _ := t
  rw [ho] at t; cases t; simp at hc
 item := fun i d s Q E hd st _ hQ => by
  obtain ⟨hit, hl, r⟩ := st
  obtain ⟨v, hv, rv⟩ := r.get hd
  have hl' : s.heap.IsList l vs.toArray := ⟨_, hl, rfl, n, rfl⟩
  refine wpAny_pyNext_list_item hit hl' (x := v) (by simpa using hv) fun h' hit' hs' => ?_
  refine hQ v h' s.toks fun Q2 E2 h2 => ?_
  obtain ⟨o, ho, hc, hd'⟩ := hit
  have tp : ∀ a us m, ¬ C.B a → IsT s.heap a us m → IsT h' a us m := fun a us m _ t => hs'.extBut a _ (fun q => by
   have t : s.heap.get? a = _ := t
   rw [q, ho] at t; cases t; simp at hc) t
  obtain ⟨o2, ho2, hc2, _⟩ := id hit'
  refine letOwned_plain (s := { s with heap := h' }) ho2 hc2 (by decide) (h2 h' (rv.mono tp) ⟨hit', hs'.extBut l _ hne hl, r.mono tp⟩ fun b ob hb e => hs'.extBut b ob (fun q => hb (by simp [q])) e)
 done := fun s Q E st hQ => by
  obtain ⟨hit, hl, r⟩ := st
  have hl' : s.heap.IsList l vs.toArray := ⟨_, hl, rfl, n, rfl⟩
  refine wpAny_pyNext_list_end hh hit hl' (by simp [r.length]) fun h' he' => hQ h' s.toks (fun b o hb e => he' b o (fun q => hb (by simp [q])) e) fun b hb hB => ?_
  obtain rfl := List.mem_singleton.mp hb
  exact absurd hB hI
 self := fun i s Q E st hQ => wpAny_pyIter_listiter st.1 hQ
theorem Iter.tuple (hh : A.handled = none) (I t : Addr) (hI : ¬ C.B I) (ht : ¬ C.B t) (hne : t ≠ I) (tg : Expr) (vs : List Value) (n : Nat) (ds : List D) : Iter C A I tg [I] [I] C.B ds (fun i h => h.IsTupleIter I t i ∧ IsT h t vs.toArray n ∧ RepAll C.B h vs ds) where
 sub := fun b hb => hb
 ban := fun _ h => h
 frame := fun i h h' st kp tp => ⟨let ⟨o, ho, r⟩ := st.1; ⟨o, kp I (by simp) o ho, r⟩, tp _ _ _ ht st.2.1, st.2.2.mono tp⟩
 kind := fun i h st b hb => by
  obtain ⟨⟨o, ho, hc, hd⟩, hl, _⟩ := st
  obtain rfl := List.mem_singleton.mp hb
  exact ⟨o, ho, by constructor <;> (rw [hd]; intros; intro e; cases e)⟩
 notT := fun i h st b hb _ us m t => by
  obtain rfl := List.mem_singleton.mp hb
  obtain ⟨⟨o, ho, hc, hd⟩, _⟩ := st
  have t : h.get? b = _ := t
  rw [ho] at t; cases t; simp at hc
 item := fun i d s Q E hd st _ hQ => by
  obtain ⟨hit, hl, r⟩ := st
  obtain ⟨v, hv, rv⟩ := r.get hd
  have hl' : s.heap.IsTuple t vs.toArray := ⟨_, hl, rfl, n, rfl⟩
  refine wpAny_pyNext_tuple_item hit hl' (x := v) (by simpa using hv) fun h' hit' hs' => ?_
  refine hQ v h' s.toks fun Q2 E2 h2 => ?_
  obtain ⟨o, ho, hc, hd'⟩ := hit
  have tp : ∀ a us m, ¬ C.B a → IsT s.heap a us m → IsT h' a us m := fun a us m _ t => hs'.extBut a _ (fun q => by
   have t : s.heap.get? a = _ := t
   rw [q, ho] at t; cases t; simp at hc) t
  obtain ⟨o2, ho2, hc2, _⟩ := id hit'
  refine letOwned_plain (s := { s with heap := h' }) ho2 hc2 (by decide) (h2 h' (rv.mono tp) ⟨hit', hs'.extBut t _ hne hl, r.mono tp⟩ fun b ob hb e => hs'.extBut b ob (fun q => hb (by simp [q])) e)
 done := fun s Q E st hQ => by
  obtain ⟨hit, hl, r⟩ := st
  have hl' : s.heap.IsTuple t vs.toArray := ⟨_, hl, rfl, n, rfl⟩
  refine wpAny_pyNext_tuple_end hh hit hl' (by simp [r.length]) fun h' he' => hQ h' s.toks (fun b o hb e => he' b o (fun q => hb (by simp [q])) e) fun b hb hB => ?_
  obtain rfl := List.mem_singleton.mp hb
  exact absurd hB hI
 self := fun i s Q E st hQ => wpAny_pyIter_tupleiter st.1 hQ
noncomputable def rgs (a : Int) : Nat → List D
 | 0 => []
 | n + 1 => .int a :: rgs (a + 1) n
theorem rgs_length : ∀ (a : Int) (n : Nat), (rgs a n).length = n
 | _, 0 => rfl
 | a, n + 1 => congrArg Nat.succ (rgs_length (a + 1) n)
theorem rgs_get : ∀ (a : Int) (n i : Nat), i < n → (rgs a n)[i]? = some (.int (a + i))
 | _, 0, _, h => absurd h (Nat.not_lt_zero _)
 | a, n + 1, 0, _ => by rw [Int.natCast_zero, Int.add_zero]; rfl
 | a, n + 1, i + 1, h => by
  show (rgs (a + 1) n)[i]? = _
  rw [rgs_get (a + 1) n i (Nat.lt_of_succ_lt_succ h), Int.natCast_succ, Int.add_assoc, Int.add_comm 1]
theorem Iter.range (hh : A.handled = none) (I : Addr) (hI : ¬ C.B I) (tg : Expr) (a : Int) (n : Nat) : Iter C A I tg [I] [I] C.B (rgs a n) (fun i h => i ≤ n ∧ IsRangeIter h I (a + i) ((n : Int) - i) 1) where
 sub := fun b hb => hb
 ban := fun _ h => h
 frame := fun i h h' st kp tp => ⟨st.1, kp I (by simp) _ st.2⟩
 kind := fun i h st b hb => by
  obtain rfl := List.mem_singleton.mp hb
  exact ⟨_, st.2, by constructor <;> (intros; intro e; cases e)⟩
 notT := fun i h st b hb _ us m t => by
  obtain rfl := List.mem_singleton.mp hb
  have t : h.get? b = _ := t
  have q : h.get? b = _ := st.2
  rw [t] at q; simp at q
 item := fun i d s Q E hd st _ hQ => by
  have hi : i < n := by
   rcases Nat.lt_or_ge i n with h | h
   · exact h
   · rw [List.getElem?_eq_none (by rw [rgs_length]; exact h)] at hd; cases hd
  rw [rgs_get a n i hi] at hd; cases hd
  refine wpAny_pyNext_range_item st.2 (by omega) fun h' hit' hs' => ?_
  refine hQ _ h' (s.toks + 1) fun Q2 E2 h2 => ?_
  refine letOwned_plain (s := { s with heap := h', toks := s.toks + 1 }) hit' rfl (by decide) (h2 h' (.int _ _) ⟨hi, ?_⟩ fun b ob hb e => hs'.extBut b ob (fun q => hb (by simp [q])) e)
  have e1 : a + (i : Int) + 1 = a + ((i + 1 : Nat) : Int) := by omega
  have e2 : (n : Int) - i - 1 = (n : Int) - ((i + 1 : Nat) : Int) := by omega
  rw [e1, e2] at hit'
  exact hit'
 done := fun s Q E st hQ => by
  rw [rgs_length] at st
  refine wpAny_pyNext_range_end hh st.2 (by omega) fun h' he' => hQ h' s.toks (fun b o hb e => he' b o (fun q => hb (by simp [q])) e) fun b hb hB => ?_
  obtain rfl := List.mem_singleton.mp hb
  exact absurd hB hI
 self := fun i s Q E st hQ => wpAny_pyIter_rangeiter st.2 hQ
end
section
variable {prog : Program} {w : World} {A : Around} {R : Result → Shared → Prop} {s : Shared}
theorem compLoop_any {elt target iter : Expr} {ifs : List Expr} {scope : Scope} {pos : Pos} {it acc : Value} {env : Env} (I : Nat → Shared → Prop)
 (turn : ∀ n s, I n s → wpAny (model prog w) A (pyNext it) (fun r s₁ => match r with
  | none => R (.ok .next) s₁
  | some v => wpAny (model prog w) A (letOwnedTupleGo target it v) (fun _ s₁' => wpAny (model prog w) A (assign target env v) (fun _ s₂ =>
   wpAny (model prog w) A (forIn ifs true fun c r => if r = true then do let ok ← isTrue c env (eval c env); pure (ForInStep.yield ok) else pure (ForInStep.yield r)) (fun ok s₃ =>
    if ok = true then wpAny (model prog w) A (eval elt env) (fun x s₄ =>
     wpAny (model prog w) A (call (.builtin "list.append") [acc, x]) (fun _ s₅ => ∃ m, m < n ∧ I m s₅) No s₄) No s₃
    else ∃ m, m < n ∧ I m s₃) No s₂) No s₁') No s₁) No s)
 (n : Nat) (h : I n s) : codeAny (model prog w) A (.compLoop (.ListComp elt [⟨target, iter, ifs, 0⟩] scope pos) 0 it acc env) R s := by
 refine codeAny_loop rfl I (fun n s hI => ?_) n h
 show wpAny _ A ((compTurn (.ListComp elt [⟨target, iter, ifs, 0⟩] scope pos) 0 it acc env).onRaise (fun x => do noteFrame x env; theTreesLotGoes x)) _ _ s
 refine wpAny_noted ?_
 rw [compTurn_list]
 refine wpAny_bind (wpAny_standAt (wpAny_bind (wpAny_mono (turn n s hI) (fun r s₁ h₁ => ?_) fun _ _ h' => h'.elim)))
 cases r with
 | none => exact wpAny_pure h₁
 | some v =>
  refine wpAny_bind (wpAny_mono h₁ (fun _ s₁' h₁' => ?_) fun _ _ h' => h'.elim)
  refine wpAny_bind (wpAny_mono h₁' (fun _ s₂ h₂ => wpAny_bind (wpAny_mono h₂ (fun ok s₃ h₃ => ?_) fun _ _ h' => h'.elim)) fun _ _ h' => h'.elim)
  cases ok with
  | false => exact wpAny_pure ⟨rfl, h₃⟩
  | true =>
   exact wpAny_bind (wpAny_bind (wpAny_mono h₃ (fun x s₄ h₄ => wpAny_bind (wpAny_mono h₄ (fun _ s₅ h₅ => wpAny_pure (wpAny_pure ⟨rfl, h₅⟩)) fun _ _ h' => h'.elim)) fun _ _ h' => h'.elim))
end
structure StepL (env : Env) (s : Shared) (μ : Mem) (s' : Shared) (μ' : Mem) : Prop where
 eq : s' = { s with heap := s'.heap, toks := s'.toks }
 keep : ∀ b o, s.heap.get? b = some o → μ b = none → b ≠ env.locals → μ' b = none ∧ s'.heap.get? b = some o
inductive PuL (C : Cx) (env : Env) (s : Shared) (μ : Mem) (Q : (Str → Option D) → Mem → Prop) (s' : Shared) : Prop
 | mk (ρ' : Str → Option D) (μ' : Mem) (k : Ok C s' μ') (F : FrameOk C s'.heap μ' env ρ') (t : StepL env s μ s' μ') (q : Q ρ' μ')
noncomputable def AsgL (C : Cx) (A : Around) (env : Env) (tg : Expr) (d : D) (ρ : Str → Option D) (μ : Mem) (Q : (Str → Option D) → Mem → Prop) : Prop :=
 ∀ s v, Ok C s μ → FrameOk C s.heap μ env ρ → Rep C.B s.heap v d → wpAny (model C.prog C.w) A (assign tg env v) (fun _ s' => PuL C env s μ Q s') No s
noncomputable def Ets (C : Cx) (A : Around) (env : Env) (ifs : List Expr) (ρ : Str → Option D) (μ : Mem) (Q : Bool → Mem → Prop) : Prop :=
 ∀ s, Ok C s μ → FrameOk C s.heap μ env ρ → wpAny (model C.prog C.w) A (forIn ifs true fun c r => if r = true then do let ok ← isTrue c env (eval c env); pure (ForInStep.yield ok) else pure (ForInStep.yield r)) (Pb C s μ Q) No s
section
variable {C : Cx} {A : Around} {env : Env} {ρ : Str → Option D} {μ : Mem} {X : Xp}
theorem Ets.nil {Q : Bool → Mem → Prop} (h : Q true μ) : Ets C A env [] ρ μ Q := fun s k F => wpAny_tests_nil ⟨μ, k, .refl _ _, h⟩
theorem Ets.one {c : Expr} {Q : Bool → Mem → Prop} (h : Et C A env (isTrue c env (eval c env)) ρ μ Q) : Ets C A env [c] ρ μ Q := fun s k F => wpAny_tests_one (h s k F)
theorem FrameOk.less {h : Heap} {ρ' : Str → Option D} (F : FrameOk C h μ env ρ') (hl : ∀ x d, ρ x = some d → ρ' x = some d) : FrameOk C h μ env ρ := by
 obtain ⟨m, hn, hv⟩ := F.ns
 exact ⟨F.kind, F.globals, F.builtins, F.free, ⟨m, hn, fun x d hx => hv x d (hl x d hx)⟩, F.cells, F.inj⟩
structure Keeps (B : Addr → Prop) (s0 : Shared) (μ0 : Mem) (s : Shared) (fp wr : List Addr) (St : Nat → Heap → Prop) (Da : Addr) (i : Nat) (us : List Value) (acc : List D) (nn : Nat) (s1 : Shared) (μ1 : Mem) : Prop where
 st : St i s1.heap
 fpm : ∀ b ∈ fp, μ1 b = none
 t : Step s0 μ0 s1 μ1
 kt : ∀ a vs n, ¬ B a → IsT s.heap a vs n → IsT s1.heap a vs n
 kf : ∀ b ∈ fp, b ∉ wr → ∀ o, s.heap.get? b = some o → s1.heap.get? b = some o
 dm : μ1 Da = none
 d : s1.heap.get? Da = some (listOf (List.toArray us) nn)
 r : RepAll B s1.heap us acc
inductive CompI (C : Cx) (env : Env) (ρ : Str → Option D) (s0 : Shared) (μ0 : Mem) (s : Shared) (fp wr : List Addr) (ds : List D) (St : Nat → Heap → Prop) (Da : Addr) (J : Nat → List D → Mem → Prop) (n : Nat) (s1 : Shared) : Prop
 | mk (i : Nat) (acc : List D) (us : List Value) (nn : Nat) (μ1 : Mem) (hn : n + i = ds.length + 1) (hi : i ≤ ds.length) (ha : acc.length ≤ i) (k : Ok C s1 μ1) (F : FrameOk C s1.heap μ1 env ρ) (K : Keeps C.B s0 μ0 s fp wr St Da i us acc nn s1 μ1) (j : J i acc μ1)
theorem comp_core {s0 s : Shared} {I : Addr} {elt tg iter : Expr} {ifs : List Expr} {scope : Scope} {pos : Pos} {fp wr : List Addr} {B : Addr → Prop} {hB : ∀ b o, C.h0.get? b = some o → ¬ B b} {ds : List D} {St : Nat → Heap → Prop} {μ0 : Mem} {Da : Addr} {nD : Nat} {R : Result → Shared → Prop}
 (W : IterOk C A env ρ μ μ0 s0 s I tg fp wr B hB ds St) (t0 : Step s0 μ0 s μ) (hC0 : Fresh s0 μ0 env.locals)
 (hD : s.heap.get? Da = some (listOf #[] nD)) (hDm : μ Da = none) (hD0 : Fresh s0 μ0 Da) (hDh : C.h0.get? Da = none) (hDf : Da ∉ fp) (hDC : Da ≠ env.locals) (hDB : ¬ B Da)
 (J : Nat → List D → Mem → Prop) (j0 : J 0 [] μ) (hz : ds.length ≤ sizeLine)
 (turn : ∀ i d acc μ, ds[i]? = some d → J i acc μ → AsgL (C.ban B hB) A env tg d ρ μ fun ρ1 μ1 => (∀ x d, ρ x = some d → ρ1 x = some d) ∧ Ets (C.ban B hB) A env ifs ρ1 μ1 fun b μ2 =>
  Br b (Ev (C.ban B hB) A env (eval elt env) ρ1 μ2 fun d' μ3 => J (i + 1) (acc ++ [d']) μ3) (J (i + 1) acc μ2))
 (hR : ∀ s' μ' acc us n m, Ok (C.ban B hB) s' μ' → Step s0 μ0 s' μ' → s'.heap.Ns env.locals m → s'.heap.get? Da = some (listOf (List.toArray us) n) → RepAll B s'.heap us acc → μ' Da = none → μ' env.locals = none →
  (∀ b ∈ fp, b ∉ wr → μ' b = none ∧ ∀ o, s.heap.get? b = some o → s'.heap.get? b = some o) → (∀ a vs n, ¬ B a → IsT s.heap a vs n → IsT s'.heap a vs n) → J ds.length acc μ' → R (.ok .next) s') :
 codeAny (model C.prog C.w) A (.compLoop (.ListComp elt [⟨tg, iter, ifs, 0⟩] scope pos) 0 (.ref I) (.ref Da) env) R s := by
 refine compLoop_any (CompI (C.ban B hB) env ρ s0 μ0 s fp wr ds St Da J) ?_ (ds.length + 1)
  ⟨0, [], [], nD, μ, rfl, Nat.zero_le _, Nat.zero_le _, W.ok, W.fr, ⟨W.st, W.fpm, t0, fun _ _ _ _ t => t, fun _ _ _ _ e => e, hDm, hD, .nil⟩, j0⟩
 rintro n s1 ⟨i, acc, us, nn, μ1, hn, hi, ha, k1, F1, ⟨st1, fpm, t1, kt, kf, hDm1, hD1, rD⟩, j1⟩
 have wrm : ∀ b ∈ wr, μ1 b = none ∧ (C.ban B hB).h0.get? b = none := fun b hb => ⟨fpm b (W.it.sub b hb), (W.wr0 b hb).2⟩
 have wro : ∀ b ∈ wr, ¬ Own env b := fun b hb => by
  obtain ⟨o, ho, h1, h2⟩ := W.it.kind i _ st1 b (W.it.sub b hb)
  exact F1.kindOwn ho h1 h2
 have tpk : ∀ h', keepBut wr s1.heap h' → ∀ a vs n, ¬ B a → IsT s1.heap a vs n → IsT h' a vs n := fun h' kp a vs n nb t =>
  kp a _ (fun q => W.it.notT i _ st1 a q nb vs n t) t
 have hDw : Da ∉ wr := fun q => hDf (W.it.sub _ q)
 have hid : ∀ {h' tk}, keepBut wr s1.heap h' → Step s0 μ0 { s1 with heap := h', toks := tk } μ1 := fun {h' tk} kp => by
  refine ⟨by show _ = { s0 with heap := h', toks := tk }; rw [t1.eq], fun b o h1 h2 => ?_⟩
  obtain ⟨a, c⟩ := t1.keep b o h1 h2
  exact ⟨a, kp b o (fun q => (W.wr0 b q).1 o h1 h2) c⟩
 rcases Nat.lt_or_ge i ds.length with hlt | hge
 · obtain ⟨d, hd⟩ : ∃ d, ds[i]? = some d := ⟨_, List.getElem?_eq_getElem hlt⟩
   refine W.it.item i d s1 _ _ hd st1 (fun b hb => (k1.ban b hb).2) fun v h1 tk hgo => ?_
   refine hgo _ _ fun h2 rv st2 kp => ?_
   have k2 := k1.hidden (tk := tk) wrm kp (tpk _ kp) fun b hb _ => let ⟨o, ho, _⟩ := W.it.kind _ _ st2 b (W.it.sub b hb); ⟨o, ho⟩
   have F2 := F1.hidden wro kp (tpk _ kp)
   have t2 : Step s0 μ0 { s1 with heap := h2, toks := tk } μ1 := hid kp
   have hD2 : h2.get? Da = some (listOf us.toArray nn) := kp Da _ hDw hD1
   refine wpAny_mono (turn i d acc μ1 hd j1 { s1 with heap := h2, toks := tk } v k2 F2 rv) ?_ fun _ _ x => x.elim
   rintro _ s3 ⟨ρ3, μ3, k3, F3, t3, less, h3⟩
   have own3 : ∀ b o, h2.get? b = some o → μ1 b = none → b ≠ env.locals → μ3 b = none ∧ s3.heap.get? b = some o := t3.keep
   have L2 : h2.get? env.locals ≠ none := fun q => by obtain ⟨m, ⟨o, _, _, ho, _⟩, _⟩ := F2.ns; have ho : h2.get? env.locals = some o := ho; rw [q] at ho; cases ho
   have t03 : Step s0 μ0 s3 μ3 := by
    refine ⟨by rw [t3.eq, t2.eq], fun b o h1 h2' => ?_⟩
    obtain ⟨a, c⟩ := t2.keep b o h1 h2'
    exact own3 b o c a (fun q => hC0 o (q ▸ h1) (q ▸ h2'))
   have tp3 : ∀ a vs n, IsT h2 a vs n → IsT s3.heap a vs n := fun a vs n t => by
    cases e : μ1 a with
    | none => exact (own3 a _ t e (fun q => (F2.notTuple t) (.inl q))).2
    | some mo => exact ((k2.mem a mo e).notTuple t).elim
   have fp3 : ∀ b ∈ fp, μ3 b = none ∧ ∀ o, h2.get? b = some o → s3.heap.get? b = some o := fun b hb => by
    obtain ⟨o, ho, q1, q2⟩ := W.it.kind _ _ st2 b hb
    have := own3 b o ho (fpm b hb) (fun q => F2.kindOwn ho q1 q2 (.inl q))
    exact ⟨this.1, fun o' ho' => by rw [ho] at ho'; cases ho'; exact this.2⟩
   have hD3 := own3 Da _ hD2 hDm1 hDC
   refine wpAny_mono (h3 s3 k3 F3) ?_ fun _ _ x => x
   rintro b s4 ⟨μ4, k4, t4, h4, h5⟩
   have st4 : ∀ s5 μ5, Step s3 μ3 s5 μ5 → Keeps B s0 μ0 s fp wr St Da (i + 1) us acc nn s5 μ5 := fun s5 μ5 t5 => by
    have kfp : ∀ b ∈ fp, μ5 b = none ∧ ∀ o, h2.get? b = some o → s5.heap.get? b = some o := fun b hb => by
     obtain ⟨o, ho, q1, q2⟩ := W.it.kind _ _ st2 b hb
     have := t5.keep b o ((fp3 b hb).2 o ho) (fp3 b hb).1
     exact ⟨this.1, fun o' ho' => by rw [ho] at ho'; cases ho'; exact this.2⟩
    have tp5 : ∀ a vs n, IsT h2 a vs n → IsT s5.heap a vs n := fun a vs n t => t5.tuple k3 a vs n (tp3 a vs n t)
    refine ⟨W.it.frame _ _ _ st2 (fun b hb o ho => (kfp b hb).2 o ho) fun a vs n _ t => tp5 a vs n t, fun b hb => (kfp b hb).1, t03.trans t5, fun a vs n nb t => tp5 a vs n (tpk _ kp a vs n nb (kt a vs n nb t)),
     fun b hb hw o ho => (kfp b hb).2 o (kp b o hw (kf b hb hw o ho)), (t5.keep _ _ hD3.2 hD3.1).1, (t5.keep _ _ hD3.2 hD3.1).2, ?_⟩
    exact (rD.mono (tpk _ kp)).mono fun a vs n _ t => tp5 a vs n t
   cases b with
   | false =>
    exact ⟨n - 1, ar_lt hn hlt, i + 1, acc, us, nn, μ4, ar_dec hn hlt, hlt, Nat.le_succ_of_le ha, k4, (F3.step t4 k3).less less, st4 s4 μ4 t4, h5 rfl⟩
   | true =>
    refine wpAny_mono (h4 rfl s4 k4 (F3.step t4 k3)) ?_ fun _ _ x => x
    rintro x s5 ⟨d', μ5, r5, k5, t5, h6⟩
    obtain ⟨q1, q2, q3, q4, q5, q6, q7, q8⟩ := st4 s5 μ5 (t4.trans t5)
    have hl : s5.heap.IsList Da us.toArray := ⟨_, q7, rfl, nn, rfl⟩
    have hus : us.length ≤ sizeLine := by rw [q8.length]; exact Nat.le_trans ha (Nat.le_trans (Nat.le_of_lt hlt) hz)
    have hu : (s5.heap.update Da (Obj.mapSeq fun y => y.push x)).get? Da = some (listOf (us ++ [x]).toArray (nn + 1)) := by
     have := IsL.update (h := s5.heap) (l := Da) (items := us.toArray) (n := nn) q7 (fun y => y.push x)
     simpa using this
    have kp6 : keepBut [Da] s5.heap (s5.heap.update Da (Obj.mapSeq fun y => y.push x)) := fun b o hb e => (Heap.SameBut.update s5.heap Da _).extBut b o (fun q => hb (by simp [q])) e
    have nD : ∀ vs m, ¬ IsT s5.heap Da vs m := fun vs m t => by have t : s5.heap.get? Da = _ := t; rw [q7] at t; simp at t
    have tp6 : ∀ a vs m, IsT s5.heap a vs m → IsT (s5.heap.update Da (Obj.mapSeq fun y => y.push x)) a vs m := fun a vs m t => kp6 a _ (fun q => nD vs m ((List.mem_singleton.mp q) ▸ t)) t
    refine call_meets (T := "list") F.slot_list_append hl.typeIs F.entry_list_append (F.args_list_append_2 _ _) (list_append Da us.toArray nn x (by simpa using hus)) ⟨q7, n - 1, ar_lt hn hlt, i + 1, acc ++ [d'], us ++ [x], nn + 1, μ5, ar_dec hn hlt, hlt, by rw [List.length_append]; exact Nat.succ_le_succ ha, ?_, ?_, ⟨?_, q2, ?_, fun a vs m nb t => tp6 a vs m (q4 a vs m nb t), fun b hb hw o ho => kp6 b o (fun q => hDf (List.mem_singleton.mp q ▸ hb)) (q5 b hb hw o ho), q6, hu, (q8.mono fun a vs m _ t => tp6 a vs m t).append (.cons (r5.mono fun a vs m _ t => tp6 a vs m t) .nil)⟩, h6⟩
    · exact k5.hidden (tk := s5.toks) (wr := [Da]) (fun b hb => by rw [List.mem_singleton.mp hb]; exact ⟨q6, hDh⟩) kp6 (fun a vs m _ t => tp6 a vs m t) fun b hb hB' => by rw [List.mem_singleton.mp hb] at hB'; exact absurd hB' hDB
    · refine (((F3.step (t4.trans t5) k3).less less).hidden (wr := [Da]) (fun b hb => ?_) kp6 fun a vs m _ t => tp6 a vs m t)
      rw [List.mem_singleton.mp hb]
      exact (F3.step (t4.trans t5) k3).kindOwn q7 (by intros; intro e; cases e) (by intros; intro e; cases e)
    · exact W.it.frame _ _ _ q1 (fun b hb o ho => kp6 b o (fun q => hDf (List.mem_singleton.mp q ▸ hb)) ho) fun a vs m _ t => tp6 a vs m t
    · refine ⟨by rw [q3.eq], fun b o h1 h2 => ?_⟩
      obtain ⟨a, c⟩ := q3.keep b o h1 h2
      exact ⟨a, kp6 b o (fun q => hD0 o ((List.mem_singleton.mp q) ▸ h1) ((List.mem_singleton.mp q) ▸ h2)) c⟩
 · have hi' : i = ds.length := by omega
   subst hi'
   refine W.it.done s1 _ _ st1 fun h1 tk kp ex => ?_
   obtain ⟨m, hm, _⟩ := (F1.hidden wro kp (tpk _ kp)).ns
   exact hR { s1 with heap := h1, toks := tk } μ1 acc us nn m (k1.hidden wrm kp (tpk _ kp) ex) (hid kp) hm (kp Da _ hDw hD1) (rD.mono (tpk _ kp)) hDm1 F1.free.1 (fun b hb hw => ⟨fpm b hb, fun o ho => kp b o hw (kf b hb hw o ho)⟩)
    (fun a vs n nb t => tpk _ kp a vs n nb (kt a vs n nb t)) j1
end
noncomputable def rest (μ1 μh μ' : Mem) : Mem := fun b => if (μh b).isNone && (μ1 b).isSome then μ1 b else μ' b
inductive EiP (C : Cx) (A : Around) (env : Env) (tg : Expr) (ρ : Str → Option D) (s0 : Shared) (μ : Mem) (P : List D → Mem → Mem → Prop) (it : Value) (s2 : Shared) : Prop
 | mk (I : Addr) (fp wr : List Addr) (B : Addr → Prop) (hB : ∀ b o, C.h0.get? b = some o → ¬ B b) (ds : List D) (St : Nat → Heap → Prop) (μ1 μh : Mem) (e : it = .ref I) (W : IterOk C A env ρ μh μ s0 s2 I tg fp wr B hB ds St)
  (k : Ok (C.ban B hB) s2 μ1) (t : Step s0 μ s2 μ1) (sub : Sub μh μ1) (hf : ∀ b, μh b = none → μ1 b ≠ none → b ∈ fp ∧ b ∉ wr) (p : P ds μ1 μh)
noncomputable def Ei (C : Cx) (A : Around) (env : Env) (t : Sem Value) (tg : Expr) (ρ : Str → Option D) (μ : Mem) (P : List D → Mem → Mem → Prop) : Prop :=
 ∀ s, Ok C s μ → FrameOk C s.heap μ env ρ → wpAny (model C.prog C.w) A t (fun xv s1 => wpAny (model C.prog C.w) A (pyIter xv) (EiP C A env tg ρ s μ P) No s1) No s
section
variable {C : Cx} {A : Around} {env : Env} {ρ : Str → Option D} {μ : Mem} {X : Xp}
theorem rest_none {μ1 μh μ' : Mem} {b : Addr} (h1 : μ1 b = none) (h2 : μ' b = none) : rest μ1 μh μ' b = none := by
 unfold rest; rw [h1, h2]; simp
theorem Sub.rest {μ1 μh μ' : Mem} (h1 : Sub μh μ1) (h2 : Sub μh μ') : Sub μ1 (rest μ1 μh μ') := fun b m e => by
 unfold Mine.rest
 cases q : μh b with
 | none => rw [e]; rfl
 | some m' =>
  have := h1 b m' q; rw [e] at this; cases this
  exact h2 b m q
theorem Ok.rest {s s' : Shared} {μ1 μh μ' : Mem} {fp wr : List Addr} {B : Addr → Prop} {hB : ∀ b o, C.h0.get? b = some o → ¬ B b} (hb : ∀ b, C.B b → B b) (k1 : Ok (C.ban B hB) s μ1) (k : Ok (C.ban B hB) s' μ')
 (hf : ∀ b, μh b = none → μ1 b ≠ none → b ∈ fp ∧ b ∉ wr) (kf : ∀ b ∈ fp, b ∉ wr → μ' b = none ∧ ∀ o, s.heap.get? b = some o → s'.heap.get? b = some o) (kt : ∀ a vs n, ¬ B a → IsT s.heap a vs n → IsT s'.heap a vs n) : Ok C s' (rest μ1 μh μ') := by
 refine ⟨fun a mo e => ?_, fun b o e => ⟨rest_none (k1.base b o e).1 (k.base b o e).1, (k.base b o e).2⟩, fun b e => ⟨rest_none (k1.ban b (hb b e)).1 (k.ban b (hb b e)).1, (k.ban b (hb b e)).2⟩⟩
 unfold Mine.rest at e
 split at e
 · rename_i q
   rw [Bool.and_eq_true] at q
   have q2 : μh a = none := by simpa using q.1
   obtain ⟨f1, f2⟩ := hf a q2 (by rw [e]; intro h; cases h)
   have kk := (kf a f1 f2).2
   have m1 := k1.mem a mo e
   cases mo with
   | list xs => obtain ⟨vs, n, h1, h2⟩ := m1; exact ⟨vs, n, kk _ h1, (h2.mono kt).weak hb⟩
   | inst C dx => exact kk _ m1
   | attrs f m => obtain ⟨es, n, h1, h2⟩ := m1; exact ⟨es, n, kk _ h1, h2⟩
   | dict f ps => obtain ⟨es, n, h1, h2⟩ := m1; exact ⟨es, n, kk _ h1, h2.mono fun v d r => (r.mono kt).weak hb⟩
   | obj P => obtain ⟨o, h1, h2⟩ := m1; exact ⟨o, kk _ h1, h2⟩
 · exact (k.mem a _ e).change fun _ _ r => r.weak hb
theorem StepF.rest {s s2 s' : Shared} {μ1 μh μ' : Mem} (t1 : Step s μ s2 μ1) (t : StepF env s μ s' μ') : StepF env s μ s' (rest μ1 μh μ') :=
 ⟨t.eq, fun b o h1 h2 h3 => ⟨rest_none (t1.keep b o h1 h2).1 (t.keep b o h1 h2 h3).1, (t.keep b o h1 h2 h3).2⟩⟩
theorem FrameOk.exists {h : Heap} (F : FrameOk C h μ env ρ) {b : Addr} (hb : Own env b) : ∃ o, h.get? b = some o := by
 rcases hb with rfl | ⟨x, hx⟩
 · obtain ⟨m, ⟨o, _, _, ho, _⟩, _⟩ := F.ns; exact ⟨o, ho⟩
 · obtain ⟨_, _, _, v, o, ho, _⟩ := F.cells x b hx; exact ⟨o, ho⟩
theorem FrameOk.rest {s s2 : Shared} {h' : Heap} {ρ' : Str → Option D} {μ1 μh μ' : Mem} (F0 : FrameOk C s.heap μ env ρ) (t1 : Step s μ s2 μ1) (F : FrameOk C h' μ' env ρ') : FrameOk C h' (rest μ1 μh μ') env ρ' := by
 have z : ∀ b, Own env b → μ1 b = none := fun b hb => by
  obtain ⟨o, ho⟩ := F0.exists hb
  exact (t1.keep b o ho (F0.ownOk hb).1).1
 exact ⟨F.kind, F.globals, F.builtins, ⟨rest_none (z _ (.inl rfl)) F.free.1, F.free.2⟩, F.ns, fun x c hc => ⟨rest_none (z _ (.inr ⟨x, hc⟩)) (F.cells x c hc).1, (F.cells x c hc).2⟩, F.inj⟩
@[reducible] noncomputable def ForQ (J : Nat → (Str → Option D) → Mem → Prop) (i : Nat) (Q : Out → (Str → Option D) → Mem → Prop) (μ1 μh : Mem) : Out → (Str → Option D) → Mem → Prop := LoopQ J i fun o ρ2 μ2 => Fg (Q o ρ2) (rest μ1 μh μ2)
inductive ForP (C : Cx) (A : Around) (env : Env) (tg : Expr) (body : List Stmt) (ρ : Str → Option D) (X : Xp) (Q : Out → (Str → Option D) → Mem → Prop) (ds : List D) (μ1 μh : Mem) : Prop
 | mk (J : Nat → (Str → Option D) → Mem → Prop) (j0 : J 0 ρ μh)
  (turn : ∀ B hB, (∀ b, C.B b → B b) → Thru (C.ban B hB) A env X ∧ ∀ i d ρ μ, ds[i]? = some d → J i ρ μ → Asg (C.ban B hB) A env tg d ρ μ fun ρ1 μ1' => Ex (C.ban B hB) A env (execs body env) ρ1 μ1' (ForQ J i Q μ1 μh) X)
  (fin : ∀ ρ μ', J ds.length ρ μ' → Fg (Q .next ρ) (rest μ1 μh μ'))
theorem Ex.for {tg iter : Expr} {body : List Stmt} {pos : Pos} {Q : Out → (Str → Option D) → Mem → Prop}
 (h : Ei C A env (eval iter env) tg ρ μ (ForP C A env tg body ρ X Q))
 (hs : ∀ x, foldedSetIterable iter env x = pure x) : Ex C A env (exec (.For tg iter body [] pos) env) ρ μ Q X := by
 intro s k F
 refine wpAny_For (wpAny_mono (h s k F) (fun xv s1 h1 => wpAny_mono h1 ?_ fun _ _ x => x.elim) fun _ _ x => x.elim) hs
 rintro it s2 ⟨I, fp, wr, B, hB, ds, St, μ1, μh, rfl, W, k1, t1, sub, hf, J, j0, turn, fin⟩
 obtain ⟨T, turn⟩ := turn B hB W.it.ban
 have t0 : StepF env s μ s2 μh := by
  refine ⟨t1.eq, fun b o h1 h2 _ => ⟨?_, (t1.keep b o h1 h2).2⟩⟩
  cases q : μh b with
  | none => rfl
  | some mo => have := sub b mo q; rw [(t1.keep b o h1 h2).1] at this; cases this
 refine codeAny_mono (for_core (Q := fun o ρ' μ' => Fg (Q o ρ') (Mine.rest μ1 μh μ')) W t0 J j0 T turn fin) ?_
 rintro r s' hr
 cases r with
 | ok f =>
  obtain ⟨o, ρ', μ', ro, k', F', t', kf, kt, μ3, hs3, hq⟩ := hr
  have kr := Ok.rest W.it.ban k1 k' hf kf kt
  have Fr : FrameOk C s'.heap (Mine.rest μ1 μh μ') env ρ' := FrameOk.rest F t1 (FrameOk.change (C := C.ban B hB) (C' := C) rfl (fun _ _ r => r.weak W.it.ban) F')
  refine ⟨o, ρ', μ3, ?_, kr.sub hs3, Fr.sub hs3, ?_, hq⟩
  · cases ro with
    | next => exact .next
    | brk => exact .brk
    | cont => exact .cont
    | ret r => exact .ret (r.weak W.it.ban)
  · refine ⟨t'.eq, fun b o h1 h2 h3 => ⟨?_, (t'.keep b o h1 h2 h3).2⟩⟩
    have := ((StepF.rest (μh := μh) t1 t').keep b o h1 h2 h3).1
    cases q : μ3 b with
    | none => rfl
    | some mo => rw [hs3 b mo q] at this; cases this
 | error e =>
  refine cameBackBy.mono hr fun e s3 he => ?_
  obtain ⟨a, ρ', μ', rfl, k', F', t', x⟩ := he
  exact ⟨a, ρ', μ', rfl, k'.weak W.it.ban, FrameOk.change (C := C.ban B hB) (C' := C) rfl (fun _ _ r => r.weak W.it.ban) F', t', x⟩
/-! comprehensions -/
noncomputable def cr (scope : Scope) (ρ : Str → Option D) : Str → Option D := fun y => if scope.names.lookup y = some .free then ρ y else none
noncomputable def clos (cells : List (Str × Addr)) : List (Str × NameKind) → List (Str × Addr) → List (Str × Addr)
 | [], acc => acc
 | (n, k) :: r, acc => if k == .free then clos cells r ((n, (cells.lookup n).getD 0) :: acc) else clos cells r acc
theorem clos_lookup {cells : List (Str × Addr)} {x : Str} {c : Addr} : ∀ (names : List (Str × NameKind)) (acc : List (Str × Addr)), (∀ n, (n, NameKind.free) ∈ names → (cells.lookup n).isSome = true) → (clos cells names acc).lookup x = some c →
 cells.lookup x = some c ∨ acc.lookup x = some c
 | [], _, _, h => .inr h
 | (n, k) :: r, acc, hn, h => by
  unfold clos at h
  split at h
  · rename_i hk
    have hk : k = .free := beq_iff_eq.mp hk
    subst hk
    rcases clos_lookup r _ (fun m hm => hn m (.tail _ hm)) h with q | q
    · exact .inl q
    · rw [List.lookup_cons] at q
      split at q
      · rename_i e
        obtain ⟨a, ha⟩ := Option.isSome_iff_exists.mp (hn n (.head _))
        rw [ha] at q; cases q
        rw [beq_iff_eq.mp e]; exact .inl ha
      · exact .inr q
  · exact clos_lookup r acc (fun m hm => hn m (.tail _ hm)) h
theorem clos_has {cells : List (Str × Addr)} {x : Str} : ∀ (names : List (Str × NameKind)) (acc : List (Str × Addr)), ((x, NameKind.free) ∈ names ∨ (acc.lookup x).isSome = true) → ((clos cells names acc).lookup x).isSome = true
 | [], _, h => by rcases h with h | h; cases h; exact h
 | (n, k) :: r, acc, h => by
  unfold clos
  split
  · rename_i hk
    refine clos_has r _ ?_
    rcases h with h | h
    · rcases List.mem_cons.mp h with e | h
      · cases e; right; simp
      · exact .inl h
    · right; rw [List.lookup_cons]; split
      · rfl
      · exact h
  · rename_i hk
    refine clos_has r _ ?_
    rcases h with h | h
    · rcases List.mem_cons.mp h with e | h
      · cases e; simp at hk
      · exact .inl h
    · exact .inr h
theorem closureFor_eq {scope : Scope} (hn : ∀ n, (n, NameKind.free) ∈ scope.names → (env.cells.lookup n).isSome = true) : closureFor scope env = pure (clos env.cells scope.names []) := by
 have key : ∀ (names : List (Str × NameKind)) (acc : List (Str × Addr)) (f : Str × NameKind → List (Str × Addr) → Sem (ForInStep (List (Str × Addr)))), (∀ n, (n, NameKind.free) ∈ names → (env.cells.lookup n).isSome = true) →
  (∀ n k cs, f (n, k) cs = if (k == .free) = true then (do let a ← cellOf env n; pure (.yield ((n, a) :: cs))) else pure (.yield cs)) → forIn names acc f = pure (clos env.cells names acc) := by
  intro names
  induction names with
  | nil => intro acc f _ _; rfl
  | cons x r ih =>
   intro acc f hn hf
   obtain ⟨n, k⟩ := x
   rw [List.forIn_cons, hf]
   unfold clos
   by_cases hk : (k == .free) = true
   · rw [if_pos hk, if_pos hk]
     have hk' : k = .free := beq_iff_eq.mp hk
     subst hk'
     obtain ⟨a, ha⟩ := Option.isSome_iff_exists.mp (hn n (.head _))
     have e1 : cellOf env n = pure a := by unfold cellOf; rw [ha]
     rw [e1, ha]
     show forIn r ((n, a) :: acc) f = _
     exact ih _ f (fun m hm => hn m (.tail _ hm)) hf
   · rw [if_neg hk, if_neg hk]
     exact ih _ f (fun m hm => hn m (.tail _ hm)) hf
 unfold closureFor
 dsimp only
 refine (congrArg (· >>= fun cs => pure cs) (key scope.names [] _ hn fun n k cs => ?_)).trans rfl
 by_cases hk : (k == .free) = true
 · simp only [hk, if_true]
 · have hk : (k == .free) = false := by simpa using hk
   simp only [hk, Bool.false_eq_true, if_false]
theorem relabel_other {scope : Scope} {x : Str} {k : NameKind} (hk : k ≠ .free) : ∀ {names : List (Str × NameKind)}, names.lookup x = some k →
 (names.map fun (n, k) => if (k == NameKind.free && env.scope.kind == .function && env.kindOf n == some .cell) then (n, NameKind.cell) else (n, k)).lookup x = some k
 | [], h => by simp at h
 | (n, k') :: r, h => by
  have ih := @relabel_other scope x k hk r
  show List.lookup x ((if (k' == NameKind.free && env.scope.kind == .function && env.kindOf n == some .cell) = true then (n, NameKind.cell) else (n, k')) :: _) = _
  cases hx : x == n with
  | true =>
   simp only [List.lookup_cons, hx] at h
   cases h
   have : (k == NameKind.free) = false := by simpa using hk
   simp [List.lookup_cons, hx, this]
  | false =>
   simp only [List.lookup_cons, hx] at h
   by_cases hc : (k' == NameKind.free && env.scope.kind == .function && env.kindOf n == some .cell) = true
   · rw [if_pos hc]; simp only [List.lookup_cons, hx]; exact ih h
   · rw [if_neg hc]; simp only [List.lookup_cons, hx]; exact ih h
theorem relabel_free {scope : Scope} {x : Str} : ∀ {names : List (Str × NameKind)}, names.lookup x = some .free →
 (names.map fun (n, k) => if (k == NameKind.free && env.scope.kind == .function && env.kindOf n == some .cell) then (n, NameKind.cell) else (n, k)).lookup x = some .cell ∨
 (names.map fun (n, k) => if (k == NameKind.free && env.scope.kind == .function && env.kindOf n == some .cell) then (n, NameKind.cell) else (n, k)).lookup x = some .free
 | [], h => by simp at h
 | (n, k') :: r, h => by
  have ih := @relabel_free scope x r
  show List.lookup x ((if (k' == NameKind.free && env.scope.kind == .function && env.kindOf n == some .cell) = true then (n, NameKind.cell) else (n, k')) :: _) = _ ∨ List.lookup x ((if (k' == NameKind.free && env.scope.kind == .function && env.kindOf n == some .cell) = true then (n, NameKind.cell) else (n, k')) :: _) = _
  cases hx : x == n with
  | true =>
   simp only [List.lookup_cons, hx] at h
   cases h
   by_cases hc : (NameKind.free == NameKind.free && env.scope.kind == .function && env.kindOf n == some .cell) = true
   · rw [if_pos hc]; left; simp [List.lookup_cons, hx]
   · rw [if_neg hc]; right; simp [List.lookup_cons, hx]
  | false =>
   simp only [List.lookup_cons, hx] at h
   by_cases hc : (k' == NameKind.free && env.scope.kind == .function && env.kindOf n == some .cell) = true
   · rw [if_pos hc]; simp only [List.lookup_cons, hx]; exact ih h
   · rw [if_neg hc]; simp only [List.lookup_cons, hx]; exact ih h
end
structure CompEnv (scope : Scope) (cenv : Env) : Prop where
 kind : cenv.scope.kind = .function
 names : ∀ x k, scope.names.lookup x = some k → k ≠ .free → cenv.kindOf x = some k
noncomputable abbrev CompTurns (C : Cx) (A : Around) (scope : Scope) (tg elt : Expr) (ifs : List Expr) (ρ : Str → Option D) (ds : List D) (J : Nat → List D → Mem → Prop) : Prop :=
 ∀ B hB, (∀ b, C.B b → B b) → ∀ cenv, CompEnv scope cenv → ∀ i d acc μ, ds[i]? = some d → J i acc μ → AsgL (C.ban B hB) A cenv tg d (cr scope ρ) μ fun ρ1 μ1 => (∀ x d, cr scope ρ x = some d → ρ1 x = some d) ∧ Ets (C.ban B hB) A cenv ifs ρ1 μ1 fun b μ2 =>
  Br b (Ev (C.ban B hB) A cenv (eval elt cenv) ρ1 μ2 fun d' μ3 => J (i + 1) (acc ++ [d']) μ3) (J (i + 1) acc μ2)
structure CompScope (scope : Scope) (env : Env) : Prop where
 free : ∀ n, (n, NameKind.free) ∈ scope.names → env.kindOf n = some .cell ∧ (env.cells.lookup n).isSome = true
 cell : ∀ x ∈ scope.names, x.2 ≠ .cell
 kind : scope.kind = .function
 names : ∀ x ∈ scope.names, x.2 = .local → scope.names.lookup x.1 = some .local
section
variable {C : Cx} {A : Around} {env : Env} {ρ : Str → Option D} {μ : Mem} {X : Xp}
theorem cr_frame {scope : Scope} {L : Addr} {h : Heap} {cenv : Env} (F : FrameOk C h μ env ρ) (S : CompScope scope env) (he : cenv = { newEnv scope L env.globals (clos env.cells scope.names []) env.qual none .none (some env) 0 with scope := relabel scope env })
 (hn : h.Ns L fun _ => none) (hL : μ L = none ∧ C.h0.get? L = none) (hne : ∀ x, env.cells.lookup x ≠ some L) : FrameOk C h μ cenv (cr scope ρ) := by
 subst he
 obtain ⟨m, _, hv⟩ := F.ns
 have cl : ∀ x c, (clos env.cells scope.names []).lookup x = some c → env.cells.lookup x = some c := fun x c h => by
  rcases clos_lookup scope.names [] (fun n hn => (S.free n hn).2) h with q | q
  · exact q
  · simp at q
 refine ⟨S.kind, F.globals, F.builtins, hL, ⟨_, hn, fun x d hx => ?_⟩, fun x c hc => ?_, fun x y c h1 h2 => F.inj x y c (cl x c h1) (cl y c h2)⟩
 · unfold cr at hx
   split at hx
   · rename_i hf
     have h1 := relabel_free (env := env) (scope := scope) hf
     have hs := clos_has (cells := env.cells) scope.names [] (.inl (mem_of_lookup hf))
     obtain ⟨c, hc⟩ := Option.isSome_iff_exists.mp hs
     have hc' := cl x c hc
     refine .inr ⟨h1, ?_⟩
     rcases hv x d hx with ⟨q, v, q2, q3⟩ | ⟨q, c2, v, q2, q3, q4⟩
     · rw [(S.free x (mem_of_lookup hf)).1] at q; cases q
     · rw [hc'] at q2; cases q2; exact ⟨c, v, hc, q3, q4⟩
   · cases hx
 · have := F.cells x c (cl x c hc)
   exact ⟨this.1, this.2.1, fun q => hne x (by have q : c = L := q; rw [← q]; exact cl x c hc), this.2.2.2⟩
structure CompEnd (C : Cx) (s0 : Shared) (μ μ1 μh μ' : Mem) (s2 s' : Shared) (acc : List D) (us : List Value) (n : Nat) (Da L : Addr) : Prop where
 t1 : Step s0 μ s2 μ1
 k : Ok C s' (rest μ1 μh μ')
 t : Step s0 μ s' (rest μ1 μh μ')
 hD : s'.heap.get? Da = some (listOf (List.toArray us) n)
 rD : RepAll C.B s'.heap us acc
 ne : Da ≠ L
 hDm : rest μ1 μh μ' Da = none
 hLm : rest μ1 μh μ' L = none
 hD0 : C.h0.get? Da = none
 hL0 : C.h0.get? L = none
 fD : Fresh s0 μ Da
 fL : Fresh s0 μ L
 nD : ¬ C.B Da
 nL : ¬ C.B L
inductive CompUse (C : Cx) (A : Around) (scope : Scope) (tg elt : Expr) (ifs : List Expr) (ρ : Str → Option D) (s0 : Shared) (μ : Mem) (R : Addr → Addr → Shared → Prop) (ds : List D) (μ1 μh : Mem) : Prop
 | mk (hz : ds.length ≤ sizeLine) (J : Nat → List D → Mem → Prop) (j0 : J 0 [] μh) (turns : CompTurns C A scope tg elt ifs ρ ds J)
  (fin : ∀ s2 s' μ' acc us n m Da L, s'.heap.Ns L m → CompEnd C s0 μ μ1 μh μ' s2 s' acc us n Da L → J ds.length acc μ' → R Da L s')
theorem Ok.listAt {s : Shared} {Da : Addr} {acc : List D} {us : List Value} {n : Nat} (k : Ok C s μ) (hD : s.heap.get? Da = some (listOf (List.toArray us) n)) (rD : RepAll C.B s.heap us acc) (hD0 : C.h0.get? Da = none) (nD : ¬ C.B Da) : Ok C s (upd μ Da (.list acc)) := by
 refine ⟨fun b mo e => ?_, fun b o e => ⟨?_, (k.base b o e).2⟩, fun b e => ⟨?_, (k.ban b e).2⟩⟩
 · unfold upd at e
   split at e
   · rename_i q; cases e; subst q; exact ⟨us, n, hD, rD⟩
   · exact k.mem b mo e
 · unfold upd; rw [if_neg (fun q => by rw [q, hD0] at e; cases e)]; exact (k.base b o e).1
 · unfold upd; rw [if_neg (fun q : b = Da => nD (q ▸ e))]; exact (k.ban b e).1
theorem comp_all {use : Option (Value → Sem Unit)} {QQ : Value → Shared → Prop} {elt tg iter : Expr} {ifs : List Expr} {scope : Scope} {pos p2 : Pos} {P : List D → Mem → Mem → Prop} {s s0 : Shared}
 (h : wpAny (model C.prog C.w) A (eval iter env) (fun xv s1 => wpAny (model C.prog C.w) A (pyIter xv) (EiP C A env tg ρ s0 μ P) No s1) No s)
 (hs : ∀ x, foldedSetIterable iter env x = pure x) (S : CompScope scope env)
 (go : ∀ ds μ1 μh, P ds μ1 μh → CompUse C A scope tg elt ifs ρ s0 μ (fun Da L s' => compPost (model C.prog C.w) A No use QQ (.ref Da) L (.ok .next) s') ds μ1 μh) :
 wpAny (model C.prog C.w) A (comprehension (.ListComp elt [⟨tg, iter, ifs, 0⟩] scope p2) scope env pos (newList []) false (eval iter env) use) QQ No s := by
 refine wpAny_comprehension_free rfl hs (closureFor_eq fun n hn => (S.free n hn).2) S.kind S.names (wpAny_mono h (fun xv s1 h1 => wpAny_mono h1 ?_ fun _ _ x => x) fun _ _ x => x)
 rintro it s2 ⟨I, fp, wr, B, hB, ds, St, μ1, μh, rfl, W, k1, t1, sub, hf, hP⟩
 obtain ⟨hz, J, j0, turn, fin⟩ := go ds μ1 μh hP
 refine wpAny_newObj_type ?_
 generalize hs3 : ({ s2 with heap := s2.heap.push { cls := .type "list", dict := none, data := .seq ([] : List Value).toArray } } : Shared) = s3
 refine wpAny_newFunctionEnv S.cell (by intro y hy; simp at hy) (fun h4 hns4 hsb4 => ?_) S.kind
 have e3 : s3.heap = s2.heap.push { cls := .type "list", dict := none, data := .seq ([] : List Value).toArray } := by rw [← hs3]
 have z3 : s3.heap.objs.size = s2.heap.objs.size + 1 := by rw [e3, Heap.size_push]
 have kp2 : ∀ b o, s2.heap.get? b = some o → h4.get? b = some o := fun b o e => by
  refine hsb4.extBut b o (fun q => ?_) (Heap.get?_push_of_some _ (e3 ▸ Heap.get?_push_of_some _ e))
  have h1 : b < s2.heap.objs.size := Heap.lt_size e
  have h2 : b = s2.heap.objs.size + 1 := q.trans z3
  exact absurd (h2 ▸ h1) (Nat.not_lt.mpr (Nat.le_succ _))
 have hDne : s2.heap.objs.size ≠ s3.heap.objs.size := by rw [z3]; exact Nat.ne_of_lt (Nat.lt_succ_self _)
 have hD4 : h4.get? s2.heap.objs.size = some (listOf #[] 0) := hsb4.extBut _ _ hDne (Heap.get?_push_of_some _ (e3 ▸ Heap.get?_push_size _ rfl))
 generalize hs4 : ({ s3 with heap := h4, toks := s3.toks + ([] : List (Str × Value)).length } : Shared) = s4
 have e4 : s4.heap = h4 := by rw [← hs4]
 have se4 : s4 = { s2 with heap := s4.heap, toks := s4.toks } := by rw [← hs4, ← hs3]
 have kp24 : ∀ b o, s2.heap.get? b = some o → s4.heap.get? b = some o := e4 ▸ kp2
 have kh2 : Ok (C.ban B hB) s2 μh := W.ok
 have kh4 : Ok (C.ban B hB) s4 μh := kh2.keeps kp24
 have mh : ∀ b, μ1 b = none → μh b = none := fun b e => by
  cases q : μh b with
  | none => rfl
  | some mo => rw [sub b mo q] at e; cases e
 have th4 : Step s0 μ s4 μh := by
  refine ⟨by rw [se4, t1.eq], fun b o h1 h2 => ?_⟩
  obtain ⟨a, c⟩ := t1.keep b o h1 h2
  exact ⟨mh b a, kp24 b o c⟩
 have frs : ∀ b, s2.heap.objs.size ≤ b → Fresh s0 μ b ∧ C.h0.get? b = none ∧ μ1 b = none ∧ ¬ B b := fun b hb => by
  have n2 : s2.heap.get? b = none := by
   cases e : s2.heap.get? b with
   | none => rfl
   | some o => exact absurd (Heap.lt_size e) (Nat.not_lt.mpr hb)
  refine ⟨fun o e q => ?_, k1.lt0 hb, k1.lt hb, fun q => ?_⟩
  · have := (t1.keep b o e q).2; rw [n2] at this; cases this
  · obtain ⟨_, o, ho⟩ := k1.ban b q; rw [n2] at ho; cases ho
 have D1 := frs s2.heap.objs.size (Nat.le_refl _)
 have L1 := frs s3.heap.objs.size (by rw [z3]; exact Nat.le_succ _)
 have hlt2 : ∀ b ∈ fp, b < s2.heap.objs.size := fun b hb => by
  obtain ⟨o, ho, _⟩ := W.it.kind _ _ W.st b hb; exact Heap.lt_size ho
 have Fh2 := W.fr
 have Fh4 : FrameOk (C.ban B hB) s4.heap μh env ρ := Fh2.step (s := s2) (s' := s4) ⟨se4, fun b o h1 h2 => ⟨h2, kp24 b o h1⟩⟩ kh2
 have Fc : FrameOk (C.ban B hB) s4.heap μh { newEnv scope s3.heap.objs.size env.globals (clos env.cells scope.names []) env.qual none .none (some env) 0 with scope := relabel scope env } (cr scope ρ) := by
  refine cr_frame Fh4 S rfl ?_ ⟨mh _ L1.2.2.1, L1.2.1⟩ fun x hx => ?_
  · rw [e4]; obtain ⟨o, es, ep, ho, hd, hk, hm⟩ := hns4; exact ⟨o, es, ep, ho, hd, hk, fun n => by rw [hm n]; rfl⟩
  · obtain ⟨v, o, ho, _⟩ := (Fh2.cells x _ hx).2.2.2
    have h1 : s3.heap.objs.size < s2.heap.objs.size := Heap.lt_size ho
    rw [z3] at h1; exact absurd h1 (Nat.not_lt.mpr (Nat.le_succ _))
 have ce : CompEnv scope { newEnv scope s3.heap.objs.size env.globals (clos env.cells scope.names []) env.qual none .none (some env) 0 with scope := relabel scope env } := ⟨S.kind, fun x kk hx hk => relabel_other (scope := scope) hk hx⟩
 have Wc : IterOk C A { newEnv scope s3.heap.objs.size env.globals (clos env.cells scope.names []) env.qual none .none (some env) 0 with scope := relabel scope env } (cr scope ρ) μh μ s0 s4 I tg fp wr B hB ds St :=
  ⟨W.it, kh4, Fc, W.it.frame _ _ _ W.st (fun b _ o ho => kp24 b o ho) fun a vs n _ t => kp24 _ _ t, W.fpm, W.wr0⟩
 have main := comp_core (pos := p2) (elt := elt) (iter := iter) (scope := scope) (nD := 0) Wc th4 L1.1 (e4 ▸ hD4) (mh _ D1.2.2.1) D1.1 D1.2.1 (fun q => Nat.lt_irrefl _ (hlt2 _ q)) hDne D1.2.2.2 J j0 hz
  (turn B hB W.it.ban _ ce) (R := compPost (model C.prog C.w) A No use QQ (.ref s2.heap.objs.size) s3.heap.objs.size) fun s' μ' acc us n m k' t' hn' hD' rD hDm hLm kf kt jn => by
   have kt2 : ∀ a vs n, ¬ B a → IsT s2.heap a vs n → IsT s'.heap a vs n := fun a vs n nb t => kt a vs n nb (kp24 _ _ t)
   have kf2 : ∀ b ∈ fp, b ∉ wr → μ' b = none ∧ ∀ o, s2.heap.get? b = some o → s'.heap.get? b = some o := fun b hb hw => ⟨(kf b hb hw).1, fun o ho => (kf b hb hw).2 o (kp24 b o ho)⟩
   exact fin s2 s' μ' acc us n m _ _ hn' ⟨t1, Ok.rest W.it.ban k1 k' hf kf2 kt2, ⟨t'.eq, fun b o h1 h2 => ⟨rest_none (t1.keep b o h1 h2).1 (t'.keep b o h1 h2).1, (t'.keep b o h1 h2).2⟩⟩, hD', rD.weak W.it.ban, hDne, rest_none D1.2.2.1 hDm, rest_none L1.2.2.1 hLm, D1.2.1, L1.2.1, D1.1, L1.1, fun q => D1.2.2.2 (W.it.ban _ q), fun q => L1.2.2.2 (W.it.ban _ q)⟩ jn
 exact codeAny_compStart_list main (W.it.self 0 s4 _ _ (W.it.frame _ _ _ W.st (fun b _ o ho => kp24 b o ho) fun a vs n _ t => kp24 _ _ t) main)
end
noncomputable def Assigns (C : Cx) (A : Around) (env : Env) (ts : List Expr) (ds : List D) (ρ : Str → Option D) (μ : Mem) (Q : (Str → Option D) → Mem → Prop) : Prop :=
 ∀ s vs, Ok C s μ → FrameOk C s.heap μ env ρ → RepAll C.B s.heap vs ds → wpAny (model C.prog C.w) A (assignInOrder ((assignEach ts env).map (·.2)) vs) (fun _ s' => Pu C env s μ Q s') No s
noncomputable def AssignsL (C : Cx) (A : Around) (env : Env) (ts : List Expr) (ds : List D) (ρ : Str → Option D) (μ : Mem) (Q : (Str → Option D) → Mem → Prop) : Prop :=
 ∀ s vs, Ok C s μ → FrameOk C s.heap μ env ρ → RepAll C.B s.heap vs ds → wpAny (model C.prog C.w) A (assignInOrder ((assignEach ts env).map (·.2)) vs) (fun _ s' => PuL C env s μ Q s') No s
section
variable {C : Cx} {A : Around} {env : Env} {ρ : Str → Option D} {μ : Mem} {X : Xp}
theorem StepL.refl (env : Env) (s : Shared) (μ : Mem) : StepL env s μ s μ := ⟨rfl, fun _ _ h1 h2 _ => ⟨h2, h1⟩⟩
theorem StepL.trans {s s1 s2 : Shared} {μ μ1 μ2 : Mem} (x : StepL env s μ s1 μ1) (y : StepL env s1 μ1 s2 μ2) : StepL env s μ s2 μ2 := by
 refine ⟨?_, fun b o h1 h2 h3 => ?_⟩
 · rw [y.eq, x.eq]
 · obtain ⟨a, c⟩ := x.keep b o h1 h2 h3
   exact y.keep b o c a h3
theorem StepL.f {s s1 : Shared} {μ μ1 : Mem} (x : StepL env s μ s1 μ1) : StepF env s μ s1 μ1 := ⟨x.eq, fun b o h1 h2 h3 => x.keep b o h1 h2 fun e => h3 (.inl e)⟩
theorem AsgL.name {x : Str} {px : Pos} {d : D} {Q : (Str → Option D) → Mem → Prop} (hl : env.kindOf x = some .local) (h : Q (bnd ρ x d) μ) : AsgL C A env (.Name x px) d ρ μ Q := by
 intro s v k F r
 refine wpAny_assign_Name ?_
 obtain ⟨m, hn, hv⟩ := F.ns
 refine wpAny_storeName_local hl hn (fun h' hn' hs => ?_) (by rw [F.kind]; rfl)
 have own : Own env env.locals := .inl rfl
 have hT : ∀ vs n, ¬ IsT s.heap env.locals vs n := fun vs n t => F.notTuple t own
 have kp : ∀ b o, b ≠ env.locals → s.heap.get? b = some o → h'.get? b = some o := fun b o n e => (hs.2 b n).trans e
 have rp : ∀ v d, Rep C.B s.heap v d → Rep C.B h' v d := fun v d r => r.mono fun a vs n _ t => kp a _ (fun e => hT vs n (e ▸ t)) t
 refine ⟨bnd ρ x d, μ, k.own hs F.free (let ⟨o, _, _, ho, _⟩ := hn'; ⟨o, ho⟩) hT, ⟨F.kind, F.globals, F.builtins, F.free, ⟨_, hn', fun y e hy => ?_⟩, fun y c hy => ?_, F.inj⟩, ⟨rfl, fun b o h1 h2 h3 => ⟨h2, kp b o h3 h1⟩⟩, h⟩
 · unfold bnd at hy
   by_cases e1 : y = x
   · subst e1; simp at hy; subst hy
     exact .inl ⟨hl, v, by simp, rp _ _ r⟩
   · rw [if_neg e1] at hy
     rcases hv y e hy with ⟨h1, u, h2, h3⟩ | ⟨h1, c, u, h2, ⟨oc, h3, h3'⟩, h4⟩
     · exact .inl ⟨h1, u, by simp [e1, h2], rp _ _ h3⟩
     · exact .inr ⟨h1, c, u, h2, ⟨oc, kp c oc (F.cells y c h2).2.2.1 h3, h3'⟩, rp _ _ h4⟩
 · obtain ⟨a, b, n, u, oc, ho, hd⟩ := F.cells y c hy
   exact ⟨a, b, n, u, oc, kp c oc n ho, hd⟩
theorem Asg.name {x : Str} {px : Pos} {d : D} {Q : (Str → Option D) → Mem → Prop} (hl : env.kindOf x = some .local ∨ env.kindOf x = some .cell) (hc : env.kindOf x = some .cell → (env.cells.lookup x).isSome = true) (h : Q (bnd ρ x d) μ) :
 Asg C A env (.Name x px) d ρ μ Q := fun s v k F r => wpAny_assign_Name (Eu.store k F r h hl hc)
theorem Assigns.nil {Q : (Str → Option D) → Mem → Prop} (h : Q ρ μ) : Assigns C A env [] [] ρ μ Q := fun s vs k F r => by
 (first | (replace r := r.inv; obtain rfl := r) | (replace r := r.inv; obtain ⟨_, rfl⟩ := r) | cases r); exact wpAny_pure ⟨ρ, μ, k, F, .refl _ _ _, h⟩
theorem AssignsL.nil {Q : (Str → Option D) → Mem → Prop} (h : Q ρ μ) : AssignsL C A env [] [] ρ μ Q := fun s vs k F r => by
 (first | (replace r := r.inv; obtain rfl := r) | (replace r := r.inv; obtain ⟨_, rfl⟩ := r) | cases r); exact wpAny_pure ⟨ρ, μ, k, F, .refl _ _ _, h⟩
@[reducible] noncomputable def AssQ (C : Cx) (A : Around) (env : Env) (ts : List Expr) (ds : List D) (Q : (Str → Option D) → Mem → Prop) (ρ : Str → Option D) (μ : Mem) : Prop := Assigns C A env ts ds ρ μ Q
theorem Assigns.cons {t : Expr} {ts : List Expr} {d : D} {ds : List D} {Q : (Str → Option D) → Mem → Prop} (h : Asg C A env t d ρ μ (AssQ C A env ts ds Q))
 (he : assignEach (t :: ts) env = (false, assign t env) :: assignEach ts env) : Assigns C A env (t :: ts) (d :: ds) ρ μ Q := by
 intro s vs k F r
 replace r := r.inv
 obtain ⟨v, vs, rfl, r1, r2⟩ := r
 rw [he]
 show wpAny _ _ (do holding vs (assign t env v); assignInOrder ((assignEach ts env).map (·.2)) vs) _ _ _
 refine wpAny_bind (wpAny_holding (wpAny_mono (h s v k F r1) ?_ fun _ _ x => x))
 rintro _ s1 ⟨ρ1, μ1, k1, F1, t1, h1⟩
 refine wpAny_mono (h1 s1 vs k1 F1 (t1.repAll k F r2)) ?_ fun _ _ x => x
 rintro _ s2 ⟨ρ2, μ2, k2, F2, t2, h2⟩
 exact ⟨ρ2, μ2, k2, F2, t1.trans t2, h2⟩
theorem AssignsL.cons {t : Expr} {ts : List Expr} {d : D} {ds : List D} {Q : (Str → Option D) → Mem → Prop} (h : AsgL C A env t d ρ μ fun ρ1 μ1 => AssignsL C A env ts ds ρ1 μ1 Q)
 (he : assignEach (t :: ts) env = (false, assign t env) :: assignEach ts env) : AssignsL C A env (t :: ts) (d :: ds) ρ μ Q := by
 intro s vs k F r
 replace r := r.inv
 obtain ⟨v, vs, rfl, r1, r2⟩ := r
 rw [he]
 show wpAny _ _ (do holding vs (assign t env v); assignInOrder ((assignEach ts env).map (·.2)) vs) _ _ _
 refine wpAny_bind (wpAny_holding (wpAny_mono (h s v k F r1) ?_ fun _ _ x => x))
 rintro _ s1 ⟨ρ1, μ1, k1, F1, t1, h1⟩
 refine wpAny_mono (h1 s1 vs k1 F1 (t1.f.repAll k F r2)) ?_ fun _ _ x => x
 rintro _ s2 ⟨ρ2, μ2, k2, F2, t2, h2⟩
 exact ⟨ρ2, μ2, k2, F2, t1.trans t2, h2⟩
theorem Ok.extBut {s : Shared} {h' : Heap} (k : Ok C s μ) (hx : Heap.ExtBut s.heap.objs.size s.heap h') : Ok C { s with heap := h' } μ ∧ Step s μ { s with heap := h' } μ := by
 have kp : ∀ b o, s.heap.get? b = some o → h'.get? b = some o := fun b o e => hx b o (Nat.ne_of_lt (Heap.lt_size e)) e
 exact ⟨k.keeps kp, rfl, fun b o h1 h2 => ⟨h2, kp b o h1⟩⟩
theorem Asg.tuple {ts : List Expr} {x1 pos} {ds : List D} {Q : (Str → Option D) → Mem → Prop} (hh : A.handled = none) (hn : (assignEach ts env).length = ds.length) (hstar : (assignEach ts env).findIdx? (·.1) = none)
 (h : Assigns C A env ts ds ρ μ Q) : Asg C A env (.Tuple ts x1 pos) (.tup ds) ρ μ Q := by
 intro s v k F r
 replace r := r.inv
 obtain ⟨a, vs, n, rfl, hb, ht, r⟩ := r
 refine wpAny_assign_Tuple hh ⟨_, ht, rfl, n, rfl⟩ (by rw [hn]; simp [r.length]) hstar fun h' hx => ?_
 obtain ⟨k1, t1⟩ := k.extBut hx
 refine wpAny_mono (h _ vs k1 (F.step t1 k) (t1.repAll k r)) ?_ fun _ _ x => x
 rintro _ s2 ⟨ρ2, μ2, k2, F2, t2, h2⟩
 exact ⟨ρ2, μ2, k2, F2, (t1.f env).trans t2, h2⟩
theorem AsgL.tuple {ts : List Expr} {x1 pos} {ds : List D} {Q : (Str → Option D) → Mem → Prop} (hh : A.handled = none) (hn : (assignEach ts env).length = ds.length) (hstar : (assignEach ts env).findIdx? (·.1) = none)
 (h : AssignsL C A env ts ds ρ μ Q) : AsgL C A env (.Tuple ts x1 pos) (.tup ds) ρ μ Q := by
 intro s v k F r
 replace r := r.inv
 obtain ⟨a, vs, n, rfl, hb, ht, r⟩ := r
 refine wpAny_assign_Tuple hh ⟨_, ht, rfl, n, rfl⟩ (by rw [hn]; simp [r.length]) hstar fun h' hx => ?_
 obtain ⟨k1, t1⟩ := k.extBut hx
 refine wpAny_mono (h _ vs k1 (F.step t1 k) (t1.repAll k r)) ?_ fun _ _ x => x
 rintro _ s2 ⟨ρ2, μ2, k2, F2, t2, h2⟩
 exact ⟨ρ2, μ2, k2, F2, StepL.trans ⟨t1.eq, fun b o h1 h2 _ => t1.keep b o h1 h2⟩ t2, h2⟩
inductive CompGo (C : Cx) (A : Around) (scope : Scope) (tg elt : Expr) (ifs : List Expr) (ρ : Str → Option D) (R : List D → Mem → Prop) (ds : List D) (μ1 μh : Mem) : Prop
 | mk (hz : ds.length ≤ sizeLine) (J : Nat → List D → Mem → Prop) (j0 : J 0 [] μh) (turns : CompTurns C A scope tg elt ifs ρ ds J) (fin : ∀ acc μ', J ds.length acc μ' → Fg (R acc) (rest μ1 μh μ'))
theorem Ok.letGo {s : Shared} {h' : Heap} {L : Addr} {m : Str → Option Value} (k : Ok C s μ) (hn : s.heap.Ns L m) (hL : μ L = none) (hL0 : C.h0.get? L = none) (hB : ¬ C.B L) (hs : Heap.SameBut L s.heap h') :
 Ok C { s with heap := h' } μ ∧ (∀ b o, b ≠ L → s.heap.get? b = some o → h'.get? b = some o) ∧ (∀ a vs n, IsT s.heap a vs n → IsT h' a vs n) := by
 obtain ⟨o, es, ep, ho, hd, _⟩ := hn
 have kp : keepBut [L] s.heap h' := fun b ob hb e => hs.extBut b ob (fun q => hb (by simp [q])) e
 have kt : ∀ a vs n, IsT s.heap a vs n → IsT h' a vs n := fun a vs n t => kp a _ (fun q => by
  rw [List.mem_singleton.mp q] at t
  have t : s.heap.get? L = _ := t
  rw [ho] at t; cases t; simp at hd) t
 refine ⟨k.hidden (tk := s.toks) (wr := [L]) (fun b hb => by rw [List.mem_singleton.mp hb]; exact ⟨hL, hL0⟩) kp (fun a vs n _ t => kt a vs n t) fun b hb hB' => ?_, fun b ob n e => kp b ob (fun q => n (List.mem_singleton.mp q)) e, kt⟩
 rw [List.mem_singleton.mp hb] at hB'; exact absurd hB' hB
theorem Sub.none {μ1 μ2 : Mem} {b : Addr} (h : Sub μ1 μ2) (e : μ2 b = none) : μ1 b = none := by
 cases q : μ1 b with
 | none => rfl
 | some mo => rw [h b mo q] at e; cases e
@[reducible] noncomputable def CompA (Q : D → Mem → Prop) (acc : List D) (μ : Mem) : Prop := ∀ a, μ a = none → Q (.raw (.ref a)) (upd μ a (.list acc))
@[reducible] noncomputable def CompN (Q : Out → (Str → Option D) → Mem → Prop) (ρ : Str → Option D) (x : Str) (acc : List D) (μ : Mem) : Prop := ∀ a, μ a = none → Q .next (bnd ρ x (.raw (.ref a))) (upd μ a (.list acc))
theorem Ev.comp {elt tg iter : Expr} {ifs : List Expr} {scope : Scope} {p2 : Pos} {Q : D → Mem → Prop}
 (h : Ei C A env (eval iter env) tg ρ μ (CompGo C A scope tg elt ifs ρ (CompA Q)))
 (hs : ∀ x, foldedSetIterable iter env x = pure x) (S : CompScope scope env) : Ev C A env (eval (.ListComp elt [⟨tg, iter, ifs, 0⟩] scope p2) env) ρ μ Q := by
 intro s k F
 rw [eval_ListComp]
 refine comp_all (use := none) (s0 := s) (h s k F) hs S fun ds μ1 μh hP => ?_
 obtain ⟨hz, J, j0, turn, fin⟩ := hP
 refine ⟨hz, J, j0, turn, ?_⟩
 rintro s2 s' μ' acc us n m Da L hn ⟨t1, k', t', hD, rD, hne, hDm, hLm, hD0, hL0, fD, fL, nD, nL⟩ jn
 obtain ⟨μ3, sub, hq⟩ := fin acc μ' jn
 refine ⟨m, hn, fun h' hs' => ?_⟩
 have k3 := k'.sub sub
 obtain ⟨k4, kp, kt⟩ := k3.letGo hn (sub.none hLm) hL0 nL hs'
 have hD' : h'.get? Da = some (listOf (List.toArray us) n) := kp _ _ hne hD
 refine ⟨.raw (.ref Da), upd μ3 Da (.list acc), .raw _, k4.listAt (us := us) hD' (rD.mono fun a vs n _ t => kt a vs n t) hD0 nD, ⟨?_, fun b o h1 h2 => ?_⟩, hq _ (sub.none hDm)⟩
 · show _ = { s with heap := h', toks := s'.toks }; rw [t'.eq]
 · obtain ⟨a, c⟩ := t'.keep b o h1 h2
   exact ⟨by unfold upd; rw [if_neg (fun q : b = Da => fD o (q ▸ h1) (q ▸ h2))]; exact sub.none a, kp b o (fun q : b = L => fL o (q ▸ h1) (q ▸ h2)) c⟩
theorem Ex.assignComp {elt tg iter : Expr} {ifs : List Expr} {scope : Scope} {p2 px pos : Pos} {x : Str} {Q : Out → (Str → Option D) → Mem → Prop}
 (h : Ei C A env (eval iter env) tg ρ μ (CompGo C A scope tg elt ifs ρ (CompN Q ρ x)))
 (hs : ∀ x, foldedSetIterable iter env x = pure x) (S : CompScope scope env)
 (hl : env.kindOf x = some .local ∨ env.kindOf x = some .cell) (hc : env.kindOf x = some .cell → (env.cells.lookup x).isSome = true)
 (hsw : swapsWith (.ListComp elt [⟨tg, iter, ifs, 0⟩] scope p2) (some (.Name x px)) pos.line env = pure true) : Ex C A env (exec (.Assign [.Name x px] (.ListComp elt [⟨tg, iter, ifs, 0⟩] scope p2) pos) env) ρ μ Q X := by
 intro s k F
 rw [exec_Assign_Name_used _ _ _ _ hsw]
 refine wpAny_bind (wpAny_standAt ?_)
 refine wpAny_bind (wpAny_mono (Q := Px C env s μ Q .next |> fun P _ s' => P s') (E := No) ?_ (fun _ s' h => wpAny_pure h) fun _ _ x => x.elim)
 show wpAny _ _ (comprehension _ scope env _ (newList []) false (eval iter env) (some (PySem.assign (.Name x px) env)) >>= fun _ => pure ()) _ _ _
 refine wpAny_bind (wpAny_mono (comp_all (QQ := fun _ s' => Px C env s μ Q .next s') (s0 := s) (h s k F) hs S fun ds μ1 μh hP => ?_) (fun _ s' h => wpAny_pure h) fun _ _ x => x)
 obtain ⟨hz, J, j0, turn, fin⟩ := hP
 refine ⟨hz, J, j0, turn, ?_⟩
 rintro s2 s' μ' acc us n m Da L hn ⟨t1, k', t', hD, rD, hne, hDm, hLm, hD0, hL0, fD, fL, nD, nL⟩ jn
 obtain ⟨μ3, sub, hq⟩ := fin acc μ' jn
 have k3 := k'.sub sub
 have k4 : Ok C s' (upd μ3 Da (.list acc)) := k3.listAt hD rD hD0 nD
 have t4 : Step s μ s' (upd μ3 Da (.list acc)) := ⟨t'.eq, fun b o h1 h2 => by
  obtain ⟨a, c⟩ := t'.keep b o h1 h2
  exact ⟨by unfold upd; rw [if_neg (fun q : b = Da => fD o (q ▸ h1) (q ▸ h2))]; exact sub.none a, c⟩⟩
 have nO : ¬ Own env L := fun q => by
  obtain ⟨o, ho⟩ := F.exists q
  exact fL o ho (F.ownOk q).1
 refine wpAny_mono (wpAny_assign_Name (Eu.store (Qu := fun ρ' μ' => Q .next ρ' μ') k4 (F.step t4 k) (.raw (.ref Da)) (hq _ (sub.none hDm)) hl hc)) ?_ fun _ _ x => x
 rintro _ s5 ⟨ρ5, μ5, k5, F5, t5, h5⟩
 have hn5 : s5.heap.Ns L m ∧ μ5 L = none := by
  obtain ⟨o, es, ep, ho, r⟩ := hn
  have := t5.keep L o ho (by unfold upd; rw [if_neg (Ne.symm hne)]; exact sub.none hLm) nO
  exact ⟨⟨o, es, ep, this.2, r⟩, this.1⟩
 refine ⟨m, hn5.1, fun h' hs' => ?_⟩
 obtain ⟨k6, kp, kt⟩ := k5.letGo hn5.1 hn5.2 hL0 nL hs'
 refine ⟨.next, ρ5, μ5, .next, k6, F5.hidden (wr := [L]) (fun b hb => by rw [List.mem_singleton.mp hb]; exact nO) (fun b o hb e => kp b o (fun q => hb (by simp [q])) e) (fun a vs n _ t => kt a vs n t), ⟨?_, fun b o h1 h2 h3 => ?_⟩, h5⟩
 · show _ = { s with heap := h', toks := s5.toks }; rw [t5.eq, t4.eq]
 · obtain ⟨a, c⟩ := ((t4.f env).trans t5).keep b o h1 h2 h3
   exact ⟨a, kp b o (fun q : b = L => fL o (q ▸ h1) (q ▸ h2)) c⟩
/-! what is gone through -/
theorem fresh_new {s s' : Shared} {μ' : Mem} (t : Step s μ s' μ') {b : Addr} (hb : s'.heap.objs.size ≤ b) : Fresh s μ b := fun o e q => by
 have := Heap.lt_size (t.keep b o e q).2
 exact absurd this (Nat.not_lt.mpr hb)
noncomputable def hide (μ : Mem) (a : Addr) : Mem := fun b => if b = a then none else μ b
theorem Sub.hide (μ : Mem) (a : Addr) : Sub (hide μ a) μ := fun b m e => by
 unfold Mine.hide at e; split at e
 · cases e
 · exact e
@[reducible] noncomputable def EiT (P : List D → Mem → Mem → Prop) (d : D) (μ : Mem) : Prop := ∃ l, d = .tup l ∧ P l μ μ
@[reducible] noncomputable def EiL (P : List D → Mem → Mem → Prop) (d : D) (μ : Mem) : Prop := ∃ a l, d = .raw (.ref a) ∧ μ a = some (.list l) ∧ P l μ (hide μ a)
theorem Ei.tuple (hh : A.handled = none) {iter tg : Expr} {l : List D} {P : List D → Mem → Mem → Prop} (h : Ev C A env (eval iter env) ρ μ (EiT P)) : Ei C A env (eval iter env) tg ρ μ P := by
 intro s k F
 refine wpAny_mono (h s k F) ?_ fun _ _ x => x
 rintro v s1 ⟨d, μ1, r1, k1, t1, l, rfl, hP⟩
 replace r1 := r1.inv
 obtain ⟨t, vs, n, rfl, hb, ht, rr⟩ := r1
 refine wpAny_pyIter_tuple ⟨_, ht, rfl, n, rfl⟩ ?_
 have kp : ∀ b o, s1.heap.get? b = some o → (s1.heap.push { cls := .type "tuple_iterator", data := .fields #[.ref t, .int 0 0] }).get? b = some o := fun b o e => Heap.get?_push_of_some _ e
 have hne : t ≠ s1.heap.objs.size := Nat.ne_of_lt (Heap.lt_size ht)
 have k2 := k1.push { cls := .type "tuple_iterator", data := .fields #[.ref t, .int 0 0] }
 have t2 := t1.trans (Step.push k1 { cls := .type "tuple_iterator", data := .fields #[.ref t, .int 0 0] })
 refine ⟨_, [s1.heap.objs.size], [s1.heap.objs.size], C.B, C.hB, l, _, μ1, μ1, rfl, ⟨Iter.tuple hh s1.heap.objs.size t k1.noBan hb hne tg vs n l, k2, F.step t2 k, ⟨?_, kp _ _ ht, rr.mono fun a vs n _ t => kp _ _ t⟩, ?_, ?_⟩, k2, t2, Sub.refl _, fun b h1 h2 => absurd h1 h2, hP⟩
 · exact ⟨_, Heap.get?_push_size _ rfl, rfl, rfl⟩
 · intro b hb; rw [List.mem_singleton.mp hb]; exact k1.fresh
 · intro b hb; rw [List.mem_singleton.mp hb]; exact ⟨fresh_new t1 (Nat.le_refl _), k1.lt0 (Nat.le_refl _)⟩
theorem Ei.list (hh : A.handled = none) {iter tg : Expr} {P : List D → Mem → Mem → Prop} (h : Ev C A env (eval iter env) ρ μ (EiL P)) : Ei C A env (eval iter env) tg ρ μ P := by
 intro s k F
 refine wpAny_mono (h s k F) ?_ fun _ _ x => x
 rintro v s1 ⟨d, μ1, r1, k1, t1, l, xs, rfl, hm, hP⟩
 (first | (replace r1 := r1.inv; obtain rfl := r1) | (replace r1 := r1.inv; obtain ⟨_, rfl⟩ := r1) | cases r1)
 obtain ⟨vs, n, ho, rr⟩ := k1.mem l _ hm
 refine wpAny_pyIter_list ⟨_, ho, rfl, n, rfl⟩ ?_
 have kp : ∀ b o, s1.heap.get? b = some o → (s1.heap.push { cls := .type "list_iterator", data := .fields #[.ref l, .int 0 0] }).get? b = some o := fun b o e => Heap.get?_push_of_some _ e
 have hne : l ≠ s1.heap.objs.size := Nat.ne_of_lt (Heap.lt_size ho)
 have k2 := k1.push { cls := .type "list_iterator", data := .fields #[.ref l, .int 0 0] }
 have t2 := t1.trans (Step.push k1 { cls := .type "list_iterator", data := .fields #[.ref l, .int 0 0] })
 refine ⟨_, [s1.heap.objs.size, l], [s1.heap.objs.size], C.B, C.hB, xs, _, μ1, hide μ1 l, rfl, ⟨Iter.list hh s1.heap.objs.size l k1.noBan hne tg vs n xs, k2.sub (Sub.hide _ _), (F.step t2 k).sub (Sub.hide _ _), ⟨?_, kp _ _ ho, rr.mono fun a vs n _ t => kp _ _ t⟩, ?_, ?_⟩, k2, t2, Sub.hide _ _, ?_, hP⟩
 · exact ⟨_, Heap.get?_push_size _ rfl, rfl, rfl⟩
 · intro b hb
   rcases List.mem_cons.mp hb with rfl | hb
   · unfold hide; split
     · rfl
     · exact k1.fresh
   · rw [List.mem_singleton.mp hb]; unfold hide; simp
 · intro b hb; rw [List.mem_singleton.mp hb]; exact ⟨fresh_new t1 (Nat.le_refl _), k1.lt0 (Nat.le_refl _)⟩
 · intro b h1 h2
   have : b = l := by
    unfold hide at h1
    split at h1
    · assumption
    · exact absurd h1 h2
   subst this
   exact ⟨by simp, by simp; exact hne⟩
noncomputable abbrev rangeOf (n : Nat) (o : Obj) : Prop := ∃ t u v, o = { cls := .type "range", dict := none, data := .fields #[.int 0 t, .int n u, .int 1 v], slots := #[] }
theorem Call.range {n : Nat} {Q : D → Mem → Prop} (h : ∀ a, μ a = none → Q (.raw (.ref a)) (upd μ a (.obj (rangeOf n)))) : Call C A (.type "range") [.int n] μ Q := by
 intro s vs k r
 replace r := r.inv
 obtain ⟨_, _, rfl, r1, r⟩ := r
 (first | (replace r := r.inv; obtain rfl := r) | (replace r := r.inv; obtain ⟨_, rfl⟩ := r) | cases r); (first | (replace r1 := r1.inv; obtain rfl := r1) | (replace r1 := r1.inv; obtain ⟨_, rfl⟩ := r1) | cases r1)
 refine call_range_1 ?_
 exact ⟨_, _, .raw _, Ok.toks (k.new (mo := .obj (rangeOf n)) ⟨_, Heap.get?_push_size _ rfl, ⟨_, _, _, rfl⟩, by simp⟩) _, Step.trans Step.new (.toks _), h _ k.fresh⟩
@[reducible] noncomputable def EiR (P : List D → Mem → Mem → Prop) (d : D) (μ : Mem) : Prop := ∃ a n, d = .raw (.ref a) ∧ μ a = some (.obj (rangeOf n)) ∧ n ≤ 2 ^ 40 ∧ P (rgs 0 n) μ μ
theorem Ei.range (hh : A.handled = none) {iter tg : Expr} {P : List D → Mem → Mem → Prop}
 (h : Ev C A env (eval iter env) ρ μ (EiR P)) : Ei C A env (eval iter env) tg ρ μ P := by
 intro s k F
 refine wpAny_mono (h s k F) ?_ fun _ _ x => x
 rintro v s1 ⟨d, μ1, r1, k1, t1, a, n, rfl, hm, hn, hP⟩
 (first | (replace r1 := r1.inv; obtain rfl := r1) | (replace r1 := r1.inv; obtain ⟨_, rfl⟩ := r1) | cases r1)
 obtain ⟨o, ho, ⟨a1, a2, a3, rfl⟩, _⟩ := k1.mem a _ hm
 refine wpAny_pyIter_range ho (small_one (by decide) (by decide) (by omega) (by omega)) ?_
 rw [rangeSize_one]
 have e : (if (0 : Int) < (n : Int) then (n : Int) - 0 else 0) = (n : Int) := by split <;> omega
 rw [e]
 generalize ho : ({ cls := .type "range_iterator", data := .fields #[rawInt 0, rawInt (n : Int), rawInt 1] } : Obj) = ob
 have k2 := k1.push ob
 have t2 := t1.trans (Step.push k1 ob)
 refine ⟨_, [s1.heap.objs.size], [s1.heap.objs.size], C.B, C.hB, _, _, μ1, μ1, rfl, ⟨Iter.range hh s1.heap.objs.size k1.noBan tg 0 n, k2, F.step t2 k, ⟨Nat.zero_le _, ?_⟩, ?_, ?_⟩, k2, t2, Sub.refl _, fun b h1 h2 => absurd h1 h2, hP⟩
 · subst ho
   show (s1.heap.push _).get? _ = _
   rw [Heap.get?_push_size _ rfl]
   simp
 · intro b hb; rw [List.mem_singleton.mp hb]; exact k1.fresh
 · intro b hb; rw [List.mem_singleton.mp hb]; exact ⟨fresh_new t1 (Nat.le_refl _), k1.lt0 (Nat.le_refl _)⟩
end
noncomputable def SeqIt (h : Heap) (i l : Addr) (k : Nat) (xs : Array Value) : Prop := (h.IsListIter i l k ∧ h.IsList l xs) ∨ (h.IsTupleIter i l k ∧ h.IsTuple l xs)
theorem SeqIt.keep {h h' : Heap} {i l : Addr} {k : Nat} {xs : Array Value} (x : SeqIt h i l k xs) (k1 : ∀ o, h.get? i = some o → h'.get? i = some o) (k2 : ∀ o, h.get? l = some o → h'.get? l = some o) : SeqIt h' i l k xs := by
 rcases x with ⟨⟨o, ho, r⟩, ⟨p, hp, q⟩⟩ | ⟨⟨o, ho, r⟩, ⟨p, hp, q⟩⟩
 · exact .inl ⟨⟨o, k1 _ ho, r⟩, ⟨p, k2 _ hp, q⟩⟩
 · exact .inr ⟨⟨o, k1 _ ho, r⟩, ⟨p, k2 _ hp, q⟩⟩
theorem SeqIt.obj {h : Heap} {i l : Addr} {k : Nat} {xs : Array Value} (x : SeqIt h i l k xs) : ∃ o, h.get? i = some o ∧ (o.cls = .type "list_iterator" ∨ o.cls = .type "tuple_iterator") ∧ ∃ f, o.data = .fields f := by
 rcases x with ⟨⟨o, ho, hc, hd⟩, _⟩ | ⟨⟨o, ho, hc, hd⟩, _⟩
 · exact ⟨o, ho, .inl hc, _, hd⟩
 · exact ⟨o, ho, .inr hc, _, hd⟩
theorem SeqIt.src {h : Heap} {i l : Addr} {k : Nat} {xs : Array Value} (x : SeqIt h i l k xs) : ∃ o n, h.get? l = some o ∧ o.data = .seq xs n := by
 rcases x with ⟨_, o, ho, _, n, hd⟩ | ⟨_, o, ho, _, n, hd⟩
 · exact ⟨o, n, ho, hd⟩
 · exact ⟨o, n, ho, hd⟩
section
variable {prog : Program} {w : World} {A : Around} {E : Value → Shared → Prop} {s : Shared}
theorem loadAlive {a : Addr} {o : Obj} {Q : Option Obj → Shared → Prop} (ho : s.heap.get? a = some o) (h : Q (some o) s) : wpAny (model prog w) A (loadIfAlive a) Q E s := fun Γ p _ => by
 unfold loadIfAlive
 rw [Sem.wp_loadIfAlive, ho]
 exact h
theorem nextOf_tuple_item {it l : Addr} {i : Nat} {items} {x : Value} {Q : Value → Shared → Prop} (hit : s.heap.IsTupleIter it l i)
 (hl : s.heap.IsTuple l items) (hx : items[i]? = some x)
 (hQ : ∀ h', h'.IsTupleIter it l (i + 1) → Heap.SameBut it s.heap h' → Q x { s with heap := h' }) :
 wpAny (model prog w) A (Builtin.SmallTypes.nextOf (.ref it)) Q E s := by
 obtain ⟨o, ho, hc, hd⟩ := id hit
 obtain ⟨ol, hol, _, nl, hdl⟩ := hl
 unfold Builtin.SmallTypes.nextOf
 refine wpAny_bind (wpAny_callSpecial?_slot (name := Str.ofString "__next__") hit.typeIs F.slot_tuple_iterator_next
  (wpAny_call_entry F.slot_tuple_iterator_next hit.typeIs F.entry_tuple_iterator_next ?_ (F.args_tuple_iterator_next_1 _)))
 show wpAny _ _ (field (.ref it) 0 >>= _) _ _ s
 refine wpAny_bind (wpAny_field ho hd (x := .ref l) rfl ?_)
 show wpAny _ _ (if (Value.ref l == Value.none) = true then _ else _) _ _ s
 rw [if_neg (show ¬ ((Value.ref l == Value.none) = true) from Bool.false_ne_true)]
 show wpAny _ _ (field (.ref it) 1 >>= _) _ _ s
 refine wpAny_bind (wpAny_field ho hd (x := .int i 0) rfl ?_)
 show wpAny _ _ (seqItems? (.ref l) >>= _) _ _ s
 refine wpAny_bind (wpAny_seqItems hol hdl ?_)
 simp only [Int.toNat_natCast, hx]
 refine wpAny_bind (wpAny_setField ho hd (by simp) (wpAny_pure ⟨x, rfl, wpAny_pure (hQ _ ?_ (Heap.SameBut.update ..))⟩))
 exact ⟨_, Heap.get?_update_self _ ho (Obj.isFreed_of_fields (Obj.data_mapFields hd _)), (Obj.cls_mapFields ..).trans hc, by
  rw [Obj.data_mapFields hd]; simp [rawInt]⟩
theorem nextOf_tuple_end {it l : Addr} {i : Nat} {items} {Q : Value → Shared → Prop} (hh : A.handled = none)
 (hit : s.heap.IsTupleIter it l i) (hl : s.heap.IsTuple l items) (hx : items[i]? = none)
 (hE : ∀ h' e, Heap.ExtBut it s.heap h' → (∃ o, h'.get? e = some o ∧ o.cls = .type "StopIteration") → E (.ref e) { s with heap := h' }) :
 wpAny (model prog w) A (Builtin.SmallTypes.nextOf (.ref it)) Q E s := by
 obtain ⟨o, ho, hc, hd⟩ := id hit
 obtain ⟨ol, hol, _, nl, hdl⟩ := hl
 unfold Builtin.SmallTypes.nextOf
 refine wpAny_bind (wpAny_callSpecial?_slot (name := Str.ofString "__next__") hit.typeIs F.slot_tuple_iterator_next
  (wpAny_call_entry F.slot_tuple_iterator_next hit.typeIs F.entry_tuple_iterator_next ?_ (F.args_tuple_iterator_next_1 _)))
 show wpAny _ _ (field (.ref it) 0 >>= _) _ _ s
 refine wpAny_bind (wpAny_field ho hd (x := .ref l) rfl ?_)
 show wpAny _ _ (if (Value.ref l == Value.none) = true then _ else _) _ _ s
 rw [if_neg (show ¬ ((Value.ref l == Value.none) = true) from Bool.false_ne_true)]
 show wpAny _ _ (field (.ref it) 1 >>= _) _ _ s
 refine wpAny_bind (wpAny_field ho hd (x := .int i 0) rfl ?_)
 show wpAny _ _ (seqItems? (.ref l) >>= _) _ _ s
 refine wpAny_bind (wpAny_seqItems hol hdl ?_)
 simp only [Int.toNat_natCast, hx]
 refine wpAny_bind (wpAny_rule (wpAny_bind (wpAny_setField ho hd (by simp) ?_)))
 show wpAny _ _ (newExc (.type "StopIteration") [] >>= _) _ _ _
 refine wpAny_bind ?_
 simp only [newExc, newTuple]
 refine wpAny_bind (wpAny_newObj_type ?_ (by size_fits))
 refine wpAny_bind (m := firstArgMember _ _) (wpAny_of_eq (a := Value.none) (by first | rfl | (simp only [firstArgMember]; rfl)) ?_)
 refine wpAny_newObj_type ?_ (by size_fits)
 refine wpAny_bind (wpAny_handled ?_)
 first | rw [show A.in1.handled = none from hh] | rw [hh]
 refine wpAny_bind (wpAny_pure (wpAny_throw ?_))
 exact hE _ _ (((Heap.SameBut.update ..).extBut.push _).push _) ⟨_, Heap.get?_push_size _ rfl, rfl⟩
theorem SeqIt.next {it l : Addr} {i : Nat} {items} {x : Value} {Q : Value → Shared → Prop} (hit : SeqIt s.heap it l i items) (hne : l ≠ it) (hx : items[i]? = some x)
 (hQ : ∀ h', SeqIt h' it l (i + 1) items → Heap.SameBut it s.heap h' → Q x { s with heap := h' }) : wpAny (model prog w) A (Builtin.SmallTypes.nextOf (.ref it)) Q E s := by
 rcases hit with ⟨h1, h2⟩ | ⟨h1, h2⟩
 · exact wpAny_nextOf_list_item h1 h2 hx fun h' a b => hQ h' (.inl ⟨a, h2.extBut b.extBut hne⟩) b
 · exact nextOf_tuple_item h1 h2 hx fun h' a b => hQ h' (.inr ⟨a, h2.extBut b.extBut hne⟩) b
theorem SeqIt.end {it l : Addr} {i : Nat} {items} {Q : Value → Shared → Prop} (hh : A.handled = none) (hit : SeqIt s.heap it l i items) (hx : items[i]? = none)
 (hE : ∀ h' e, Heap.ExtBut it s.heap h' → (∃ o, h'.get? e = some o ∧ o.cls = .type "StopIteration") → E (.ref e) { s with heap := h' }) : wpAny (model prog w) A (Builtin.SmallTypes.nextOf (.ref it)) Q E s := by
 rcases hit with ⟨h1, h2⟩ | ⟨h1, h2⟩
 · exact wpAny_nextOf_list_end hh h1 h2 hx hE
 · exact nextOf_tuple_end hh h1 h2 hx hE
noncomputable abbrev zipObj (TI TO : Addr) (f0 : Value) (f1 : Bool) : Obj := { cls := .type "zip", dict := none, data := .fields #[f0, .bool f1, .bool false, .ref TI, .ref TO], slots := #[] }
structure ZSt (h : Heap) (z TI TO i1 i2 l1 l2 : Addr) (k : Nat) (xs ys : Array Value) (f0 : Value) (f1 : Bool) : Prop where
 z : h.get? z = some (zipObj TI TO f0 f1)
 TI : IsPair h TI (.ref i1) (.ref i2)
 TO : ∃ a b, IsPair h TO a b
 s1 : SeqIt h i1 l1 k xs
 s2 : SeqIt h i2 l2 k ys
theorem zip_next_item {z TI TO i1 i2 l1 l2 : Addr} {k : Nat} {xs ys : Array Value} {x y : Value} {f1 : Bool} {Q : Value → Shared → Prop} (D : ZipApart z TI TO i1 i2 l1 l2)
 (hst : ZSt s.heap z TI TO i1 i2 l1 l2 k xs ys .none f1) (hx : xs[k]? = some x) (hy : ys[k]? = some y)
 (hQ : ∀ h', ZSt h' z TI TO i1 i2 l1 l2 (k + 1) xs ys (rawInt s.heap.objs.size) false → IsPair h' s.heap.objs.size x y → h'.objs.size = s.heap.objs.size + 1 →
  (∀ c o, c ≠ z → c ≠ TO → c ≠ i1 → c ≠ i2 → s.heap.get? c = some o → h'.get? c = some o) → Q (.ref s.heap.objs.size) { s with heap := h' }) :
 wpAny (model prog w) A (Builtin.«zip.__next__» ⟨[.ref z], []⟩) (fun fin s' => ∃ v, fin = .done (.ret v) ∧ Q v s') E s := by
 obtain ⟨hz, hTI, ⟨a, b, hTO⟩, h1, h2⟩ := hst
 show wpAny _ _ (field (.ref z) 2 >>= _) _ _ _
 refine wpAny_bind (wpAny_field hz rfl (x := .bool false) rfl ?_)
 show wpAny _ _ (field (.ref z) 3 >>= _) _ _ _
 refine wpAny_bind (wpAny_field hz rfl (x := .ref TI) rfl ?_)
 refine wpAny_bind (wpAny_seqItems hTI rfl ?_)
 show wpAny _ _ (Builtin.SmallTypes.ownedTupleIsFree (.ref z) >>= _) _ _ _
 refine wpAny_bind ?_
 unfold Builtin.SmallTypes.ownedTupleIsFree
 refine wpAny_bind (wpAny_field hz rfl (x := .none) rfl (wpAny_pure ?_))
 simp only [if_true]
 refine wpAny_bind (wpAny_rule ?_)
 refine wpAny_bind (wpAny_field hz rfl (x := .ref TO) rfl ?_)
 refine wpAny_bind (wpAny_setField_rec hz (by simp) fun h₁ hz₁ hs₁ => ?_)
 replace hz₁ : h₁.get? z = some (zipObj TI TO .ellipsis f1) := hz₁
 refine wpAny_bind ?_
 simp only [List.zipIdx_cons, List.zipIdx_nil, List.forIn_cons, List.forIn_nil]
 refine wpAny_bind (wpAny_bind (wpAny_onRaise ?_))
 show wpAny _ _ (Builtin.SmallTypes.nextOf (.ref i1) >>= _) _ _ _
 refine wpAny_bind ((h1.keep (fun o e => hs₁.extBut _ _ D.i1z e) fun o e => hs₁.extBut _ _ D.l1z e).next D.l1i1 hx fun h₂ h1₂ hs₂ => wpAny_pure ?_)
 have hTO₂ : IsPair h₂ TO a b := hs₂.extBut _ _ D.TOi1 (hs₁.extBut _ _ D.TOz hTO)
 refine wpAny_bind (wpAny_seqItems hTO₂ rfl ?_)
 refine wpAny_bind (wpAny_updateSeq_pair hTO₂ fun h₃ hTO₃ hs₃ => ?_)
 replace hTO₃ : IsPair h₃ TO x b := hTO₃
 refine wpAny_bind (wpAny_letGo (wpAny_pure ?_))
 refine wpAny_bind (wpAny_bind (wpAny_onRaise ?_))
 show wpAny _ _ (Builtin.SmallTypes.nextOf (.ref i2) >>= _) _ _ _
 refine wpAny_bind ((h2.keep (fun o e => hs₃.extBut _ _ D.TOi2.symm (hs₂.extBut _ _ D.i12.symm (hs₁.extBut _ _ D.i2z e))) fun o e => hs₃.extBut _ _ D.l2TO (hs₂.extBut _ _ D.l2i1 (hs₁.extBut _ _ D.l2z e))).next D.l2i2 hy fun h₄ h2₄ hs₄ => wpAny_pure ?_)
 have hTO₄ : IsPair h₄ TO x b := hs₄.extBut _ _ D.TOi2 hTO₃
 refine wpAny_bind (wpAny_seqItems hTO₄ rfl ?_)
 refine wpAny_bind (wpAny_updateSeq_pair hTO₄ fun h₅ hTO₅ hs₅ => ?_)
 replace hTO₅ : IsPair h₅ TO x y := hTO₅
 refine wpAny_bind (wpAny_letGo (wpAny_pure (wpAny_pure ?_)))
 refine wpAny_bind (wpAny_seqItems hTO₅ rfl ?_)
 refine wpAny_bind (wpAny_newTuple ?_)
 have hsz : h₅.objs.size = s.heap.objs.size := by rw [hs₅.1, hs₄.1, hs₃.1, hs₂.1, hs₁.1]
 have hz₅ : h₅.get? z = some (zipObj TI TO .ellipsis f1) := hs₅.extBut _ _ D.TOz.symm (hs₄.extBut _ _ D.i2z.symm (hs₃.extBut _ _ D.TOz.symm (hs₂.extBut _ _ D.i1z.symm hz₁)))
 have hk₅ : ∀ c o, c ≠ z → c ≠ TO → c ≠ i1 → c ≠ i2 → s.heap.get? c = some o → h₅.get? c = some o := fun c o c1 c2 c3 c4 e =>
  hs₅.extBut _ _ c2 (hs₄.extBut _ _ c4 (hs₃.extBut _ _ c2 (hs₂.extBut _ _ c3 (hs₁.extBut _ _ c1 e))))
 have h1₅ : SeqIt h₅ i1 l1 (k + 1) xs := h1₂.keep (fun o e => hs₅.extBut _ _ D.TOi1.symm (hs₄.extBut _ _ D.i12 (hs₃.extBut _ _ D.TOi1.symm e))) fun o e => hs₅.extBut _ _ D.l1TO (hs₄.extBut _ _ D.l1i2 (hs₃.extBut _ _ D.l1TO e))
 have h2₅ : SeqIt h₅ i2 l2 (k + 1) ys := h2₄.keep (fun o e => hs₅.extBut _ _ D.TOi2.symm e) fun o e => hs₅.extBut _ _ D.l2TO e
 have hzlt : z < h₅.objs.size := Heap.lt_size hz₅
 show wpAny _ _ (Builtin.SmallTypes.ownedTupleHandOut (.ref z) (.ref h₅.objs.size) >>= _) _ _ _
 refine wpAny_bind ?_
 unfold Builtin.SmallTypes.ownedTupleHandOut
 have hz₆ : (h₅.push { cls := .type "tuple", data := .seq #[x, y] }).get? z = some (zipObj TI TO .ellipsis f1) := Heap.get?_push_of_some _ hz₅
 refine wpAny_bind (wpAny_setField_rec hz₆ (by simp) fun h₇ hz₇ hs₇ => ?_)
 replace hz₇ : h₇.get? z = some (zipObj TI TO (rawInt h₅.objs.size) f1) := hz₇
 refine wpAny_setField_rec hz₇ (by simp) fun h₈ hz₈ hs₈ => ?_
 replace hz₈ : h₈.get? z = some (zipObj TI TO (rawInt h₅.objs.size) false) := hz₈
 have up : ∀ c o, c ≠ z → h₅.get? c = some o → h₈.get? c = some o := fun c o c1 e => hs₈.extBut _ _ c1 (hs₇.extBut _ _ c1 (Heap.get?_push_of_some _ e))
 have hT₈ : IsPair h₈ h₅.objs.size x y := hs₈.extBut _ _ (Nat.ne_of_gt hzlt) (hs₇.extBut _ _ (Nat.ne_of_gt hzlt) (Heap.get?_push_size _ rfl))
 have hz8 : h₈.objs.size = h₅.objs.size + 1 := by rw [hs₈.1, hs₇.1, Heap.size_push]
 rw [hsz] at hz₈ hT₈ hz8
 refine wpAny_pure ⟨_, rfl, ?_⟩
 show Q (.ref h₅.objs.size) _
 rw [hsz]
 exact hQ h₈ ⟨hz₈, up _ _ D.TIz (hk₅ _ _ D.TIz D.TITO D.TIi1 D.TIi2 hTI), ⟨_, _, up _ _ D.TOz hTO₅⟩, h1₅.keep (fun o e => up _ o D.i1z e) (fun o e => up _ o D.l1z e), h2₅.keep (fun o e => up _ o D.i2z e) (fun o e => up _ o D.l2z e)⟩
  hT₈ hz8 fun c o c1 c2 c3 c4 e => up c o c1 (hk₅ c o c1 c2 c3 c4 e)
theorem zip_next_busy {z TI TO i1 i2 l1 l2 T : Addr} {oT : Obj} {k : Nat} {xs ys : Array Value} {x y : Value} {f1 : Bool} {Q : Value → Shared → Prop} (D : ZipApart z TI TO i1 i2 l1 l2)
 (hst : ZSt s.heap z TI TO i1 i2 l1 l2 k xs ys (rawInt T) f1) (hT : s.heap.get? T = some oT) (hx : xs[k]? = some x) (hy : ys[k]? = some y)
 (hQ : ∀ h', ZSt h' z TI TO i1 i2 l1 l2 (k + 1) xs ys (rawInt T) true → IsPair h' s.heap.objs.size x y → h'.objs.size = s.heap.objs.size + 1 →
  (∀ c o, c ≠ z → c ≠ TO → c ≠ i1 → c ≠ i2 → s.heap.get? c = some o → h'.get? c = some o) → Q (.ref s.heap.objs.size) { s with heap := h' }) :
 wpAny (model prog w) A (Builtin.«zip.__next__» ⟨[.ref z], []⟩) (fun fin s' => ∃ v, fin = .done (.ret v) ∧ Q v s') E s := by
 obtain ⟨hz, hTI, ⟨a, b, hTO⟩, h1, h2⟩ := hst
 show wpAny _ _ (field (.ref z) 2 >>= _) _ _ _
 refine wpAny_bind (wpAny_field hz rfl (x := .bool false) rfl ?_)
 show wpAny _ _ (field (.ref z) 3 >>= _) _ _ _
 refine wpAny_bind (wpAny_field hz rfl (x := .ref TI) rfl ?_)
 refine wpAny_bind (wpAny_seqItems hTI rfl ?_)
 show wpAny _ _ (Builtin.SmallTypes.ownedTupleIsFree (.ref z) >>= _) _ _ _
 refine wpAny_bind ?_
 unfold Builtin.SmallTypes.ownedTupleIsFree
 refine wpAny_bind (wpAny_field hz rfl (x := rawInt T) rfl ?_)
 show wpAny _ _ (loadIfAlive (T : Int).toNat >>= _) _ _ _
 refine wpAny_bind (loadAlive (o := oT) (by simpa using hT) ?_)
 show wpAny _ _ (field (.ref z) 1 >>= _) _ _ _
 refine wpAny_bind (wpAny_field hz rfl (x := .bool f1) rfl ?_)
 cases f1
 · refine wpAny_bind (wpAny_setField_rec hz (by simp) fun h₁ hz₁ hs₁ => wpAny_pure ?_)
   replace hz₁ : h₁.get? z = some (zipObj TI TO (rawInt T) true) := hz₁
   rw [if_neg (by simp)]
   show wpAny _ _ ((do
    let r ← forIn (#[Value.ref i1, Value.ref i2] : Array Value) _ _
    _)) _ _ _
   rw [← Array.forIn_toList]
   simp only [List.forIn_cons, List.forIn_nil]
   refine wpAny_bind (wpAny_bind (wpAny_bind (wpAny_holding ?_)))
   show wpAny _ _ (Builtin.SmallTypes.nextOf (.ref i1) >>= _) _ _ _
   refine wpAny_bind ((h1.keep (fun o e => hs₁.extBut _ _ D.i1z e) fun o e => hs₁.extBut _ _ D.l1z e).next D.l1i1 hx fun h₂ h1₂ hs₂ => wpAny_pure (wpAny_pure ?_))
   refine wpAny_bind (wpAny_bind (wpAny_holding ?_))
   show wpAny _ _ (Builtin.SmallTypes.nextOf (.ref i2) >>= _) _ _ _
   refine wpAny_bind ((h2.keep (fun o e => hs₂.extBut _ _ D.i12.symm (hs₁.extBut _ _ D.i2z e)) fun o e => hs₂.extBut _ _ D.l2i1 (hs₁.extBut _ _ D.l2z e)).next D.l2i2 hy fun h₃ h2₃ hs₃ => wpAny_pure (wpAny_pure (wpAny_pure ?_)))
   refine wpAny_bind (wpAny_newTuple (hsz := by show 2 ≤ sizeLine; decide) ?_)
   have hsz : h₃.objs.size = s.heap.objs.size := by rw [hs₃.1, hs₂.1, hs₁.1]
   have hk : ∀ c o, c ≠ z → c ≠ i1 → c ≠ i2 → s.heap.get? c = some o → h₃.get? c = some o := fun c o c1 c3 c4 e => hs₃.extBut _ _ c4 (hs₂.extBut _ _ c3 (hs₁.extBut _ _ c1 e))
   have hz₃ : h₃.get? z = some (zipObj TI TO (rawInt T) true) := hs₃.extBut _ _ D.i2z.symm (hs₂.extBut _ _ D.i1z.symm hz₁)
   have h1₃ : SeqIt h₃ i1 l1 (k + 1) xs := h1₂.keep (fun o e => hs₃.extBut _ _ D.i12 e) fun o e => hs₃.extBut _ _ D.l1i2 e
   have up : ∀ c o, h₃.get? c = some o → (h₃.push { cls := .type "tuple", data := .seq #[x, y] }).get? c = some o := fun c o e => Heap.get?_push_of_some _ e
   refine wpAny_pure ⟨_, rfl, ?_⟩
   show Q (.ref h₃.objs.size) { s with heap := h₃.push { cls := .type "tuple", data := .seq #[x, y] } }
   have hT' : IsPair (h₃.push { cls := .type "tuple", data := .seq #[x, y] }) h₃.objs.size x y := Heap.get?_push_size _ rfl
   rw [hsz] at hT' ⊢
   exact hQ _ ⟨up _ _ hz₃, up _ _ (hk _ _ D.TIz D.TIi1 D.TIi2 hTI), ⟨_, _, up _ _ (hk _ _ D.TOz D.TOi1 D.TOi2 hTO)⟩, h1₃.keep (fun o e => up _ o e) (fun o e => up _ o e), h2₃.keep (fun o e => up _ o e) (fun o e => up _ o e)⟩
    hT' (by rw [Heap.size_push, hsz]) fun c o c1 c2 c3 c4 e => up _ _ (hk c o c1 c3 c4 e)
 · refine wpAny_pure ?_
   obtain ⟨h₁, hz₁, hs₁, hss⟩ : ∃ h₁ : Heap, h₁.get? z = some (zipObj TI TO (rawInt T) true) ∧ Heap.SameBut z s.heap h₁ ∧ s = { s with heap := h₁ } := ⟨s.heap, hz, Heap.SameBut.refl _ _, rfl⟩
   rw [if_neg (by simp)]
   show wpAny _ _ ((do
    let r ← forIn (#[Value.ref i1, Value.ref i2] : Array Value) _ _
    _)) _ _ _
   generalize hs0 : s = s0 at hss ⊢
   rw [hss, ← hs0]
   rw [← Array.forIn_toList]
   simp only [List.forIn_cons, List.forIn_nil]
   refine wpAny_bind (wpAny_bind (wpAny_bind (wpAny_holding ?_)))
   show wpAny _ _ (Builtin.SmallTypes.nextOf (.ref i1) >>= _) _ _ _
   refine wpAny_bind ((h1.keep (fun o e => hs₁.extBut _ _ D.i1z e) fun o e => hs₁.extBut _ _ D.l1z e).next D.l1i1 hx fun h₂ h1₂ hs₂ => wpAny_pure (wpAny_pure ?_))
   refine wpAny_bind (wpAny_bind (wpAny_holding ?_))
   show wpAny _ _ (Builtin.SmallTypes.nextOf (.ref i2) >>= _) _ _ _
   refine wpAny_bind ((h2.keep (fun o e => hs₂.extBut _ _ D.i12.symm (hs₁.extBut _ _ D.i2z e)) fun o e => hs₂.extBut _ _ D.l2i1 (hs₁.extBut _ _ D.l2z e)).next D.l2i2 hy fun h₃ h2₃ hs₃ => wpAny_pure (wpAny_pure (wpAny_pure ?_)))
   refine wpAny_bind (wpAny_newTuple (hsz := by show 2 ≤ sizeLine; decide) ?_)
   have hsz : h₃.objs.size = s.heap.objs.size := by rw [hs₃.1, hs₂.1, hs₁.1]
   have hk : ∀ c o, c ≠ z → c ≠ i1 → c ≠ i2 → s.heap.get? c = some o → h₃.get? c = some o := fun c o c1 c3 c4 e => hs₃.extBut _ _ c4 (hs₂.extBut _ _ c3 (hs₁.extBut _ _ c1 e))
   have hz₃ : h₃.get? z = some (zipObj TI TO (rawInt T) true) := hs₃.extBut _ _ D.i2z.symm (hs₂.extBut _ _ D.i1z.symm hz₁)
   have h1₃ : SeqIt h₃ i1 l1 (k + 1) xs := h1₂.keep (fun o e => hs₃.extBut _ _ D.i12 e) fun o e => hs₃.extBut _ _ D.l1i2 e
   have up : ∀ c o, h₃.get? c = some o → (h₃.push { cls := .type "tuple", data := .seq #[x, y] }).get? c = some o := fun c o e => Heap.get?_push_of_some _ e
   refine wpAny_pure ⟨_, rfl, ?_⟩
   show Q (.ref h₃.objs.size) { s with heap := h₃.push { cls := .type "tuple", data := .seq #[x, y] } }
   have hT' : IsPair (h₃.push { cls := .type "tuple", data := .seq #[x, y] }) h₃.objs.size x y := Heap.get?_push_size _ rfl
   rw [hsz] at hT' ⊢
   exact hQ _ ⟨up _ _ hz₃, up _ _ (hk _ _ D.TIz D.TIi1 D.TIi2 hTI), ⟨_, _, up _ _ (hk _ _ D.TOz D.TOi1 D.TOi2 hTO)⟩, h1₃.keep (fun o e => up _ o e) (fun o e => up _ o e), h2₃.keep (fun o e => up _ o e) (fun o e => up _ o e)⟩
    hT' (by rw [Heap.size_push, hsz]) fun c o c1 c2 c3 c4 e => up _ _ (hk c o c1 c3 c4 e)
theorem zip_next_end {z TI TO i1 i2 l1 l2 : Addr} {k : Nat} {xs ys : Array Value} {Q : PySem.Fin → Shared → Prop} (hh : A.handled = none) (D : ZipApart z TI TO i1 i2 l1 l2) {f1 : Bool}
 (hst : ZSt s.heap z TI TO i1 i2 l1 l2 k xs ys .none f1) (hend : xs[k]? = none ∨ ys[k]? = none)
 (hE : ∀ h' e, (∀ c o, c ≠ z → c ≠ TO → c ≠ i1 → c ≠ i2 → s.heap.get? c = some o → h'.get? c = some o) → (∃ o, h'.get? TO = some o) → (∃ o, h'.get? e = some o ∧ o.cls = .type "StopIteration") → E (.ref e) { s with heap := h' }) :
 wpAny (model prog w) A (Builtin.«zip.__next__» ⟨[.ref z], []⟩) Q E s := by
 obtain ⟨hz, hTI, ⟨a, b, hTO⟩, h1, h2⟩ := hst
 show wpAny _ _ (field (.ref z) 2 >>= _) _ _ _
 refine wpAny_bind (wpAny_field hz rfl (x := .bool false) rfl ?_)
 show wpAny _ _ (field (.ref z) 3 >>= _) _ _ _
 refine wpAny_bind (wpAny_field hz rfl (x := .ref TI) rfl ?_)
 refine wpAny_bind (wpAny_seqItems hTI rfl ?_)
 show wpAny _ _ (Builtin.SmallTypes.ownedTupleIsFree (.ref z) >>= _) _ _ _
 refine wpAny_bind ?_
 unfold Builtin.SmallTypes.ownedTupleIsFree
 refine wpAny_bind (wpAny_field hz rfl (x := .none) rfl (wpAny_pure ?_))
 simp only [if_true]
 refine wpAny_bind (wpAny_rule ?_)
 refine wpAny_bind (wpAny_field hz rfl (x := .ref TO) rfl ?_)
 refine wpAny_bind (wpAny_setField_rec hz (by simp) fun h₁ hz₁ hs₁ => ?_)
 replace hz₁ : h₁.get? z = some (zipObj TI TO .ellipsis f1) := hz₁
 refine wpAny_bind ?_
 simp only [List.zipIdx_cons, List.zipIdx_nil, List.forIn_cons, List.forIn_nil]
 refine wpAny_bind (wpAny_bind (wpAny_onRaise ?_))
 show wpAny _ _ (Builtin.SmallTypes.nextOf (.ref i1) >>= _) _ _ _
 have h1' := h1.keep (fun o e => hs₁.extBut _ _ D.i1z e) fun o e => hs₁.extBut _ _ D.l1z e
 cases hx : xs[k]? with
 | none =>
  refine wpAny_bind (h1'.end hh hx fun h₂ e hs₂ he => ?_)
  obtain ⟨oe, hoe, hce⟩ := he
  have hz₂ : h₂.get? z = some (zipObj TI TO .ellipsis f1) := hs₂ _ _ D.i1z.symm hz₁
  have hez : e ≠ z := fun x => by subst x; rw [hz₂] at hoe; cases hoe; simp at hce
  refine wpAny_setField_rec hz₂ (by simp) fun h₃ _ hs₃ => hE h₃ e (fun c o c1 _ c3 _ x => hs₃.extBut _ _ c1 (hs₂ _ _ c3 (hs₁.extBut _ _ c1 x))) ⟨_, hs₃.extBut _ _ D.TOz (hs₂ _ _ D.TOi1 (hs₁.extBut _ _ D.TOz hTO))⟩ ⟨oe, hs₃.extBut _ _ hez hoe, hce⟩
 | some x =>
  have hy : ys[k]? = none := by rcases hend with h | h; rw [hx] at h; cases h; exact h
  refine wpAny_bind (h1'.next D.l1i1 hx fun h₂ h1₂ hs₂ => wpAny_pure ?_)
  have hTO₂ : IsPair h₂ TO a b := hs₂.extBut _ _ D.TOi1 (hs₁.extBut _ _ D.TOz hTO)
  refine wpAny_bind (wpAny_seqItems hTO₂ rfl ?_)
  refine wpAny_bind (wpAny_updateSeq_pair hTO₂ fun h₃ hTO₃ hs₃ => ?_)
  refine wpAny_bind (wpAny_letGo (wpAny_pure ?_))
  refine wpAny_bind (wpAny_bind (wpAny_onRaise ?_))
  show wpAny _ _ (Builtin.SmallTypes.nextOf (.ref i2) >>= _) _ _ _
  refine wpAny_bind ((h2.keep (fun o e => hs₃.extBut _ _ D.TOi2.symm (hs₂.extBut _ _ D.i12.symm (hs₁.extBut _ _ D.i2z e))) fun o e => hs₃.extBut _ _ D.l2TO (hs₂.extBut _ _ D.l2i1 (hs₁.extBut _ _ D.l2z e))).end hh hy fun h₄ e hs₄ he => ?_)
  obtain ⟨oe, hoe, hce⟩ := he
  have hz₄ : h₄.get? z = some (zipObj TI TO .ellipsis f1) := hs₄ _ _ D.i2z.symm (hs₃.extBut _ _ D.TOz.symm (hs₂.extBut _ _ D.i1z.symm hz₁))
  have hez : e ≠ z := fun x => by subst x; rw [hz₄] at hoe; cases hoe; simp at hce
  refine wpAny_setField_rec hz₄ (by simp) fun h₅ _ hs₅ => hE h₅ e (fun c o c1 c2 c3 c4 x => hs₅.extBut _ _ c1 (hs₄ _ _ c4 (hs₃.extBut _ _ c2 (hs₂.extBut _ _ c3 (hs₁.extBut _ _ c1 x))))) ⟨_, hs₅.extBut _ _ D.TOz (hs₄ _ _ D.TOi2 hTO₃)⟩ ⟨oe, hs₅.extBut _ _ hez hoe, hce⟩
theorem zip_end_busy {z TI TO i1 i2 l1 l2 T : Addr} {oT : Obj} {k : Nat} {xs ys : Array Value} {Q : PySem.Fin → Shared → Prop} (hh : A.handled = none) (D : ZipApart z TI TO i1 i2 l1 l2) {f1 : Bool}
 (hst : ZSt s.heap z TI TO i1 i2 l1 l2 k xs ys (rawInt T) f1) (hT : s.heap.get? T = some oT) (hend : xs[k]? = none ∨ ys[k]? = none)
 (hE : ∀ h' e, (∀ c o, c ≠ z → c ≠ TO → c ≠ i1 → c ≠ i2 → s.heap.get? c = some o → h'.get? c = some o) → (∃ o, h'.get? TO = some o) → (∃ o, h'.get? e = some o ∧ o.cls = .type "StopIteration") → E (.ref e) { s with heap := h' }) :
 wpAny (model prog w) A (Builtin.«zip.__next__» ⟨[.ref z], []⟩) Q E s := by
 obtain ⟨hz, hTI, ⟨a, b, hTO⟩, h1, h2⟩ := hst
 show wpAny _ _ (field (.ref z) 2 >>= _) _ _ _
 refine wpAny_bind (wpAny_field hz rfl (x := .bool false) rfl ?_)
 show wpAny _ _ (field (.ref z) 3 >>= _) _ _ _
 refine wpAny_bind (wpAny_field hz rfl (x := .ref TI) rfl ?_)
 refine wpAny_bind (wpAny_seqItems hTI rfl ?_)
 show wpAny _ _ (Builtin.SmallTypes.ownedTupleIsFree (.ref z) >>= _) _ _ _
 refine wpAny_bind ?_
 unfold Builtin.SmallTypes.ownedTupleIsFree
 refine wpAny_bind (wpAny_field hz rfl (x := rawInt T) rfl ?_)
 show wpAny _ _ (loadIfAlive (T : Int).toNat >>= _) _ _ _
 refine wpAny_bind (loadAlive (o := oT) (by simpa using hT) ?_)
 show wpAny _ _ (field (.ref z) 1 >>= _) _ _ _
 refine wpAny_bind (wpAny_field hz rfl (x := .bool f1) rfl ?_)
 cases f1
 · refine wpAny_bind (wpAny_setField_rec hz (by simp) fun h₁ hz₁ hs₁ => wpAny_pure ?_)
   rw [if_neg (by simp)]
   show wpAny _ _ ((do
    let r ← forIn (#[Value.ref i1, Value.ref i2] : Array Value) _ _
    _)) _ _ _
   rw [← Array.forIn_toList]
   simp only [List.forIn_cons, List.forIn_nil]
   have h1' := h1.keep (fun o e => hs₁.extBut _ _ D.i1z e) fun o e => hs₁.extBut _ _ D.l1z e
   refine wpAny_bind (wpAny_bind (wpAny_bind (wpAny_holding ?_)))
   show wpAny _ _ (Builtin.SmallTypes.nextOf (.ref i1) >>= _) _ _ _
   cases hx : xs[k]? with
   | none =>
    refine wpAny_bind (h1'.end hh hx fun h₂ e hs₂ he => ?_)
    exact hE h₂ e (fun c o c1 _ c3 _ x => hs₂ _ _ c3 (hs₁.extBut _ _ c1 x)) ⟨_, hs₂ _ _ D.TOi1 (hs₁.extBut _ _ D.TOz hTO)⟩ he
   | some x =>
    have hy : ys[k]? = none := by rcases hend with h | h; rw [hx] at h; cases h; exact h
    refine wpAny_bind (h1'.next D.l1i1 hx fun h₂ h1₂ hs₂ => wpAny_pure (wpAny_pure ?_))
    refine wpAny_bind (wpAny_bind (wpAny_holding ?_))
    show wpAny _ _ (Builtin.SmallTypes.nextOf (.ref i2) >>= _) _ _ _
    refine wpAny_bind ((h2.keep (fun o e => hs₂.extBut _ _ D.i12.symm (hs₁.extBut _ _ D.i2z e)) fun o e => hs₂.extBut _ _ D.l2i1 (hs₁.extBut _ _ D.l2z e)).end hh hy fun h₃ e hs₃ he => ?_)
    exact hE h₃ e (fun c o c1 _ c3 c4 x => hs₃ _ _ c4 (hs₂.extBut _ _ c3 (hs₁.extBut _ _ c1 x))) ⟨_, hs₃ _ _ D.TOi2 (hs₂.extBut _ _ D.TOi1 (hs₁.extBut _ _ D.TOz hTO))⟩ he
 · refine wpAny_pure ?_
   obtain ⟨h₁, hz₁, hs₁, hss⟩ : ∃ h₁ : Heap, h₁.get? z = some (zipObj TI TO (rawInt T) true) ∧ Heap.SameBut z s.heap h₁ ∧ s = { s with heap := h₁ } := ⟨s.heap, hz, Heap.SameBut.refl _ _, rfl⟩
   rw [if_neg (by simp)]
   show wpAny _ _ ((do
    let r ← forIn (#[Value.ref i1, Value.ref i2] : Array Value) _ _
    _)) _ _ _
   generalize hs0 : s = s0 at hss ⊢
   rw [hss, ← hs0]
   rw [← Array.forIn_toList]
   simp only [List.forIn_cons, List.forIn_nil]
   have h1' := h1.keep (fun o e => hs₁.extBut _ _ D.i1z e) fun o e => hs₁.extBut _ _ D.l1z e
   refine wpAny_bind (wpAny_bind (wpAny_bind (wpAny_holding ?_)))
   show wpAny _ _ (Builtin.SmallTypes.nextOf (.ref i1) >>= _) _ _ _
   cases hx : xs[k]? with
   | none =>
    refine wpAny_bind (h1'.end hh hx fun h₂ e hs₂ he => ?_)
    exact hE h₂ e (fun c o c1 _ c3 _ x => hs₂ _ _ c3 (hs₁.extBut _ _ c1 x)) ⟨_, hs₂ _ _ D.TOi1 (hs₁.extBut _ _ D.TOz hTO)⟩ he
   | some x =>
    have hy : ys[k]? = none := by rcases hend with h | h; rw [hx] at h; cases h; exact h
    refine wpAny_bind (h1'.next D.l1i1 hx fun h₂ h1₂ hs₂ => wpAny_pure (wpAny_pure ?_))
    refine wpAny_bind (wpAny_bind (wpAny_holding ?_))
    show wpAny _ _ (Builtin.SmallTypes.nextOf (.ref i2) >>= _) _ _ _
    refine wpAny_bind ((h2.keep (fun o e => hs₂.extBut _ _ D.i12.symm (hs₁.extBut _ _ D.i2z e)) fun o e => hs₂.extBut _ _ D.l2i1 (hs₁.extBut _ _ D.l2z e)).end hh hy fun h₃ e hs₃ he => ?_)
    exact hE h₃ e (fun c o c1 _ c3 c4 x => hs₃ _ _ c4 (hs₂.extBut _ _ c3 (hs₁.extBut _ _ c1 x))) ⟨_, hs₃ _ _ D.TOi2 (hs₂.extBut _ _ D.TOi1 (hs₁.extBut _ _ D.TOz hTO))⟩ he
theorem zip_pyNext {z TI TO i1 i2 l1 l2 : Addr} {k : Nat} {xs ys : Array Value} {f1 : Bool} {x y : Value} {Q : Option Value → Shared → Prop} (D : ZipApart z TI TO i1 i2 l1 l2)
 (hst : ZSt s.heap z TI TO i1 i2 l1 l2 k xs ys .none f1) (hx : xs[k]? = some x) (hy : ys[k]? = some y)
 (hQ : ∀ h', ZSt h' z TI TO i1 i2 l1 l2 (k + 1) xs ys (rawInt s.heap.objs.size) false → IsPair h' s.heap.objs.size x y → h'.objs.size = s.heap.objs.size + 1 →
  (∀ c o, c ≠ z → c ≠ TO → c ≠ i1 → c ≠ i2 → s.heap.get? c = some o → h'.get? c = some o) → Q (some (.ref s.heap.objs.size)) { s with heap := h' }) : wpAny (model prog w) A (pyNext (.ref z)) Q E s := by
 have hT : s.TypeIs (.ref z) "zip" := ⟨_, hst.z, rfl⟩
 unfold pyNext
 exact wpAny_bind (wpAny_attempt (wpAny_callSpecial?_slot (name := Str.ofString "__next__") hT F.slot_zip_next
  (wpAny_call_entry F.slot_zip_next hT F.entry_zip_next
   (zip_next_item D hst hx hy fun h' a1 a2 a3 a4 => wpAny_pure (hQ h' a1 a2 a3 a4)) (F.args_zip_next_1 _))))
theorem zip_pyNext_busy {z TI TO i1 i2 l1 l2 T : Addr} {oT : Obj} {k : Nat} {xs ys : Array Value} {f1 : Bool} {x y : Value} {Q : Option Value → Shared → Prop} (D : ZipApart z TI TO i1 i2 l1 l2)
 (hst : ZSt s.heap z TI TO i1 i2 l1 l2 k xs ys (rawInt T) f1) (hT : s.heap.get? T = some oT) (hx : xs[k]? = some x) (hy : ys[k]? = some y)
 (hQ : ∀ h', ZSt h' z TI TO i1 i2 l1 l2 (k + 1) xs ys (rawInt T) true → IsPair h' s.heap.objs.size x y → h'.objs.size = s.heap.objs.size + 1 →
  (∀ c o, c ≠ z → c ≠ TO → c ≠ i1 → c ≠ i2 → s.heap.get? c = some o → h'.get? c = some o) → Q (some (.ref s.heap.objs.size)) { s with heap := h' }) : wpAny (model prog w) A (pyNext (.ref z)) Q E s := by
 have hT' : s.TypeIs (.ref z) "zip" := ⟨_, hst.z, rfl⟩
 unfold pyNext
 exact wpAny_bind (wpAny_attempt (wpAny_callSpecial?_slot (name := Str.ofString "__next__") hT' F.slot_zip_next
  (wpAny_call_entry F.slot_zip_next hT' F.entry_zip_next
   (zip_next_busy D hst hT hx hy fun h' a1 a2 a3 a4 => wpAny_pure (hQ h' a1 a2 a3 a4)) (F.args_zip_next_1 _))))
theorem zip_pyEnd {z TI TO i1 i2 l1 l2 : Addr} {k : Nat} {xs ys : Array Value} {Q : Option Value → Shared → Prop} (hh : A.handled = none) (D : ZipApart z TI TO i1 i2 l1 l2) {f0 : Value} {f1 : Bool}
 (hst : ZSt s.heap z TI TO i1 i2 l1 l2 k xs ys f0 f1) (hf : f0 = .none ∨ ∃ T o, f0 = rawInt ((T : Nat) : Int) ∧ s.heap.get? T = some o) (hend : xs[k]? = none ∨ ys[k]? = none)
 (hQ : ∀ h', (∀ c o, c ≠ z → c ≠ TO → c ≠ i1 → c ≠ i2 → s.heap.get? c = some o → h'.get? c = some o) → (∃ o, h'.get? TO = some o) → Q none { s with heap := h' }) : wpAny (model prog w) A (pyNext (.ref z)) Q E s := by
 have hT : s.TypeIs (.ref z) "zip" := ⟨_, hst.z, rfl⟩
 unfold pyNext
 refine wpAny_bind (wpAny_attempt (wpAny_callSpecial?_slot (name := Str.ofString "__next__") hT F.slot_zip_next
  (wpAny_call_entry F.slot_zip_next hT F.entry_zip_next ?_ (F.args_zip_next_1 _))))
 have fin : ∀ h' e, (∀ c o, c ≠ z → c ≠ TO → c ≠ i1 → c ≠ i2 → s.heap.get? c = some o → h'.get? c = some o) → (∃ o, h'.get? TO = some o) → (∃ o, h'.get? e = some o ∧ o.cls = .type "StopIteration") →
  wpAny (model prog w) A (do if ← isInstance (.ref e) (.type "StopIteration") then pure none else throw (.ref e)) Q E { s with heap := h' } := fun h' e hk ho ⟨o, ho', hc⟩ =>
  wpAny_bind (wpAny_isInstance (T := "StopIteration") (b := true) ⟨o, ho', hc⟩ isSubtype_stop (wpAny_pure (hQ _ hk ho)))
 rcases hf with rfl | ⟨T, o, rfl, hT⟩
 · exact zip_next_end hh D hst hend fun h' e a b c => fin h' e a b c
 · exact zip_end_busy hh D hst hT hend fun h' e a b c => fin h' e a b c
theorem zip_letGo {elts : List Expr} {x1} {pos : Pos} {z TI TO i1 i2 l1 l2 T : Addr} {k : Nat} {xs ys : Array Value} {f1 : Bool} {Q : Unit → Shared → Prop} (D : ZipApart z TI TO i1 i2 l1 l2) (hst : ZSt s.heap z TI TO i1 i2 l1 l2 k xs ys (rawInt T) f1)
 (hQ : ∀ h', ZSt h' z TI TO i1 i2 l1 l2 k xs ys .none f1 → Heap.SameBut z s.heap h' → Q () { s with heap := h' }) :
 wpAny (model prog w) A (letOwnedTupleGo (.Tuple elts x1 pos) (.ref z) (.ref T)) Q E s := by
 unfold letOwnedTupleGo
 refine wpAny_bind (wpAny_load hst.z ?_)
 show wpAny _ _ (if (["enumerate", "zip", "dict_itemiterator", "dict_reverseitemiterator", "odict_iterator", "itertools.zip_longest", "itertools.pairwise"].contains "zip" &&
  (#[rawInt T, .bool f1, .bool false, .ref TI, .ref TO] : Array Value)[0]? == some (rawInt T)) = true then _ else _) Q E s
 rw [if_pos (by simp)]
 refine wpAny_bind (wpAny_rule ?_)
 show wpAny _ _ (setField (.ref z) 0 .none) Q E s
 exact wpAny_setField_rec hst.z (by simp) fun h' hz' hs' => hQ h' ⟨hz', hs'.extBut _ _ D.TIz hst.TI, let ⟨a, b, h⟩ := hst.TO; ⟨a, b, hs'.extBut _ _ D.TOz h⟩, hst.s1.keep (fun o e => hs'.extBut _ _ D.i1z e) (fun o e => hs'.extBut _ _ D.l1z e), hst.s2.keep (fun o e => hs'.extBut _ _ D.i2z e) (fun o e => hs'.extBut _ _ D.l2z e)⟩ hs'
theorem zip_self {z TI TO i1 i2 l1 l2 : Addr} {k : Nat} {xs ys : Array Value} {f0 : Value} {f1 : Bool} {Q : Value → Shared → Prop} (hst : ZSt s.heap z TI TO i1 i2 l1 l2 k xs ys f0 f1) (h : Q (.ref z) s) : wpAny (model prog w) A (pyIter (.ref z)) Q E s := by
 have hT : s.TypeIs (.ref z) "zip" := ⟨_, hst.z, rfl⟩
 refine wpAny_pyIter_slot hT F.slot_zip_iter (wpAny_call_entry F.slot_zip_iter hT F.entry_zip_iter ?_ (F.args_zip_iter_1 _))
 show wpAny _ _ (ret (.ref z)) _ _ s
 exact wpAny_pure ⟨_, rfl, "zip", _, hT, F.slot_zip_next.lookup, h⟩
end
noncomputable abbrev zH1 (h : Heap) (l1 : Addr) : Heap := h.push { cls := .type "tuple_iterator", data := .fields #[.ref l1, .int 0 0] }
noncomputable abbrev zH2 (h : Heap) (l1 l2 : Addr) : Heap := (zH1 h l1).push { cls := .type "tuple_iterator", data := .fields #[.ref l2, .int 0 0] }
noncomputable abbrev zH3 (h : Heap) (l1 l2 : Addr) : Heap := (zH2 h l1 l2).push { cls := .type "tuple", data := .seq #[.ref h.objs.size, .ref (zH1 h l1).objs.size] }
noncomputable abbrev zH4 (h : Heap) (l1 l2 : Addr) : Heap := (zH3 h l1 l2).push { cls := .type "tuple", data := .seq #[.none, .none] }
noncomputable abbrev zH5 (h : Heap) (l1 l2 : Addr) : Heap := (zH4 h l1 l2).push { cls := .type "zip", data := .fields #[.none, .bool false, .bool false, .ref (zH2 h l1 l2).objs.size, .ref (zH3 h l1 l2).objs.size] }
theorem meets_zip_tuple (l1 l2 : Addr) (xs ys : Array Value) :
 Meets (Builtin.«zip.__new__» ⟨[.type "zip", .ref l1, .ref l2], []⟩) (fun _ R s => s.heap.IsTuple l1 xs ∧ s.heap.IsTuple l2 ys ∧
  R (.ok (.ret (.ref (zH4 s.heap l1 l2).objs.size))) { s with heap := zH5 s.heap l1 l2 }) :=
 .of_wp fun prog w A R s h => by
  obtain ⟨hp, g, d, tk, os⟩ := s; obtain ⟨hl1, hl2, h⟩ := h
  have hsub := sub_zip
  have hL1 : Heap.IsTuple (Shared.heap ⟨hp, g, d, tk, os⟩) l1 xs := hl1
  have hL2 : Heap.IsTuple (Shared.heap ⟨hp.push { cls := .type "tuple_iterator", data := .fields #[.ref l1, .int 0 0] }, g, d, tk, os⟩) l2 ys := Heap.IsTuple.push hl2 _
  wp_walk using wpAny_pyIter_tuple hL1, wpAny_pyIter_tuple hL2
  exact ⟨_, rfl, h⟩
section
variable {prog : Program} {w : World} {A : Around} {E : Value → Shared → Prop} {s : Shared}
theorem call_zip_tuples {l1 l2 : Addr} {xs ys : Array Value} {Q : Value → Shared → Prop} (hl1 : s.heap.IsTuple l1 xs) (hl2 : s.heap.IsTuple l2 ys)
 (h : ∀ h', ZSt h' (s.heap.objs.size + 4) (s.heap.objs.size + 2) (s.heap.objs.size + 3) s.heap.objs.size (s.heap.objs.size + 1) l1 l2 0 xs ys .none false → h'.objs.size = s.heap.objs.size + 5 →
  (∀ c o, s.heap.get? c = some o → h'.get? c = some o) → Q (.ref (s.heap.objs.size + 4)) { s with heap := h' }) :
 wpAny (model prog w) A (call (.type "zip") [.ref l1, .ref l2]) Q E s := by
 refine callType_new F.called_zip (by decide) (F.typeCall_zip_2 _ _) (F.newCall_zip_2 _ _) (fun obj => F.args_object_init_3 obj _ _) F.entry_zip_new
  (meets_zip_tuple l1 l2 xs ys) ⟨hl1, hl2, ?_⟩
 have z1 : (zH1 s.heap l1).objs.size = s.heap.objs.size + 1 := Heap.size_push ..
 have z2 : (zH2 s.heap l1 l2).objs.size = s.heap.objs.size + 2 := by rw [Heap.size_push, z1]
 have z3 : (zH3 s.heap l1 l2).objs.size = s.heap.objs.size + 3 := by rw [Heap.size_push, z2]
 have z4 : (zH4 s.heap l1 l2).objs.size = s.heap.objs.size + 4 := by rw [Heap.size_push, z3]
 have z5 : (zH5 s.heap l1 l2).objs.size = s.heap.objs.size + 5 := by rw [Heap.size_push, z4]
 have g5 : (zH5 s.heap l1 l2).get? (zH4 s.heap l1 l2).objs.size = some _ := Heap.get?_push_size _ rfl
 have g4 : (zH5 s.heap l1 l2).get? (zH3 s.heap l1 l2).objs.size = some _ := Heap.get?_push_of_some _ (Heap.get?_push_size _ rfl)
 have g3 : (zH5 s.heap l1 l2).get? (zH2 s.heap l1 l2).objs.size = some _ := Heap.get?_push_of_some _ (Heap.get?_push_of_some _ (Heap.get?_push_size _ rfl))
 have g2 : (zH5 s.heap l1 l2).get? (zH1 s.heap l1).objs.size = some _ := Heap.get?_push_of_some _ (Heap.get?_push_of_some _ (Heap.get?_push_of_some _ (Heap.get?_push_size _ rfl)))
 have g1 : (zH5 s.heap l1 l2).get? s.heap.objs.size = some _ := Heap.get?_push_of_some _ (Heap.get?_push_of_some _ (Heap.get?_push_of_some _ (Heap.get?_push_of_some _ (Heap.get?_push_size _ rfl))))
 have kp : ∀ c o, s.heap.get? c = some o → (zH5 s.heap l1 l2).get? c = some o := fun c o x =>
  Heap.get?_push_of_some _ (Heap.get?_push_of_some _ (Heap.get?_push_of_some _ (Heap.get?_push_of_some _ (Heap.get?_push_of_some _ x))))
 show _ ∧ _
 rw [z2, z3, z4] at g5
 rw [z1, z2] at g3
 rw [z3] at g4
 rw [z1] at g2
 rw [z4]
 exact ⟨⟨_, g5, rfl⟩, h _ ⟨g5, g3, ⟨_, _, g4⟩, .inr ⟨⟨_, g1, rfl, rfl⟩, hl1.at fun o e => kp l1 o e⟩, .inr ⟨⟨_, g2, rfl, rfl⟩, hl2.at fun o e => kp l2 o e⟩⟩ z5 kp⟩
theorem call_zip_lists {l1 l2 : Addr} {xs ys : Array Value} {Q : Value → Shared → Prop} (hl1 : s.heap.IsList l1 xs) (hl2 : s.heap.IsList l2 ys)
 (h : ∀ h', ZSt h' (s.heap.objs.size + 4) (s.heap.objs.size + 2) (s.heap.objs.size + 3) s.heap.objs.size (s.heap.objs.size + 1) l1 l2 0 xs ys .none false → h'.objs.size = s.heap.objs.size + 5 →
  (∀ c o, s.heap.get? c = some o → h'.get? c = some o) → Q (.ref (s.heap.objs.size + 4)) { s with heap := h' }) :
 wpAny (model prog w) A (call (.type "zip") [.ref l1, .ref l2]) Q E s :=
 call_zip_2 hl1 hl2 fun h' a1 a2 a3 a4 a5 a6 a7 => h h' ⟨a1, a2, ⟨_, _, a3⟩, .inl ⟨a4, hl1.at fun o e => a7 l1 o e⟩, .inl ⟨a5, hl2.at fun o e => a7 l2 o e⟩⟩ a6 a7
end
noncomputable def zipD (xs ys : List D) : List D := (xs.zip ys).map fun p => .tup [p.1, p.2]
theorem zipD_get {xs ys : List D} {i : Nat} {d : D} (h : (zipD xs ys)[i]? = some d) : ∃ x y, xs[i]? = some x ∧ ys[i]? = some y ∧ d = .tup [x, y] := by
 unfold zipD at h
 rw [List.getElem?_map, Option.map_eq_some_iff] at h
 obtain ⟨⟨x, y⟩, h1, h2⟩ := h
 obtain ⟨a, b⟩ := List.getElem?_zip_eq_some.mp h1
 exact ⟨x, y, a, b, h2.symm⟩
section
variable {C : Cx} {A : Around} {env : Env} {ρ : Str → Option D} {μ : Mem}
theorem mem4 {b x1 x2 x3 x4 : Addr} (h : b ∈ [x1, x2, x3, x4]) : b = x1 ∨ b = x2 ∨ b = x3 ∨ b = x4 := by simpa using h
theorem mem7 {b x1 x2 x3 x4 x5 x6 x7 : Addr} (h : b ∈ [x1, x2, x3, x4, x5, x6, x7]) : b = x1 ∨ b = x2 ∨ b = x3 ∨ b = x4 ∨ b = x5 ∨ b = x6 ∨ b = x7 := by simpa using h
structure Not4 (b x1 x2 x3 x4 : Addr) : Prop where
 n1 : b ≠ x1
 n2 : b ≠ x2
 n3 : b ≠ x3
 n4 : b ≠ x4
theorem not4 {b x1 x2 x3 x4 : Addr} (h : b ∉ [x1, x2, x3, x4]) : Not4 b x1 x2 x3 x4 :=
 ⟨fun e => h (e ▸ .head _), fun e => h (e ▸ .tail _ (.head _)), fun e => h (e ▸ .tail _ (.tail _ (.head _))), fun e => h (e ▸ .tail _ (.tail _ (.tail _ (.head _))))⟩
theorem tuple_cls {h : Heap} {a : Addr} {vs : Array Value} {n : Nat} {o : Obj} (t : IsT h a vs n) (e : h.get? a = some o) : o.cls = .type "tuple" := by have t : h.get? a = _ := t; rw [t] at e; cases e; rfl
noncomputable def Plain2 (h : Heap) (b : Addr) : Prop := ∃ o, h.get? b = some o ∧ (∀ es ep, o.data ≠ .dict es ep) ∧ (∀ c, o.data ≠ .cell c)
theorem plain_seq {h : Heap} {b : Addr} {o : Obj} {vs : Array Value} {n : Nat} (ho : h.get? b = some o) (hd : o.data = .seq vs n) : Plain2 h b := ⟨o, ho, by rw [hd]; exact ⟨fun _ _ e => (nomatch e), fun _ e => (nomatch e)⟩⟩
theorem plain_fields {h : Heap} {b : Addr} {o : Obj} {vs : Array Value} (ho : h.get? b = some o) (hd : o.data = .fields vs) : Plain2 h b := ⟨o, ho, by rw [hd]; exact ⟨fun _ _ e => (nomatch e), fun _ e => (nomatch e)⟩⟩
theorem SeqIt.noTuple {h : Heap} {j l : Addr} {k : Nat} {vs us : Array Value} {m : Nat} (x : SeqIt h j l k vs) (t : IsT h j us m) : False := by
 obtain ⟨o, ho, hc, _⟩ := x.obj
 have := tuple_cls t ho
 rcases hc with hc | hc <;> (rw [hc] at this; exact absurd this (by simp))
theorem Iter.zip (hh : A.handled = none) {z TI TO i1 i2 l1 l2 : Addr} (D : ZipApart z TI TO i1 i2 l1 l2) {B : Addr → Prop} (hC : ∀ b, C.B b → B b) (hTO : B TO) (hz : ¬ B z) (hi1 : ¬ B i1) (hi2 : ¬ B i2) (elts : List Expr) (x1) (pos : Pos)
 (xs ys : List Value) (ds es : List Mine.D) : Iter C A z (.Tuple elts x1 pos) [z, TI, TO, i1, i2, l1, l2] [z, TO, i1, i2] B (zipD ds es)
  (fun k h => (∃ f1, ZSt h z TI TO i1 i2 l1 l2 k xs.toArray ys.toArray .none f1) ∧ RepAll B h xs ds ∧ RepAll B h ys es) where
 sub := fun b hb => by
  rcases mem4 hb with rfl | rfl | rfl | rfl
  · exact .head _
  · exact .tail _ (.tail _ (.head _))
  · exact .tail _ (.tail _ (.tail _ (.head _)))
  · exact .tail _ (.tail _ (.tail _ (.tail _ (.head _))))
 ban := hC
 frame := fun i h h' st kp tp => by
  obtain ⟨⟨f1, hz, hTI, ⟨a, b, hTO⟩, h1, h2⟩, r1, r2⟩ := st
  have t2 : ∀ {b}, b ∈ [TO, i1, i2, l1, l2] → ∀ o, h.get? b = some o → h'.get? b = some o := fun hb => kp _ (.tail _ (.tail _ hb))
  have t4 : ∀ {b}, b ∈ [i2, l1, l2] → ∀ o, h.get? b = some o → h'.get? b = some o := fun hb => t2 (.tail _ (.tail _ hb))
  exact ⟨⟨f1, kp z (.head _) _ hz, kp TI (.tail _ (.head _)) _ hTI, ⟨a, b, t2 (.head _) _ hTO⟩, h1.keep (t2 (.tail _ (.head _))) (t4 (.tail _ (.head _))), h2.keep (t4 (.head _)) (t4 (.tail _ (.tail _ (.head _))))⟩, r1.mono tp, r2.mono tp⟩
 kind := fun i h st b hb => by
  obtain ⟨⟨f1, hz, hTI, ⟨a, b', hTO⟩, h1, h2⟩, _⟩ := st
  have it : ∀ {j l : Addr} {k : Nat} {vs : Array Value}, SeqIt h j l k vs → Plain2 h j := fun x => by
   obtain ⟨o, ho, _, f, hd⟩ := x.obj
   exact plain_fields ho hd
  have sr : ∀ {j l : Addr} {k : Nat} {vs : Array Value}, SeqIt h j l k vs → Plain2 h l := fun x => by
   obtain ⟨o, n, ho, hd⟩ := x.src
   exact plain_seq ho hd
  show Plain2 h b
  rcases mem7 hb with rfl | rfl | rfl | rfl | rfl | rfl | rfl
  · exact plain_fields hz rfl
  · exact plain_seq hTI rfl
  · exact plain_seq hTO rfl
  · exact it h1
  · exact it h2
  · exact sr h1
  · exact sr h2
 notT := fun i h st b hb nb us m t => by
  obtain ⟨⟨f1, hz', hTI, _, h1, h2⟩, _⟩ := st
  rcases mem4 hb with rfl | rfl | rfl | rfl
  · exact absurd (tuple_cls t hz') (by simp)
  · exact nb hTO
  · exact h1.noTuple t
  · exact h2.noTuple t
 item := fun i d s Q E hd st hex hQ => by
  obtain ⟨⟨f1, st⟩, r1, r2⟩ := st
  obtain ⟨x, y, h1, h2, rfl⟩ := zipD_get hd
  obtain ⟨u, hu, ru⟩ := r1.get h1
  obtain ⟨v, hv, rv⟩ := r2.get h2
  refine zip_pyNext D st (x := u) (y := v) (by simpa using hu) (by simpa using hv) fun h' st' hT hsz kp => ?_
  refine hQ _ h' s.toks fun Q2 E2 h2 => ?_
  refine zip_letGo (s := { s with heap := h' }) D st' fun h'' st'' hs => ?_
  have tp : ∀ a us m, ¬ B a → IsT s.heap a us m → IsT h'' a us m := fun a us m nb t => by
   have nz : a ≠ z := fun q => absurd (tuple_cls t (q ▸ st.z)) (by simp)
   exact hs.extBut _ _ nz (kp a _ nz (fun q => nb (q ▸ hTO)) (fun q => st.s1.noTuple (q ▸ t)) (fun q => st.s2.noTuple (q ▸ t)) t)
  have nT : ¬ B s.heap.objs.size := fun e => by
   obtain ⟨o, ho⟩ := hex _ e
   exact Nat.lt_irrefl _ (Heap.lt_size ho)
  have nz : s.heap.objs.size ≠ z := Nat.ne_of_gt (Heap.lt_size st.z)
  refine h2 h'' (.tup (vs := [u, v]) nT (hs.extBut _ _ nz hT) (.cons (ru.mono tp) (.cons (rv.mono tp) .nil))) ⟨⟨_, st''⟩, r1.mono tp, r2.mono tp⟩ fun b o hb e => ?_
  have hb := not4 hb
  exact hs.extBut _ _ hb.n1 (kp b o hb.n1 hb.n2 hb.n3 hb.n4 e)
 done := fun s Q E st hQ => by
  obtain ⟨⟨f1, st⟩, r1, r2⟩ := st
  refine zip_pyEnd hh D st (.inl rfl) ?_ fun h' kp ho => hQ h' s.toks (fun b o hb e => ?_) fun b hb hB => ?_
  · have l1 := r1.length; have l2 := r2.length
    have : (zipD ds es).length = min ds.length es.length := by simp [zipD]
    rw [this]
    rcases Nat.le_total ds.length es.length with h | h
    · left; rw [Nat.min_eq_left h]; simp [l1]
    · right; rw [Nat.min_eq_right h]; simp [l2]
  · have hb := not4 hb
    exact kp b o hb.n1 hb.n2 hb.n3 hb.n4 e
  · rcases mem4 hb with rfl | rfl | rfl | rfl
    · exact absurd hB hz
    · exact ho
    · exact absurd hB hi1
    · exact absurd hB hi2
 self := fun i s Q E st hQ => by
  obtain ⟨⟨f1, st⟩, _⟩ := st
  exact zip_self st hQ
theorem hB_new {s : Shared} (k : Ok C s μ) {T : Addr} (hT : s.heap.objs.size ≤ T) : ∀ b o, C.h0.get? b = some o → ¬ (C.B b ∨ b = T) := fun b o e h => by
 rcases h with h | h
 · exact C.hB b o e h
 · have := Heap.lt_size (k.base b o e).2
   rw [h] at this
   exact absurd this (Nat.not_lt.mpr hT)
theorem rep_new {h h' : Heap} {T : Addr} {B : Addr → Prop} (hT : h.objs.size ≤ T) (kp : ∀ b o, h.get? b = some o → h'.get? b = some o) {v : Value} {d : D} (r : Rep B h v d) : Rep (fun b => B b ∨ b = T) h' v d :=
 (r.more (B' := fun b => B b ∨ b = T) fun b o e q => by
  rcases q with q | q
  · exact q
  · rw [q] at e; exact absurd (Heap.lt_size e) (Nat.not_lt.mpr hT)).mono fun a vs n _ t => kp _ _ t
theorem repAll_new {h h' : Heap} {T : Addr} {B : Addr → Prop} (hT : h.objs.size ≤ T) (kp : ∀ b o, h.get? b = some o → h'.get? b = some o) {v : List Value} {d : List D} (r : RepAll B h v d) : RepAll (fun b => B b ∨ b = T) h' v d :=
 (r.more (B' := fun b => B b ∨ b = T) fun b o e q => by
  rcases q with q | q
  · exact q
  · rw [q] at e; exact absurd (Heap.lt_size e) (Nat.not_lt.mpr hT)).mono fun a vs n _ t => kp _ _ t
theorem Ok.banNew {s : Shared} {h' : Heap} {T : Addr} {tk : Nat} (k : Ok C s μ) (hT : s.heap.objs.size ≤ T) (kp : ∀ b o, s.heap.get? b = some o → h'.get? b = some o) (ho : ∃ o, h'.get? T = some o) : Ok (C.ban (fun b => C.B b ∨ b = T) (hB_new k hT)) { s with heap := h', toks := tk } μ := by
 refine ⟨fun a mo e => ?_, fun b o e => ⟨(k.base b o e).1, kp b o (k.base b o e).2⟩, fun b e => ?_⟩
 · have := k.mem a mo e
   cases mo with
   | list xs => obtain ⟨vs, n, h1, h2⟩ := this; exact ⟨vs, n, kp _ _ h1, repAll_new hT kp h2⟩
   | inst C dx => exact kp _ _ this
   | attrs f m => obtain ⟨vs, n, h1, h2⟩ := this; exact ⟨vs, n, kp _ _ h1, h2⟩
   | dict f ps => obtain ⟨vs, n, h1, h2⟩ := this; exact ⟨vs, n, kp _ _ h1, h2.mono fun v d r => rep_new hT kp r⟩
   | obj P => obtain ⟨o, h1, h2⟩ := this; exact ⟨o, kp _ _ h1, h2⟩
 · rcases e with e | rfl
   · exact ⟨(k.ban b e).1, let ⟨o, ho⟩ := (k.ban b e).2; ⟨o, kp _ _ ho⟩⟩
   · exact ⟨k.lt hT, ho⟩
theorem FrameOk.banNew {s : Shared} {h' : Heap} {T : Addr} (k : Ok C s μ) (F : FrameOk C s.heap μ env ρ) (hT : s.heap.objs.size ≤ T) (kp : ∀ b o, s.heap.get? b = some o → h'.get? b = some o) : FrameOk (C.ban (fun b => C.B b ∨ b = T) (hB_new k hT)) h' μ env ρ := by
 obtain ⟨m, ⟨o, es, ep, ho, r⟩, hv⟩ := F.ns
 have cl : ∀ c v, s.heap.IsCell c v → h'.IsCell c v := fun c v ⟨oc, hoc, hd⟩ => ⟨oc, kp c oc hoc, hd⟩
 refine ⟨F.kind, F.globals, F.builtins, F.free, ⟨m, ⟨o, es, ep, kp _ _ ho, r⟩, fun x d hx => ?_⟩, fun x c hc => ?_, F.inj⟩
 · rcases hv x d hx with ⟨h1, v, h2, h3⟩ | ⟨h1, c, v, h2, h3, h4⟩
   · exact .inl ⟨h1, v, h2, rep_new hT kp h3⟩
   · exact .inr ⟨h1, c, v, h2, cl _ _ h3, rep_new hT kp h4⟩
 · obtain ⟨f, g, n, v, h⟩ := F.cells x c hc
   exact ⟨f, g, n, v, cl _ _ h⟩
inductive ZipReady (C : Cx) (A : Around) (env : Env) (ρ : Str → Option D) (μ μ0 : Mem) (s0 s : Shared) (h' : Heap) (a b I : Addr) (tg : Expr) (ds : List D) : Prop
 | mk (fp wr : List Addr) (B : Addr → Prop) (hB : ∀ b o, C.h0.get? b = some o → ¬ B b) (St : Nat → Heap → Prop) (W : IterOk C A env ρ (hide (hide μ a) b) μ0 s0 s I tg fp wr B hB ds St) (k : Ok (C.ban B hB) s μ) (t : Step s0 μ0 s μ)
  (F : FrameOk (C.ban B hB) h' μ env ρ) (hBC : ∀ b, C.B b → B b) (nown : ∀ o ∈ wr, ¬ Own env o) (hf : ∀ c, hide (hide μ a) b c = none → μ c ≠ none → c ∈ fp ∧ c ∉ wr)
theorem zipReady (hh : A.handled = none) {s1 : Shared} {h' : Heap} {s0 : Shared} {μ0 : Mem} {a b : Addr} {xs ys : List D} {us vs : List Value} {n m : Nat} (elts : List Expr) (x1) (p3 : Pos) (k1 : Ok C s1 μ) (F1 : FrameOk C s1.heap μ env ρ) (t1 : Step s0 μ0 s1 μ)
 (ha : μ a = some (.list xs)) (hb : μ b = some (.list ys)) (ua : s1.heap.get? a = some (listOf us.toArray n)) (ub : s1.heap.get? b = some (listOf vs.toArray m)) (ra : RepAll C.B s1.heap us xs) (rb : RepAll C.B s1.heap vs ys)
 (st : ZSt h' (s1.heap.objs.size + 4) (s1.heap.objs.size + 2) (s1.heap.objs.size + 3) s1.heap.objs.size (s1.heap.objs.size + 1) a b 0 us.toArray vs.toArray .none false) (hsz : h'.objs.size = s1.heap.objs.size + 5)
 (kp : ∀ c o, s1.heap.get? c = some o → h'.get? c = some o) :
 ZipReady C A env ρ μ μ0 s0 { s1 with heap := h' } h' a b (s1.heap.objs.size + 4) (.Tuple elts x1 p3) (zipD xs ys) := by
 have hT : s1.heap.objs.size ≤ s1.heap.objs.size + 3 := Nat.le_add_right _ _
 have la : a < s1.heap.objs.size := Heap.lt_size ua
 have lb : b < s1.heap.objs.size := Heap.lt_size ub
 have K := k1.banNew (tk := s1.toks) hT kp (let ⟨_, _, h⟩ := st.TO; ⟨_, h⟩)
 have F2 := F1.banNew k1 hT kp
 have nB : ∀ j, s1.heap.objs.size ≤ j → j ≠ s1.heap.objs.size + 3 → ¬ (C.B j ∨ j = s1.heap.objs.size + 3) := fun j hj hne h => by
  rcases h with h | h
  · obtain ⟨_, o, ho⟩ := k1.ban j h
    exact absurd (Heap.lt_size ho) (Nat.not_lt.mpr hj)
  · exact hne h
 have hne : ∀ i j : Nat, i ≠ j → s1.heap.objs.size + i ≠ s1.heap.objs.size + j := fun i j h e => h (Nat.add_left_cancel e)
 have sub2 : Sub (hide (hide μ a) b) μ := (Sub.hide _ _).trans (Sub.hide _ _)
 have memwr : ∀ c ∈ [s1.heap.objs.size + 4, s1.heap.objs.size + 3, s1.heap.objs.size, s1.heap.objs.size + 1], s1.heap.objs.size ≤ c := fun c hc => by
  simp only [List.mem_cons, List.not_mem_nil, or_false] at hc
  rcases hc with rfl | rfl | rfl | rfl
  · exact Nat.le_add_right _ _
  · exact Nat.le_add_right _ _
  · exact Nat.le_refl _
  · exact Nat.le_add_right _ _
 have own : ∀ o, s1.heap.objs.size ≤ o → ¬ Own env o := fun o ho q => by
  obtain ⟨ob, hob⟩ := F1.exists q
  exact absurd (Heap.lt_size hob) (Nat.not_lt.mpr ho)
 refine ⟨_, _, _, hB_new k1 hT, _, ⟨Iter.zip hh (zipApart_new la lb) (fun b h => .inl h) (.inr rfl) (nB _ (Nat.le_add_right _ _) (hne 4 3 (by decide))) (nB _ (Nat.le_refl _) (Nat.ne_of_lt (Nat.lt_add_of_pos_right (by decide)))) (nB _ (Nat.le_add_right _ _) (hne 1 3 (by decide))) elts x1 p3 us vs xs ys, K.sub sub2, F2.sub sub2, ⟨⟨false, st⟩, repAll_new hT kp ra, repAll_new hT kp rb⟩, fun c hc => ?_, fun c hc => ⟨fun o e q => ?_, k1.lt0 (memwr c hc)⟩⟩, K, ⟨?_, fun c o h1 h2 => ?_⟩, F2, fun b h => .inl h, fun o ho => own o (memwr o ho), fun c h1 h2 => ?_⟩
 · have new : ∀ c, s1.heap.objs.size ≤ c → hide (hide μ a) b c = none := fun c hc => sub2.none (k1.lt hc)
   simp only [List.mem_cons, List.not_mem_nil, or_false] at hc
   rcases hc with rfl | rfl | rfl | rfl | rfl | rfl | rfl
   · exact new _ (Nat.le_add_right _ _)
   · exact new _ (Nat.le_add_right _ _)
   · exact new _ (Nat.le_add_right _ _)
   · exact new _ (Nat.le_refl _)
   · exact new _ (Nat.le_add_right _ _)
   · unfold hide; simp
   · unfold hide; simp
 · exact absurd (Heap.lt_size (t1.keep c o e q).2) (Nat.not_lt.mpr (memwr c hc))
 · show _ = { s0 with heap := h', toks := s1.toks }; rw [t1.eq]
 · obtain ⟨p, q⟩ := t1.keep c o h1 h2
   exact ⟨p, kp c o q⟩
 · have : c = b ∨ c = a := by
    unfold hide at h1
    split at h1
    · left; assumption
    · split at h1
      · right; assumption
      · exact absurd h1 h2
   have hcl : c < s1.heap.objs.size := by rcases this with rfl | rfl; exact lb; exact la
   refine ⟨?_, fun hc => absurd hcl (Nat.not_lt.mpr (memwr c hc))⟩
   rcases this with rfl | rfl <;> simp
end
section
variable {C : Cx} {A : Around} {env : Env} {ρ : Str → Option D} {μ : Mem} {Q : D → Mem → Prop}
theorem zip_args {x : Str} {p pos : Pos} {e1 e2 : Expr} {s : Shared} {QQ : Value → Shared → Prop} (k : Ok C s μ) (F : FrameOk C s.heap μ env ρ)
 (h : Ev C A env (eval (.Name x p) env) ρ μ fun d μ1 => d = .raw (.type "zip") ∧ Es C A env (spliced (backTo pos (starEach [e1, e2] env))) ρ μ1 Qs)
 (go : ∀ s2 vs ds μ2, Ok C s2 μ2 → RepAll C.B s2.heap vs ds → Step s μ s2 μ2 → Qs ds μ2 → wpAny (model C.prog C.w) A (call (.type "zip") vs) QQ No s2)
 (he : starEach (e1 :: [e2]) env = (false, eval e1 env) :: starEach [e2] env) (hp : (backTo pos (starEach [e2] env)).any (·.1) = false) :
 wpAny (model C.prog C.w) A (eval (.Call (.Name x p) [e1, e2] [] pos) env) QQ No s := by
 refine wpAny_Call_NameR (wpAny_mono (h s k F) ?_ fun _ _ x => x)
 rintro f s1 ⟨d, μ1, r1, k1, t1, rfl, h1⟩
 (first | (replace r1 := r1.inv; obtain rfl := r1) | (replace r1 := r1.inv; obtain ⟨_, rfl⟩ := r1) | cases r1)
 have h2 := h1 s1 k1 (F.step t1 k)
 rw [he] at h2 ⊢
 refine callWith_of (P := C.K.In) (by show ((false || (backTo pos (starEach [e2] env)).any (·.1)) || false) = false; rw [hp]; rfl) (keepOk.looks rfl) (Calls.evalArgs_plain (wpAny_mono h2 ?_ fun _ _ x => x))
 rintro vs s2 ⟨ds, μ2, r2, k2, t2, h3⟩
 exact ⟨k2.K, go s2 vs ds μ2 k2 r2 (t1.trans t2) h3⟩
theorem Ei.zip (hh : A.handled = none) {x : Str} {p pos : Pos} {e1 e2 : Expr} {elts : List Expr} {x1} {p3 : Pos} {P : List D → Mem → Mem → Prop}
 (h : Ev C A env (eval (.Name x p) env) ρ μ fun d μ1 => d = .raw (.type "zip") ∧ Es C A env (spliced (backTo pos (starEach [e1, e2] env))) ρ μ1 fun ds μ2 =>
  ∃ a b xs ys, ds = [.raw (.ref a), .raw (.ref b)] ∧ μ2 a = some (.list xs) ∧ μ2 b = some (.list ys) ∧ P (zipD xs ys) μ2 (hide (hide μ2 a) b))
 (he : starEach (e1 :: [e2]) env = (false, eval e1 env) :: starEach [e2] env) (hp : (backTo pos (starEach [e2] env)).any (·.1) = false) :
 Ei C A env (eval (.Call (.Name x p) [e1, e2] [] pos) env) (.Tuple elts x1 p3) ρ μ P := by
 intro s k F
 refine zip_args k F h (fun s2 vs ds μ2 k2 r2 t2 hQ => ?_) he hp
 obtain ⟨a, b, xs, ys, rfl, ha, hb, hP⟩ := hQ
 replace r2 := r2.inv
 obtain ⟨_, _, rfl, ra, r2⟩ := r2
 replace r2 := r2.inv
 obtain ⟨_, _, rfl, rb, r2⟩ := r2
 (first | (replace r2 := r2.inv; obtain rfl := r2) | (replace r2 := r2.inv; obtain ⟨_, rfl⟩ := r2) | cases r2); (first | (replace ra := ra.inv; obtain rfl := ra) | (replace ra := ra.inv; obtain ⟨_, rfl⟩ := ra) | cases ra); (first | (replace rb := rb.inv; obtain rfl := rb) | (replace rb := rb.inv; obtain ⟨_, rfl⟩ := rb) | cases rb)
 obtain ⟨us, n, ua, ra⟩ := k2.mem a _ ha
 obtain ⟨vs, m, ub, rb⟩ := k2.mem b _ hb
 refine call_zip_lists ⟨_, ua, rfl, n, rfl⟩ ⟨_, ub, rfl, m, rfl⟩ fun h' st hsz kp => ?_
 obtain ⟨fp, wr, B, hB, St, W, K, T, F2, hBC, nown, hf⟩ := zipReady hh elts x1 p3 k2 (F.step t2 k) t2 ha hb ua ub ra rb st hsz kp
 exact zip_self (s := { s2 with heap := h' }) st ⟨_, fp, wr, B, hB, _, St, μ2, _, rfl, W, K, T, (Sub.hide _ _).trans (Sub.hide _ _), hf, hP⟩
theorem RepAll.reverse {B : Addr → Prop} {h : Heap} {vs : List Value} {l : List D} (r : RepAll B h vs l) : RepAll B h vs.reverse l.reverse := by
 induction vs generalizing l with
 | nil => (first | (replace r := r.inv; obtain rfl := r) | (replace r := r.inv; obtain ⟨_, rfl⟩ := r) | cases r); exact .nil
 | cons v vs ih => cases r with | cons a r => simp only [List.reverse_cons]; exact (ih r).append (.cons a .nil)
/-! slices -/
noncomputable def minus1 (e : Expr) : Prop := ∀ (C : Cx) (A : Around) (env : Env) (ρ : Str → Option D) (μ : Mem) (Q : D → Mem → Prop), Q (.int (-1)) μ → Ev C A env (eval e env) ρ μ Q
theorem Ev.rev {value st : Expr} {p pos : Pos} (hst : minus1 st)
 (h : Ev C A env (eval value env) ρ μ fun d μ1 => ∃ a xs, d = .raw (.ref a) ∧ μ1 a = some (.list xs) ∧ xs.length ≤ sizeLine ∧ ∀ c, μ1 c = none → Q (.raw (.ref c)) (upd μ1 c (.list xs.reverse))) :
 Ev C A env (eval (.Subscript value (.Slice none none (some st) p) pos) env) ρ μ Q := by
 intro s k F
 rw [eval_Subscript]
 refine wpAny_bind (wpAny_mono (h s k F) ?_ fun _ _ x => x)
 rintro v1 s1 ⟨d1, μ1, r1, k1, t1, a, xs, rfl, ha, hz, hq⟩
 (first | (replace r1 := r1.inv; obtain rfl := r1) | (replace r1 := r1.inv; obtain ⟨_, rfl⟩ := r1) | cases r1)
 refine wpAny_bind (wpAny_holding (wpAny_Slice ?_))
 rw [evalPart_none, evalPart_some]
 refine wpAny_pure (wpAny_pure (wpAny_mono (hst C A env ρ μ1 (fun d μ' => d = .int (-1) ∧ μ' = μ1) ⟨rfl, rfl⟩ s1 k1 (F.step t1 k)) ?_ fun _ _ x => x))
 rintro v2 s2 ⟨d2, μ2, r2, k2, t2, rfl, rfl⟩
 (first | (replace r2 := r2.inv; obtain rfl := r2) | (replace r2 := r2.inv; obtain ⟨_, rfl⟩ := r2) | cases r2)
 rename_i tk
 refine wpAny_bind (wpAny_standAt ?_)
 obtain ⟨vs, n, ho, rr⟩ := k2.mem a _ ha
 have k3 := k2.push { cls := .type "slice", data := .fields #[.none, .none, .int (-1) tk] }
 have t3 := Step.push k2 { cls := .type "slice", data := .fields #[.none, .none, .int (-1) tk] }
 have hl : Heap.IsList (s2.heap.push { cls := .type "slice", data := .fields #[.none, .none, .int (-1) tk] }) a vs.toArray := ⟨_, Heap.get?_push_of_some _ ho, rfl, n, rfl⟩
 refine wpAny_bind ?_
 rw [getitemInPython_of_ne (hl.typeIs (s := { s2 with heap := s2.heap.push { cls := .type "slice", data := .fields #[.none, .none, .int (-1) tk] } })).not_modules]
 refine wpAny_bind (wpAny_specialOf hl.typeIs slot_list_getitem.lookup (wpAny_pure (wpAny_bind ?_)))
 refine wpAny_operating (wpAny_getItem_list_slice hl (Heap.IsSliceOf.new ..) .none .none (.int _ _) (by decide) ?_ (by simpa [rr.length] using hz))
 refine wpAny_bind (wpAny_letTemporaryGo (wpAny_pure ?_))
 rw [krv_pick]
 have hh : vs.toArray.toList.reverse.toArray = vs.reverse.toArray := by simp
 rw [hh]
 have rv : RepAll C.B s2.heap vs.reverse xs.reverse := by
  exact rr.reverse
 refine ⟨.raw _, _, .raw _, k3.new (mo := .list xs.reverse) ⟨vs.reverse, 0, Heap.get?_push_size _ rfl, rv.mono fun a vs n _ t => Heap.get?_push_of_some _ (Heap.get?_push_of_some _ t)⟩, ((t1.trans t2).trans t3).trans Step.new, hq _ k3.fresh⟩
theorem sliceApplied_3 {prog : Program} {w : World} {E : Value → Shared → Prop} {s : Shared} {sl : Addr} {u : Tok} {Q : Int × Int × Nat → Shared → Prop} (hs : s.heap.IsSliceOf sl .none (.int 3 u) .none) (h : Q (0, 1, 3) s) :
 wpAny (model prog w) A (Builtin.Slice.sliceApplied (.ref sl) (pure (4 : Int))) Q E s := by
 obtain ⟨o, ho, hc, hd⟩ := hs
 unfold Builtin.Slice.sliceApplied Builtin.Slice.sliceFields
 refine wpAny_bind (wpAny_bind (wpAny_field ho hd (x := .none) rfl (wpAny_bind (wpAny_field ho hd (x := .int 3 u) rfl (wpAny_bind (wpAny_field ho hd (x := .none) rfl (wpAny_pure ?_)))))))
 refine wpAny_bind (slicePart_none ?_)
 show wpAny _ _ (if ((1 : Int) == 0) = true then _ else _) _ _ s
 rw [if_neg (by decide)]
 refine wpAny_bind (slicePart_none (wpAny_bind (slicePart_int (wpAny_bind (wpAny_pure ?_)))))
 exact wpAny_pure h
theorem Ev.slice3 {value up : Expr} {p pos : Pos} (hup : ∀ (C : Cx) (A : Around) (env : Env) (ρ : Str → Option D) (μ : Mem) (Q : D → Mem → Prop), Q (.int 3) μ → Ev C A env (eval up env) ρ μ Q)
 (h : Ev C A env (eval value env) ρ μ fun d μ1 => ∃ a b c e, d = .tup [a, b, c, e] ∧ Q (.tup [a, b, c]) μ1) :
 Ev C A env (eval (.Subscript value (.Slice none (some up) none p) pos) env) ρ μ Q := by
 intro s k F
 rw [eval_Subscript]
 refine wpAny_bind (wpAny_mono (h s k F) ?_ fun _ _ x => x)
 rintro v1 s1 ⟨d1, μ1, r1, k1, t1, a, b, c, e, rfl, hq⟩
 replace r1 := r1.inv
 obtain ⟨t, vs, n, rfl, hb, ht, rr⟩ := r1
 refine wpAny_bind (wpAny_holding (wpAny_Slice ?_))
 rw [evalPart_none, evalPart_some]
 refine wpAny_pure (wpAny_mono (hup C A env ρ μ1 (fun d μ' => d = .int 3 ∧ μ' = μ1) ⟨rfl, rfl⟩ s1 k1 (F.step t1 k)) ?_ fun _ _ x => x)
 rintro v2 s2 ⟨d2, μ2, r2, k2, t2, rfl, rfl⟩
 (first | (replace r2 := r2.inv; obtain rfl := r2) | (replace r2 := r2.inv; obtain ⟨_, rfl⟩ := r2) | cases r2)
 rename_i tk
 refine wpAny_pure ?_
 refine wpAny_bind (wpAny_standAt ?_)
 have ht2 := t2.tuple k1 _ _ _ ht
 have rr2 := t2.repAll k1 rr
 have k3 := k2.push { cls := .type "slice", data := .fields #[.none, .int 3 tk, .none] }
 have t3 := Step.push k2 { cls := .type "slice", data := .fields #[.none, .int 3 tk, .none] }
 have rr3 := t3.repAll k2 rr2
 replace rr3 := rr3.inv
 obtain ⟨va, _, rfl, ra, rr3⟩ := rr3
 replace rr3 := rr3.inv
 obtain ⟨vb, _, rfl, rb, rr3⟩ := rr3
 replace rr3 := rr3.inv
 obtain ⟨vc, _, rfl, rc, rr3⟩ := rr3
 replace rr3 := rr3.inv
 obtain ⟨ve, _, rfl, re, rr3⟩ := rr3
 (first | (replace rr3 := rr3.inv; obtain rfl := rr3) | (replace rr3 := rr3.inv; obtain ⟨_, rfl⟩ := rr3) | cases rr3)
 have hl : IsTup (s2.heap.push { cls := .type "slice", data := .fields #[.none, .int 3 tk, .none] }) t #[va, vb, vc, ve] := ⟨_, Heap.get?_push_of_some _ ht2, rfl, n, rfl⟩
 have hs : Heap.IsSliceOf (s2.heap.push { cls := .type "slice", data := .fields #[.none, .int 3 tk, .none] }) s2.heap.objs.size .none (.int 3 tk) .none := Heap.IsSliceOf.new ..
 generalize hs2 : ({ s2 with heap := s2.heap.push { cls := .type "slice", data := .fields #[.none, .int 3 tk, .none] } } : Shared) = s3 at k3 t3 ra rb rc
 have e3 : s3.heap = s2.heap.push { cls := .type "slice", data := .fields #[.none, .int 3 tk, .none] } := by rw [← hs2]
 rw [← e3] at hl hs
 have hTs : s3.TypeIs (.ref s2.heap.objs.size) "slice" := let ⟨o, a, b, _⟩ := hs; ⟨o, a, b⟩
 refine wpAny_bind ?_
 rw [getitemInPython_of_ne hl.typeIs.not_modules]
 refine wpAny_bind (wpAny_specialOf hl.typeIs slot_tuple_getitem.lookup (wpAny_pure (wpAny_bind ?_)))
 refine wpAny_operating ?_
 unfold getItem
 try with_reducible refine wpAny_holding ?_
 first | refine wpAny_bind (wpAny_pure ?_) | skip
 refine wpAny_bind (wpAny_sequenceKey hl.typeIs (by decide) ?_)
 refine wpAny_bind (wpAny_callSpecial?_slot (name := Str.ofString "__getitem__") hl.typeIs slot_tuple_getitem
  (wpAny_call_entry slot_tuple_getitem hl.typeIs entry_tuple_getitem ?_ (args_tuple_getitem _ _)))
 show wpAny _ _ (Builtin.Tuple.tupleItemsOf (.ref t) >>= _) _ _ s3
 refine wpAny_bind (tupleItemsOf_ hl ?_)
 refine wpAny_bind (wpAny_typeOf hTs ?_)
 rw [if_pos (by decide)]
 refine wpAny_bind (sliceApplied_3 hs ?_)
 show wpAny _ _ (if ((0 : Int) == 0 && (1 : Int) == 1 && (3 : Nat) == 4) = true then _ else _) _ _ s3
 rw [if_neg (by decide)]
 refine wpAny_bind (m := Builtin.Tuple.tupleExact _) (wpAny_newObj_type (wpAny_pure ⟨_, rfl, wpAny_pure ?_⟩) ?_)
 · refine wpAny_bind (wpAny_letTemporaryGo (wpAny_pure ?_))
   refine ⟨_, _, .tup (vs := [va, vb, vc]) (n := 0) k3.noBan (Heap.get?_push_size _ rfl) ?_, k3.push _, ((t1.trans t2).trans t3).trans (Step.push k3 _), hq⟩
   exact (RepAll.cons ra (.cons rb (.cons rc .nil))).mono fun a vs n _ t => Heap.get?_push_of_some _ t
 · show 3 ≤ sizeLine; decide
end
section
variable {prog : Program} {w : World} {A : Around}
noncomputable abbrev listAt (h : Heap) (S : Addr) (acc : Array Value) : Prop := ∃ c, h.get? S = some { cls := .type "list", dict := none, data := .seq acc c, slots := #[] }
structure ZL (h0 h : Heap) (B : Addr → Prop) (S z TI TO i1 i2 l1 l2 : Addr) (i : Nat) (us vs : List Value) (ds es : List D) (acc : List Value) : Prop where
 zs : ∃ f0 f1, ZSt h z TI TO i1 i2 l1 l2 i us.toArray vs.toArray f0 f1 ∧ (f0 = .none ∨ ∃ T, f0 = rawInt ((T : Nat) : Int) ∧ (∃ o, h.get? T = some o) ∧ T ≠ z ∧ T ≠ TO ∧ T ≠ i1 ∧ T ≠ i2 ∧ T ≠ S)
 hS : listAt h S acc.toArray
 r1 : RepAll B h us ds
 r2 : RepAll B h vs es
 ra : RepAll B h acc (zipD (ds.take i) (es.take i))
 kp : ∀ b o, b ≠ S → b ≠ z → b ≠ TO → b ≠ i1 → b ≠ i2 → h0.get? b = some o → h.get? b = some o
 ex : ∀ b, B b → ∃ o, h.get? b = some o
theorem ZSt.tup {h h' : Heap} {B : Addr → Prop} {z TI TO i1 i2 l1 l2 : Addr} {k : Nat} {xs ys : Array Value} {f0 : Value} {f1 : Bool} (st : ZSt h z TI TO i1 i2 l1 l2 k xs ys f0 f1) (hB : B TO)
 (kp : ∀ c o, c ≠ z → c ≠ TO → c ≠ i1 → c ≠ i2 → h.get? c = some o → h'.get? c = some o) : ∀ a us m, ¬ B a → IsT h a us m → IsT h' a us m := fun a us m nb t => by
 have t : h.get? a = _ := t
 refine kp a _ (fun q => by rw [q, st.z] at t; simp at t) (fun q => nb (q ▸ hB)) (fun q => ?_) (fun q => ?_) t
 · obtain ⟨o, ho, hc, _⟩ := st.s1.obj; rw [← q, t] at ho; cases ho; simp at hc
 · obtain ⟨o, ho, hc, _⟩ := st.s2.obj; rw [← q, t] at ho; cases ho; simp at hc
theorem zipD_take {ds es : List D} {i : Nat} {x y : D} (hx : ds[i]? = some x) (hy : es[i]? = some y) : zipD (ds.take (i + 1)) (es.take (i + 1)) = zipD (ds.take i) (es.take i) ++ [.tup [x, y]] := by
 have h1 : i < ds.length := by
  rcases Nat.lt_or_ge i ds.length with h | h
  · exact h
  · rw [List.getElem?_eq_none h] at hx; cases hx
 have h2 : i < es.length := by
  rcases Nat.lt_or_ge i es.length with h | h
  · exact h
  · rw [List.getElem?_eq_none h] at hy; cases hy
 rw [List.take_add_one, List.take_add_one, hx, hy]
 unfold zipD
 rw [List.zip_append (by simp [Nat.min_eq_left (Nat.le_of_lt h1), Nat.min_eq_left (Nat.le_of_lt h2)])]
 simp
theorem extendZip {R : Result → Shared → Prop} (hh : A.handled = none) {h0 : Heap} {B : Addr → Prop} {S z TI TO i1 i2 l1 l2 : Addr} (D : ZipApart z TI TO i1 i2 l1 l2) (hBT : B TO) (nS : S ≠ z ∧ S ≠ TI ∧ S ≠ TO ∧ S ≠ i1 ∧ S ≠ i2 ∧ S ≠ l1 ∧ S ≠ l2) (res : Value) {us vs : List Value} {ds es : List Mine.D} {n : Nat} (hd : ds.length = n) (he : es.length = n) (hn : n ≤ sizeLine) :
 ∀ (k i : Nat) (s : Shared) (acc : List Value), n - i = k → i ≤ n → ZL h0 s.heap B S z TI TO i1 i2 l1 l2 i us vs ds es acc →
 (∀ h' acc', listAt h' S (List.toArray acc') → RepAll B h' acc' (zipD ds es) → (∀ b o, b ≠ S → b ≠ z → b ≠ TO → b ≠ i1 → b ≠ i2 → h0.get? b = some o → h'.get? b = some o) → R (.ok (.ret res)) { s with heap := h' }) →
 codeAny (model prog w) A (.builtin "list.extend.loop" ⟨[.ref S, .ref z, res], []⟩) R s := by
 intro k
 induction k with
 | zero =>
  intro i s acc hk hi Z hR
  have hin : i = n := ar_end hk hi
  subst hin
  refine codeAny_builtin F.entry_extend_loop ?_
  rw [Around.under_plainId F.plain_extend_loop _]
  show wpAny _ A.in1 (pyNext (.ref z) >>= _) _ _ s
  obtain ⟨f0, f1, st, mode⟩ := Z.zs
  obtain ⟨c, hS⟩ := Z.hS
  refine wpAny_bind (zip_pyEnd (s := s) hh D st ?_ (.inl (by simp [Z.r1.length, hd])) fun h' kp _ => wpAny_pure (hR h' acc ⟨c, kp _ _ nS.1 nS.2.2.1 nS.2.2.2.1 nS.2.2.2.2.1 hS⟩ ?_ fun b o c1 c2 c3 c4 c5 e => kp b o c2 c3 c4 c5 (Z.kp b o c1 c2 c3 c4 c5 e)))
  · rcases mode with h | ⟨T, h1, ⟨o, h2⟩, _⟩
    · exact .inl h
    · exact .inr ⟨T, o, h1, h2⟩
  · have := Z.ra.mono (st.tup hBT kp)
    rwa [List.take_of_length_le (Nat.le_of_eq hd), List.take_of_length_le (Nat.le_of_eq he)] at this
 | succ k ih =>
  intro i s acc hk hi Z hR
  have hlt : i < n := ar_go hk
  refine codeAny_builtin F.entry_extend_loop ?_
  rw [Around.under_plainId F.plain_extend_loop _]
  show wpAny _ A.in1 (pyNext (.ref z) >>= _) _ _ s
  obtain ⟨f0, f1, st, mode⟩ := Z.zs
  obtain ⟨c, hS⟩ := Z.hS
  obtain ⟨x, hx⟩ : ∃ x, ds[i]? = some x := ⟨_, List.getElem?_eq_getElem (Nat.lt_of_lt_of_eq hlt hd.symm)⟩
  obtain ⟨y, hy⟩ : ∃ y, es[i]? = some y := ⟨_, List.getElem?_eq_getElem (Nat.lt_of_lt_of_eq hlt he.symm)⟩
  obtain ⟨u, hu, ru⟩ := Z.r1.get hx
  obtain ⟨v, hv, rv⟩ := Z.r2.get hy
  have main : ∀ h' g0 g1, ZSt h' z TI TO i1 i2 l1 l2 (i + 1) us.toArray vs.toArray g0 g1 → (g0 = .none ∨ ∃ T, g0 = rawInt ((T : Nat) : Int) ∧ (∃ o, h'.get? T = some o) ∧ T ≠ z ∧ T ≠ TO ∧ T ≠ i1 ∧ T ≠ i2 ∧ T ≠ S) →
   IsPair h' s.heap.objs.size u v → (∀ c o, c ≠ z → c ≠ TO → c ≠ i1 → c ≠ i2 → s.heap.get? c = some o → h'.get? c = some o) →
   wpAny (model prog w) A.in1 (updateSeq S (·.push (.ref s.heap.objs.size)) >>= fun _ => again (.builtin "list.extend.loop" ⟨[.ref S, .ref z, res], []⟩)) (fun fin s' => match fin with | .done f => R (.ok f) s' | .again c' => c'.quiet = true ∧ codeAny (model prog w) A c' R s') (fun e s' => R (.error e) s') { s with heap := h' } := by
   intro h' g0 g1 st' mode' hT kp
   have hS' := kp _ _ nS.1 nS.2.2.1 nS.2.2.2.1 nS.2.2.2.2.1 hS
   have la := Z.ra.length
   have lz : (zipD (ds.take i) (es.take i)).length = i := by simp only [zipD, List.length_zipWith, List.length_map, List.length_zip, List.length_take, hd, he, Nat.min_self]; exact Nat.min_eq_left (Nat.le_of_lt hlt)
   have oth : ∀ b o, b ≠ S → h'.get? b = some o → (h'.update S (Obj.mapSeq fun y => y.push (.ref s.heap.objs.size))).get? b = some o := fun b o hb e => (Heap.get?_update_other _ _ (Ne.symm hb)).trans e
   have tp : ∀ a xs m, ¬ B a → IsT s.heap a xs m → IsT (h'.update S (Obj.mapSeq fun y => y.push (.ref s.heap.objs.size))) a xs m := fun a xs m nb t => by
    refine oth _ _ (fun q => ?_) (st.tup hBT kp a xs m nb t)
    have t : s.heap.get? a = _ := t
    rw [q, hS] at t; simp at t
   have nT : s.heap.objs.size ≠ S := Nat.ne_of_gt (Heap.lt_size hS)
   have nTB : ¬ B s.heap.objs.size := fun q => by obtain ⟨o, ho⟩ := Z.ex _ q; exact Nat.lt_irrefl _ (Heap.lt_size ho)
   refine wpAny_bind ?_
   refine wpAny_updateSeq hS' rfl (wpAny_pure ⟨plainId_quiet F.plain_extend_loop _, ih (i + 1) _ (acc ++ [.ref s.heap.objs.size]) (ar_nx hk) hlt ?_ fun h2 acc2 q1 q2 q3 => hR h2 acc2 q1 q2 q3⟩) ?_ ?_
   · refine ⟨⟨g0, g1, ⟨oth _ _ (Ne.symm nS.1) st'.z, oth _ _ (Ne.symm nS.2.1) st'.TI, let ⟨a, b, h⟩ := st'.TO; ⟨a, b, oth _ _ (Ne.symm nS.2.2.1) h⟩, st'.s1.keep (fun o e => oth _ o (Ne.symm nS.2.2.2.1) e) (fun o e => oth _ o (Ne.symm nS.2.2.2.2.2.1) e), st'.s2.keep (fun o e => oth _ o (Ne.symm nS.2.2.2.2.1) e) (fun o e => oth _ o (Ne.symm nS.2.2.2.2.2.2) e)⟩, ?_⟩,
      ⟨c + 1, ?_⟩, Z.r1.mono tp, Z.r2.mono tp, ?_, fun b o c1 c2 c3 c4 c5 e => oth b o c1 (kp b o c2 c3 c4 c5 (Z.kp b o c1 c2 c3 c4 c5 e)), fun b hb => ?_⟩
     · rcases mode' with h | ⟨T, h1, ⟨o, h2⟩, a1, a2, a3, a4, a5⟩
       · exact .inl h
       · exact .inr ⟨T, h1, ⟨o, oth _ _ a5 h2⟩, a1, a2, a3, a4, a5⟩
     · have := IsL.update (h := h') (l := S) (items := acc.toArray) (n := c) hS' (fun y => y.push (Value.ref s.heap.objs.size))
       simpa using this
     · rw [zipD_take hx hy]
       exact (Z.ra.mono tp).append (.cons (.tup (vs := [u, v]) nTB (oth _ _ nT hT) (.cons (ru.mono tp) (.cons (rv.mono tp) .nil))) .nil)
     · obtain ⟨o, ho⟩ := Z.ex b hb
       by_cases q1 : b = S
       · exact ⟨_, by rw [q1]; exact Heap.get?_update_self _ hS' rfl⟩
       by_cases q2 : b = z
       · exact ⟨_, oth _ _ q1 (q2 ▸ st'.z)⟩
       by_cases q3 : b = TO
       · obtain ⟨a, b', h⟩ := st'.TO; exact ⟨_, oth _ _ q1 (q3 ▸ h)⟩
       by_cases q4 : b = i1
       · obtain ⟨o, ho, _⟩ := st'.s1.obj; exact ⟨_, oth _ _ q1 (q4 ▸ ho)⟩
       by_cases q5 : b = i2
       · obtain ⟨o, ho, _⟩ := st'.s2.obj; exact ⟨_, oth _ _ q1 (q5 ▸ ho)⟩
       exact ⟨_, oth _ _ q1 (kp b o q2 q3 q4 q5 ho)⟩
   · simp [la, lz]; omega
   · show (acc.toArray.push _).size ≤ sizeLine + 1
     simp [la, lz]; omega
  have lT : ∀ {c o}, s.heap.get? c = some o → s.heap.objs.size ≠ c := fun e => Nat.ne_of_gt (Heap.lt_size e)
  rcases mode with rfl | ⟨T, rfl, ⟨o, hT⟩, m1, m2, m3, m4, m5⟩
  · refine wpAny_bind (zip_pyNext (s := s) D st (x := u) (y := v) (by simpa using hu) (by simpa using hv) fun h' st' hT hsz kp => ?_)
    obtain ⟨a, b, hTO⟩ := st.TO
    refine main h' _ _ st' (.inr ⟨_, rfl, ⟨_, hT⟩, lT st.z, lT hTO, ?_, ?_, lT hS⟩) hT kp
    · obtain ⟨o, ho, _⟩ := st.s1.obj; exact lT ho
    · obtain ⟨o, ho, _⟩ := st.s2.obj; exact lT ho
  · refine wpAny_bind (zip_pyNext_busy (s := s) D st hT (x := u) (y := v) (by simpa using hu) (by simpa using hv) fun h' st' hT' hsz kp => ?_)
    exact main h' _ _ st' (.inr ⟨T, rfl, ⟨o, kp _ _ m1 m2 m3 m4 hT⟩, m1, m2, m3, m4, m5⟩) hT' kp
theorem zip_no_len : typeLookup (.type "zip") "__len__" = pure none := by rw [typeLookup_type, builtinLookup_eq_fast]; kernel_rfl
theorem zip_no_hint : typeLookup (.type "zip") "__length_hint__" = pure none := by rw [typeLookup_type, builtinLookup_eq_fast]; kernel_rfl
theorem call_list_zip {E : Value → Shared → Prop} {s : Shared} {Q : Value → Shared → Prop} (hh : A.handled = none) {B : Addr → Prop} {h0 : Heap} {z TI TO i1 i2 l1 l2 : Addr} (D : ZipApart z TI TO i1 i2 l1 l2) (hBT : B TO) {us vs : List Value} {ds es : List Mine.D}
 (hlen : ds.length = es.length) (hn : ds.length ≤ sizeLine) (st : ZSt s.heap z TI TO i1 i2 l1 l2 0 us.toArray vs.toArray .none false) (r1 : RepAll B s.heap us ds) (r2 : RepAll B s.heap vs es)
 (kp0 : ∀ b o, h0.get? b = some o → s.heap.get? b = some o) (ex : ∀ b, B b → ∃ o, s.heap.get? b = some o) (fr : ∀ b o, h0.get? b = some o → b ≠ z ∧ b ≠ TO ∧ b ≠ i1 ∧ b ≠ i2)
 (hQ : ∀ h' acc, listAt h' s.heap.objs.size (List.toArray acc) → RepAll B h' acc (zipD ds es) → (∀ b o, h0.get? b = some o → h'.get? b = some o) → Q (.ref s.heap.objs.size) { s with heap := h' }) :
 wpAny (model prog w) A (call (.type "list") [.ref z]) Q E s := by
 refine callType_codes (Q₁ := fun obj s₁ => obj = .ref s.heap.objs.size ∧ s₁ = { s with heap := s.heap.push { cls := .type "list", data := .seq #[] } }) F.called_list (F.typeCall_list_1 _) F.entry_list_init
  (code_list_new _ ⟨rfl, rfl⟩) fun obj s₁ h₁ => ?_
 obtain ⟨rfl, rfl⟩ := h₁
 have hS : (s.heap.push { cls := .type "list", data := .seq #[] }).get? s.heap.objs.size = some { cls := .type "list", data := .seq #[] } := Heap.get?_push_size _ rfl
 have kp1 : ∀ b o, s.heap.get? b = some o → (s.heap.push { cls := .type "list", data := .seq #[] }).get? b = some o := fun b o e => Heap.get?_push_of_some _ e
 have lt : ∀ {c o}, s.heap.get? c = some o → s.heap.objs.size ≠ c := fun e => Nat.ne_of_gt (Heap.lt_size e)
 have nS : s.heap.objs.size ≠ z ∧ s.heap.objs.size ≠ TI ∧ s.heap.objs.size ≠ TO ∧ s.heap.objs.size ≠ i1 ∧ s.heap.objs.size ≠ i2 ∧ s.heap.objs.size ≠ l1 ∧ s.heap.objs.size ≠ l2 := by
  obtain ⟨a, b, hTO⟩ := st.TO
  obtain ⟨o1, ho1, _⟩ := st.s1.obj
  obtain ⟨o2, ho2, _⟩ := st.s2.obj
  obtain ⟨o3, _, ho3, _⟩ := st.s1.src
  obtain ⟨o4, _, ho4, _⟩ := st.s2.src
  exact ⟨lt st.z, lt st.TI, lt hTO, lt ho1, lt ho2, lt ho3, lt ho4⟩
 refine ⟨⟨_, hS, rfl⟩, F.args_list_init_2 _ _, ?_⟩
 generalize hs1 : ({ s with heap := s.heap.push { cls := .type "list", data := .seq #[] } } : Shared) = s1
 have e1 : s1.heap = s.heap.push { cls := .type "list", data := .seq #[] } := by rw [← hs1]
 have hS1 : s1.heap.get? s.heap.objs.size = some { cls := .type "list", data := .seq #[] } := e1 ▸ hS
 have hT : ∀ h', (∀ b o, b ≠ s.heap.objs.size → s1.heap.get? b = some o → h'.get? b = some o) → Shared.TypeIs { s1 with heap := h' } (.ref z) "zip" := fun h' k => ⟨_, k z _ (Ne.symm nS.1) (e1 ▸ kp1 _ _ st.z), rfl⟩
 show wpAny _ A.in1.in1 (do let old ← Builtin.List.listItems (.ref s.heap.objs.size); Builtin.List.listUpdate (.ref s.heap.objs.size) (fun _ => #[]); letGo old.toList.reverse; Builtin.List.listExtendWith (.ref s.heap.objs.size) (.ref z) .none) _ _ s1
 refine wpAny_bind ?_
 unfold Builtin.List.listItems
 refine wpAny_bind (wpAny_seqItems hS1 rfl (wpAny_pure ?_))
 show wpAny _ A.in1.in1 (updateSeq s.heap.objs.size (fun _ => #[]) >>= fun _ => letGo (#[] : Array Value).toList.reverse >>= fun _ => Builtin.List.listExtendWith (.ref s.heap.objs.size) (.ref z) .none) _ _ s1
 refine wpAny_bind (wpAny_updateSeq hS1 rfl ?_)
 have hS₂ := Heap.get?_update_self (Obj.mapSeq (fun _ => (#[] : Array Value))) hS1 rfl
 have oth2 : ∀ b o, b ≠ s.heap.objs.size → s1.heap.get? b = some o → (s1.heap.update s.heap.objs.size (Obj.mapSeq (fun _ => (#[] : Array Value)))).get? b = some o :=
  fun b o hb e => (Heap.get?_update_other _ _ (Ne.symm hb)).trans e
 refine wpAny_bind (wpAny_letGo ?_)
 generalize hh2 : s1.heap.update s.heap.objs.size (Obj.mapSeq (fun _ => (#[] : Array Value))) = h2 at hS₂ oth2 ⊢
 unfold Builtin.List.listExtendWith
 refine wpAny_bind (wpAny_typeOf (hT h2 oth2) ?_)
 have q1 : Builtin.List.listSameRef (.ref s.heap.objs.size) (.ref z) = false := by simp [Builtin.List.listSameRef, nS.1]
 have q2 : (Value.type "zip" == Value.type "list") = false := by decide
 have q3 : (Value.type "zip" == Value.type "tuple") = false := by decide
 simp only [q1, q2, q3, Bool.or_false, Bool.false_eq_true, if_false]
 have st2 : ZSt h2 z TI TO i1 i2 l1 l2 0 us.toArray vs.toArray .none false := by
  have k : ∀ b o, b ≠ s.heap.objs.size → s.heap.get? b = some o → h2.get? b = some o := fun b o hb e => oth2 b o hb (e1 ▸ kp1 _ _ e)
  exact ⟨k _ _ (Ne.symm nS.1) st.z, k _ _ (Ne.symm nS.2.1) st.TI, let ⟨a, b, h⟩ := st.TO; ⟨a, b, k _ _ (Ne.symm nS.2.2.1) h⟩, st.s1.keep (fun o e => k _ o (Ne.symm nS.2.2.2.1) e) (fun o e => k _ o (Ne.symm nS.2.2.2.2.2.1) e), st.s2.keep (fun o e => k _ o (Ne.symm nS.2.2.2.2.1) e) (fun o e => k _ o (Ne.symm nS.2.2.2.2.2.2) e)⟩
 refine wpAny_bind (zip_self (s := { s1 with heap := h2 }) st2 ?_)
 refine wpAny_bind (wpAny_holding ?_)
 unfold Builtin.List.listLengthHint
 refine wpAny_bind (wpAny_specialOf (hT h2 oth2) zip_no_len ?_)
 show wpAny _ A.in1.in1 (specialOf (Value.ref z) (Str.ofString "__length_hint__") >>= _) _ _ _
 refine wpAny_bind (wpAny_specialOf (hT h2 oth2) zip_no_hint ?_)
 refine wpAny_pure ?_
 show wpAny _ A.in1.in1 (rule "list.extend.makes-room" >>= fun _ => Builtin.List.listTouch (.ref s.heap.objs.size) >>= fun _ =>
  again (.builtin "list.extend.loop" ⟨[.ref s.heap.objs.size, .ref z, .none], []⟩)) _ _ _
 refine wpAny_bind (wpAny_rule ?_)
 refine wpAny_bind ?_
 show wpAny _ A.in1.in1 (updateSeq s.heap.objs.size (·.push .none) >>= fun _ => updateSeq s.heap.objs.size (·.pop)) _ _ _
 refine wpAny_bind (wpAny_updateSeq (s := { s1 with heap := h2 }) hS₂ rfl ?_)
 have hS3 := Heap.get?_update_self (Obj.mapSeq (·.push Value.none)) hS₂ rfl
 refine wpAny_updateSeq (hz := by seq_fits) hS3 rfl ?_
 have hS4 := Heap.get?_update_self (Obj.mapSeq (·.pop)) hS3 rfl
 have oth4 : ∀ b o, b ≠ s.heap.objs.size → h2.get? b = some o → ((h2.update s.heap.objs.size (Obj.mapSeq (·.push Value.none))).update s.heap.objs.size (Obj.mapSeq (·.pop))).get? b = some o :=
  fun b o hb e => (Heap.get?_update_other _ _ (Ne.symm hb)).trans ((Heap.get?_update_other _ _ (Ne.symm hb)).trans e)
 have k4 : ∀ b o, b ≠ s.heap.objs.size → s.heap.get? b = some o → ((h2.update s.heap.objs.size (Obj.mapSeq (·.push Value.none))).update s.heap.objs.size (Obj.mapSeq (·.pop))).get? b = some o := fun b o hb e => oth4 b o hb (oth2 b o hb (e1 ▸ kp1 _ _ e))
 have k4s : ∀ b o, s.heap.get? b = some o → ((h2.update s.heap.objs.size (Obj.mapSeq (·.push Value.none))).update s.heap.objs.size (Obj.mapSeq (·.pop))).get? b = some o := fun b o e => k4 b o (Ne.symm (lt e)) e
 refine wpAny_pure ⟨plainId_quiet F.plain_extend_loop _, extendZip (A := A.in1) (h0 := h0) (B := B) (us := us) (vs := vs) hh D hBT nS .none rfl hlen.symm hn ds.length 0 _ [] (by omega) (Nat.zero_le _) ?_ fun h' acc' hl hr hk => ?_⟩
 · refine ⟨⟨.none, false, ⟨k4s _ _ st.z, k4s _ _ st.TI, let ⟨a, b, h⟩ := st.TO; ⟨a, b, k4s _ _ h⟩, st.s1.keep (fun o e => k4s _ o e) (fun o e => k4s _ o e), st.s2.keep (fun o e => k4s _ o e) (fun o e => k4s _ o e)⟩, .inl rfl⟩, ⟨_, hS4⟩, r1.mono fun a xs m _ t => k4s _ _ t, r2.mono fun a xs m _ t => k4s _ _ t, ?_, fun b o _ _ _ _ _ e => k4s _ _ (kp0 b o e), fun b hb => let ⟨o, ho⟩ := ex b hb; ⟨o, k4s _ _ ho⟩⟩
   simp [zipD]; exact .nil
 · have e2 : s1 = { s with heap := s1.heap } := by rw [← hs1]
   have := hQ h' acc' hl hr fun b o e => hk b o (Ne.symm (lt (kp0 b o e))) (fr b o e).1 (fr b o e).2.1 (fr b o e).2.2.1 (fr b o e).2.2.2 e
   refine ⟨rfl, ?_⟩
   rw [e2]; exact this
end
section
variable {C : Cx} {A : Around} {env : Env} {ρ : Str → Option D} {μ : Mem} {Q : D → Mem → Prop}
theorem Ev.listZip (hh : A.handled = none) {x y : Str} {px py pos pos2 : Pos} {e1 e2 : Expr}
 (h : Ev C A env (eval (.Name x px) env) ρ μ fun d μ1 => d = .raw (.type "list") ∧ Ev C A env (eval (.Name y py) env) ρ μ1 fun d μ2 => d = .raw (.type "zip") ∧ Es C A env (spliced (backTo pos2 (starEach [e1, e2] env))) ρ μ2 fun ds μ3 =>
  ∃ xs ys, ((∃ a b, ds = [.raw (.ref a), .raw (.ref b)] ∧ μ3 a = some (.list xs) ∧ μ3 b = some (.list ys)) ∨ ds = [.tup xs, .tup ys]) ∧ xs.length = ys.length ∧ xs.length ≤ sizeLine ∧ ∀ c, μ3 c = none → Q (.raw (.ref c)) (upd μ3 c (.list (zipD xs ys))))
 (he : starEach (e1 :: [e2]) env = (false, eval e1 env) :: starEach [e2] env) (hp : (backTo pos2 (starEach [e2] env)).any (·.1) = false)
 (he2 : starEach [.Call (.Name y py) [e1, e2] [] pos2] env = (false, eval (.Call (.Name y py) [e1, e2] [] pos2) env) :: starEach [] env) :
 Ev C A env (eval (.Call (.Name x px) [.Call (.Name y py) [e1, e2] [] pos2] [] pos) env) ρ μ Q := by
 intro s k F
 refine wpAny_Call_NameR (wpAny_mono (h s k F) ?_ fun _ _ x => x)
 rintro f s1 ⟨d, μ1, r1, k1, t1, rfl, h1⟩
 (first | (replace r1 := r1.inv; obtain rfl := r1) | (replace r1 := r1.inv; obtain ⟨_, rfl⟩ := r1) | cases r1)
 have key : wpAny (model C.prog C.w) A (spliced (backTo pos (starEach [.Call (.Name y py) [e1, e2] [] pos2] env))) (fun vs s2 => C.K.In s2.heap ∧ wpAny (model C.prog C.w) A (PySem.call (.type "list") vs) (Pv C s μ Q) No s2) No s1 := by
  refine wpAny_items_cons ?_ he2
  refine zip_args k1 (F.step t1 k) h1 (fun s2 vs ds μ2 k2 r2 t2 hQ => ?_) he hp
  obtain ⟨xs, ys, hds, hlen, hz, hq⟩ := hQ
  have hT : s2.heap.objs.size ≤ s2.heap.objs.size + 3 := Nat.le_add_right _ _
  have fin : ∀ (a b : Addr) (us ws : List Value), (a < s2.heap.objs.size) → (b < s2.heap.objs.size) → RepAll C.B s2.heap us xs → RepAll C.B s2.heap ws ys → ∀ h',
   ZSt h' (s2.heap.objs.size + 4) (s2.heap.objs.size + 2) (s2.heap.objs.size + 3) s2.heap.objs.size (s2.heap.objs.size + 1) a b 0 us.toArray ws.toArray .none false → h'.objs.size = s2.heap.objs.size + 5 →
   (∀ c o, s2.heap.get? c = some o → h'.get? c = some o) → wpAny (model C.prog C.w) A (spliced (backTo pos (starEach [] env))) (fun vs s3 => C.K.In s3.heap ∧ wpAny (model C.prog C.w) A (PySem.call (.type "list") (.ref (s2.heap.objs.size + 4) :: vs)) (Pv C s μ Q) No s3) No { s2 with heap := h' } := by
   intro a b us ws la lb ra rb h' st hsz kp
   have K := k2.banNew (tk := s2.toks) hT kp (let ⟨_, _, h⟩ := st.TO; ⟨_, h⟩)
   refine wpAny_items_nil ⟨(K.weak (C := C) fun b hb => .inl hb).K, ?_⟩
   refine call_list_zip (s := { s2 with heap := h' }) (h0 := s2.heap) hh (zipApart_new la lb) (B := fun b => C.B b ∨ b = s2.heap.objs.size + 3) (.inr rfl) hlen hz st (repAll_new hT kp ra) (repAll_new hT kp rb) kp (fun b hb => (K.ban b hb).2)
    (fun b o e => ⟨fun q => ?_, fun q => ?_, fun q => ?_, fun q => ?_⟩) fun h2 acc hl hr hk => ?_
   · exact absurd (Heap.lt_size e) (Nat.not_lt.mpr (q ▸ Nat.le_add_right _ _))
   · exact absurd (Heap.lt_size e) (Nat.not_lt.mpr (q ▸ Nat.le_add_right _ _))
   · exact absurd (Heap.lt_size e) (Nat.not_lt.mpr (q ▸ Nat.le_refl _))
   · exact absurd (Heap.lt_size e) (Nat.not_lt.mpr (q ▸ Nat.le_add_right _ _))
   · have kk := k2.keeps (s' := { s2 with heap := h2 }) hk
     obtain ⟨c, hl⟩ := hl
     have hsz : s2.heap.objs.size ≤ h'.objs.size := by rw [hsz]; exact Nat.le_add_right _ _
     have nB : ¬ C.B h'.objs.size := fun e => by
      obtain ⟨_, o, ho⟩ := k2.ban _ e
      exact absurd (Heap.lt_size ho) (Nat.not_lt.mpr hsz)
     refine ⟨.raw (.ref h'.objs.size), upd μ2 h'.objs.size (.list (zipD xs ys)), .raw _, ⟨fun b mo e => ?_, fun b o e => ⟨?_, (kk.base b o e).2⟩, fun b e => ⟨?_, (kk.ban b e).2⟩⟩, (t1.trans t2).trans ⟨rfl, fun b o h1 h2 => ⟨?_, hk b o h1⟩⟩, hq _ (k2.lt hsz)⟩
     · unfold upd at e
       split at e
       · rename_i q; cases e; subst q; exact ⟨acc, c, hl, hr.weak fun b hb => .inl hb⟩
       · exact kk.mem b mo e
     · unfold upd; rw [if_neg (fun q : b = _ => by rw [q, k2.lt0 hsz] at e; cases e)]; exact (kk.base b o e).1
     · unfold upd; rw [if_neg (fun q : b = h'.objs.size => nB (by rw [← q]; exact e))]; exact (kk.ban b e).1
     · unfold upd; rw [if_neg (fun q : b = _ => absurd (Heap.lt_size h1) (Nat.not_lt.mpr (q ▸ hsz)))]; exact h2
  rcases hds with ⟨a, b, rfl, ha, hb⟩ | rfl
  · replace r2 := r2.inv
    obtain ⟨_, _, rfl, ra, r2⟩ := r2
    replace r2 := r2.inv
    obtain ⟨_, _, rfl, rb, r2⟩ := r2
    (first | (replace r2 := r2.inv; obtain rfl := r2) | (replace r2 := r2.inv; obtain ⟨_, rfl⟩ := r2) | cases r2); (first | (replace ra := ra.inv; obtain rfl := ra) | (replace ra := ra.inv; obtain ⟨_, rfl⟩ := ra) | cases ra); (first | (replace rb := rb.inv; obtain rfl := rb) | (replace rb := rb.inv; obtain ⟨_, rfl⟩ := rb) | cases rb)
    obtain ⟨us, n, ua, ra⟩ := k2.mem a _ ha
    obtain ⟨ws, m, ub, rb⟩ := k2.mem b _ hb
    exact call_zip_lists ⟨_, ua, rfl, n, rfl⟩ ⟨_, ub, rfl, m, rfl⟩ fun h' st hsz kp => fin a b us ws (Heap.lt_size ua) (Heap.lt_size ub) ra rb h' st hsz kp
  · replace r2 := r2.inv
    obtain ⟨_, _, rfl, ra, r2⟩ := r2
    replace r2 := r2.inv
    obtain ⟨_, _, rfl, rb, r2⟩ := r2
    (first | (replace r2 := r2.inv; obtain rfl := r2) | (replace r2 := r2.inv; obtain ⟨_, rfl⟩ := r2) | cases r2)
    replace ra := ra.inv
    obtain ⟨a, us, n, rfl, _, ua, ra⟩ := ra
    replace rb := rb.inv
    obtain ⟨b, ws, m, rfl, _, ub, rb⟩ := rb
    exact call_zip_tuples ⟨_, ua, rfl, n, rfl⟩ ⟨_, ub, rfl, m, rfl⟩ fun h' st hsz kp => fin a b us ws (Heap.lt_size ua) (Heap.lt_size ub) ra rb h' st hsz kp
 rw [he2] at key ⊢
 exact callWith_of (P := C.K.In) rfl (keepOk.looks rfl) (Calls.evalArgs_plain key)
end
noncomputable def SetI (C : Cx) (A : Around) (a i d : D) (μ : Mem) (Q : Mem → Prop) : Prop :=
 ∀ s va vi v, Ok C s μ → Rep C.B s.heap va a → Rep C.B s.heap vi i → Rep C.B s.heap v d → wpAny (model C.prog C.w) A (setItem va vi v) (fun _ s' => ∃ μ', Ok C s' μ' ∧ Step s μ s' μ' ∧ Q μ') No s
noncomputable def bnds (ρ : Str → Option D) : List Str → List D → Str → Option D
 | x :: xs, d :: ds => bnds (bnd ρ x d) xs ds
 | _, _ => ρ
section
variable {C : Cx} {A : Around} {env : Env} {ρ : Str → Option D} {μ : Mem} {Q : Out → (Str → Option D) → Mem → Prop} {X : Xp}
theorem Ex.forgetPost {t : Sem Flow} (h : Ex C A env t ρ μ (fun o ρ' μ' => Fg (Q o ρ') μ') X) : Ex C A env t ρ μ Q X := by
 intro s k F
 refine wpAny_mono (h s k F) ?_ fun _ _ x => x
 rintro f s' ⟨o, ρ', μ', r, k', F', t', μ3, sub, q⟩
 refine ⟨o, ρ', μ3, r, k'.sub sub, F'.sub sub, ⟨t'.eq, fun b ob h1 h2 h3 => ?_⟩, q⟩
 obtain ⟨a, c⟩ := t'.keep b ob h1 h2 h3
 exact ⟨sub.none a, c⟩
theorem Ev.forgetPost {t : Sem Value} {Q : D → Mem → Prop} (h : Ev C A env t ρ μ (fun d μ' => Fg (Q d) μ')) : Ev C A env t ρ μ Q := by
 intro s k F
 refine wpAny_mono (h s k F) ?_ fun _ _ x => x
 rintro f s' ⟨d, μ', r, k', t', μ3, sub, q⟩
 refine ⟨d, μ3, r, k'.sub sub, ⟨t'.eq, fun b ob h1 h2 => ?_⟩, q⟩
 obtain ⟨a, c⟩ := t'.keep b ob h1 h2
 exact ⟨sub.none a, c⟩
@[reducible] noncomputable def NextQ (Q : Out → (Str → Option D) → Mem → Prop) (ρ : Str → Option D) (μ : Mem) : Prop := Q .next ρ μ
@[reducible] noncomputable def AsgQ (C : Cx) (A : Around) (env : Env) (t : Expr) (ρ : Str → Option D) (Q : (Str → Option D) → Mem → Prop) (d : D) (μ : Mem) : Prop := Asg C A env t d ρ μ Q
@[reducible] noncomputable def SetQ (C : Cx) (A : Around) (Q : Mem → Prop) (d a k : D) (μ : Mem) : Prop := SetI C A a k d μ Q
@[reducible] noncomputable def SubQ (C : Cx) (A : Around) (env : Env) (o i : Expr) (ρ : Str → Option D) (Q : Mem → Prop) (d : D) (μ : Mem) : Prop := Ev C A env (eval o env) ρ μ (EvQ C A env i ρ (SetQ C A Q d))
@[reducible] noncomputable def ExprQ (Q : Out → (Str → Option D) → Mem → Prop) (ρ : Str → Option D) (_ : D) (μ : Mem) : Prop := Fg (Q .next ρ) μ
theorem Ex.assignTup {ts : List Expr} {x1} {tpos pos : Pos} {value : Expr} (h : Ev C A env (eval value env) ρ μ (AsgQ C A env (.Tuple ts x1 tpos) ρ (NextQ Q)))
 (hs : swapsWithSole [.Tuple ts x1 tpos] value pos.line env = pure false) (hw : swappedStores [.Tuple ts x1 tpos] value env = pure none) : Ex C A env (exec (.Assign [.Tuple ts x1 tpos] value pos) env) ρ μ Q X := by
 intro s k F
 refine Assign_Tuple (wpAny_mono (h s k F) ?_ fun _ _ x => x.elim) hs hw
 rintro v s1 ⟨d, μ1, r, k1, t1, h1⟩
 refine wpAny_mono (h1 s1 v k1 (F.step t1 k) r) ?_ fun _ _ x => x.elim
 rintro _ s2 ⟨ρ', μ', k2, F2, t2, h2⟩
 exact ⟨.next, ρ', μ', .next, k2, F2, (t1.f env).trans t2, h2⟩
theorem stores {names : List Str} {ds : List D} {Qu : (Str → Option D) → Mem → Prop} : ∀ {ρ : Str → Option D} {s : Shared} {vs : List Value}, Ok C s μ → FrameOk C s.heap μ env ρ → RepAll C.B s.heap vs ds → ds.length = names.length →
 (∀ n ∈ names, env.kindOf n = some .local) → Qu (bnds ρ names ds) μ →
 wpAny (model C.prog C.w) A (assignInOrder (names.map fun n => bindName env n) vs) (fun _ s' => Pu C env s μ Qu s') No s := by
 induction names generalizing ds with
 | nil =>
  intro ρ s vs k F r hl hn q
  cases ds with
  | nil => (first | (replace r := r.inv; obtain rfl := r) | (replace r := r.inv; obtain ⟨_, rfl⟩ := r) | cases r); exact wpAny_pure ⟨ρ, μ, k, F, .refl _ _ _, q⟩
  | cons _ _ => simp at hl
 | cons n names ih =>
  intro ρ s vs k F r hl hn q
  cases ds with
  | nil => simp at hl
  | cons d ds =>
   replace r := r.inv
   obtain ⟨v, vs, rfl, r1, r2⟩ := r
   show wpAny _ _ (do holding vs (bindName env n v); assignInOrder (names.map fun n => bindName env n) vs) _ _ _
   refine wpAny_bind (wpAny_holding (wpAny_bindName (wpAny_mono (Eu.store (Qu := fun ρ' μ' => ρ' = bnd ρ n d ∧ μ' = μ) k F r1 ⟨rfl, rfl⟩ (.inl (hn n (.head _))) (fun h => by rw [hn n (.head _)] at h; cases h)) ?_ fun _ _ x => x)))
   rintro _ s1 ⟨ρ1, μ1, k1, F1, t1, rfl, rfl⟩
   refine wpAny_mono (ih k1 F1 (t1.repAll k F r2) (by simpa using hl) (fun m hm => hn m (.tail _ hm)) q) ?_ fun _ _ x => x
   rintro _ s2 ⟨ρ2, μ2, k2, F2, t2, h2⟩
   exact ⟨ρ2, μ2, k2, F2, t1.trans t2, h2⟩
theorem Ex.assignSwap {ts : List Expr} {x1} {tpos pos : Pos} {value : Expr} (names : List Str) (hh : A.handled = none) (h : Ev C A env (eval value env) ρ μ fun d μ1 => ∃ ds, d = .tup ds ∧ ds.length = names.length ∧ Q .next (bnds ρ names.reverse ds.reverse) μ1)
 (hn : ∀ n ∈ names, env.kindOf n = some .local) (hs : swapsWithSole [.Tuple ts x1 tpos] value pos.line env = pure false) (hw : swappedStores [.Tuple ts x1 tpos] value env = pure (some names)) : Ex C A env (exec (.Assign [.Tuple ts x1 tpos] value pos) env) ρ μ Q X := by
 intro s k F
 refine Assign_Tuple_swapped (names := names) (wpAny_mono (h s k F) ?_ fun _ _ x => x.elim) hs hw
 rintro v s1 ⟨d, μ1, r, k1, t1, ds, rfl, hl, h1⟩
 replace r := r.inv
 obtain ⟨t, vs, n, rfl, hb, ht, rr⟩ := r
 have hsz : names.length = vs.toArray.size := by simp [rr.length, hl]
 rw [hsz]
 refine PyProof.Rows.unpackItems_tuple hh ⟨_, ht, rfl, n, rfl⟩ fun h' hx => ?_
 obtain ⟨k2, t2⟩ := k1.extBut hx
 have rr2 := t2.repAll k1 rr
 refine wpAny_mono (stores (Qu := fun ρ' μ' => Q .next ρ' μ') (names := names.reverse) k2 ((F.step t1 k).step t2 k1) rr2.reverse (by simp [hl]) (fun n hm => hn n (List.mem_reverse.mp hm)) h1) ?_ fun _ _ x => x.elim
 rintro _ s2 ⟨ρ', μ', k3, F3, t3, h3⟩
 exact ⟨.next, ρ', μ', .next, k3, F3, ((t1.trans t2).f env).trans t3, h3⟩
theorem Asg.sub {o i : Expr} {pos : Pos} {d : D} {Qu : (Str → Option D) → Mem → Prop} (h : Ev C A env (eval o env) ρ μ (EvQ C A env i ρ (SetQ C A (Qu ρ) d))) : Asg C A env (.Subscript o i pos) d ρ μ Qu := by
 intro s v k F r
 rw [assign_Subscript]
 refine wpAny_bind (wpAny_holding (wpAny_mono (h s k F) ?_ fun _ _ x => x))
 rintro va s1 ⟨a, μ1, ra, k1, t1, h1⟩
 refine wpAny_bind (wpAny_holding (wpAny_mono (h1 s1 k1 (F.step t1 k)) ?_ fun _ _ x => x))
 rintro vi s2 ⟨b, μ2, ri, k2, t2, h2⟩
 refine wpAny_bind (wpAny_standAt (wpAny_bind (wpAny_holding (wpAny_mono (h2 s2 va vi v k2 (t2.rep k1 ra) ri ((t1.trans t2).rep k r)) ?_ fun _ _ x => x))))
 rintro _ s3 ⟨μ3, k3, t3, h3⟩
 have hr : ∀ l, wpAny (model C.prog C.w) A (release l []) (fun _ s' => Pu C env s μ Qu s') No s3 := fun l Γ p hΓ => by
  rw [Sem.wp_release]
  exact ⟨ρ, μ3, k3, F.step ((t1.trans t2).trans t3) k, ((t1.trans t2).trans t3).f env, h3⟩
 exact hr _
theorem Ex.assignSub {o i : Expr} {pos' pos : Pos} {value : Expr} (h : Ev C A env (eval value env) ρ μ (SubQ C A env o i ρ (NextQ Q ρ)))
 (hs : swapsWith value (some (.Subscript o i pos')) pos.line env = pure false) : Ex C A env (exec (.Assign [.Subscript o i pos'] value pos) env) ρ μ Q X := by
 intro s k F
 refine wpAny_Assign_Subscript (wpAny_mono (h s k F) ?_ fun _ _ x => x.elim) hs
 rintro v s1 ⟨d, μ1, r1, k1, t1, h1⟩
 refine wpAny_mono (h1 s1 k1 (F.step t1 k)) ?_ fun _ _ x => x.elim
 rintro va s2 ⟨a, μ2, r2, k2, t2, h2⟩
 refine wpAny_mono (h2 s2 k2 ((F.step t1 k).step t2 k1)) ?_ fun _ _ x => x.elim
 rintro vi s3 ⟨b, μ3, r3, k3, t3, h3⟩
 refine wpAny_mono (h3 s3 va vi v k3 (t3.rep k2 r2) r3 ((t2.trans t3).rep k1 r1)) ?_ fun _ _ x => x.elim
 rintro _ s4 ⟨μ4, k4, t4, h4⟩
 exact ⟨.next, ρ, μ4, .next, k4, F.step (((t1.trans t2).trans t3).trans t4) k, (((t1.trans t2).trans t3).trans t4).f env, h4⟩
theorem RepAll.set {B : Addr → Prop} {h : Heap} {v : Value} {d : D} (r : Rep B h v d) : ∀ {vs : List Value} {l : List D} {i : Nat}, RepAll B h vs l → RepAll B h (vs.set i v) (l.set i d)
 | _, _, _, .nil => .nil
 | _, _, 0, .cons a q => .cons r q
 | _, _, i + 1, .cons a q => .cons a (RepAll.set r q)
theorem setItem_at {prog : Program} {w : World} {E : Value → Shared → Prop} {s : Shared} {l : Addr} {items : Array Value} {n k : Nat} {j : Int} (hj : j = (k : Int)) {t : Tok} {v : Value} {Q : Unit → Shared → Prop} (ho : s.heap.get? l = some (listOf items n))
 (hfit : j < 2 ^ 63) (hn : k < items.size) (hQ : Q () { s with heap := s.heap.update l (Obj.mapSeq (·.setIfInBounds k v)) }) : wpAny (model prog w) A (setItem (.ref l) (.int j t) v) Q E s := by
 have hl : s.heap.IsList l items := ⟨_, ho, rfl, n, rfl⟩
 unfold setItem
 try with_reducible refine wpAny_holding ?_
 first | refine wpAny_bind (wpAny_pure ?_) | skip
 refine wpAny_bind (wpAny_sequenceKey hl.typeIs (by decide) ?_)
 refine wpAny_bind (wpAny_callSpecial?_slot (name := Str.ofString "__setitem__") hl.typeIs slot_list_setitem
  (wpAny_call_entry slot_list_setitem hl.typeIs entry_list_setitem ?_ (args_list_setitem _ _ _)))
 show wpAny _ _ (Builtin.List.listSubscript? (.int j t) >>= _) _ _ s
 refine wpAny_bind (wpAny_listSubscript_int (fitsIndex_of (by rw [hj]; exact Int.natCast_nonneg k) hfit) ?_)
 clear hfit
 subst hj
 have hx' : items[k]? = some items[k] := Array.getElem?_eq_getElem hn
 show wpAny _ _ ((seqItemAt l k >>= fun r => pure (r.map (k, ·))) >>= _) _ _ s
 refine wpAny_bind (wpAny_bind (wpAny_seqItemAt ho rfl (wpAny_pure ?_)))
 rw [hx']
 show wpAny _ _ (setSeqItemAt l k v >>= _) _ _ s
 refine wpAny_bind (wpAny_setSeqItemAt ho rfl ?_)
 first
  | exact wpAny_bind (wpAny_pure (wpAny_pure ⟨.none, rfl, wpAny_pure hQ⟩))
  | exact wpAny_pure ⟨.none, rfl, wpAny_pure hQ⟩
theorem SetI.list {a : Addr} {xs : List D} {i : Nat} {d : D} {Q : Mem → Prop} (hm : μ a = some (.list xs)) (hi : i < xs.length) (hz : xs.length ≤ sizeLine) (h : Q (upd μ a (.list (xs.set i d)))) : SetI C A (.raw (.ref a)) (.int i) d μ Q := by
 intro s va vi v k ra ri r
 (first | (replace ra := ra.inv; obtain rfl := ra) | (replace ra := ra.inv; obtain ⟨_, rfl⟩ := ra) | cases ra); (first | (replace ri := ri.inv; obtain rfl := ri) | (replace ri := ri.inv; obtain ⟨_, rfl⟩ := ri) | cases ri)
 obtain ⟨vs, n, ho, rr⟩ := k.mem a _ hm
 have hl := rr.length
 refine setItem_at (items := vs.toArray) rfl ho (by have : sizeLine = 16777216 := rfl; omega) (by simp [hl]; omega) ?_
 obtain ⟨m, hu⟩ : ∃ m, (s.heap.update a (Obj.mapSeq (·.setIfInBounds i v))).get? a = some (listOf (vs.set i v).toArray m) := by
  have := IsL.update (h := s.heap) (l := a) (items := vs.toArray) (n := n) ho (fun x => x.setIfInBounds i v)
  have e : vs.toArray.setIfInBounds i v = (vs.set i v).toArray := by simp
  rw [e] at this
  exact ⟨_, this⟩
 obtain ⟨k', t'⟩ := Ok.setList (t := s.toks) k hm (xs := xs.set i d) ho (Heap.SameBut.update ..) hu (rr.set r)
 exact ⟨_, k', t', h⟩
theorem Ex.expr {e : Expr} {pos : Pos} (h : Ev C A env (eval e env) ρ μ (ExprQ Q ρ)) (hi : interactive env = false) (hs : swapsWith e none pos.line env = pure false) : Ex C A env (exec (.Expr e pos) env) ρ μ Q X := by
 refine Ex.forgetPost ?_
 intro s k F
 refine wpAny_Expr_any (wpAny_mono (h s k F) ?_ fun _ _ x => x.elim) hi hs
 rintro v s1 ⟨d, μ1, r, k1, t1, h1⟩
 exact ⟨.next, ρ, μ1, .next, k1, F.step t1 k, t1.f env, h1⟩
theorem Ex.ret0 {pos : Pos} (h : Q (.ret .none) ρ μ) : Ex C A env (exec (.Return none pos) env) ρ μ Q X := fun s k F => wpAny_Return_none ⟨.ret .none, ρ, μ, .ret .none, k, F, .refl _ _ _, h⟩
theorem Et.or3 {x y z : Expr} {pos : Pos} {Q : Bool → Mem → Prop} {whole : Sem Value}
 (h : Et C A env (isTrue x env (eval x env)) ρ μ fun b μ1 => Br' b (Et C A env (isTrue y env (eval y env)) ρ μ1 fun c μ2 => Br' c (Et C A env (isTrue z env (eval z env)) ρ μ2 Q) (Q true μ2)) (Q true μ1)) : Et C A env (isTrue (.BoolOp .Or [x, y, z] pos) env whole) ρ μ Q := by
 intro s k F
 refine wpAny_isTrue_BoolOp (wpAny_allTrue_Or_cons (wpAny_mono (h s k F) ?_ fun _ _ x => x))
 rintro b s1 ⟨μ1, k1, t1, h1, h2⟩
 cases b with
 | true => exact ⟨μ1, k1, t1, h2 rfl⟩
 | false =>
  refine wpAny_allTrue_Or_cons (wpAny_mono (h1 rfl s1 k1 (F.step t1 k)) ?_ fun _ _ x => x)
  rintro c s2 ⟨μ2, k2, t2, h3, h4⟩
  cases c with
  | true => exact ⟨μ2, k2, t1.trans t2, h4 rfl⟩
  | false =>
   refine wpAny_allTrue_Or_cons (wpAny_mono (h3 rfl s2 k2 ((F.step t1 k).step t2 k1)) ?_ fun _ _ x => x)
   rintro c s3 ⟨μ3, k3, t3, h5⟩
   cases c with
   | true => exact ⟨μ3, k3, (t1.trans t2).trans t3, h5⟩
   | false => exact wpAny_allTrue_Or_nil ⟨μ3, k3, (t1.trans t2).trans t3, h5⟩
theorem Cmp.eqList {a b : Addr} {xs ys : List D} {Q : D → Mem → Prop} (ha : μ a = some (.list xs)) (hb : μ b = some (.list ys)) (oa : D.oks xs = true) (ob : D.oks ys = true) (hu : A.units + min (PyData.list (D.pys xs)).depth (PyData.list (D.pys ys)).depth < cLine)
 (h : Q (.bool (PyData.eqv (.list (D.pys xs)) (.list (D.pys ys)))) μ) : Cmp C A .Eq (.raw (.ref a)) (.raw (.ref b)) μ Q := by
 intro s va vb k ra rb
 (first | (replace ra := ra.inv; obtain rfl := ra) | (replace ra := ra.inv; obtain ⟨_, rfl⟩ := ra) | cases ra); (first | (replace rb := rb.inv; obtain rfl := rb) | (replace rb := rb.inv; obtain ⟨_, rfl⟩ := rb) | cases rb)
 obtain ⟨us, n, ha, ua⟩ := k.mem a _ ha
 obtain ⟨ws, m, hb, ub⟩ := k.mem b _ hb
 obtain ⟨⟨as, qa⟩, la⟩ := RepAll.reads ua oa
 obtain ⟨⟨bs, qb⟩, lb⟩ := RepAll.reads ub ob
 exact SeqAt.compareEq_reads (.list ha rfl rfl (by simpa using qa)) (.list hb rfl rfl (by simpa using qb)) (by simpa [PyData.canLay0] using la) (by simpa [PyData.canLay0] using lb) hu ⟨_, μ, .bool _, k, .refl _ _, h⟩
theorem Cmp.neList {a b : Addr} {xs ys : List D} {Q : D → Mem → Prop} (ha : μ a = some (.list xs)) (hb : μ b = some (.list ys)) (oa : D.oks xs = true) (ob : D.oks ys = true) (hu : A.units + min (PyData.list (D.pys xs)).depth (PyData.list (D.pys ys)).depth < cLine)
 (h : Q (.bool (!PyData.eqv (.list (D.pys xs)) (.list (D.pys ys)))) μ) : Cmp C A .NotEq (.raw (.ref a)) (.raw (.ref b)) μ Q := by
 intro s va vb k ra rb
 (first | (replace ra := ra.inv; obtain rfl := ra) | (replace ra := ra.inv; obtain ⟨_, rfl⟩ := ra) | cases ra); (first | (replace rb := rb.inv; obtain rfl := rb) | (replace rb := rb.inv; obtain ⟨_, rfl⟩ := rb) | cases rb)
 obtain ⟨us, n, ha, ua⟩ := k.mem a _ ha
 obtain ⟨ws, m, hb, ub⟩ := k.mem b _ hb
 obtain ⟨⟨as, qa⟩, la⟩ := RepAll.reads ua oa
 obtain ⟨⟨bs, qb⟩, lb⟩ := RepAll.reads ub ob
 exact SeqAt.compareNe_reads (.list ha rfl rfl (by simpa using qa)) (.list hb rfl rfl (by simpa using qb)) (by simpa [PyData.canLay0] using la) (by simpa [PyData.canLay0] using lb) hu ⟨_, μ, .bool _, k, .refl _ _, h⟩
theorem eqv_nil (xs : List D) : PyData.eqv (.list (D.pys xs)) (.list (D.pys [])) = decide (xs = []) := by
 cases xs with
 | nil => rfl
 | cons x xs => simp [D.pys, PyData.eqv, PyData.eqvAll]
theorem strsAre {B : Addr → Prop} {h : Heap} {ys : List Str} : ∀ {vs : List Value}, RepAll B h vs (ys.map .str) → StrsAre vs ys := by
 induction ys with
 | nil => intro vs r; replace r := r.inv; obtain rfl := r; exact .nil
 | cons y ys ih =>
  intro vs r
  replace r := r.inv
  obtain ⟨_, _, rfl, a, q⟩ := r
  replace a := a.inv
  obtain ⟨_, rfl⟩ := a
  exact .cons y _ (ih q)
theorem Call.join {x : Str} {a : Addr} {ys : List Str} {Q : D → Mem → Prop} (hm : μ a = some (.list (ys.map .str))) (hz : (ys.map (·.length)).sum + ys.length * x.length ≤ 16777216) (h : Q (.str (Txt.join x ys)) μ) : Call C A (.builtin "str.join") [.str x, .raw (.ref a)] μ Q := by
 intro s vs k r
 replace r := r.inv
 obtain ⟨_, _, rfl, r1, r⟩ := r
 replace r := r.inv
 obtain ⟨_, _, rfl, r2, r⟩ := r
 (first | (replace r := r.inv; obtain rfl := r) | (replace r := r.inv; obtain ⟨_, rfl⟩ := r) | cases r); (first | (replace r1 := r1.inv; obtain rfl := r1) | (replace r1 := r1.inv; obtain ⟨_, rfl⟩ := r1) | cases r1); (first | (replace r2 := r2.inv; obtain rfl := r2) | (replace r2 := r2.inv; obtain ⟨_, rfl⟩ := r2) | cases r2)
 obtain ⟨us, n, ho, rr⟩ := k.mem a _ hm
 exact join_list (items := us.toArray) ⟨_, ho, rfl, n, rfl⟩ (by simpa using strsAre rr) hz fun t' tk => ⟨_, μ, .str _ _, k.toks _, .toks _, h⟩
end
noncomputable abbrev KK := Str ⊕ Int
noncomputable def kIs : KK → Value → Bool
 | .inl x, v => Value.isStrOf x v
 | .inr i, v => Value.isInt i v
noncomputable def kHash (w : World) : KK → Int
 | .inl x => hashStr w x
 | .inr i => hashInt i
theorem kIs_shape {k : KK} {v : Value} (h : kIs k v = true) : (∃ x t, k = .inl x ∧ v = .str x t) ∨ (∃ i t, k = .inr i ∧ v = .int i t) := by
 cases k with
 | inl x => obtain ⟨t, rfl⟩ := Value.isStrOf_shape h; exact .inl ⟨x, t, rfl, rfl⟩
 | inr i => obtain ⟨t, rfl⟩ := Value.isInt_shape h; exact .inr ⟨i, t, rfl, rfl⟩
noncomputable def mixKind (prog : Program) (w : World) : KeyKind prog w KK where
 is := kIs
 hash := kHash w
 inj := fun v a b ha hb => by
  rcases kIs_shape ha with ⟨x, t, rfl, rfl⟩ | ⟨x, t, rfl, rfl⟩ <;> rcases kIs_shape hb with ⟨y, u, rfl, e⟩ | ⟨y, u, rfl, e⟩ <;> cases e <;> rfl
 byValue := fun k v h => by rcases kIs_shape h with ⟨x, t, rfl, rfl⟩ | ⟨x, t, rfl, rfl⟩ <;> rfl
 pyHash := fun hv h => by
  rcases kIs_shape hv with ⟨x, t, rfl, rfl⟩ | ⟨x, t, rfl, rfl⟩
  · exact wpAny_pyHash_str h
  · exact wpAny_pyHash_int h
 eqBool := fun {A E s a b u v Q} hu hv h => by
  rcases kIs_shape hu with ⟨x, t, rfl, rfl⟩ | ⟨x, t, rfl, rfl⟩ <;> rcases kIs_shape hv with ⟨y, t', rfl, rfl⟩ | ⟨y, t', rfl, rfl⟩
  · exact wpAny_eqBool_str (by simpa using h)
  · exact SeqAt.EqAt.str_int x t y t' prog w E Q (by simpa using h)
  · exact SeqAt.EqAt.int_str x t y t' prog w E Q (by simpa using h)
  · refine wpAny_eqBool_int ?_
    have e : (x == y) = decide ((Sum.inr x : KK) = Sum.inr y) := by
     by_cases q : x = y
     · subst q; simp
     · simp [q]
    rw [e]; exact h
 «strs» := fun k x t v h => by
  rcases kIs_shape h with ⟨y, u, rfl, e⟩ | ⟨y, u, rfl, e⟩ <;> cases e
  cases v <;> rfl
noncomputable def keyD (ks : List KK) : D := .tup (ks.map fun k => match k with | .inl x => .str x | .inr i => .int i)
noncomputable def unkeys : List D → List KK
 | .str x :: l => .inl x :: unkeys l
 | .int i :: l => .inr i :: unkeys l
 | _ => []
noncomputable def unkey : D → List KK
 | .tup l => unkeys l
 | _ => []
theorem unkey_keyD (ks : List KK) : unkey (keyD ks) = ks := by
 show unkeys (ks.map _) = ks
 induction ks with
 | nil => rfl
 | cons k ks ih => cases k <;> exact congrArg (List.cons _) ih
noncomputable def dHash (C : Cx) (d : D) : Int := tupleKeyHash (mixKind C.prog C.w) (unkey d)
noncomputable abbrev PS := List (List KK × D)
noncomputable abbrev dictMO (C : Cx) (ps : PS) : MO := .dict (dHash C) (ps.map fun p => (keyD p.1, p.2))
theorem itemsAre {prog : Program} {w : World} {B : Addr → Prop} {h : Heap} : ∀ {vs : List Value} {ks : List KK}, RepAll B h vs (ks.map fun k => match k with | .inl x => .str x | .inr i => .int i) → ItemsAre (mixKind prog w) ks vs
 | [], [], _ => .nil
 | [], _ :: _, r => by (first | (obtain rfl := r.inv) | (obtain ⟨_, rfl⟩ := r.inv) | cases r)
 | _ :: _, [], r => by (first | (obtain rfl := r.inv) | (obtain ⟨_, rfl⟩ := r.inv) | cases r)
 | v :: vs, k :: ks, r => by
  cases r with
  | cons a q =>
   refine .cons ?_ (itemsAre q)
   cases k with
   | inl x => cases a with | str _ t => exact (show kIs (.inl x) (.str x t) = true by simp [kIs, Value.isStrOf])
   | inr i => cases a with | int _ t => exact (show kIs (.inr i) (.int i t) = true by simp [kIs, Value.isInt])
theorem isKey {prog : Program} {w : World} {B : Addr → Prop} {h : Heap} {v : Value} {ks : List KK} (r : Rep B h v (keyD ks)) : ∃ a, v = .ref a ∧ IsTupleKey (mixKind prog w) h ks a := by
 cases r with
 | @tup a vs n _ hb ht rr => exact ⟨a, rfl, _, vs.toArray, n, ht, rfl, rfl, itemsAre (by simpa using rr)⟩
theorem entRep_to {C : Cx} {h : Heap} : ∀ {es : List DictEntry} {ps : PS}, EntRep C.B h (dHash C) es (ps.map fun p => (keyD p.1, p.2)) →
 ∃ xs : List (List KK × Addr × Value), es = xs.map (entryOfKey (tupleKind (mixKind C.prog C.w))) ∧ (∀ x ∈ xs, IsTupleKey (mixKind C.prog C.w) h x.1 x.2.1 ∧ Rep C.B h (.ref x.2.1) (keyD x.1)) ∧ xs.map (·.1) = ps.map (·.1) ∧ RepAll C.B h (xs.map (·.2.2)) (ps.map (·.2))
 | [], [], _ => ⟨[], rfl, by simp, rfl, .nil⟩
 | _ :: _, [], r => by (first | (obtain rfl := r.inv) | (obtain ⟨_, rfl⟩ := r.inv) | cases r)
 | [], _ :: _, r => by (first | (obtain rfl := r.inv) | (obtain ⟨_, rfl⟩ := r.inv) | cases r)
 | e :: es, (k, d) :: ps, r => by
  cases r with
  | cons h1 h2 h3 h4 =>
   obtain ⟨xs, e1, e2, e3, e4⟩ := entRep_to h4
   obtain ⟨a, ha, hk⟩ := isKey (prog := C.prog) (w := C.w) h2
   refine ⟨(k, a, e.val) :: xs, ?_, ?_, by simp [e3], .cons h3 e4⟩
   · rw [e1]
     obtain ⟨eh, ek, ev⟩ := e
     dsimp only at h1 ha
     subst ha
     rw [h1]
     unfold dHash
     rw [unkey_keyD]; rfl
   · intro x hx
     rcases List.mem_cons.mp hx with rfl | hx
     · exact ⟨hk, ha ▸ h2⟩
     · exact e2 x hx
theorem entRep_of {C : Cx} {h : Heap} : ∀ {xs : List (List KK × Addr × Value)} {ps : PS}, (∀ x ∈ xs, Rep C.B h (.ref x.2.1) (keyD x.1)) → xs.map (·.1) = ps.map (·.1) → RepAll C.B h (xs.map (·.2.2)) (ps.map (·.2)) →
 EntRep C.B h (dHash C) (xs.map (entryOfKey (tupleKind (mixKind C.prog C.w)))) (ps.map fun p => (keyD p.1, p.2))
 | [], [], _, _, _ => .nil
 | [], _ :: _, _, e, _ => by simp at e
 | _ :: _, [], _, e, _ => by simp at e
 | x :: xs, p :: ps, hk, e, r => by
  simp only [List.map_cons, List.cons.injEq] at e
  cases r with
  | cons r1 r2 =>
   refine .cons ?_ ?_ r1 (entRep_of (fun y hy => hk y (.tail _ hy)) e.2 r2)
   · unfold dHash; rw [unkey_keyD, ← e.1]; rfl
   · rw [← e.1]; exact hk x (.head _)
noncomputable def psGet (ps : PS) (k : List KK) : Option D := (ps.find? fun p => decide (p.1 = k)).map (·.2)
noncomputable def storeP (ps : PS) (k : List KK) (d : D) : PS := if (psGet ps k).isSome then ps.map (fun p => if p.1 = k then (p.1, d) else p) else ps ++ [(k, d)]
theorem atKey_lookup {xs : List (List KK × Addr × Value)} {B : Addr → Prop} {h : Heap} {k : List KK} : ∀ {ps : PS}, xs.map (·.1) = ps.map (·.1) → RepAll B h (xs.map (·.2.2)) (ps.map (·.2)) →
 (atKey xs k = none ∧ psGet ps k = none) ∨ ∃ p d, atKey xs k = some p ∧ psGet ps k = some d ∧ Rep B h p.2 d := by
 induction xs with
 | nil => intro ps e _; cases ps with
  | nil => exact .inl ⟨rfl, rfl⟩
  | cons _ _ => simp at e
 | cons x xs ih =>
  intro ps e r
  cases ps with
  | nil => simp at e
  | cons p ps =>
   simp only [List.map_cons, List.cons.injEq] at e
   obtain ⟨pk, pd⟩ := p
   cases r with
   | cons r1 r2 =>
    by_cases hx : x.1 = k
    · have : pk = k := by rw [← hx]; exact e.1.symm
      subst this
      exact .inr ⟨x.2, pd, by simp [atKey, hx], by simp [psGet], r1⟩
    · have hp : ¬ pk = k := fun q => hx (e.1.trans q)
      have e1 : atKey (x :: xs) k = atKey xs k := by simp [atKey, hx]
      have e2 : psGet ((pk, pd) :: ps) k = psGet ps k := by simp [psGet, hp]
      rw [e1, e2]
      exact ih e.2 r2
section
variable {C : Cx} {A : Around} {env : Env} {ρ : Str → Option D} {μ : Mem} {Q : D → Mem → Prop}
theorem Ok.dict {s : Shared} {a : Addr} {ps : PS} (k : Ok C s μ) (hm : μ a = some (dictMO C ps)) (nd : (ps.map (·.1)).Nodup) :
 ∃ xs, s.heap.DictOfH (tupleKind (mixKind C.prog C.w)) a xs ∧ (∀ x ∈ xs, Rep C.B s.heap (.ref x.2.1) (keyD x.1)) ∧ xs.map (·.1) = ps.map (·.1) ∧ RepAll C.B s.heap (xs.map (·.2.2)) (ps.map (·.2)) := by
 obtain ⟨es, n, ho, r⟩ := k.mem a _ hm
 obtain ⟨xs, e1, e2, e3, e4⟩ := entRep_to r
 exact ⟨xs, ⟨_, es.toArray, n, ho, ⟨rfl, rfl, rfl⟩, rfl, by simpa using e1, fun x hx => (e2 x hx).1, by rw [e3]; exact nd⟩, fun x hx => (e2 x hx).2, e3, e4⟩
theorem Ev.dict0 {pos : Pos} (h : ∀ a, μ a = none → Q (.raw (.ref a)) (upd μ a (dictMO C []))) : Ev C A env (eval (.Dict [] [] pos) env) ρ μ Q := by
 intro s k F
 refine wpAny_Dict_empty ⟨_, _, .raw _, k.new (mo := dictMO C []) ⟨[], 0, Heap.get?_push_size _ rfl, .nil⟩, Step.new, h _ k.fresh⟩
theorem GetM.dict {a : Addr} {ps : PS} {name : Str} {id : String} (hm : μ a = some (dictMO C ps)) (slot : Slot "dict" name id) (hty : typeOf (.builtin id) = pure (.type "method_descriptor")) : GetM C A (.raw (.ref a)) name μ (.builtin id) := by
 intro s v pl Q E k r h
 (first | (obtain rfl := r.inv) | (obtain ⟨_, rfl⟩ := r.inv) | cases r)
 obtain ⟨es, n, ho, _⟩ := k.mem a _ hm
 refine getMethod_builtin (T := "dict") ⟨_, ho, rfl⟩ F.plainAttrs_dict slot hty (fun b e => ?_) h
 cases e; exact ⟨_, ho, rfl⟩
theorem notSys {s : Shared} {a : Addr} {mo : MO} (k : Ok C s μ) (hm : μ a = some mo) (hs : ∃ o, C.h0.get? sysModules = some o) : (a == sysModules) = false := by
 obtain ⟨o, ho⟩ := hs
 by_cases q : a = sysModules
 · subst q
   have := (k.base _ o ho).1
   rw [hm] at this; cases this
 · simpa using q
theorem Call.dictGet {a : Addr} {ps : PS} {key : List KK} {dflt : D} (hs : ∃ o, C.h0.get? sysModules = some o) (hm : μ a = some (dictMO C ps)) (nd : (ps.map (·.1)).Nodup) (hu : A.in1.units < cLine) (h : Q ((psGet ps key).getD dflt) μ) :
 Call C A (.builtin "dict.get") [.raw (.ref a), keyD key, dflt] μ Q := by
 intro s vs k r
 cases r with
 | cons r1 r => cases r with
  | cons r2 r => cases r with
   | cons r3 r =>
    (first | (obtain rfl := r.inv) | (obtain ⟨_, rfl⟩ := r.inv) | cases r); (first | (obtain rfl := r1.inv) | (obtain ⟨_, rfl⟩ := r1.inv) | cases r1)
    obtain ⟨xs, hd, hk, e1, e2⟩ := k.dict hm nd
    obtain ⟨b, rfl, hkey⟩ := isKey (prog := C.prog) (w := C.w) r2
    refine call_meetsIn F.slot_dict_get hd.typeIs F.entry_dict_get (F.args_dict_get_3 _ _ _) (meetsH_dict_get_default (tupleKind (mixKind C.prog C.w)) a b (notSys k hm hs) _) ⟨hu, key, xs, hkey, hd, ?_⟩
    rcases atKey_lookup (k := key) e1 e2 with ⟨h1, h2⟩ | ⟨p, d, h1, h2, h3⟩
    · rw [h1]; rw [h2] at h
      exact ⟨dflt, μ, r3, k.toks _, .toks _, h⟩
    · rw [h1]; rw [h2] at h
      exact ⟨d, μ, h3, k.toks _, .toks _, h⟩
theorem storeP_keys (ps : PS) (key : List KK) (d : D) : (storeP ps key d).map (·.1) = if (psGet ps key).isSome then ps.map (·.1) else ps.map (·.1) ++ [key] := by
 unfold storeP
 split
 · rw [List.map_map]
   apply List.map_congr_left
   intro p _
   simp only [Function.comp]
   split <;> rfl
 · simp
theorem putAt_rep {B : Addr → Prop} {h : Heap} {key : List KK} {v : Value} {d : D} (r : Rep B h v d) : ∀ {xs : List (List KK × Addr × Value)} {ps : PS}, xs.map (·.1) = ps.map (·.1) → RepAll B h (xs.map (·.2.2)) (ps.map (·.2)) →
 RepAll B h ((xs.map (putAt key v)).map (·.2.2)) ((ps.map fun p => if p.1 = key then (p.1, d) else p).map (·.2))
 | [], [], _, _ => .nil
 | [], _ :: _, e, _ => by simp at e
 | _ :: _, [], e, _ => by simp at e
 | x :: xs, p :: ps, e, q => by
  simp only [List.map_cons, List.cons.injEq] at e
  cases q with
  | cons q1 q2 =>
   refine .cons ?_ (putAt_rep r e.2 q2)
   show Rep B h (putAt key v x).2.2 (if p.1 = key then (p.1, d) else p).2
   unfold putAt
   by_cases hx : x.1 = key
   · rw [if_pos hx, if_pos (e.1 ▸ hx)]; exact r
   · rw [if_neg hx, if_neg (e.1 ▸ hx)]; exact q1
theorem SetI.dict {a : Addr} {ps : PS} {key : List KK} {d : D} {Q : Mem → Prop} (hm : μ a = some (dictMO C ps)) (nd : (ps.map (·.1)).Nodup) (hz : ps.length ≤ sizeLine) (hu : A.in1.units < cLine) (h : Q (upd μ a (dictMO C (storeP ps key d)))) :
 SetI C A (.raw (.ref a)) (keyD key) d μ Q := by
 intro s va vi v k ra ri r
 (first | (obtain rfl := ra.inv) | (obtain ⟨_, rfl⟩ := ra.inv) | cases ra)
 obtain ⟨xs, hd, hk, e1, e2⟩ := k.dict hm nd
 obtain ⟨b, rfl, hkey⟩ := isKey (prog := C.prog) (w := C.w) ri
 have hl : xs.length = ps.length := by simpa using congrArg List.length e1
 refine wpAny_setItem_heap (knd := tupleKind (mixKind C.prog C.w)) hu hkey hd (fun h' hd' hs => ?_) (by rw [hl]; exact hz)
 obtain ⟨o, es, ep, ho, ⟨c1, c2, c3⟩, hdat, hes, _, _⟩ := hd'
 obtain ⟨oc, od, odt, osl⟩ := o
 dsimp only at c1 c2 c3 hdat
 subst c1 c2 c3 hdat
 obtain ⟨o0, es0, ep0, ho0, _, hdat0, _⟩ := hd
 have kp : ∀ b o, b ≠ a → s.heap.get? b = some o → h'.get? b = some o := fun b o n e => (hs.2 b n).trans e
 have tp : ∀ b us m, IsT s.heap b us m → IsT h' b us m := fun b us m t => kp b _ (fun e => by
  have t : s.heap.get? b = _ := t
  rw [e, ho0] at t; cases t; simp at hdat0) t
 have hent : EntRep C.B h' (dHash C) es.toList ((storeP ps key d).map fun p => (keyD p.1, p.2)) := by
  rw [hes]
  have fin : EntRep C.B s.heap (dHash C) ((storedH xs key b v).map (entryOfKey (tupleKind (mixKind C.prog C.w)))) ((storeP ps key d).map fun p => (keyD p.1, p.2)) := by
   rcases atKey_lookup (k := key) e1 e2 with ⟨h1, h2⟩ | ⟨p, d', h1, h2, h3⟩
   · rw [storedH_new h1]
     refine entRep_of (fun x hx => ?_) ?_ ?_
     · rcases List.mem_append.mp hx with hx | hx
       · exact hk x hx
       · rw [List.mem_singleton.mp hx]; exact ri
     · rw [storeP_keys, h2]; simp [e1]
     · unfold storeP; rw [h2]; simp only [Option.isSome_none, Bool.false_eq_true, if_false, List.map_append, List.map_cons, List.map_nil]
       exact e2.append (.cons r .nil)
   · rw [storedH_old h1]
     refine entRep_of (fun x hx => ?_) ?_ ?_
     · obtain ⟨y, hy, rfl⟩ := List.mem_map.mp hx
       unfold putAt
       split
       · exact hk y hy
       · exact hk y hy
     · rw [storeP_keys, h2, keys_map_putAt]; simp [e1]
     · unfold storeP; rw [h2]; simp only [Option.isSome_some, if_true]
       exact putAt_rep r e1 e2
  exact fin.mono fun v d r => r.mono fun a vs n _ t => tp a vs n t
 refine ⟨_, ⟨fun c mo e => ?_, fun c o e => ⟨?_, ?_⟩, fun c e => ?_⟩, ⟨rfl, fun c o h1 h2 => ?_⟩, h⟩
 · unfold upd at e
   split at e
   · rename_i q; cases e; subst q; exact ⟨es.toList, ep, by simpa using ho, hent⟩
   · rename_i q
     have := k.mem c mo e
     cases mo with
     | list xs => obtain ⟨vs, n, h1, h2⟩ := this; exact ⟨vs, n, kp _ _ q h1, h2.mono fun a vs n _ t => tp a vs n t⟩
     | inst C dx => exact kp _ _ q this
     | attrs f m => obtain ⟨es, n, h1, h2⟩ := this; exact ⟨es, n, kp _ _ q h1, h2⟩
     | dict f ps => obtain ⟨es, n, h1, h2⟩ := this; exact ⟨es, n, kp _ _ q h1, h2.mono fun v d r => r.mono fun a vs n _ t => tp a vs n t⟩
     | obj P => obtain ⟨o, h1, h2⟩ := this; exact ⟨o, kp _ _ q h1, h2⟩
 · have h1 := (k.base c o e).1
   unfold upd; rw [if_neg (fun q => by rw [q, hm] at h1; cases h1)]; exact h1
 · have h1 := (k.base c o e).1
   exact kp c o (fun q => by rw [q, hm] at h1; cases h1) (k.base c o e).2
 · obtain ⟨h1, o, h2⟩ := k.ban c e
   have q : c ≠ a := fun q => by rw [q, hm] at h1; cases h1
   exact ⟨by unfold upd; rw [if_neg q]; exact h1, o, kp c o q h2⟩
 · have q : c ≠ a := fun q => by rw [q, hm] at h2; cases h2
   exact ⟨by unfold upd; rw [if_neg q]; exact h2, kp c o q h1⟩
end
end Mine
namespace Mine
open PySem.Builtin PySem.Builtin.ObjectAttr
theorem put_find {name : Str} {hs : Int} {t : Tok} {v : Value} (y : Str) : ∀ es : List DictEntry, ((putL name hs (.str name t) v es).find? (·.key.isStr y)).map (·.val) = if y = name then some v else (es.find? (·.key.isStr y)).map (·.val)
 | [] => by
  by_cases q : y = name
  · subst q; simp [putL, Value.isStr]
  · have : (name == y) = false := beq_eq_false_iff_ne.mpr fun e => q e.symm
    simp [putL, Value.isStr, q, this]
 | e :: r => by
  unfold putL
  by_cases h : e.key.isStr name = true
  · rw [if_pos h]
    by_cases q : y = name
    · subst q; simp [h]
    · have hy : e.key.isStr y = false := by
       obtain ⟨eh, ek, ev⟩ := e
       cases ek <;> simp_all [Value.isStr]
       intro e'; exact q e'.symm
      simp [hy, q]
  · rw [if_neg h]
    by_cases hy : e.key.isStr y = true
    · have q : y ≠ name := fun e' => h (e' ▸ hy)
      simp [hy, q]
    · have hy' : e.key.isStr y = false := by simpa using hy
      have := put_find (name := name) (hs := hs) (t := t) (v := v) y r
      simp only [List.find?_cons, hy']
      exact this
theorem put_ref {name : Str} {hs : Int} {t : Tok} {v : Value} : ∀ es : List DictEntry, (putL name hs (.str name t) v es).any (·.refKey) = es.any (·.refKey)
 | [] => by simp [putL, DictEntry.refKey]
 | e :: r => by
  unfold putL
  split
  · simp [DictEntry.refKey]
  · simp [put_ref r]
theorem getL_map (y : Str) (es : List DictEntry) : getL y es = match (es.find? (·.key.isStr y)).map (·.val) with | some v => some (some v) | none => if es.any (·.refKey) then none else some none := by
 unfold getL
 cases es.find? (·.key.isStr y) <;> rfl
theorem getL_put {name : Str} {hs : Int} {t : Tok} {v : Value} {es : List DictEntry} (y : Str) : getL y (putL name hs (.str name t) v es) = if y = name then some (some v) else getL y es := by
 rw [getL_map, getL_map, put_find, put_ref]
 by_cases q : y = name
 · rw [if_pos q, if_pos q]
 · rw [if_neg q, if_neg q]
theorem put_len {name : Str} {hs : Int} {k v : Value} : ∀ es : List DictEntry, (putL name hs k v es).length ≤ es.length + 1
 | [] => by simp [putL]
 | e :: r => by
  unfold putL
  split
  · simp
  · simp; exact put_len r
section
variable {C : Cx} {A : Around} {env : Env} {ρ : Str → Option D} {μ : Mem} {Q : Out → (Str → Option D) → Mem → Prop} {X : Xp}
theorem Ok.setAttrs {s : Shared} {dx : Addr} {es es' : List DictEntry} {n n' : Nat} {f f' : Str → Option Value} {m m' : Nat} {h' : Heap} {tk : Nat} (k : Ok C s μ) (hm : μ dx = some (.attrs f m)) (ho : s.heap.get? dx = some (dictOf es n)) (hs : Heap.SameBut dx s.heap h')
 (ho' : h'.get? dx = some (dictOf es' n')) (hz : es'.length ≤ m') (hf : ∀ y, getL y es' = some (f' y)) : Ok C { s with heap := h', toks := tk } (upd μ dx (.attrs f' m')) ∧ Step s μ { s with heap := h', toks := tk } (upd μ dx (.attrs f' m')) := by
 have kp : ∀ b o, b ≠ dx → s.heap.get? b = some o → h'.get? b = some o := fun b o n e => (hs.2 b n).trans e
 have tp : ∀ b us m, IsT s.heap b us m → IsT h' b us m := fun b us m t => kp b _ (fun e => by
  have t : s.heap.get? b = _ := t
  rw [e, ho] at t; simp at t) t
 refine ⟨⟨fun c mo e => ?_, fun c o e => ⟨?_, ?_⟩, fun c e => ?_⟩, ⟨rfl, fun c o h1 h2 => ?_⟩⟩
 · unfold upd at e
   split at e
   · rename_i q; cases e; subst q; exact ⟨es', n', ho', hz, hf⟩
   · rename_i q
     have := k.mem c mo e
     cases mo with
     | list xs => obtain ⟨vs, n, h1, h2⟩ := this; exact ⟨vs, n, kp _ _ q h1, h2.mono fun a vs n _ t => tp a vs n t⟩
     | inst C dx => exact kp _ _ q this
     | attrs f m => obtain ⟨es, n, h1, h2⟩ := this; exact ⟨es, n, kp _ _ q h1, h2⟩
     | dict f ps => obtain ⟨es, n, h1, h2⟩ := this; exact ⟨es, n, kp _ _ q h1, h2.mono fun v d r => r.mono fun a vs n _ t => tp a vs n t⟩
     | obj P => obtain ⟨o, h1, h2⟩ := this; exact ⟨o, kp _ _ q h1, h2⟩
 · have h1 := (k.base c o e).1
   unfold upd; rw [if_neg (fun q => by rw [q, hm] at h1; cases h1)]; exact h1
 · have h1 := (k.base c o e).1
   exact kp c o (fun q => by rw [q, hm] at h1; cases h1) (k.base c o e).2
 · obtain ⟨h1, o, h2⟩ := k.ban c e
   have q : c ≠ dx := fun q => by rw [q, hm] at h1; cases h1
   exact ⟨by unfold upd; rw [if_neg q]; exact h1, o, kp c o q h2⟩
 · have q : c ≠ dx := fun q => by rw [q, hm] at h2; cases h2
   exact ⟨by unfold upd; rw [if_neg q]; exact h2, kp c o q h1⟩
noncomputable def attrUpd (f : Str → Option Value) (name : Str) (v : Value) : Str → Option Value := fun y => if y = name then some v else f y
theorem setAttr_inst {s : Shared} {x Cl dx : Addr} {f : Str → Option Value} {m : Nat} {name : Str} {v : Value} {E : Value → Shared → Prop} {QQ : Unit → Shared → Prop} (k : Ok C s μ) (hx : μ x = some (.inst Cl dx)) (hd : μ dx = some (.attrs f m))
 (hs : findIn C.K (.ref Cl) "__setattr__" = some (some (.builtin "object.__setattr__"))) (hp : plainOver C.K Cl = true) (ht : takerIn C.K Cl name = some none) (hh : (clsIn C.K Cl).any (·.hasDict) = true)
 (hm8 : m ≤ 100)
 (h : ∀ s', Ok C s' (upd μ dx (.attrs (attrUpd f name v) (m + 1))) → Step s μ s' (upd μ dx (.attrs (attrUpd f name v) (m + 1))) → QQ () s') : wpAny (model C.prog C.w) A (setAttr (.ref x) name v) QQ E s := by
 obtain ⟨es, n, ho, hz8, hg⟩ := k.mem dx _ hd
 have I : InstAt s.heap x (instObj Cl dx) Cl (some (dictOf es n)) := ⟨k.mem x _ hx, rfl, rfl, ho⟩
 have X := k.K
 generalize hs1 : ({ s with toks := s.toks + 1 } : Shared) = s1
 have e1 : s1.heap = s.heap := by rw [← hs1]
 refine set_plain X I hs ?_
 rw [hs1]
 rw [← e1] at I X ho
 refine osa_open X I hp ht fun b => ?_
 obtain ⟨cd, hc, hd'⟩ := any_some hh
 obtain ⟨hx', hcl, hn, -⟩ := I
 refine wpAny_bind (wpAny_pure (wpAny_bind (wpAny_bind (wpAny_loadPart hx' (wpAny_bind ((looks_clsIn X hc).here ?_))))))
 rw [hd']
 refine wpAny_pure (a := some dx) (wpAny_bind (wpAny_pure (wpAny_bind ?_)))
 unfold nsSet
 refine wpAny_bind (wpAny_bind (wpAny_askSetting (wpAny_pure (wpAny_bind (wpAny_mkText (wpAny_bind (wpAny_loadPart ho ?_)))))))
 dsimp only
 have c : (!es.toArray.any (·.key.isStr name) && es.toArray.any (·.refKey)) = false := by
  have := hg name
  rw [getL_map] at this
  rw [← Array.any_toList, ← Array.any_toList]
  cases q : es.find? (·.key.isStr name) with
  | some e => rw [show (es.toArray.toList.any fun x => x.key.isStr name) = true from List.any_eq_true.mpr ⟨e, List.mem_of_find?_eq_some q, List.find?_some (p := fun x : DictEntry => x.key.isStr name) q⟩]; rfl
  | none =>
   rw [q] at this
   cases r : es.any (·.refKey) with
   | false => simp [r]
   | true => rw [r] at this; simp at this
 rw [aRefKeyMayBeTheName_at, c]
 refine wpAny_updatePart ho ?_
 have hsame := Heap.SameBut.update s1.heap dx (Obj.putName name (PyData.keyHash C.w.params name) (.str name s1.toks) v)
 have hput := putName_dict name (PyData.keyHash C.w.params name) (.str name s1.toks) v es n
 have hu := Heap.get?_update_self (Obj.putName name (PyData.keyHash C.w.params name) (.str name s1.toks) v) ho (by rw [hput]; rfl)
 rw [hput] at hu
 have hl : (putL name (PyData.keyHash C.w.params name) (.str name s1.toks) v es).length ≤ m + 1 := Nat.le_trans (put_len es) (Nat.add_le_add_right hz8 1)
 refine wpAny_bind (wpAny_lookBehind hu (pastItsLine_dict (by rw [List.size_toArray, sizeLine_eq]; omega)) ?_)
 rw [e1] at ho hsame hu
 obtain ⟨k', t'⟩ := k.setAttrs (tk := s1.toks + 1) hd ho hsame hu hl (f' := attrUpd f name v) fun y => by
  rw [getL_put]; unfold attrUpd
  split
  · rfl
  · exact hg y
 have e2 : s1 = { s with toks := s.toks + 1 } := hs1.symm
 refine wpAny_pure (h _ ?_ ?_)
 · rw [e2]; rw [e2] at k'; exact k'
 · rw [e2]; rw [e2] at t'; exact t'
noncomputable def instSet (K : Frag) (Cl : Addr) (name : Str) : Bool := (findIn K (.ref Cl) "__setattr__" == some (some (.builtin "object.__setattr__"))) && plainOver K Cl && (takerIn K Cl name == some none) && (clsIn K Cl).any (·.hasDict)
theorem Ex.assignAttr {o value : Expr} {name : Str} {apos pos : Pos} (h : Ev C A env (eval value env) ρ μ fun d μ1 => Ev C A env (eval o env) ρ μ1 fun a μ2 => ∃ x Cl dx f m v, d = .raw v ∧ a = .raw (.ref x) ∧ μ2 x = some (.inst Cl dx) ∧ μ2 dx = some (.attrs f m) ∧ m ≤ 100 ∧ instSet C.K Cl name = true ∧
 Q .next ρ (upd μ2 dx (.attrs (attrUpd f name v) (m + 1))))
 (hs : swapsWith value (some (.Attribute o name apos)) pos.line env = pure false) : Ex C A env (exec (.Assign [.Attribute o name apos] value pos) env) ρ μ Q X := by
 intro s k F
 refine plainObj_wpAny_Assign_Attribute (wpAny_mono (h s k F) ?_ fun _ _ x => x.elim) hs
 rintro v s1 ⟨d, μ1, r1, k1, t1, h1⟩
 refine wpAny_mono (h1 s1 k1 (F.step t1 k)) ?_ fun _ _ x => x.elim
 rintro va s2 ⟨a, μ2, r2, k2, t2, x, Cl, dx, f, m, v', rfl, rfl, hx, hd, hm, hi, hq⟩
 (first | (replace r1 := r1.inv; obtain rfl := r1) | (replace r1 := r1.inv; obtain ⟨_, rfl⟩ := r1) | cases r1); (first | (replace r2 := r2.inv; obtain rfl := r2) | (replace r2 := r2.inv; obtain ⟨_, rfl⟩ := r2) | cases r2)
 unfold instSet at hi
 simp only [Bool.and_eq_true, beq_iff_eq] at hi
 refine setAttr_inst k2 hx hd hi.1.1.1 hi.1.1.2 hi.1.2 hi.2 hm fun s' k' t' => ?_
 exact ⟨.next, ρ, _, .next, k', F.step ((t1.trans t2).trans t') k, ((t1.trans t2).trans t').f env, hq⟩
theorem under_call (A : Around) (args : Args) : (A.under (.builtin "type.__call__" args)).handled = A.handled ∧ (A.under (.builtin "type.__call__" args)).depth ≤ A.depth + 1 ∧ (A.under (.builtin "type.__call__" args)).units ≤ A.units + 3 ∧ (A.under (.builtin "type.__call__" args)).frames = A.frames := by
 refine ⟨rfl, ?_, ?_, rfl⟩
 · show A.depth + Code.weight _ ≤ _
   have h0 : Code.frames (.builtin "type.__call__" args) = 0 := by kernel_rfl
   have h1 : Code.isGuard (.builtin "type.__call__" args) = false := by show guardIds.contains "type.__call__" = false; decide +kernel
   have h2 : Code.isCaller (.builtin "type.__call__" args) = false := by kernel_rfl
   have : Code.weight (.builtin "type.__call__" args) ≤ 1 := by
    unfold Code.weight
    rw [h0, h1, h2]
    split <;> simp
   omega
 · show A.units + Code.cUnits _ ≤ _
   have h0 : Code.frames (.builtin "type.__call__" args) = 0 := by kernel_rfl
   have : Code.cUnits (.builtin "type.__call__" args) ≤ 3 := by
    show 1 + 3 * Code.frames (.builtin "type.__call__" args) ≤ 3
    rw [h0]; decide
   omega
theorem Call.cls {Cl fI : Addr} {ds : List D} {Q : D → Mem → Prop} (hm : makesIn C.K Cl = true) (hi : findIn C.K (.ref Cl) "__init__" = some (some (.ref fI))) (hf : typeIn C.K (.ref fI) = some (.type "function"))
 (h : ∀ x dx A', x ≠ dx → μ x = none → μ dx = none → A'.handled = A.handled → A'.depth ≤ A.depth + 1 → A'.units ≤ A.units + 3 → A'.frames = A.frames →
  CallC C A' (.ref fI) (.raw (.ref x) :: ds) (upd (upd μ dx (.attrs (fun _ => none) 0)) x (.inst Cl dx)) (fun d μ' => d = .none ∧ Q (.raw (.ref x)) μ')) : Call C A (.ref Cl) ds μ Q := by
 intro s vs k r
 obtain ⟨hh, g, d, t, os⟩ := s
 have X := k.K
 refine wpAny_call (make_core (init := .ref fI) (makes_of X hm) (looks_findIn X hi) (fun self => bind_fn X self hf) (.inl rfl) ?_)
 have k1 := k.new (o := emptyDict) (mo := .attrs (fun _ => none) 0) ⟨[], 0, Heap.get?_push_size _ rfl, Nat.le_refl _, fun x => rfl⟩
 have k2 := k1.new (o := instObj Cl hh.objs.size) (mo := .inst Cl hh.objs.size) (Heap.get?_push_size _ rfl)
 have hsz : ({ heap := hh.push emptyDict, gens := g, drawn := d, toks := t, os := os } : Shared).heap.objs.size = hh.objs.size + 1 := Heap.size_push ..
 have t2 := (Step.new (s := ⟨hh, g, d, t, os⟩) (o := emptyDict) (μ := μ) (mo := .attrs (fun _ => none) 0)).trans (Step.new (o := instObj Cl hh.objs.size) (mo := .inst Cl hh.objs.size))
 obtain ⟨u1, u2, u3, u4⟩ := under_call A ⟨.ref Cl :: vs, []⟩
 rw [hsz] at k2 t2
 have h1 := h (hh.objs.size + 1) hh.objs.size _ (Nat.succ_ne_self _) (k.lt (Nat.le_succ _)) k.fresh u1 u2 u3 u4 _ (.ref (hh.objs.size + 1) :: vs) k2 (.cons (.raw _) (t2.repAll k r))
 refine codeAny_mono h1 fun r s' z => ?_
 cases r with
 | error e => exact z
 | ok f =>
  cases f with
  | ret v =>
   obtain ⟨d', μ', r', k', t', rfl, hq⟩ := z
   cases r'
   exact ⟨rfl, _, μ', .raw _, k', t2.trans t', hq⟩
  | _ => exact (z : False).elim
end
end Mine
namespace Mine
open PySem.Builtin PySem.Builtin.ObjectAttr
set_option maxHeartbeats 1000000
noncomputable abbrev excObj (C t : Addr) : Obj := { cls := .ref C, data := .fields #[.ref t, .none, .none, .none, .bool false, .none] }
section
variable {prog : Program} {w : World} {A : Around} {R : Result → Shared → Prop} {E : Value → Shared → Prop} {h : Heap} {g : Array GenState} {d : Drawn} {t : Nat} {os : OsState}
variable {nm q : Str} {C N : Addr} {bs bm : List Value} {hdct : Bool} {sn : List Str} {sub : List Value} {ab : Bool} {col : Option Bool} {dd : Option Addr} {k0 k1 k2 k3 k5 : Option Value}
theorem exc_check {M : Model} (hB : bm.contains (.type "Exception") = true) {rest : List Value} {Q : Unit → Shared → Prop} (hC : h.get? C = some (excClassObj nm q C N bs bm hdct sn sub ab col dd k0 k1 k2 k3 k5 "Exception.__new__"))
 (hq : Q () ⟨h, g, d, t, os⟩) : wpAny M A (checkBuiltinCall "Exception.__new__" ⟨.ref C :: rest, []⟩) Q E ⟨h, g, d, t, os⟩ := by
 have F := PySem.F.excBase_Exception
 have hcont : (Value.ref C :: bm).contains (.type "Exception") = true := by rw [List.contains_cons, hB, Bool.or_true]
 have hstar := F.noStar
 unfold checkBuiltinCall
 rw [F.newKind, F.newSplit]
 dsimp only
 repeat (first | refine wpAny_loadPart_at hC ?_ | (refine wpAny_isSubtype_exc hC ?_; rw [hcont]) | refine wpAny_staticBase_exc hC ?_ | refine wpAny_madeBy_exc hC ?_ | simp only [bne_self_eq_false, Bool.false_eq_true, if_false] | wp_step)
 exact hq
theorem exc_new (hB : bm.contains (.type "Exception") = true) (hA : bm.contains (.type "AttributeError") = false) (hN : bm.contains (.type "NameError") = false) {rest : List Value}
 (hC : h.get? C = some (excClassObj nm q C N bs bm hdct sn sub ab col dd k0 k1 k2 k3 k5 "Exception.__new__"))
 (hq : R (.ok (.ret (.ref (h.objs.size + 1)))) ⟨(h.push { cls := .type "tuple", data := .seq rest.toArray }).push (excObj C h.objs.size), g, d, t, os⟩) (hrest : rest.length ≤ sizeLine) :
 codeAny (model prog w) A (.builtin "Exception.__new__" ⟨.ref C :: rest, []⟩) R ⟨h, g, d, t, os⟩ := by
 have F := PySem.F.excBase_Exception
 have hends := F.ends
 have hcB : (Value.ref C :: bm).contains (.type "Exception") = true := by rw [List.contains_cons, hB, Bool.or_true]
 have hcA : (Value.ref C :: bm).contains (.type "AttributeError") = false := by rw [List.contains_cons, hA]; rfl
 have hcN : (Value.ref C :: bm).contains (.type "NameError") = false := by rw [List.contains_cons, hN]; rfl
 refine codeAny_builtinAt F.entry ?_
 unfold Builtin.«BaseException.__new__»
 refine PySem.wpAt_bind ?_
 show PySem.wpAt _ _ _ (stack >>= _) _ _ _
 refine PySem.wpAt_bind (PySem.wpAt_stack fun p below => PySem.wpAt_of_wpAny ?_)
 wp_walk
 refine PySem.wpAt_of_wpAny ?_
 rw [F.owner]
 repeat (first | with_reducible refine wpAny_madeHere_exc F.canon hC ?_ | with_reducible refine wpAny_loadPart_at hC ?_ | (with_reducible refine wpAny_isSubtype_exc hC ?_; first | rw [hcB] | rw [hcA] | rw [hcN]) | wp_step)
 show R _ _
 rw [Heap.size_push]
 exact hq
theorem exc_type_call {rest : List Value} {fI : Addr} {Q : PySem.Fin → Shared → Prop} (hB : bm.contains (.type "Exception") = true) (hA : bm.contains (.type "AttributeError") = false) (hN : bm.contains (.type "NameError") = false)
 (hC : h.get? C = some (excClassObj nm q C N bs bm hdct sn sub ab col dd k0 k1 k2 k3 k5 "Exception.__new__")) (hrest : rest.length ≤ sizeLine)
 (hi : Looks (model prog w) h (typeLookup (.ref C) "__init__") (some (.ref fI))) (hb : ∀ self, Looks (model prog w) h (bindSpecial (.ref fI) self) (.ref fI, [self]))
 (hq : codeAny (model prog w) A (.call (.ref fI) ⟨.ref (h.objs.size + 1) :: rest, []⟩) (InitBack (h.objs.size + 1) fun r s' => match r with | .ok f => Q (.done f) s' | .error e => E e s')
  ⟨(h.push { cls := .type "tuple", data := .seq rest.toArray }).push (excObj C h.objs.size), g, d, t, os⟩) :
 wpAny (model prog w) A (Builtin.«type.__call__» ⟨.ref C :: rest, []⟩) Q E ⟨h, g, d, t, os⟩ := by
 have F := PySem.F.excBase_Exception
 repeat (first | with_reducible refine wpAny_loadPart_at hC ?_ | with_reducible refine wpAny_madeBy_exc hC ?_ | wp_step)
 refine codeAny_call_builtin_code (Code.quiet_builtin _ F.quiet) (exc_check hB hC ?_)
 refine exc_new hB hA hN hC ?_ hrest
 show wpAny _ _ _ _ _ _
 have k : ∀ b o, h.get? b = some o → ((h.push { cls := .type "tuple", data := .seq rest.toArray }).push (excObj C h.objs.size)).get? b = some o := fun b o e => Heap.get?_push_of_some _ (Heap.get?_push_of_some _ e)
 have hC₁ := k _ _ hC
 have hget : ((h.push { cls := .type "tuple", data := .seq rest.toArray }).push (excObj C h.objs.size)).get? (h.objs.size + 1) = some { cls := .ref C, data := .fields #[.ref h.objs.size, .none, .none, .none, .bool false, .none] } := by heap_get
 have hcC : (Value.ref C :: bm).contains (.ref C) = true := by simp
 unfold isInstance
 repeat (first | with_reducible refine wpAny_loadPart_at hget ?_ | (with_reducible refine wpAny_isSubtype_exc hC₁ ?_; rw [hcC]) | wp_step)
 show wpAny _ _ (typeLookup (.ref C) _) _ _ _
 refine (hi.keeps k).here ?_
 refine wpAny_holding (wpAny_bind (((hb _).keeps k).here ?_))
 refine wpAny_bind (wpAny_call (codeAny_mono hq fun r s' z => ?_))
 cases r with
 | error e => exact z
 | ok f =>
  cases f with
  | ret v =>
   obtain ⟨rfl, z⟩ := z
   wp_walk
   exact z
  | _ => exact (z : False).elim
theorem exc_core {rest : List Value} {fI : Addr} (hB : bm.contains (.type "Exception") = true) (hA : bm.contains (.type "AttributeError") = false) (hN : bm.contains (.type "NameError") = false)
 (hC : h.get? C = some (excClassObj nm q C N bs bm hdct sn sub ab col dd k0 k1 k2 k3 k5 "Exception.__new__")) (hrest : rest.length ≤ sizeLine)
 (hi : Looks (model prog w) h (typeLookup (.ref C) "__init__") (some (.ref fI))) (hb : ∀ self, Looks (model prog w) h (bindSpecial (.ref fI) self) (.ref fI, [self]))
 (hq : codeAny (model prog w) (A.under (.builtin "type.__call__" ⟨.ref C :: rest, []⟩)) (.call (.ref fI) ⟨.ref (h.objs.size + 1) :: rest, []⟩) (InitBack (h.objs.size + 1) R)
  ⟨(h.push { cls := .type "tuple", data := .seq rest.toArray }).push (excObj C h.objs.size), g, d, t, os⟩) :
 codeAny (model prog w) A (.call (.ref C) ⟨rest, []⟩) R ⟨h, g, d, t, os⟩ := by
 have f1 := tc_lookup
 have f2 := tc_bind (.ref C)
 have hT : (⟨h, g, d, t, os⟩ : Shared).TypeIs (.ref C) "type" := ⟨_, hC, rfl⟩
 refine codeAny_of_tree ?_
 show wpAny _ _ (callAny (.ref C) _) _ _ _
 repeat (any_goals (first | assumption | with_reducible refine wpAny_loadPart_at hC ?_ | wp_step))
 refine ⟨rfl, ?_⟩
 refine codeAny_call_builtin_at (Code.quiet_builtin _ (by decide +kernel)) entry_typeCall (wpAny_check_type_call_sub hC (exc_type_call hB hA hN hC hrest hi hb (codeAny_mono hq fun r s' z => ?_)))
 cases r with
 | error e => exact z
 | ok f =>
  cases f with
  | ret v => exact z
  | _ => exact (z : False).elim
end
end Mine
namespace Mine
open PySem.Builtin PySem.Builtin.ObjectAttr
set_option maxHeartbeats 1000000
section
variable {prog : Program} {w : World} {A : Around} {R : Result → Shared → Prop} {E : Value → Shared → Prop} {h : Heap} {g : Array GenState} {d : Drawn} {t : Nat} {os : OsState}
variable {nm q : Str} {C N : Addr} {bs bm : List Value} {hdct : Bool} {sn : List Str} {sub : List Value} {ab : Bool} {col : Option Bool} {dd : Option Addr} {k0 k1 k2 k3 k5 : Option Value}
theorem exc_check_init {M : Model} (hB : bm.contains (.type "Exception") = true) {e : Addr} {oe : Obj} {rest : List Value} {Q : Unit → Shared → Prop}
 (hC : h.get? C = some (excClassObj nm q C N bs bm hdct sn sub ab col dd k0 k1 k2 k3 k5 "Exception.__new__")) (he : h.get? e = some oe) (hcls : oe.cls = .ref C) (hq : Q () ⟨h, g, d, t, os⟩) :
 wpAny M A (checkBuiltinCall "Exception.__init__" ⟨.ref e :: rest, []⟩) Q E ⟨h, g, d, t, os⟩ := by
 have F := PySem.F.excBase_Exception
 have hcB : (Value.ref C :: bm).contains (.type "Exception") = true := by rw [List.contains_cons, hB, Bool.or_true]
 have hshort := F.noStar
 simp only [checkBuiltinCall, F.initKind, F.initSplit, F.initRow]
 repeat (first | (with_reducible refine wpAny_loadPart_at he ?_; rw [hcls]) | with_reducible refine wpAny_loadPart_at hC ?_ | (with_reducible refine wpAny_isSubtype_exc hC ?_; rw [hcB]) | wp_step)
 refine wpAny_onRaise ?_
 rw [show ∀ (a b : String) (n : Nat), Bind.check ⟨.positional, "*", "Exception", .self, [⟨"args", .varPos, false⟩]⟩ a b n (List.map (fun x => x.fst) ({ pos := Value.ref e :: rest } : Args).kw) = pure () from
  fun a b n => check_star_args _ _ _ _ _ _]
 exact wpAny_pure hq
theorem exc_call_init (hB : bm.contains (.type "Exception") = true) {e t0 : Addr} {v : Value} {Q : Value → Shared → Prop}
 (hC : h.get? C = some (excClassObj nm q C N bs bm hdct sn sub ab col dd k0 k1 k2 k3 k5 "Exception.__new__")) (he : h.get? e = some (excObj C t0))
 (hq : ∀ h', h'.get? e = some (excObj C h.objs.size) → h'.get? h.objs.size = some { cls := .type "tuple", data := .seq #[v] } → (∀ b o, b ≠ e → h.get? b = some o → h'.get? b = some o) → Q .none ⟨h', g, d, t, os⟩) :
 wpAny (model prog w) A (call (.builtin "Exception.__init__") [.ref e, v]) Q E ⟨h, g, d, t, os⟩ := by
 have F := PySem.F.excBase_Exception
 refine wpAny_call (codeAny_call_builtin F.init.plain F.initEntry (exc_check_init hB hC he rfl ?_))
 wp_walk
 have he' : (h.push { cls := .type "tuple", data := .seq #[v] }).get? e = some (excObj C t0) := Heap.get?_push_of_some _ he
 have ne : h.objs.size ≠ e := Nat.ne_of_gt (Heap.lt_size he)
 refine hq _ (Heap.get?_update_self _ he' rfl) ?_ fun b o hb hbo => ?_
 · rw [Heap.get?_update_other _ _ ne.symm]; exact Heap.get?_push_size _ rfl
 · rw [Heap.get?_update_other _ _ hb.symm]; exact Heap.get?_push_of_some _ hbo
end
theorem refuse_base (self : Value) : refuseLoop self "__setattr__" [.type "Exception", .type "BaseException", .type "object"] = pure () := by
 first | rfl | kernel_rfl
noncomputable def excMro (C B0 : Addr) : List Value := [.ref C, .ref B0, .type "Exception", .type "BaseException", .type "object"]
noncomputable def setOver (K : Frag) (C B0 : Addr) : Bool := (clsIn K C).any fun cd => cd.mro == excMro C B0
section
variable {prog : Program} {w : World} {A : Around} {R : Result → Shared → Prop} {s : Shared} {K : Frag} {C x : Addr}
theorem exc_open {ox : Obj} {od : Option Obj} {name : Str} {tk : Tok} {v : Value} {r : Option Value} (X : K.In s.heap) (I : InstAt s.heap x ox C od) {B0 : Addr} (hp : setOver K C B0 = true) (ht : takerIn K C name = some r)
 (h : ∀ b, wpAny (model prog w) A.in1 (match r with | some a => setByDescriptor a (.ref x) v | none => storeInOwnDict (.ref x) (.ref C) (.str name tk) name v b)
  (fun fin s' => match fin with | .done f => R (.ok f) s' | .again c' => c'.quiet = true ∧ codeAny (model prog w) A c' R s') (fun e s' => R (.error e) s') s) :
 codeAny (model prog w) A (.call (.builtin "object.__setattr__") ⟨[.ref x, .str name tk, v], []⟩) R s := by
 have SF := PySem.F.store_object
 obtain ⟨cd, hc, ho⟩ := any_some hp
 have ho : cd.mro = excMro C B0 := by simpa using ho
 have hob : cd.mro.contains (.type "object") = true := by rw [ho]; simp [excMro]
 have ne : cd.mro.isEmpty = false := by cases q : cd.mro with | nil => rw [q] at hob; cases hob | cons _ _ => rfl
 have sub : Looks (model prog w) s.heap (isInstance (.ref x) (.type "object")) true := I.type.andThen (looks_mroIn X (by unfold mroIn; rw [hc, Option.bind_some, if_neg (by rw [ne]; decide), hob]))
 refine codeAny_call_builtin SF.slot.plain SF.entry (@check_slot (model prog w) _ _ s "object.__setattr__" "object" "__setattr__" (.ref x) [.str name tk, v] [] _ SF.kind SF.split sub (SF.args (.ref x) (.str name tk) v) ?_)
 obtain ⟨attr, ha, hr⟩ := Option.bind_eq_some_iff.mp ht
 have hm : Looks (model prog w) s.heap (mroOf (.ref C)) cd.mro := (looks_clsIn X hc).andThen .now
 have L3 : Looks (model prog w) s.heap (storeTaker? attr) r := by
  cases attr with
  | none => cases hr; exact .now
  | some a =>
   obtain ⟨b, hb, rfl⟩ := Option.map_eq_some_iff.mp hr
   refine (looks_takesIn X hb).andThen ?_
   cases b <;> exact .now
 rw [osa_eq, refuse_eq]
 refine wpAny_bind (wpAny_bind (I.type.here (wpAny_bind (hm.here ?_))))
 rw [ho]
 unfold excMro
 rw [refuseLoop_ref, refuseLoop_ref, refuse_base]
 refine wpAny_pure (wpAny_bind (I.type.here (wpAny_bind ((looks_findIn X ha).here (wpAny_bind (L3.here ?_))))))
 exact h _
end
section
variable {prog : Program} {w : World} {A : Around} {E : Value → Shared → Prop} {s : Shared} {K : Frag} {C e t dx : Addr} {name : Str} {v : Value} {QQ : Unit → Shared → Prop}
theorem exc_set1 (X : K.In s.heap) (he : s.heap.get? e = some (excObj C t)) (hs : findIn K (.ref C) "__setattr__" = some (some (.builtin "object.__setattr__"))) {B0 : Addr} (hp : setOver K C B0 = true) (ht : takerIn K C name = some none)
 (hh : (clsIn K C).any (·.hasDict) = true)
 (h : ∀ s' tk hsh n, s' = { s with heap := s'.heap, toks := s'.toks } → s'.heap.get? e = some { excObj C t with dict := some s.heap.objs.size } → s'.heap.get? s.heap.objs.size = some (dictOf [⟨hsh, .str name tk, v⟩] n) →
  (∀ b o, b ≠ e → s.heap.get? b = some o → s'.heap.get? b = some o) → QQ () s') : wpAny (model prog w) A (setAttr (.ref e) name v) QQ E s := by
 have I : InstAt s.heap e (excObj C t) C none := ⟨he, rfl, rfl, trivial⟩
 generalize hs1 : ({ s with toks := s.toks + 1 } : Shared) = s1
 have e1 : s1.heap = s.heap := by rw [← hs1]
 refine set_plain X I hs ?_
 rw [hs1]
 rw [← e1] at I X he
 refine exc_open X I hp ht fun b => ?_
 obtain ⟨cd, hc, hd'⟩ := any_some hh
 refine wpAny_bind (wpAny_pure (wpAny_bind (wpAny_bind (wpAny_loadPart he (wpAny_bind ((looks_clsIn X hc).here ?_))))))
 rw [hd']
 have ne : s1.heap.objs.size ≠ e := Nat.ne_of_gt (Heap.lt_size he)
 refine wpAny_bind (wpAny_alloc ?_)
 have he2 : (s1.heap.push { cls := .type "dict", data := .dict #[] }).get? e = some (excObj C t) := Heap.get?_push_of_some _ he
 refine wpAny_bind (wpAny_update he2 ?_)
 have hu := Heap.get?_update_self (fun o => { o with dict := some s1.heap.objs.size }) he2 rfl
 have oth : ∀ b o, b ≠ e → (s1.heap.push { cls := .type "dict", data := .dict #[] }).get? b = some o → ((s1.heap.push { cls := .type "dict", data := .dict #[] }).update e fun o => { o with dict := some s1.heap.objs.size }).get? b = some o := fun b o hb hbo => (Heap.get?_update_other _ _ hb.symm).trans hbo
 have hdx := oth s1.heap.objs.size _ ne (Heap.get?_push_size _ rfl)
 generalize hh2 : (s1.heap.push { cls := .type "dict", data := .dict #[] }).update e (fun o => { o with dict := some s1.heap.objs.size }) = h2 at hu oth hdx ⊢
 refine wpAny_pure (a := some s1.heap.objs.size) (wpAny_bind (wpAny_pure (wpAny_bind ?_)))
 unfold nsSet
 refine wpAny_bind (wpAny_bind (wpAny_askSetting (wpAny_pure (wpAny_bind (wpAny_mkText (wpAny_bind (wpAny_loadPart hdx ?_)))))))
 dsimp only
 refine wpAny_updatePart hdx ?_
 have hput := putName_dict name (PyData.keyHash w.params name) (.str name s1.toks) v [] 0
 have hu3 := Heap.get?_update_self (Obj.putName name (PyData.keyHash w.params name) (.str name s1.toks) v) hdx (by show (Obj.putName _ _ _ _ (dictOf [] 0)).isFreed = false; rw [hput]; rfl)
 have hput' : Obj.putName name (PyData.keyHash w.params name) (.str name s1.toks) v { cls := .type "dict", data := .dict #[] } = dictOf [⟨PyData.keyHash w.params name, .str name s1.toks, v⟩] 1 := hput
 rw [hput'] at hu3
 refine wpAny_bind (wpAny_lookBehind hu3 (pastItsLine_dict (by simp [sizeLine_eq])) ?_)
 refine wpAny_pure (h _ _ _ _ ?_ ?_ (by rw [← e1]; exact hu3) fun b o hb hbo => ?_)
 · rw [← hs1]
 · rw [← e1]
   exact (Heap.get?_update_other _ _ ne).trans hu
 · have lt : s1.heap.objs.size ≠ b := by rw [e1]; exact Nat.ne_of_gt (Heap.lt_size hbo)
   exact (Heap.get?_update_other _ _ lt).trans (oth b o hb (Heap.get?_push_of_some _ (e1 ▸ hbo)))
end
end Mine
namespace Mine
open PySem.Builtin PySem.Builtin.ObjectAttr
set_option maxHeartbeats 1000000
section
variable {prog : Program} {w : World} {A : Around} {E : Value → Shared → Prop} {s : Shared} {K : Frag} {C e t dx : Addr} {name : Str} {v : Value} {QQ : Unit → Shared → Prop}
theorem exc_set2 {es : List DictEntry} {n : Nat} (X : K.In s.heap) (he : s.heap.get? e = some { excObj C t with dict := some dx }) (hdx : s.heap.get? dx = some (dictOf es n)) (hg : ∃ r, getL name es = some r) (hz : es.length ≤ 100)
 (hs : findIn K (.ref C) "__setattr__" = some (some (.builtin "object.__setattr__"))) {B0 : Addr} (hp : setOver K C B0 = true) (ht : takerIn K C name = some none) (hh : (clsIn K C).any (·.hasDict) = true)
 (h : ∀ s' tk hsh n', s' = { s with heap := s'.heap, toks := s'.toks } → Heap.SameBut dx s.heap s'.heap → s'.heap.get? dx = some (dictOf (putL name hsh (.str name tk) v es) n') → QQ () s') : wpAny (model prog w) A (setAttr (.ref e) name v) QQ E s := by
 have I : InstAt s.heap e { excObj C t with dict := some dx } C (some (dictOf es n)) := ⟨he, rfl, rfl, hdx⟩
 generalize hs1 : ({ s with toks := s.toks + 1 } : Shared) = s1
 have e1 : s1.heap = s.heap := by rw [← hs1]
 refine set_plain X I hs ?_
 rw [hs1]
 rw [← e1] at I X he hdx
 refine exc_open X I hp ht fun b => ?_
 obtain ⟨cd, hc, hd'⟩ := any_some hh
 refine wpAny_bind (wpAny_pure (wpAny_bind (wpAny_bind (wpAny_loadPart he (wpAny_bind ((looks_clsIn X hc).here ?_))))))
 rw [hd']
 refine wpAny_pure (a := some dx) (wpAny_bind (wpAny_pure (wpAny_bind ?_)))
 unfold nsSet
 refine wpAny_bind (wpAny_bind (wpAny_askSetting (wpAny_pure (wpAny_bind (wpAny_mkText (wpAny_bind (wpAny_loadPart hdx ?_)))))))
 dsimp only
 have c : (!es.toArray.any (·.key.isStr name) && es.toArray.any (·.refKey)) = false := by
  obtain ⟨r, this⟩ := hg
  rw [getL_map] at this
  rw [← Array.any_toList, ← Array.any_toList]
  cases q : es.find? (·.key.isStr name) with
  | some e => rw [show (es.toArray.toList.any fun x => x.key.isStr name) = true from List.any_eq_true.mpr ⟨e, List.mem_of_find?_eq_some q, List.find?_some (p := fun x : DictEntry => x.key.isStr name) q⟩]; rfl
  | none =>
   rw [q] at this
   cases r : es.any (·.refKey) with
   | false => simp [r]
   | true => rw [r] at this; simp at this
 rw [aRefKeyMayBeTheName_at, c]
 refine wpAny_updatePart hdx ?_
 have hsame := Heap.SameBut.update s1.heap dx (Obj.putName name (PyData.keyHash w.params name) (.str name s1.toks) v)
 have hput := putName_dict name (PyData.keyHash w.params name) (.str name s1.toks) v es n
 have hu := Heap.get?_update_self (Obj.putName name (PyData.keyHash w.params name) (.str name s1.toks) v) hdx (by rw [hput]; rfl)
 rw [hput] at hu
 have hl : (putL name (PyData.keyHash w.params name) (.str name s1.toks) v es).length ≤ 101 := Nat.le_trans (put_len es) (by omega)
 refine wpAny_bind (wpAny_lookBehind hu (pastItsLine_dict (by rw [List.size_toArray, sizeLine_eq]; omega)) ?_)
 refine wpAny_pure (h _ _ _ _ ?_ (by rw [← e1]; exact hsame) hu)
 rw [← hs1]
end
noncomputable abbrev excIs (Cl : Addr) (dd : Option Addr) (o : Obj) : Prop := ∃ t, o = { excObj Cl t with dict := dd }
structure ExcCls (K : Frag) (Cl B0 fI : Addr) : Prop where
 obj : ∃ nm q N bs hdct sn sub ab col dd k0 k1 k2 k3 k5, K.lookup Cl = some (excClassObj nm q Cl N bs [.ref B0, .type "Exception", .type "BaseException", .type "object"] hdct sn sub ab col dd k0 k1 k2 k3 k5 "Exception.__new__")
 init : findIn K (.ref Cl) "__init__" = some (some (.ref fI))
 fn : typeIn K (.ref fI) = some (.type "function")
 set : findIn K (.ref Cl) "__setattr__" = some (some (.builtin "object.__setattr__"))
 over : setOver K Cl B0 = true
 has : (clsIn K Cl).any (·.hasDict) = true
section
variable {C : Cx} {A : Around} {env : Env} {ρ : Str → Option D} {μ : Mem} {Q : Out → (Str → Option D) → Mem → Prop} {X : Xp} {Cl B0 fI : Addr}
theorem Ok.turn {s s' : Shared} {μ' : Mem} {S : List Addr} (k : Ok C s μ) (he : s' = { s with heap := s'.heap, toks := s'.toks }) (kp : ∀ b o, b ∉ S → s.heap.get? b = some o → s'.heap.get? b = some o)
 (hS : ∀ b ∈ S, μ b ≠ none ∧ (∀ vs n, ¬ IsT s.heap b vs n) ∧ ∃ mo, μ' b = some mo ∧ MemOk C.B s'.heap b mo) (hn : ∀ b, b ∉ S → μ' b = μ b ∨ (μ b = none ∧ s.heap.objs.size ≤ b ∧ ∃ mo, μ' b = some mo ∧ MemOk C.B s'.heap b mo)) : Ok C s' μ' ∧ Step s μ s' μ' := by
 have tp : ∀ b us m, IsT s.heap b us m → IsT s'.heap b us m := fun b us m t => kp b _ (fun e => (hS b e).2.1 us m t) t
 refine ⟨⟨fun c mo e => ?_, fun c o e => ⟨?_, ?_⟩, fun c e => ?_⟩, ⟨he, fun c o h1 h2 => ?_⟩⟩
 · by_cases hc : c ∈ S
   · obtain ⟨_, _, mo', h1, h2⟩ := hS c hc
     rw [h1] at e; cases e; exact h2
   · rcases hn c hc with h | ⟨_, _, mo', h1, h2⟩
     · rw [h] at e
       have := k.mem c mo e
       cases mo with
       | list xs => obtain ⟨vs, n, h1, h2⟩ := this; exact ⟨vs, n, kp _ _ hc h1, h2.mono fun a vs n _ t => tp a vs n t⟩
       | inst C dx => exact kp _ _ hc this
       | attrs f m => obtain ⟨es, n, h1, h2⟩ := this; exact ⟨es, n, kp _ _ hc h1, h2⟩
       | dict f ps => obtain ⟨es, n, h1, h2⟩ := this; exact ⟨es, n, kp _ _ hc h1, h2.mono fun v d r => r.mono fun a vs n _ t => tp a vs n t⟩
       | obj P => obtain ⟨o, h1, h2⟩ := this; exact ⟨o, kp _ _ hc h1, h2⟩
     · rw [h1] at e; cases e; exact h2
 · have h1 := (k.base c o e).1
   have hc : c ∉ S := fun q => (hS c q).1 h1
   rcases hn c hc with h | ⟨_, h2, _⟩
   · rw [h]; exact h1
   · rw [k.lt0 h2] at e; cases e
 · have h1 := (k.base c o e).1
   exact kp c o (fun q => (hS c q).1 h1) (k.base c o e).2
 · obtain ⟨h1, o, h2⟩ := k.ban c e
   have hc : c ∉ S := fun q => (hS c q).1 h1
   rcases hn c hc with h | ⟨_, h3, _⟩
   · exact ⟨h.trans h1, o, kp c o hc h2⟩
   · exact absurd (Heap.lt_size h2) (Nat.not_lt.mpr h3)
 · have hc : c ∉ S := fun q => (hS c q).1 h2
   rcases hn c hc with h | ⟨_, h3, _⟩
   · exact ⟨h.trans h2, kp c o hc h1⟩
   · exact absurd (Heap.lt_size h1) (Nat.not_lt.mpr h3)
theorem exc_notT {h : Heap} {e : Addr} {P : Obj → Prop} {B : Addr → Prop} (m : MemOk B h e (.obj P)) (vs : Array Value) (n : Nat) : ¬ IsT h e vs n := fun t => m.notTuple t
theorem Ex.excSet1 {o value : Expr} {name : Str} {apos pos : Pos} (K : ExcCls C.K Cl B0 fI) (ht : takerIn C.K Cl name = some none)
 (h : Ev C A env (eval value env) ρ μ fun d μ1 => Ev C A env (eval o env) ρ μ1 fun a μ2 => ∃ e, a = .raw (.ref e) ∧ μ2 e = some (.obj (excIs Cl none)) ∧
  ∀ dx v, dx ≠ e → μ2 dx = none → (∃ h : Heap, Rep C.B h v d) → Q .next ρ (upd (upd μ2 dx (.attrs (attrUpd (fun _ => none) name v) 1)) e (.obj (excIs Cl (some dx)))))
 (hs : swapsWith value (some (.Attribute o name apos)) pos.line env = pure false) : Ex C A env (exec (.Assign [.Attribute o name apos] value pos) env) ρ μ Q X := by
 intro s k F
 refine plainObj_wpAny_Assign_Attribute (wpAny_mono (h s k F) ?_ fun _ _ x => x.elim) hs
 rintro v s1 ⟨d, μ1, r1, k1, t1, h1⟩
 refine wpAny_mono (h1 s1 k1 (F.step t1 k)) ?_ fun _ _ x => x.elim
 rintro va s2 ⟨a, μ2, r2, k2, t2, e, rfl, he, hq⟩
 (first | (replace r2 := r2.inv; obtain rfl := r2) | (replace r2 := r2.inv; obtain ⟨_, rfl⟩ := r2) | cases r2)
 have m := k2.mem e _ he
 obtain ⟨oe, ho, ⟨t, rfl⟩, _⟩ := id m
 refine exc_set1 k2.K ho K.set K.over ht K.has fun s' tk hsh n heq h1 h2 h3 => ?_
 have ne : s2.heap.objs.size ≠ e := Nat.ne_of_gt (Heap.lt_size ho)
 obtain ⟨k', t'⟩ := k2.turn (S := [e]) (μ' := upd (upd μ2 s2.heap.objs.size (.attrs (attrUpd (fun _ => none) name v) 1)) e (.obj (excIs Cl (some s2.heap.objs.size)))) heq (fun b o hb hbo => h3 b o (fun q => hb (by simp [q])) hbo)
  (fun b hb => by
   rw [List.mem_singleton.mp hb]
   refine ⟨by rw [he]; simp, exc_notT m, .obj (excIs Cl (some s2.heap.objs.size)), by unfold upd; rw [if_pos rfl], ⟨_, h1, ⟨t, rfl⟩, by simp⟩⟩)
  (fun b hb => by
   have nb : b ≠ e := fun q => hb (by simp [q])
   by_cases q : b = s2.heap.objs.size
   · right
     subst q
     refine ⟨k2.fresh, Nat.le_refl _, .attrs (attrUpd (fun _ => none) name v) 1, by unfold upd; rw [if_neg nb, if_pos rfl], ⟨_, n, h2, by simp, fun y => ?_⟩⟩
     unfold attrUpd
     by_cases q : y = name
     · subst q; simp [getL, Value.isStr]
     · have : (name == y) = false := beq_eq_false_iff_ne.mpr fun e => q e.symm
       simp [getL, Value.isStr, this, q, DictEntry.refKey]
   · left; unfold upd; rw [if_neg nb, if_neg q])
 exact ⟨.next, ρ, _, .next, k', F.step ((t1.trans t2).trans t') k, ((t1.trans t2).trans t').f env, hq _ v ne k2.fresh ⟨_, r1⟩⟩
theorem Ex.excSet2 {o value : Expr} {name : Str} {apos pos : Pos} (K : ExcCls C.K Cl B0 fI) (ht : takerIn C.K Cl name = some none)
 (h : Ev C A env (eval value env) ρ μ fun d μ1 => Ev C A env (eval o env) ρ μ1 fun a μ2 => ∃ e dx f m, a = .raw (.ref e) ∧ μ2 e = some (.obj (excIs Cl (some dx))) ∧ μ2 dx = some (.attrs f m) ∧ m ≤ 100 ∧
  ∀ v, (∃ h : Heap, Rep C.B h v d) → Q .next ρ (upd μ2 dx (.attrs (attrUpd f name v) (m + 1))))
 (hs : swapsWith value (some (.Attribute o name apos)) pos.line env = pure false) : Ex C A env (exec (.Assign [.Attribute o name apos] value pos) env) ρ μ Q X := by
 intro s k F
 refine plainObj_wpAny_Assign_Attribute (wpAny_mono (h s k F) ?_ fun _ _ x => x.elim) hs
 rintro v s1 ⟨d, μ1, r1, k1, t1, h1⟩
 refine wpAny_mono (h1 s1 k1 (F.step t1 k)) ?_ fun _ _ x => x.elim
 rintro va s2 ⟨a, μ2, r2, k2, t2, e, dx, f, m, rfl, he, hdx, hm, hq⟩
 (first | (replace r2 := r2.inv; obtain rfl := r2) | (replace r2 := r2.inv; obtain ⟨_, rfl⟩ := r2) | cases r2)
 obtain ⟨oe, ho, ⟨t, rfl⟩, _⟩ := k2.mem e _ he
 obtain ⟨es, n, hd, hl, hg⟩ := k2.mem dx _ hdx
 refine exc_set2 k2.K ho hd ⟨_, hg name⟩ (Nat.le_trans hl hm) K.set K.over ht K.has fun s' tk hsh n' heq h1 h2 => ?_
 have kt := k2.setAttrs (tk := s'.toks) hdx hd h1 h2 (m' := m + 1) (f' := attrUpd f name v) (Nat.le_trans (put_len es) (Nat.add_le_add_right hl 1)) fun y => by
  rw [getL_put]; unfold attrUpd
  split
  · rfl
  · exact hg y
 rw [← heq] at kt
 obtain ⟨k', t'⟩ := kt
 exact ⟨.next, ρ, _, .next, k', F.step ((t1.trans t2).trans t') k, ((t1.trans t2).trans t').f env, hq v ⟨_, r1⟩⟩
theorem Ex.excInit {x : Str} {px apos pos p2 : Pos} {e1 e2 : Expr} {pl : Sem Bool} (K : ExcCls C.K Cl B0 fI)
 (h : Ev C A env (eval (.Name x px) env) ρ μ fun d μ1 => d = .raw (.type "Exception") ∧ Es C A env (spliced (backTo pos (starEach [e1, e2] env))) ρ μ1 fun ds μ2 => ∃ e d, ds = [.raw (.ref e), d] ∧ μ2 e = some (.obj (excIs Cl none)) ∧ Q .next ρ μ2)
 (hc : eval (.Call (.Attribute (.Name x px) "__init__" apos) [e1, e2] [] pos) env = (do
  let ov ← eval (.Name x px) env
  standAt apos.atName
  let (f, first) ← holding [ov] (getMethod ov "__init__" pl)
  callWith pos f first (backTo pos (starEach [e1, e2] env)) (backToKw pos (keywordEach [] env))))
 (he : starEach (e1 :: [e2]) env = (false, eval e1 env) :: starEach [e2] env) (hp : (backTo pos (starEach [e2] env)).any (·.1) = false)
 (hf : findCls C.K (.type "Exception") (.type "type") "__init__" = some (.val (.builtin "Exception.__init__")))
 (hi : interactive env = false) (hs : swapsWith (.Call (.Attribute (.Name x px) "__init__" apos) [e1, e2] [] pos) none p2.line env = pure false) :
 Ex C A env (exec (.Expr (.Call (.Attribute (.Name x px) "__init__" apos) [e1, e2] [] pos) p2) env) ρ μ Q X := by
 intro s k F
 refine wpAny_Expr_any ?_ hi hs
 rw [hc]
 refine wpAny_bind (wpAny_mono (h s k F) ?_ fun _ _ x => x.elim)
 rintro v s1 ⟨d, μ1, r1, k1, t1, rfl, h1⟩
 (first | (replace r1 := r1.inv; obtain rfl := r1) | (replace r1 := r1.inv; obtain ⟨_, rfl⟩ := r1) | cases r1)
 refine wpAny_bind (wpAny_standAt (wpAny_bind (wpAny_holding ?_)))
 have X1 := k1.K
 have hstub : opaqueClassAbove (.type "Exception") = pure none := by unfold opaqueClassAbove; dsimp only; rw [show Manifest.isStub "Exception" = false from by decide +kernel]; rfl
 have L0 : Looks (model C.prog C.w) s1.heap (typeOf (.type "Exception")) (.type "type") := Looks.of_pure (by kernel_rfl)
 have hg : findIn C.K (.type "type") "__getattribute__" = some (some (.builtin "type.__getattribute__")) := type_tga
 have LO : Looks (model C.prog C.w) s1.heap (opaqueClassAbove (.type "Exception")) none := Looks.of_pure hstub
 unfold getMethod specialOf
 refine wpAny_bind (wpAny_bind (L0.here ((looks_findIn X1 hg).here ?_)))
 dsimp only
 rw [if_pos canon_tga]
 refine wpAny_bind (cls_open X1 LO L0 hg (looks_hook X1 (r := none) (by rfl)) (by show subIn C.K _ _ = _; rfl) hf (wpAny_pure ?_))
 show wpAny _ _ (handedOut _) _ _ _
 rw [handedOut_of (by decide +kernel)]
 refine wpAny_pure (wpAny_pure ?_)
 generalize hs1 : ({ s1 with toks := s1.toks + 1 } : Shared) = s2
 have k2 : Ok C s2 μ1 := hs1 ▸ k1.toks _
 have t2 : Step s μ s2 μ1 := hs1 ▸ t1.trans (.toks _)
 show wpAny _ _ (callWith pos (.builtin "Exception.__init__") [] (backTo pos (starEach [e1, e2] env)) (backToKw pos (keywordEach [] env))) _ _ _
 have h2 := h1 s2 k2 (F.step t2 k)
 rw [he] at h2 ⊢
 refine callWith_of (P := C.K.In) (by show ((false || (backTo pos (starEach [e2] env)).any (·.1)) || false) = false; rw [hp]; rfl) (keepOk.looks rfl) (Calls.evalArgs_plain (wpAny_mono h2 ?_ fun _ _ x => x.elim))
 rintro vs s3 ⟨ds, μ3, r3, k3, t3, e, d, rfl, hm, hq⟩
 refine ⟨k3.K, ?_⟩
 replace r3 := r3.inv
 obtain ⟨_, _, rfl, ra, r3⟩ := r3
 replace r3 := r3.inv
 obtain ⟨_, _, rfl, rb, r3⟩ := r3
 (first | (replace r3 := r3.inv; obtain rfl := r3) | (replace r3 := r3.inv; obtain ⟨_, rfl⟩ := r3) | cases r3); (first | (replace ra := ra.inv; obtain rfl := ra) | (replace ra := ra.inv; obtain ⟨_, rfl⟩ := ra) | cases ra)
 rename_i v
 have m := k3.mem e _ hm
 obtain ⟨oe, ho, ⟨t, rfl⟩, _⟩ := id m
 obtain ⟨nm, q, N, bs, hdct, sn, sub, ab, col, d1, c0, c1, c2, c3, c5, hC⟩ := K.obj
 obtain ⟨hh, g, dw, tk, os⟩ := s3
 show wpAny _ _ (PySem.call (.builtin "Exception.__init__") [.ref e, v]) _ _ _
 refine exc_call_init (by simp) (k3.K _ _ hC) ho fun h' g1 g2 g3 => ?_
 obtain ⟨k', t'⟩ := k3.turn (s' := ⟨h', g, dw, tk, os⟩) (S := [e]) (μ' := μ3) rfl (fun b o hb hbo => g3 b o (fun q => hb (by simp [q])) hbo)
  (fun b hb => by rw [List.mem_singleton.mp hb]; exact ⟨by rw [hm]; simp, exc_notT m, .obj (excIs Cl none), hm, ⟨_, g1, ⟨_, rfl⟩, by simp⟩⟩) (fun b hb => .inl rfl)
 exact ⟨.next, ρ, μ3, .next, k', F.step ((t2.trans t3).trans t') k, ((t2.trans t3).trans t').f env, hq⟩
theorem Call.exc {ds : List D} {Q : D → Mem → Prop} (K : ExcCls C.K Cl B0 fI) (hz : ds.length ≤ 100)
 (h : ∀ e A', μ e = none → A'.handled = A.handled → A'.depth ≤ A.depth + 1 → A'.units ≤ A.units + 3 → A'.frames = A.frames →
  CallC C A' (.ref fI) (.raw (.ref e) :: ds) (upd μ e (.obj (excIs Cl none))) (fun d μ' => d = .none ∧ Q (.raw (.ref e)) μ')) : Call C A (.ref Cl) ds μ Q := by
 intro s vs k r
 obtain ⟨hh, g, d, t, os⟩ := s
 have X := k.K
 obtain ⟨nm, q, N, bs, hdct, sn, sub, ab, col, d1, c0, c1, c2, c3, c5, hC⟩ := K.obj
 refine wpAny_call (exc_core (fI := fI) (by simp) (by simp) (by simp) (X _ _ hC) (by rw [r.length]; have : sizeLine = 16777216 := rfl; omega) (looks_findIn X K.init) (fun self => bind_fn X self K.fn) ?_)
 have k1 := k.push { cls := .type "tuple", data := .seq vs.toArray }
 have t1 := Step.push k { cls := .type "tuple", data := .seq vs.toArray }
 have k2 := k1.new (o := excObj Cl hh.objs.size) (mo := .obj (excIs Cl none)) ⟨_, Heap.get?_push_size _ rfl, ⟨_, rfl⟩, by simp⟩
 have hsz : ({ heap := hh.push { cls := .type "tuple", data := .seq vs.toArray }, gens := g, drawn := d, toks := t, os := os } : Shared).heap.objs.size = hh.objs.size + 1 := Heap.size_push ..
 have t2 := t1.trans (Step.new (o := excObj Cl hh.objs.size) (mo := .obj (excIs Cl none)))
 obtain ⟨u1, u2, u3, u4⟩ := under_call A ⟨.ref Cl :: vs, []⟩
 rw [hsz] at k2 t2
 have h1 := h (hh.objs.size + 1) _ (k.lt (Nat.le_succ _)) u1 u2 u3 u4 _ (.ref (hh.objs.size + 1) :: vs) k2 (.cons (.raw _) (t2.repAll k r))
 refine codeAny_mono h1 fun r s' z => ?_
 cases r with
 | error e => exact z
 | ok f =>
  cases f with
  | ret v =>
   obtain ⟨d', μ', r', k', t', rfl, hq⟩ := z
   cases r'
   exact ⟨rfl, _, μ', .raw _, k', t2.trans t', hq⟩
  | _ => exact (z : False).elim
end
end Mine
namespace Mine
open PySem.Builtin PySem.Builtin.ObjectAttr
set_option maxHeartbeats 1000000
noncomputable def flyIs (Cl dx : Addr) (tv : Value) (o : Obj) : Prop := o.cls = .ref Cl ∧ o.dict = some dx ∧ ∃ vs, o.data = .fields vs ∧ vs.size = 6 ∧ vs[1]? = some tv
noncomputable def tbIs (o : Obj) : Prop := o.cls = .type "traceback" ∧ ∃ ts, o.data = .fields ts ∧ 3 < ts.size
noncomputable def Fly1 (Cl dx : Addr) (μ : Mem) (e : Addr) : Prop := ∃ T, μ e = some (.obj (flyIs Cl dx (.ref T))) ∧ T ≠ e ∧ μ T = some (.obj tbIs)
noncomputable def Fly (Cl dx : Addr) (μ : Mem) (e : Addr) : Prop := μ e = some (.obj (flyIs Cl dx .none)) ∨ Fly1 Cl dx μ e
noncomputable def slotsP (P : Obj → Prop) : Prop := ∀ o, P o → (∃ es ep, o.data = .dict es ep) ∧ ∀ sl, P { o with slots := sl }
noncomputable def FrM (l : List Env) (μ : Mem) : Prop := ∀ ev ∈ l, ev.scope.kind ≠ .module ∧ ∃ L P, ev.frame = some L ∧ μ L = some (.obj P) ∧ slotsP P
section
variable {C : Cx} {A : Around} {E : Value → Shared → Prop} {s : Shared} {μ : Mem} {Cl dx e : Addr} {l : List Env}
theorem Fly.is (x : Fly Cl dx μ e) : ∃ tv, μ e = some (.obj (flyIs Cl dx tv)) ∧ (tv = .none ∨ ∃ T, tv = .ref T ∧ T ≠ e ∧ μ T = some (.obj tbIs)) := by
 rcases x with x | ⟨T, x, y, z⟩
 · exact ⟨_, x, .inl rfl⟩
 · exact ⟨_, x, .inr ⟨T, rfl, y, z⟩⟩
theorem FrM.fun (k : Ok C s μ) : ∀ {l : List Env}, FrM l μ → s.heap.FunFrames { objs := #[] } l
 | [], _ => trivial
 | ev :: l, fm => by
  obtain ⟨hk, L, P, hf, hL, hP⟩ := fm ev (.head _)
  obtain ⟨o, ho, hp, _⟩ := k.mem L _ hL
  obtain ⟨⟨es, ep, hd⟩, _⟩ := hP o hp
  exact ⟨hk, ⟨L, o, hf, by simp [Heap.get?], ho, fun vs q => by rw [hd] at q; cases q⟩, FrM.fun k fun ev h => fm ev (.tail _ h)⟩
theorem FrM.mem {b : Addr} (fm : FrM l μ) (hb : b ∈ l.filterMap (·.frame)) : ∃ P, μ b = some (.obj P) ∧ slotsP P := by
 obtain ⟨ev, h1, h2⟩ := List.mem_filterMap.mp hb
 obtain ⟨_, L, P, hf, hL, hP⟩ := fm ev h1
 rw [hf] at h2; cases h2
 exact ⟨P, hL, hP⟩
theorem slotsP.notFly (k : Ok C s μ) {b : Addr} {P : Obj → Prop} (hb : μ b = some (.obj P)) (hP : slotsP P) (x : Fly Cl dx μ e) : b ≠ e := by
 rintro rfl
 obtain ⟨o, _, hp, _⟩ := k.mem _ _ hb
 obtain ⟨⟨es, ep, hd⟩, _⟩ := hP o hp
 obtain ⟨tv, hx, _⟩ := x.is
 rw [hx] at hb; cases hb
 obtain ⟨_, _, vs, h1, _⟩ := hp
 rw [hd] at h1; cases h1
theorem Ok.slots {h' : Heap} (k : Ok C s μ) (fm : FrM l μ) (hs : Heap.SlotsOnly (l.filterMap (·.frame)) s.heap h') : Ok C { s with heap := h' } μ ∧ Step s μ { s with heap := h' } μ := by
 refine k.turn (S := l.filterMap (·.frame)) rfl (fun b o hb ho => (hs.2.1 b hb).trans ho) (fun b hb => ?_) fun b hb => .inl rfl
 obtain ⟨P, hm, hP⟩ := fm.mem hb
 have m := k.mem b _ hm
 obtain ⟨o, ho, hp, hc⟩ := id m
 obtain ⟨sl, hsl⟩ := hs.2.2 b o ho
 exact ⟨by rw [hm]; simp, exc_notT m, _, hm, ⟨_, hsl, (hP o hp).2 sl, hc⟩⟩
theorem upd_self {a : Addr} {mo : MO} : upd μ a mo a = some mo := by unfold upd; rw [if_pos rfl]
theorem upd_other {a b : Addr} {mo : MO} (h : b ≠ a) : upd μ a mo b = μ b := by unfold upd; rw [if_neg h]
theorem Ok.fieldFly {tv v : Value} (k : Ok C s μ) (he : μ e = some (.obj (flyIs Cl dx tv))) : Ok C { s with heap := s.heap.update e (Obj.mapFields (·.setIfInBounds 1 v)) } (upd μ e (.obj (flyIs Cl dx v))) ∧
 Step s μ { s with heap := s.heap.update e (Obj.mapFields (·.setIfInBounds 1 v)) } (upd μ e (.obj (flyIs Cl dx v))) := by
 have m := k.mem e _ he
 obtain ⟨o, ho, ⟨h1, h2, vs, h3, h4, h5⟩, hc⟩ := id m
 have hd := Obj.data_mapFields h3 (·.setIfInBounds 1 v)
 have hg := Heap.get?_update_self (Obj.mapFields (·.setIfInBounds 1 v)) ho (Obj.isFreed_of_fields hd)
 refine k.turn (S := [e]) rfl (fun b o hb ho => (Heap.get?_update_other _ _ (fun q => hb (by simp [q]))).trans ho) (fun b hb => ?_) fun b hb => .inl (upd_other fun q => hb (by simp [q]))
 rw [List.mem_singleton.mp hb]
 refine ⟨by rw [he]; simp, exc_notT m, _, upd_self, ⟨_, hg, ⟨(Obj.cls_mapFields _ _).trans h1, ?_, _, hd, by simp [h4], by simp [h4]⟩, by rw [hd]; simp⟩⟩
 have : (Obj.mapFields (·.setIfInBounds 1 v) o).dict = o.dict := by unfold Obj.mapFields; split <;> rfl
 exact this.trans h2
theorem Ok.fieldTb {T : Addr} {v : Value} (k : Ok C s μ) (hT : μ T = some (.obj tbIs)) : Ok C { s with heap := s.heap.update T (Obj.mapFields (·.setIfInBounds 3 v)) } μ ∧
 Step s μ { s with heap := s.heap.update T (Obj.mapFields (·.setIfInBounds 3 v)) } μ := by
 have m := k.mem T _ hT
 obtain ⟨o, ho, ⟨h1, vs, h3, h4⟩, hc⟩ := id m
 have hd := Obj.data_mapFields h3 (·.setIfInBounds 3 v)
 have hg := Heap.get?_update_self (Obj.mapFields (·.setIfInBounds 3 v)) ho (Obj.isFreed_of_fields hd)
 refine k.turn (S := [T]) rfl (fun b o hb ho => (Heap.get?_update_other _ _ (fun q => hb (by simp [q]))).trans ho) (fun b hb => ?_) fun b hb => .inl rfl
 rw [List.mem_singleton.mp hb]
 exact ⟨by rw [hT]; simp, exc_notT m, _, hT, ⟨_, hg, ⟨(Obj.cls_mapFields _ _).trans h1, _, hd, by simp [h4]⟩, by rw [hd]; simp⟩⟩
theorem wp_entry {env : Env} {outer : List Env} {L : Addr} {tv head : Value} {hadNext : Bool} {Q : Unit → Shared → Prop} (hfr : A.frames = some (env :: outer)) (fm : FrM (env :: outer) μ) (hf : env.frame = some L) (k : Ok C s μ)
 (he : μ e = some (.obj (flyIs Cl dx tv))) (h : ∀ s' μ', Ok C s' μ' → Step s μ s' μ' → Fly1 Cl dx μ' e → (∀ b, b ≠ e → μ b ≠ none → μ' b = μ b) → Q () s') :
 wpAny (model C.prog C.w) A (do let a ← frameOf env; let pl ← entryPlaceOf L hadNext; let b ← EntryCells.newEntry head a .none (rawInt L) .none pl; setField (.ref e) 1 b) Q E s := by
 refine wpAny_bind (wpAny_frameOf_fun hfr (fm.fun k) hf fun h₁ hs₁ => ?_)
 obtain ⟨k1, t1⟩ := k.slots fm hs₁
 refine wpAny_bind (wpAny_entryPlaceOf fun pl hpl => ?_)
 unfold EntryCells.newEntry newFields
 refine wpAny_bind (wpAny_newObj_type ?_ (hpl.sizeOk5 _ _ _ _ _))
 generalize hob : ({ cls := .type "traceback", dict := none, data := .fields ([head, .ref L, .none, rawInt L, .none] ++ (if pl.isEmpty then List.replicate 6 Value.none else pl)).toArray } : Obj) = ob
 have ht : tbIs ob := by rw [← hob]; exact ⟨rfl, _, rfl, by simp only [List.size_toArray, List.length_append, List.length_cons, List.length_nil]; omega⟩
 have k2 := k1.new (o := ob) (mo := .obj tbIs) ⟨ob, Heap.get?_push_size _ (by rw [← hob]; rfl), ht, by rw [← hob]; simp⟩
 have t2 := t1.trans (Step.new (o := ob) (mo := .obj tbIs))
 have ne : h₁.objs.size ≠ e := by
  obtain ⟨o, ho, _⟩ := k1.mem e _ he
  exact Nat.ne_of_gt (Heap.lt_size ho)
 have he2 : upd μ h₁.objs.size (.obj tbIs) e = some (.obj (flyIs Cl dx tv)) := (upd_other ne.symm).trans he
 obtain ⟨k3, t3⟩ := k2.fieldFly (v := .ref h₁.objs.size) he2
 obtain ⟨o, ho, ⟨_, _, vs, h3, h4, h5⟩, _⟩ := k2.mem e _ he2
 refine wpAny_setField ho h3 (by omega) (h _ _ k3 (t2.trans t3) ⟨_, upd_self, ne, ?_⟩ fun b hb hn => ?_)
 · rw [upd_other ne]; exact upd_self
 · rw [upd_other hb, upd_other]
   intro q; subst q
   exact hn k1.fresh
theorem wp_note {env : Env} {outer : List Env} {L : Addr} {Q : Unit → Shared → Prop} (hfr : A.frames = some (env :: outer)) (fm : FrM (env :: outer) μ) (hf : env.frame = some L) (k : Ok C s μ)
 (x : Fly Cl dx μ e) (h : ∀ s' μ', Ok C s' μ' → Step s μ s' μ' → Fly1 Cl dx μ' e → (∀ b, b ≠ e → μ b ≠ none → μ' b = μ b) → Q () s') :
 wpAny (model C.prog C.w) A (noteFrame (.ref e) env) Q E s := by
 obtain ⟨tv, he, hx⟩ := x.is
 obtain ⟨o, ho, ⟨_, _, vs, h3, h4, h5⟩, _⟩ := k.mem e _ he
 unfold noteFrame
 simp only [hf]
 refine wpAny_bind (wpAny_field ho h3 h5 ?_)
 rcases hx with rfl | ⟨T, rfl, nT, hT⟩
 · rw [if_neg (by decide)]
   exact wp_entry hfr fm hf k he h
 · rw [if_pos (show (Value.ref T != Value.none) = true from by simp)]
   obtain ⟨oT, hoT, ⟨_, ts, g1, g2⟩, _⟩ := k.mem T _ hT
   refine wpAny_bind (wpAny_field hoT g1 (Array.getElem?_eq_getElem g2) ?_)
   by_cases q : (ts[3] == rawInt L) = true
   · rw [if_pos q]
     exact wpAny_pure (h _ _ k (.refl _ _) ⟨T, he, nT, hT⟩ fun _ _ _ => rfl)
   · rw [if_neg q]
     refine wpAny_bind (wpAny_setField hoT g1 g2 ?_)
     obtain ⟨k1, t1⟩ := k.fieldTb (v := .none) hT
     exact wp_entry hfr fm hf k1 he fun s' μ' a b => h s' μ' a (t1.trans b)
theorem wp_flight {fr : Option Addr} {Q : Unit → Shared → Prop} (k : Ok C s μ) (x : Fly Cl dx μ e) (h : ∀ s', Ok C s' μ → Step s μ s' μ → Q () s') : wpAny (model C.prog C.w) A (setFlight (.ref e) fr) Q E s := by
 obtain ⟨tv, he, hx⟩ := x.is
 obtain ⟨o, ho, ⟨_, _, vs, h3, h4, h5⟩, _⟩ := k.mem e _ he
 unfold setFlight
 refine wpAny_bind (wpAny_field ho h3 h5 ?_)
 rcases hx with rfl | ⟨T, rfl, nT, hT⟩
 · rw [if_neg (by decide)]
   exact wpAny_pure (h _ k (.refl _ _))
 · rw [if_pos (show (Value.ref T != Value.none) = true from by simp)]
   obtain ⟨oT, hoT, ⟨_, ts, g1, g2⟩, _⟩ := k.mem T _ hT
   obtain ⟨k1, t1⟩ := k.fieldTb (v := fr.elim .none fun f => rawInt f) hT
   exact wpAny_setField hoT g1 g2 (h _ k1 t1)
theorem wp_back {env : Env} {E : Value → Shared → Prop} (k : Ok C s μ) (x : Fly1 Cl dx μ e) (h : ∀ s', Ok C s' μ → Step s μ s' μ → E (.ref e) s') : cameBackBy (model C.prog C.w) A env E (.ref e) s := by
 obtain ⟨T, he, nT, hT⟩ := x
 obtain ⟨o, ho, ⟨_, _, vs, h3, h4, h5⟩, _⟩ := k.mem e _ he
 unfold cameBackBy
 refine wpAny_bind (wpAny_field ho h3 h5 ?_)
 rw [if_neg (by simp)]
 exact wp_flight k (.inr ⟨T, he, nT, hT⟩) h
end
end Mine
namespace Mine
open PySem.Builtin PySem.Builtin.ObjectAttr
set_option maxHeartbeats 1000000
noncomputable def del (μ : Mem) (a : Addr) : Mem := fun b => if b = a then none else μ b
theorem del_self {μ : Mem} {a : Addr} : del μ a a = none := by unfold del; rw [if_pos rfl]
theorem del_other {μ : Mem} {a b : Addr} (h : b ≠ a) : del μ a b = μ b := by unfold del; rw [if_neg h]
theorem Sub.ofDel (μ : Mem) (a : Addr) : Sub (del μ a) μ := fun b mo e => by
 unfold del at e; split at e
 · cases e
 · exact e
theorem Sub.intoDel {μ μ' : Mem} {a : Addr} (h : Sub μ μ') (ha : μ a = Option.none) : Sub μ (del μ' a) := fun b mo e => by
 unfold del; split
 · rename_i q; rw [q, ha] at e; cases e
 · exact h b mo e
noncomputable abbrev PX (C : Cx) (s : Shared) (μ : Mem) (X : Addr → Mem → Prop) (e : Value) (s' : Shared) : Prop := ∃ a μ', e = .ref a ∧ Ok C s' μ' ∧ Step s μ s' μ' ∧ X a μ'
noncomputable def CallX (C : Cx) (A : Around) (f : Value) (ds : List D) (μ : Mem) (Q : D → Mem → Prop) (X : Addr → Mem → Prop) : Prop :=
 ∀ s vs, Ok C s μ → RepAll C.B s.heap vs ds → codeAny (model C.prog C.w) A (.call f ⟨vs, []⟩) (wants (Pv C s μ Q) (PX C s μ X)) s
noncomputable def X0 (Cl : Addr) (μ0 : Mem) (a : Addr) (μ : Mem) : Prop := Sub μ0 μ ∧ μ0 a = none ∧ ∃ dx f m x t, Fly Cl dx μ a ∧ μ dx = some (.attrs f m) ∧ f "message" = some (.str x t)
noncomputable def XF (Cl : Addr) (μ0 : Mem) (R : (Str → Option D) → Prop) : Xp := fun a _ ρ μ => R ρ ∧ X0 Cl μ0 a μ
section
variable {C : Cx} {A : Around} {env : Env} {ρ : Str → Option D} {s : Shared} {μ : Mem} {Q : Out → (Str → Option D) → Mem → Prop} {X : Xp} {Cl : Addr} {outer : List Env} {μ0 : Mem}
theorem FrM.sub {l : List Env} {μ' : Mem} (fm : FrM l μ) (h : Sub μ μ') : FrM l μ' := fun ev he => by
 obtain ⟨a, L, P, b, c, d⟩ := fm ev he
 exact ⟨a, L, P, b, h _ _ c, d⟩
theorem FrM.cons {l : List Env} {P : Obj → Prop} (fm : FrM l μ) (hk : env.scope.kind ≠ .module) (hf : env.frame = some env.locals) (hL : μ env.locals = some (.obj P)) (hP : slotsP P) : FrM (env :: l) μ := fun ev he => by
 rcases List.mem_cons.mp he with rfl | he
 · exact ⟨hk, _, P, hf, hL, hP⟩
 · exact fm ev he
theorem Ok.hideOwn (nb : ∀ b, ¬ C.B b) (k : Ok C s μ) (F : FrameOk C s.heap μ env ρ) : ∃ P, slotsP P ∧ Ok C s (upd μ env.locals (.obj P)) ∧ ∀ s' μ', Step s (upd μ env.locals (.obj P)) s' μ' → Ok C s' μ' → μ' env.locals = some (.obj P) →
 Ok C s' (del μ' env.locals) ∧ FrameOk C s'.heap (del μ' env.locals) env ρ ∧ StepF env s μ s' (del μ' env.locals) := by
 obtain ⟨m, ⟨o, es, ep, ho, hd, hsk, hns⟩, hv⟩ := F.ns
 obtain ⟨f1, f2⟩ := F.free
 let P : Obj → Prop := fun o' => ∃ sl, o' = { o with slots := sl }
 have hP : slotsP P := by
  rintro o' ⟨sl, rfl⟩
  exact ⟨⟨es, ep, hd⟩, fun sl' => ⟨sl', rfl⟩⟩
 refine ⟨P, hP, ⟨fun a mo e => ?_, fun b ob e => ⟨?_, (k.base b ob e).2⟩, fun b e => ⟨?_, (k.ban b e).2⟩⟩, fun s' μ' t k' hL => ?_⟩
 · unfold upd at e
   split at e
   · rename_i q; cases e; subst q
     exact ⟨o, ho, ⟨o.slots, rfl⟩, fun vs n q => by rw [hd] at q; cases q⟩
   · exact k.mem a mo e
 · have : b ≠ env.locals := fun q => by rw [q, f2] at e; cases e
   rw [upd_other this]; exact (k.base b ob e).1
 · exact (nb b e).elim
 · have kd : Ok C s' (del μ' env.locals) := k'.sub (Sub.ofDel _ _)
   have kp : ∀ b ob, s.heap.get? b = some ob → μ b = none → b ≠ env.locals → μ' b = none ∧ s'.heap.get? b = some ob := fun b ob h1 h2 h3 => t.keep b ob h1 ((upd_other h3).trans h2)
   have tp : ∀ b us n, IsT s.heap b us n → IsT s'.heap b us n := fun b us n h => by
    by_cases q : b = env.locals
    · rw [q] at h; rw [h] at ho; cases ho; cases hd
    · cases e : μ b with
      | none => exact (kp b _ h e q).2
      | some mo => exact ((k.mem b mo e).notTuple h).elim
   have rp : ∀ v d, Rep C.B s.heap v d → Rep C.B s'.heap v d := fun v d r => r.mono fun a vs n _ h => tp a vs n h
   obtain ⟨o', ho', ⟨sl, rfl⟩, _⟩ := k'.mem _ _ hL
   refine ⟨kd, ⟨F.kind, F.globals, F.builtins, ⟨del_self, f2⟩, ⟨m, ⟨_, es, ep, ho', hd, hsk, hns⟩, fun x d hx => ?_⟩, fun x c hc => ?_, F.inj⟩, ⟨t.eq, fun b ob h1 h2 h3 => ?_⟩⟩
   · rcases hv x d hx with ⟨h1, v, h2, h3⟩ | ⟨h1, c, v, h2, ⟨oc, h3, h3'⟩, h4⟩
     · exact .inl ⟨h1, v, h2, rp _ _ h3⟩
     · obtain ⟨c1, c2, c3, _⟩ := F.cells x c h2
       exact .inr ⟨h1, c, v, h2, ⟨oc, (kp c oc h3 c1 c3).2, h3'⟩, rp _ _ h4⟩
   · obtain ⟨c1, c2, c3, v, oc, h3, h3'⟩ := F.cells x c hc
     obtain ⟨g1, g2⟩ := kp c oc h3 c1 c3
     exact ⟨by rw [del_other c3]; exact g1, c2, c3, v, oc, g2, h3'⟩
   · have : b ≠ env.locals := fun q => h3 (.inl q)
     obtain ⟨g1, g2⟩ := kp b ob h1 h2 this
     exact ⟨by rw [del_other this]; exact g1, g2⟩
theorem upd_none {a b : Addr} {mo : MO} (h : μ b ≠ none) (ha : μ a = none) : upd μ a mo b = μ b := upd_other fun q => h (q ▸ ha)
theorem Fly.del {dx e L : Addr} {P : Obj → Prop} (k : Ok C s μ) (x : Fly Cl dx μ e) (hL : μ L = some (.obj P)) (hP : slotsP P) : Fly Cl dx (del μ L) e := by
 have ne := (hP.notFly k hL x).symm
 rcases x with x | ⟨T, x, y, z⟩
 · exact .inl ((del_other ne).trans x)
 · refine .inr ⟨T, (del_other ne).trans x, y, (del_other fun q => ?_).trans z⟩
   subst q
   obtain ⟨o, _, hp, _⟩ := k.mem _ _ hL
   obtain ⟨⟨es, ep, hd⟩, _⟩ := hP o hp
   rw [hL] at z; cases z
   obtain ⟨_, vs, h1, _⟩ := hp
   rw [hd] at h1; cases h1
theorem X0.del {a L : Addr} {P : Obj → Prop} (k : Ok C s μ) (x : X0 Cl μ0 a μ) (hL : μ L = some (.obj P)) (hP : slotsP P) (h0 : μ0 L = none) : X0 Cl μ0 a (del μ L) := by
 obtain ⟨h1, h2, dx, f, m, y, t, h3, h4, h5⟩ := x
 refine ⟨h1.intoDel h0, h2, dx, f, m, y, t, h3.del k hL hP, (del_other fun q => ?_).trans h4, h5⟩
 rw [← q, h4] at hL; cases hL
theorem X0.hide {a L : Addr} {mo : MO} (x : X0 Cl μ0 a μ) (hL : μ L = none) : X0 Cl μ0 a (upd μ L mo) := by
 obtain ⟨h1, h2, dx, f, m, y, t, h3, h4, h5⟩ := x
 refine ⟨fun b mb e => (upd_none (by rw [h1 b mb e]; simp) hL).trans (h1 b mb e), h2, dx, f, m, y, t, ?_, (upd_none (by rw [h4]; simp) hL).trans h4, h5⟩
 rcases h3 with h3 | ⟨T, g1, g2, g3⟩
 · exact .inl ((upd_none (by rw [h3]; simp) hL).trans h3)
 · exact .inr ⟨T, (upd_none (by rw [g1]; simp) hL).trans g1, g2, (upd_none (by rw [g3]; simp) hL).trans g3⟩
theorem X0.note {a : Addr} {μ' : Mem} (x : X0 Cl μ0 a μ) (h : ∀ dx, Fly Cl dx μ a → Fly1 Cl dx μ' a) (o : ∀ b, b ≠ a → μ b ≠ none → μ' b = μ b) : X0 Cl μ0 a μ' := by
 obtain ⟨h1, h2, dx, f, m, y, t, h3, h4, h5⟩ := x
 refine ⟨fun b mb e => ?_, h2, dx, f, m, y, t, .inr (h dx h3), ?_, h5⟩
 · exact (o b (fun q => by rw [q, h2] at e; cases e) (by rw [h1 b mb e]; simp)).trans (h1 b mb e)
 · refine (o dx (fun q => ?_) (by rw [h4]; simp)).trans h4
   obtain ⟨tv, g, _⟩ := h3.is
   rw [← q, h4] at g; cases g
theorem X0.fly {a : Addr} (x : X0 Cl μ0 a μ) : ∃ dx, Fly Cl dx μ a := let ⟨_, _, dx, _, _, _, _, h3, _⟩ := x; ⟨dx, h3⟩
theorem Fly.dx {dx dx' e : Addr} (k : Ok C s μ) (x : Fly Cl dx μ e) (y : Fly Cl dx' μ e) : dx = dx' := by
 obtain ⟨tv, g, _⟩ := x.is
 obtain ⟨tv', g', _⟩ := y.is
 obtain ⟨o, i1, ⟨_, h1, _⟩, _⟩ := k.mem _ _ g
 obtain ⟨o', i2, ⟨_, h2, _⟩, _⟩ := k.mem _ _ g'
 rw [i1] at i2; cases i2
 rw [h1] at h2; cases h2; rfl
theorem X0.goes {a L : Addr} {Q : Unit → Shared → Prop} {E : Value → Shared → Prop} (hfr : A.frames = some (env :: outer)) (fm : FrM (env :: outer) μ) (hf : env.frame = some L) (k : Ok C s μ) (x : X0 Cl μ0 a μ)
 (h : ∀ s' μ', Ok C s' μ' → Step s μ s' μ' → X0 Cl μ0 a μ' → (∃ dx, Fly1 Cl dx μ' a) → μ' L = μ L → Q () s') : wpAny (model C.prog C.w) A (noteFrame (.ref a) env) Q E s := by
 obtain ⟨dx, hx⟩ := x.fly
 refine wp_note hfr fm hf k hx fun s' μ' k' t' x' o' => h s' μ' k' t' (x.note (fun dx' y => by rw [← hx.dx k y]; exact x') o') ⟨dx, x'⟩ ?_
 obtain ⟨_, L', P, hf', hL, hP⟩ := fm env (.head _)
 rw [hf] at hf'; cases hf'
 exact o' L (hP.notFly k hL hx) (by rw [hL]; simp)
theorem Thru.fly {R : (Str → Option D) → Prop} (nb : ∀ b, ¬ C.B b) (hfr : A.frames = some (env :: outer)) (hf : env.frame = some env.locals) (fm : FrM outer μ0) : Thru C A env (XF Cl μ0 R) := by
 intro s a ρ μ k F ⟨hR, x⟩
 obtain ⟨P, hP, kh, back⟩ := k.hideOwn nb F
 have xh := x.hide (mo := .obj P) F.free.1
 have fmh : FrM (env :: outer) (upd μ env.locals (.obj P)) := ((fm.sub x.1).sub (Sub.new F.free.1)).cons (by rw [F.kind]; decide) hf upd_self hP
 refine xh.goes hfr fmh hf kh fun s1 μ1 k1 t1 x1 ⟨dx, y1⟩ hL => ?_
 refine wp_back k1 y1 fun s2 k2 t2 => ?_
 obtain ⟨k3, F3, t3⟩ := back s2 μ1 (t1.trans t2) k2 (hL.trans upd_self)
 refine ⟨ρ, _, rfl, k3, F3, t3, hR, x1.del k2 (hL.trans upd_self) hP ?_⟩
 cases e : μ0 env.locals with
 | none => rfl
 | some mo => have := x.1 _ _ e; rw [F.free.1] at this; cases this
end
end Mine
namespace Mine
open PySem.Builtin PySem.Builtin.ObjectAttr
set_option maxHeartbeats 1000000
section
variable {C : Cx} {A : Around} {env : Env} {ρ : Str → Option D} {s : Shared} {μ : Mem} {Q : Out → (Str → Option D) → Mem → Prop} {X : Xp} {Cl : Addr} {outer : List Env} {μ0 : Mem}
theorem CallX.fn {a : Addr} {oc : Value} {od : Option Addr} {fd : FuncData} {osl : Array (Option Value)} {body : List Stmt} {ds : List D} {Q : D → Mem → Prop} {R : (Str → Option D) → Prop} (names : List Str)
 (ho : C.K.lookup a = some ⟨oc, od, .func fd, osl⟩) (hbody : fd.body = .stmts body) (hg : fd.globals = mainGlobals) (hb : fd.builtins = builtinsNs) (hcl : fd.closure = [])
 (hcd : codeIn C.K fd.code fd.qualname = true) (hroom : A.depth < recursionLimit)
 (hbind : ∀ s vs, vs.length = ds.length → BindsTo s fd ⟨vs, []⟩ (names.zip vs)) (hn : (names.all fun x => fd.scope.names.lookup x == some .local || fd.scope.names.lookup x == some .cell) = true) (nd : names.Nodup)
 (hk : fd.scope.kind = .function) (hco : fd.scope.isCoroutine = false) (hgen : fd.scope.isGenerator = false)
 (nb : ∀ b, ¬ C.B b) (hfr : A.frames = some outer) (fm : FrM outer μ0)
 (h : ∀ env A', env.scope = fd.scope → (∀ x, fd.scope.names.lookup x = some .cell → (env.cells.lookup x).isSome = true) → A'.handled = A.handled → A'.depth = A.depth + 1 → A'.units = A.units + 3 → A'.frames = some (env :: outer) → env.frame = some env.locals →
  Ex C A' env (execs body env) (args names ds) μ (FnQ Q) (XF Cl μ0 R)) : CallX C A (.ref a) ds μ Q (X0 Cl μ0) := by
 intro s vs k r
 have X := k.K
 obtain ⟨p, loose, mg, mb, T⟩ := C.T
 have lim : s.heap.NoLimit := T.nolimit.keeps fun b o e => (k.base b o e).2
 refine codeAny_call_function hroom (X _ _ ho) rfl hco hgen hbody (codeRec_of X hcd) (hbind s vs r.length _ _ _ _ ?_)
 rw [hcl, hg, hb]
 have hkind : ∀ x ∈ names.zip vs, fd.scope.names.lookup x.1 = some .local ∨ (fd.scope.names.lookup x.1 = some .cell ∧ ((cellsFrom (s.heap.objs.size + 1) fd.scope.names []).lookup x.1).isSome = true) := fun x hx => by
  have := List.all_eq_true.mp hn x.1 (List.of_mem_zip hx).1
  rw [Bool.or_eq_true] at this
  rcases this with q | q
  · exact .inl (beq_iff_eq.mp q)
  · have q := beq_iff_eq.mp q
    exact .inr ⟨q, cellsFrom_acc _ _ _ (.inr (mem_of_lookup q))⟩
 refine wpAny_newFunctionEnv_cells hk hkind fun env he s1 I => ?_
 have he' : env = fnEnv fd s.heap.objs.size a := he
 subst he'
 refine ⟨lim.keeps I.toInCall.keep, codeAny_func ?_⟩
 have F1 := fnFrame k r hk hn nd I
 have k1 : Ok C s1 μ := k.keeps I.toInCall.keep
 have hfr' : (A.deeper (fnEnv fd s.heap.objs.size a)).frames = some (fnEnv fd s.heap.objs.size a :: outer) := Around.frames_deeper hfr
 have st : ∀ {s2 : Shared}, s2 = { s1 with heap := s2.heap, toks := s2.toks } → s2 = { s with heap := s2.heap, toks := s2.toks } := fun {s2} q => by
  obtain ⟨h', tk, e⟩ := I.toInCall.same
  rw [q, e]
 refine wpAny_mono (h (fnEnv fd s.heap.objs.size a) (A.deeper (fnEnv fd s.heap.objs.size a)) rfl (fun x hx => cellsFrom_acc _ _ _ (.inr (mem_of_lookup hx))) rfl rfl rfl hfr' rfl s1 k1 F1) ?_ ?_
 · rintro f s2 ⟨o, ρ', μ', rr, k2, F2, t2, μ2, hs, hq⟩
   refine ⟨o.val, μ2, ?_, k2.sub hs, ⟨st t2.eq, fun b ob h1 h2 => ?_⟩, hq⟩
   · cases rr with
     | ret r => exact r
     | next => exact .none
     | brk => exact .none
     | cont => exact .none
   · obtain ⟨q1, q2⟩ := t2.keep b ob (I.toInCall.keep b ob h1) h2 (notOwn I h1)
     refine ⟨?_, q2⟩
     cases e : μ2 b with
     | none => rfl
     | some mo => rw [hs b mo e] at q1; cases q1
 · rintro e s2 ⟨e, ρ', μ', rfl, k2, F2, t2, hR, x⟩
   obtain ⟨P, hP, kh, back⟩ := k2.hideOwn nb F2
   have xh := x.hide (mo := .obj P) F2.free.1
   have fmh : FrM (fnEnv fd s.heap.objs.size a :: outer) (upd μ' (fnEnv fd s.heap.objs.size a).locals (.obj P)) := ((fm.sub x.1).sub (Sub.new F2.free.1)).cons (by rw [F2.kind]; decide) rfl upd_self hP
   unfold leaving
   refine wpAny_bind (xh.goes hfr' fmh rfl kh fun s3 μ3 k3 t3 x3 ⟨dx, y3⟩ hL => ?_)
   refine wp_flight k3 (.inr y3) fun s4 k4 t4 => ?_
   obtain ⟨k5, F5, t5⟩ := back s4 μ3 (t3.trans t4) k4 (hL.trans upd_self)
   refine ⟨e, _, rfl, k5, ⟨st ?_, fun b ob h1 h2 => ?_⟩, x3.del k4 (hL.trans upd_self) hP ?_⟩
   · have := t2.trans t5; exact this.eq
   · exact (t2.trans t5).keep b ob (I.toInCall.keep b ob h1) h2 (notOwn I h1)
   · cases e : μ0 (fnEnv fd s.heap.objs.size a).locals with
     | none => rfl
     | some mo => have := x.1 _ _ e; rw [F2.free.1] at this; cases this
theorem Ex.raise {x : Expr} {pos : Pos} {B0 fI : Addr} {R : (Str → Option D) → Prop} (K : ExcCls C.K Cl B0 fI) (hh : A.handled = none)
 (h : Ev C A env (eval x env) ρ μ fun d μ1 => ∃ e dx f m y t, d = .raw (.ref e) ∧ μ1 e = some (.obj (excIs Cl (some dx))) ∧ μ1 dx = some (.attrs f m) ∧ f "message" = some (.str y t) ∧ Sub μ0 μ1 ∧ μ0 e = none ∧ R ρ) :
 Ex C A env (exec (.Raise (some x) none pos) env) ρ μ Q (XF Cl μ0 R) := by
 intro s k F
 rw [arm_exec_Raise]
 refine wpAny_bind (wpAny_standAt ?_)
 show wpAny _ _ (raiseStmt env (some (do let v ← eval x env; standAt pos; pure v)) none) _ _ _
 unfold raiseStmt
 dsimp only
 refine wpAny_bind (wpAny_bind (wpAny_mono (h s k F) ?_ fun _ _ x => x.elim))
 rintro v s1 ⟨d, μ1, r, k1, t1, e, dx, f, m, y, t, rfl, he, hdx, hm, hs, h0, hR⟩
 (first | (replace r := r.inv; obtain rfl := r) | (replace r := r.inv; obtain ⟨_, rfl⟩ := r) | cases r)
 refine wpAny_bind (wpAny_standAt (wpAny_pure ?_))
 obtain ⟨oe, ho, ⟨tt, rfl⟩, hc⟩ := k1.mem e _ he
 obtain ⟨nm, q, N, bs, hdct, sn, sub, ab, col, d1, c0, c1, c2, c3, c5, hC⟩ := K.obj
 have hC := k1.K _ _ hC
 have hcB : (Value.ref Cl :: [.ref B0, .type "Exception", .type "BaseException", .type "object"]).contains (.type "BaseException") = true := by simp
 have fin : PE C env s μ (XF Cl μ0 R) (.ref e) s1 := by
  have mm := k1.mem e _ he
  obtain ⟨k2, t2⟩ := k1.turn (s' := s1) (S := [e]) (μ' := upd μ1 e (.obj (flyIs Cl dx .none))) rfl (fun b o _ ho => ho)
   (fun b hb => by rw [List.mem_singleton.mp hb]; exact ⟨by rw [he]; simp, exc_notT mm, _, upd_self, ⟨_, ho, ⟨rfl, rfl, _, rfl, rfl, rfl⟩, hc⟩⟩) (fun b hb => .inl (upd_other fun q => hb (by simp [q])))
  have ne : dx ≠ e := fun q => by rw [q, he] at hdx; cases hdx
  exact ⟨e, ρ, _, rfl, k2, (F.step t1 k).step t2 k1, (t1.trans t2).f env, hR, fun b mo q => (upd_other fun q' => by rw [q', h0] at q; cases q).trans (hs b mo q), h0, dx, f, m, y, t, .inl upd_self, (upd_other ne).trans hdx, hm⟩
 obtain ⟨hp, g, d, tk, os⟩ := s1
 repeat (first | with_reducible refine wpAny_loadPart_at ho ?_ | with_reducible refine wpAny_loadPart_at hC ?_ | (with_reducible refine wpAny_isSubtype_exc hC ?_; rw [hcB]) | wp_step)
 exact wpAny_raiseNew_none hh fin
theorem wp_matches {e dx B0 fI : Addr} {E : Value → Shared → Prop} {Q : Bool → Shared → Prop} (K : ExcCls C.K Cl B0 fI) (k : Ok C s μ) (x : Fly Cl dx μ e) (h : Q true s) : wpAny (model C.prog C.w) A (excMatches (.ref e) (.ref Cl)) Q E s := by
 obtain ⟨tv, he, _⟩ := x.is
 obtain ⟨oe, ho, ⟨hcl, _⟩, _⟩ := k.mem e _ he
 obtain ⟨nm, q, N, bs, hdct, sn, sub, ab, col, d1, c0, c1, c2, c3, c5, hC⟩ := K.obj
 obtain ⟨hp, g, d, tk, os⟩ := s
 exact wpAny_excMatches_sub_self (k.K _ _ hC) ho hcl (by simp) h
theorem Ex.try {body : List Stmt} {te : Expr} {b₀ : Stmt} {suite : List Stmt} {hpos pos : Pos} {B0 fI : Addr} {R : (Str → Option D) → Prop} (K : ExcCls C.K Cl B0 fI) (nb : ∀ b, ¬ C.B b) (hfr : A.frames = some (env :: outer)) (hf : env.frame = some env.locals) (fm : FrM outer μ0)
 (h : Ex C A env (execs body env) ρ μ Q (XF Cl μ0 R))
 (hc : ∀ e ρ1 μ1, R ρ1 → X0 Cl μ0 e μ1 → Ev C (A.mark (some (.ref e))) env (eval te env) ρ1 μ1 fun d μ2 => d = .raw (.ref Cl) ∧ X0 Cl μ0 e μ2 ∧ Ex C (A.mark (some (.ref e))) env (execs (b₀ :: suite) env) ρ1 μ2 Q noX) :
 Ex C A env (exec (.Try body [.ExceptHandler (some te) none (b₀ :: suite) hpos] [] [] pos) env) ρ μ Q X := by
 intro s k F
 refine wpAny_Try_except (wpAny_mono (h s k F) ?_ ?_)
 · rintro f s1 ⟨o, ρ1, μ1, r, k1, F1, t1, hq⟩
   cases r with
   | next => exact wpAny_execs_nil ⟨.next, ρ1, μ1, .next, k1, F1, t1, hq⟩
   | ret r => exact ⟨.ret _, ρ1, μ1, .ret r, k1, F1, t1, hq⟩
   | brk => exact ⟨.brk, ρ1, μ1, .brk, k1, F1, t1, hq⟩
   | cont => exact ⟨.cont, ρ1, μ1, .cont, k1, F1, t1, hq⟩
 · rintro _ s1 ⟨e, ρ1, μ1, rfl, k1, F1, t1, hR, x1⟩
   obtain ⟨P, hP, kh, back⟩ := k1.hideOwn nb F1
   have xh := x1.hide (mo := .obj P) F1.free.1
   have fmh : FrM (env :: outer) (upd μ1 env.locals (.obj P)) := ((fm.sub x1.1).sub (Sub.new F1.free.1)).cons (by rw [F1.kind]; decide) hf upd_self hP
   refine xh.goes hfr fmh hf kh fun s2 μ2 k2 t2 x2 ⟨dx, y2⟩ hL => ?_
   refine wp_flight k2 (.inr y2) fun s3 k3 t3 => ?_
   obtain ⟨k4, F4, t4⟩ := back s3 μ2 (t2.trans t3) k3 (hL.trans upd_self)
   have z0 : μ0 env.locals = none := by
    cases e : μ0 env.locals with
    | none => rfl
    | some mo => have := x1.1 _ _ e; rw [F1.free.1] at this; cases this
   have x4 := x2.del k3 (hL.trans upd_self) hP z0
   refine wpAny_handleBy_cons (codeAny_handlers_test (wpAny_mono (hc e ρ1 _ hR x4 s3 k4 F4) ?_ fun _ _ x => x.elim)) (by intro q; cases q)
   rintro v s5 ⟨d, μ5, r5, k5, t5, rfl, x5, hb⟩
   (first | (replace r5 := r5.inv; obtain rfl := r5) | (replace r5 := r5.inv; obtain ⟨_, rfl⟩ := r5) | cases r5)
   obtain ⟨dx5, y5⟩ := x5.fly
   refine wp_matches K k5 y5 ?_
   refine codeAny_handlers_suite (wp_flight k5 y5 fun s6 k6 t6 => ?_)
   have tt := (t1.trans t4).trans ((t5.trans t6).f env)
   refine wpAny_mono (hb s6 k6 (F4.step (t5.trans t6) k4)) ?_ fun e' s' z => by obtain ⟨_, _, _, _, _, _, _, z⟩ := z; exact z.elim
   rintro f s7 ⟨o, ρ7, μ7, r7, k7, F7, t7, hq⟩
   exact ⟨o, ρ7, μ7, r7, k7, F7, tt.trans t7, hq⟩
end
end Mine
namespace Mine
open PySem.Builtin PySem.Builtin.ObjectAttr
set_option maxHeartbeats 1000000
section
variable {C : Cx} {A : Around} {env : Env} {ρ : Str → Option D} {s : Shared} {μ : Mem} {Q : Out → (Str → Option D) → Mem → Prop} {X : Xp} {Cl : Addr} {outer : List Env} {μ0 : Mem}
theorem Ex.tryAs {body : List Stmt} {te : Expr} {b₀ : Stmt} {suite : List Stmt} {n : Str} {hpos pos : Pos} {B0 fI : Addr} {R : (Str → Option D) → Prop} (K : ExcCls C.K Cl B0 fI) (nb : ∀ b, ¬ C.B b) (hfr : A.frames = some (env :: outer)) (hf : env.frame = some env.locals) (fm : FrM outer μ0)
 (hl : env.kindOf n = some .local)
 (h : Ex C A env (execs body env) ρ μ Q (XF Cl μ0 R))
 (hc : ∀ e ρ1 μ1, R ρ1 → X0 Cl μ0 e μ1 → Ev C (A.mark (some (.ref e))) env (eval te env) ρ1 μ1 fun d μ2 => d = .raw (.ref Cl) ∧ X0 Cl μ0 e μ2 ∧ Ex C (A.mark (some (.ref e))) env (execs (b₀ :: suite) env) (bnd ρ1 n (.raw (.ref e))) μ2 (fun o _ μ' => Q o (fun _ => none) μ') noX) :
 Ex C A env (exec (.Try body [.ExceptHandler (some te) (some n) (b₀ :: suite) hpos] [] [] pos) env) ρ μ Q X := by
 intro s k F
 refine wpAny_Try_except (wpAny_mono (h s k F) ?_ ?_)
 · rintro f s1 ⟨o, ρ1, μ1, r, k1, F1, t1, hq⟩
   cases r with
   | next => exact wpAny_execs_nil ⟨.next, ρ1, μ1, .next, k1, F1, t1, hq⟩
   | ret r => exact ⟨.ret _, ρ1, μ1, .ret r, k1, F1, t1, hq⟩
   | brk => exact ⟨.brk, ρ1, μ1, .brk, k1, F1, t1, hq⟩
   | cont => exact ⟨.cont, ρ1, μ1, .cont, k1, F1, t1, hq⟩
 · rintro _ s1 ⟨e, ρ1, μ1, rfl, k1, F1, t1, hR, x1⟩
   obtain ⟨P, hP, kh, back⟩ := k1.hideOwn nb F1
   have xh := x1.hide (mo := .obj P) F1.free.1
   have fmh : FrM (env :: outer) (upd μ1 env.locals (.obj P)) := ((fm.sub x1.1).sub (Sub.new F1.free.1)).cons (by rw [F1.kind]; decide) hf upd_self hP
   refine xh.goes hfr fmh hf kh fun s2 μ2 k2 t2 x2 ⟨dx, y2⟩ hL => ?_
   refine wp_flight k2 (.inr y2) fun s3 k3 t3 => ?_
   obtain ⟨k4, F4, t4⟩ := back s3 μ2 (t2.trans t3) k3 (hL.trans upd_self)
   have z0 : μ0 env.locals = none := by
    cases e : μ0 env.locals with
    | none => rfl
    | some mo => have := x1.1 _ _ e; rw [F1.free.1] at this; cases this
   have x4 := x2.del k3 (hL.trans upd_self) hP z0
   refine wpAny_handleBy_cons (codeAny_handlers_test (wpAny_mono (hc e ρ1 _ hR x4 s3 k4 F4) ?_ fun _ _ x => x.elim)) (by intro q; cases q)
   rintro v s5 ⟨d, μ5, r5, k5, t5, rfl, x5, hb⟩
   (first | (replace r5 := r5.inv; obtain rfl := r5) | (replace r5 := r5.inv; obtain ⟨_, rfl⟩ := r5) | cases r5)
   obtain ⟨dx5, y5⟩ := x5.fly
   refine wp_matches K k5 y5 ?_
   refine codeAny_handlers_suite_as (wp_flight k5 y5 fun s6 k6 t6 => ?_)
   have tt := (t1.trans t4).trans ((t5.trans t6).f env)
   refine wpAny_mono (Eu.store (Qu := fun ρ' μ' => ρ' = bnd ρ1 n (.raw (.ref e)) ∧ μ' = μ5) k6 (F4.step (t5.trans t6) k4) (.raw (.ref e)) ⟨rfl, rfl⟩ (.inl hl) (by rw [hl]; intro q; cases q)) ?_ fun _ _ x => x.elim
   rintro _ s7 ⟨ρ7, μ7, k7, F7, t7, rfl, rfl⟩
   refine wpAny_mono (hb s7 k7 F7) ?_ fun e' s' z => by obtain ⟨_, _, _, _, _, _, _, z⟩ := z; exact z.elim
   rintro f s8 ⟨o, ρ8, μ8, r8, k8, F8, t8, hq⟩
   obtain ⟨m, hn, hv⟩ := F8.ns
   refine wpAny_nameGoes hl hn (by rw [F8.kind]; rfl) fun h' m' hn' hs' => ?_
   have own : Own env env.locals := .inl rfl
   have hT : ∀ vs n, ¬ IsT s8.heap env.locals vs n := fun vs n t => F8.notTuple t own
   have kp : ∀ b o, b ≠ env.locals → s8.heap.get? b = some o → h'.get? b = some o := fun b o n e => (hs'.2 b n).trans e
   have rp : ∀ v d, Rep C.B s8.heap v d → Rep C.B h' v d := fun v d r => r.mono fun a vs n _ t => kp a _ (fun e => hT vs n (e ▸ t)) t
   refine ⟨o, fun _ => none, μ8, ?_, k8.own hs' F8.free (let ⟨o, _, _, ho, _⟩ := hn'; ⟨o, ho⟩) hT, ⟨F8.kind, F8.globals, F8.builtins, F8.free, ⟨_, hn', fun y e hy => by cases hy⟩, fun y c hy => ?_, F8.inj⟩, (tt.trans (t7.trans t8)).trans ⟨rfl, fun b o h1 h2 h3 => ⟨h2, kp b o (fun e => h3 (.inl e)) h1⟩⟩, hq⟩
   · cases r8 with
     | next => exact .next
     | ret r => exact .ret (rp _ _ r)
     | brk => exact .brk
     | cont => exact .cont
   · obtain ⟨a, b, n, u, oc, ho, hd⟩ := F8.cells y c hy
     exact ⟨a, b, n, u, oc, kp c oc n ho, hd⟩
end
end Mine
namespace Mine
open PySem.Builtin PySem.Builtin.ObjectAttr
set_option maxHeartbeats 1000000
section
variable {prog : Program} {w : World} {A : Around} {E : Value → Shared → Prop} {s : Shared} {K : Frag} {x Cl : Addr} {ox : Obj} {od : Option Obj} {name : Str} {Q : Value → Shared → Prop} {v : Value} {B0 : Addr}
theorem exc_ga (X : K.In s.heap) (I : InstAt s.heap x ox Cl od) (hga : findIn K (.ref Cl) "__getattribute__" = some (some (.builtin "BaseException.__getattribute__"))) (hk : findIn K (.ref Cl) "__getattr__" = some none)
 (hp : setOver K Cl B0 = true) (hf : findObj K Cl od name = some (.value v)) (hh : handedIn v = true) (h : Q v { s with toks := s.toks + 1 }) : wpAny (model prog w) A (getAttr (.ref x) name true) Q E s := by
 obtain ⟨hh', g, d, t, os⟩ := s
 have L0 := I.type (M := model prog w)
 have L1 := looks_findIn (M := model prog w) X hga
 have L2 := looks_findIn (M := model prog w) X hk
 have L3 := looks_find (M := model prog w) X I hf
 obtain ⟨cd, hc, ho⟩ := any_some hp
 have ho : cd.mro = excMro Cl B0 := by simpa using ho
 have sub : Looks (model prog w) hh' (isInstance (.ref x) (.type "BaseException")) true := L0.andThen (looks_mroIn X (by unfold mroIn; rw [hc, Option.bind_some, if_neg (by rw [ho]; simp [excMro])]; rw [ho]; simp [excMro]))
 have FS := PySem.F.attr_Exception.ga
 unfold getAttr getAttrBy
 refine wpAny_bind (wpAny_mkText (wpAny_holding (wpAny_bind (L0.at (wpAny_bind (L1.at ?_))))))
 dsimp only
 have hx1 : (onTheHeap (Value.ref Cl) && Value.builtin "BaseException.__getattribute__" == Value.builtin "object.__getattribute__") = false := by rw [show (Value.builtin "BaseException.__getattribute__" == Value.builtin "object.__getattribute__") = false from by decide +kernel]; rfl
 rw [if_neg (by rw [hx1]; decide)]
 unfold getAttrByItsOwn hookBefore
 refine wpAny_bind ?_
 rw [if_pos (show onTheHeap (Value.ref Cl) = true from rfl)]
 refine L2.at ?_
 refine wpAny_bind (wpAny_attempt (wpAny_holding ?_) )
 unfold callGetattribute
 rw [if_neg (show ¬ (true && onTheHeap (Value.builtin "BaseException.__getattribute__")) = true from by simp [onTheHeap])]
 unfold boundAndCalled
 rw [FS.bind]
 refine wpAny_bind (wpAny_pure (wpAny_call ?_))
 have hkd : builtinKind "BaseException.__getattribute__" = some .slot := by decide +kernel
 have hsp : splitId "BaseException.__getattribute__" = some ("BaseException", "__getattribute__") := by decide +kernel
 refine codeAny_call_builtin FS.plain PySem.F.entry_bexc_ga (@check_slot (model prog w) _ _ ⟨hh', g, d, t + 1, os⟩ "BaseException.__getattribute__" "BaseException" "__getattribute__" (.ref x) [.str name t] [] _ hkd hsp sub (PySem.F.args_bexc_ga (.ref x) (.str name t)) ?_)
 refine wpAny_bind (m := slotArgs "__getattribute__" 1 _) (wpAny_pure (wpAny_bind (wpAny_pure (wpAny_bind (L0.at (wpAny_bind (L3.at ?_)))))))
 refine wpAny_pure ?_
 show wpAny _ _ (handedOut v) _ _ _
 rw [handedOut_of hh]; exact wpAny_pure h
end
section
variable {C : Cx} {A : Around} {env : Env} {ρ : Str → Option D} {μ : Mem} {Q : D → Mem → Prop}
theorem Ev.excAttr {o : Expr} {name : Str} {pos : Pos} {x Cl B0 fI : Addr} {y : Str} (K : ExcCls C.K Cl B0 fI)
 (h : Ev C A env (eval o env) ρ μ fun d μ1 => ∃ dx f m t, d = .raw (.ref x) ∧ Fly Cl dx μ1 x ∧ μ1 dx = some (.attrs f m) ∧ f name = some (.str y t) ∧ Q (.str y) μ1)
 (hga : findIn C.K (.ref Cl) "__getattribute__" = some (some (.builtin "BaseException.__getattribute__"))) (hk : findIn C.K (.ref Cl) "__getattr__" = some none)
 (hh : hasDictIn C.K Cl = true) (ha : findIn C.K (.ref Cl) name = some none)
 (hc : eval (.Attribute o name pos) env = (do
  let o' ← eval o env
  standAt pos.atName
  let r ← holding [o'] (getAttr o' name true)
  letTemporaryGo o o' r
  pure r)) : Ev C A env (eval (.Attribute o name pos) env) ρ μ Q := by
 intro s k F
 rw [hc]
 refine wpAny_bind (wpAny_mono (h s k F) ?_ fun _ _ x => x)
 rintro u s1 ⟨d, μ1, r1, k1, t1, dx, f, m, tk, rfl, h1, h2, h3, h4⟩
 (first | (replace r1 := r1.inv; obtain rfl := r1) | (replace r1 := r1.inv; obtain ⟨_, rfl⟩ := r1) | cases r1)
 obtain ⟨tv, he, _⟩ := h1.is
 obtain ⟨oe, ho, ⟨g1, g2, vs, g3, _⟩, _⟩ := k1.mem x _ he
 obtain ⟨es, n, hd, hl, hg⟩ := k1.mem dx _ h2
 have I : InstAt s1.heap x oe Cl (some (dictOf es n)) := ⟨ho, g1, by unfold notCls; rw [g3], by rw [g2]; exact hd⟩
 refine wpAny_bind (wpAny_standAt (wpAny_bind (wpAny_holding ?_)))
 refine exc_ga k1.K I hga hk K.over (findObj_own hh ha rfl (by rw [lookIn_dict, hg, h3])) (by rfl) ?_
 exact wpAny_bind (wpAny_letTemporaryGo (wpAny_pure ⟨_, μ1, .str y tk, k1.toks _, t1.trans (.toks _), h4⟩))
end
end Mine
namespace Mine
/-! expressions that only read: their value by reckoning -/
noncomputable def cmpI (op : CmpOp) (x y : Int) : Option Bool := match op with
 | .Eq => some (x == y)
 | .NotEq => some (x != y)
 | .Lt => some (decide (x < y))
 | .Gt => some (decide (y < x))
 | .GtE => some (decide (y ≤ x))
 | _ => none
noncomputable def cmpP (op : CmpOp) (a b : D) : Option D := match b with
 | .str y => match a with
  | .str x => match op with | .Eq => some (.bool (x == y)) | _ => none
  | _ => none
 | .int y => match a with
  | .int x => (cmpI op x y).map .bool
  | _ => none
 | .none => match op with | .Is => some (.bool a.isNone) | .IsNot => some (.bool (!a.isNone)) | _ => none
 | _ => none
noncomputable def getP (a i : D) : Option D := match a with
 | .tup l => match i with
  | .int (.ofNat k) => match Nat.blt k 1000 with | true => l[k]? | false => none
  | _ => none
 | _ => none
noncomputable def allP (f : Expr → Option D) : List Expr → Option (List D)
 | [] => some []
 | e :: l => match f e with
  | some d => match allP f l with | some ds => some (d :: ds) | none => none
  | none => none
noncomputable def boolP (op : BoolOp) (a b : D) : Option D := match a with
 | .bool a => match b with
  | .bool b => match op with | .Or => some (.bool (a || b)) | .And => some (.bool (a && b))
  | _ => none
 | _ => none
noncomputable def nameP (ρ : Str → Option D) (x : Str) : Option D := match x == ("__debug__" : Str) || x == ("__classdict__" : Str) with | false => ρ x | true => none
noncomputable def constP (c : Const) : Option D := match c with
 | .int i => some (.int i)
 | .str x => some (.str x)
 | .bool b => some (.bool b)
 | .none => some .none
 | _ => none
noncomputable def two (f : D → D → Option D) : Option D → Option D → Option D
 | some a, some b => f a b
 | _, _ => none
noncomputable def subP (f : Expr → Option D) (v s : Expr) : Option D := match s with
 | .Constant c k p => two getP (f v) (constP c)
 | _ => none
noncomputable def compP (f : Expr → Option D) (l : Expr) (ops : List CmpOp) (rs : List Expr) : Option D := match ops with
 | [op] => match rs with
  | [r] => match behindInMarks op r with | true => none | false => two (cmpP op) (f l) (f r)
  | _ => none
 | _ => none
noncomputable def boP (f : Expr → Option D) (op : BoolOp) (es : List Expr) : Option D := match es with
 | [x, y] => two (boolP op) (f x) (f y)
 | _ => none
noncomputable def tupP (f : Expr → Option D) (es : List Expr) : Option D := match Nat.blt es.length 1000 with
 | true => match allP f es with | some ds => some (.tup ds) | none => none
 | false => none
noncomputable def evalP (ρ : Str → Option D) : Nat → Expr → Option D
 | 0, _ => none
 | n + 1, e => match e with
  | .Name x _ => nameP ρ x
  | .Constant c _ _ => constP c
  | .Subscript v s _ => subP (evalP ρ n) v s
  | .Compare l ops rs _ => compP (evalP ρ n) l ops rs
  | .BoolOp op es _ => boP (evalP ρ n) op es
  | .Tuple es _ _ => tupP (evalP ρ n) es
  | _ => none
theorem allP_len {f : Expr → Option D} : ∀ {l : List Expr} {ds : List D}, allP f l = some ds → ds.length = l.length
 | [], ds, h => by cases h; rfl
 | e :: l, ds, h => by
  unfold allP at h
  split at h
  · split at h
    · rename_i q; cases h; simp [allP_len q]
    · cases h
  · cases h
section
variable {C : Cx} {A : Around} {env : Env} {ρ : Str → Option D} {μ : Mem}
theorem cmpP_ok {op : CmpOp} {a b d : D} (h : cmpP op a b = some d) {Q : D → Mem → Prop} (q : Q d μ) : Cmp C A op a b μ Q := by
 cases b with
 | str y =>
  cases a with
  | str x =>
   cases op with
   | Eq => cases h; exact Cmp.eqStr q
   | _ => exact nomatch (show (none : Option D) = some d from h)
  | _ => exact nomatch (show (none : Option D) = some d from h)
 | int y =>
  cases a with
  | int x =>
   cases op with
   | Eq => cases h; exact Cmp.eqInt q
   | NotEq => cases h; exact Cmp.neInt q
   | Lt => cases h; exact Cmp.ltInt q
   | Gt => cases h; exact Cmp.gtInt q
   | GtE => cases h; exact Cmp.geInt q
   | _ => exact nomatch (show (none : Option D) = some d from h)
  | _ => exact nomatch (show (none : Option D) = some d from h)
 | none =>
  cases op with
  | Is => cases h; exact Cmp.isNone q
  | IsNot => cases h; exact Cmp.isNotNone q
  | _ => exact nomatch (show (none : Option D) = some d from h)
 | _ => exact nomatch (show (none : Option D) = some d from h)
theorem getP_ok {a i d : D} (h : getP a i = some d) {Q : D → Mem → Prop} (q : Q d μ) : Get C A a i μ Q := by
 cases a with
 | tup l =>
  cases i with
  | int i =>
   cases i with
   | ofNat k =>
    have h : (match Nat.blt k 1000 with | true => l[k]? | false => none) = some d := h
    cases z : Nat.blt k 1000 with
    | true => rw [z] at h; exact Get.tup h (Nat.lt_of_lt_of_le (Nat.le_of_ble_eq_true z) (by decide)) q
    | false => rw [z] at h; cases h
   | negSucc k => exact nomatch (show (none : Option D) = some d from h)
  | _ => exact nomatch (show (none : Option D) = some d from h)
 | _ => exact nomatch (show (none : Option D) = some d from h)
theorem two_ok {f : D → D → Option D} {a b : Option D} {d : D} (h : two f a b = some d) : ∃ x y, a = some x ∧ b = some y ∧ f x y = some d := by
 cases a with
 | none => cases h
 | some x => cases b with
  | none => cases h
  | some y => exact ⟨x, y, rfl, rfl, h⟩
theorem constP_ok {c : Const} {d : D} (h : constP c = some d) {Q : D → Mem → Prop} (q : Q d μ) {k : Nat} {pos : Pos} : Ev C A env (eval (.Constant c k pos) env) ρ μ Q := by
 cases c with
 | int i => cases h; exact Ev.cint q
 | str i => cases h; exact Ev.cstr q
 | bool i => cases h; exact Ev.cbool q
 | none => cases h; exact Ev.cnone q
 | _ => exact nomatch (show (none : Option D) = some d from h)
theorem evalP_star {n : Nat} {e : Expr} {d : D} (h : evalP ρ n e = some d) (l : List Expr) : starEach (e :: l) env = (false, eval e env) :: starEach l env := by
 cases n with
 | zero => cases h
 | succ n => cases e with
  | Starred => exact nomatch (show (none : Option D) = some d from h)
  | _ => rfl
theorem allP_ok {f : Expr → Option D} {pos : Pos} (hf : ∀ e d, f e = some d → (∀ l, starEach (e :: l) env = (false, eval e env) :: starEach l env) ∧ ∀ Q : D → Mem → Prop, Q d μ → Ev C A env (eval e env) ρ μ Q) :
 ∀ {es : List Expr} {ds : List D}, allP f es = some ds → ∀ {Q : List D → Mem → Prop}, Q ds μ → Es C A env (spliced (backTo pos (starEach es env))) ρ μ Q
 | [], ds, h, Q, q => by cases h; exact Es.nil q
 | e :: l, ds, h, Q, q => by
  unfold allP at h
  split at h
  · rename_i d hd
    split at h
    · rename_i ds' hds
      cases h
      obtain ⟨h1, h2⟩ := hf e d hd
      exact Es.cons (h2 _ (allP_ok hf hds q)) (h1 l)
    · cases h
  · cases h
theorem evalP_ok : ∀ (n : Nat) {e : Expr} {d : D}, evalP ρ n e = some d → ∀ {Q : D → Mem → Prop}, Q d μ → Ev C A env (eval e env) ρ μ Q := by
 intro n
 induction n with
 | zero => intro e d h; cases h
 | succ n ih =>
  intro e d h Q q
  cases e with
  | Name x p =>
   have h : nameP ρ x = some d := h
   unfold nameP at h
   cases z : (x == ("__debug__" : Str) || x == ("__classdict__" : Str)) with
   | true => rw [z] at h; cases h
   | false => rw [z] at h; rw [Bool.or_eq_false_iff] at z; exact Ev.name h q z.1 z.2
  | Constant c k p => exact constP_ok h q
  | Subscript v s p =>
   cases s with
   | Constant c k p =>
    obtain ⟨a, i, ha, hi, hg⟩ := two_ok (show two getP (evalP ρ n v) (constP c) = some d from h)
    exact Ev.sub (ih ha (constP_ok hi (getP_ok hg q))) (fun _ _ => ⟨_, rfl⟩)
   | _ => exact nomatch (show (none : Option D) = some d from h)
  | Compare l ops rs p =>
   match ops, rs, h with
   | [op], [r], h =>
    have h : (match behindInMarks op r with | true => none | false => two (cmpP op) (evalP ρ n l) (evalP ρ n r)) = some d := h
    cases z : behindInMarks op r with
    | true => rw [z] at h; cases h
    | false =>
     rw [z] at h
     obtain ⟨a, b, ha, hb, hc⟩ := two_ok h
     exact Ev.cmp (ih ha (ih hb (cmpP_ok hc q))) z
   | [], _, h => exact nomatch (show (none : Option D) = some d from h)
   | _ :: _ :: _, _, h => exact nomatch (show (none : Option D) = some d from h)
   | [_], [], h => exact nomatch (show (none : Option D) = some d from h)
   | [_], _ :: _ :: _, h => exact nomatch (show (none : Option D) = some d from h)
  | BoolOp op es p =>
   match es, h with
   | [x, y], h =>
    obtain ⟨a, b, ha, hb, hc⟩ := two_ok (show two (boolP op) (evalP ρ n x) (evalP ρ n y) = some d from h)
    cases a with
    | bool a =>
     cases b with
     | bool b =>
      cases op with
      | Or => cases hc; exact Ev.or2 (ih ha (Tru.bool ⟨fun e => by subst e; exact q, fun e => by subst e; exact ih hb q⟩))
      | And => cases hc; exact Ev.and2 (ih ha (Tru.bool ⟨fun e => by subst e; exact q, fun e => by subst e; exact ih hb q⟩))
     | _ => exact nomatch (show (none : Option D) = some d from hc)
    | _ => exact nomatch (show (none : Option D) = some d from hc)
   | [], h => exact nomatch (show (none : Option D) = some d from h)
   | [_], h => exact nomatch (show (none : Option D) = some d from h)
   | _ :: _ :: _ :: _, h => exact nomatch (show (none : Option D) = some d from h)
  | Tuple es k p =>
   have h : tupP (evalP ρ n) es = some d := h
   unfold tupP at h
   cases z : Nat.blt es.length 1000 with
   | false => rw [z] at h; cases h
   | true =>
    cases y : allP (evalP ρ n) es with
    | none => rw [z, y] at h; cases h
    | some ds =>
     rw [z, y] at h
     cases h
     refine Ev.tuple (allP_ok (fun e d he => ⟨fun l => evalP_star he l, fun Q q => ih he q⟩) y ⟨?_, q⟩)
     rw [allP_len y]
     exact Nat.le_trans (Nat.le_of_lt (Nat.le_of_ble_eq_true z)) (by decide)
  | _ => exact nomatch (show (none : Option D) = some d from h)
noncomputable abbrev fuelP : Nat := 12
theorem Ev.pure {e : Expr} {d : D} {Q : D → Mem → Prop} (h : evalP ρ fuelP e = some d) (q : Q d μ) : Ev C A env (eval e env) ρ μ Q := evalP_ok _ h q
theorem Es.pure {es : List Expr} {pos : Pos} {ds : List D} {Q : List D → Mem → Prop} (h : allP (evalP ρ fuelP) es = some ds) (q : Q ds μ) : Es C A env (spliced (backTo pos (starEach es env))) ρ μ Q :=
 allP_ok (fun e d he => ⟨fun l => evalP_star he l, fun Q q => evalP_ok _ he q⟩) h q
theorem etP_ok : ∀ (n : Nat) {e : Expr} {b : Bool}, evalP ρ n e = some (.bool b) → ∀ {Q : Bool → Mem → Prop}, Q b μ → ∀ {whole : Sem Value}, whole = eval e env → Et C A env (isTrue e env whole) ρ μ Q := by
 intro n
 induction n with
 | zero => intro e d h; cases h
 | succ n ih =>
  intro e b h Q q whole hw
  have val : isTrue e env whole = (do let v ← whole; standAt e.pos; holding [v] (truthy v)) → Et C A env (isTrue e env whole) ρ μ Q := fun he => Et.value (by rw [hw]; exact evalP_ok _ h (Tru.bool q)) he
  cases e with
  | Name x p => exact val rfl
  | Constant c k p => exact val rfl
  | Subscript v s p => exact val rfl
  | Tuple es k p => exact val rfl
  | Compare l ops rs p =>
   match ops, rs, h with
   | [op], [r], h =>
    have h : (match behindInMarks op r with | true => none | false => two (cmpP op) (evalP ρ n l) (evalP ρ n r)) = some (.bool b) := h
    cases z : behindInMarks op r with
    | true => rw [z] at h; cases h
    | false =>
     rw [z] at h
     obtain ⟨x, y, hx, hy, hc⟩ := two_ok h
     exact Et.cmp (evalP_ok _ hx (evalP_ok _ hy (cmpP_ok hc (Tru.bool q)))) z
   | [], _, h => exact nomatch (show (none : Option D) = some (.bool b) from h)
   | _ :: _ :: _, _, h => exact nomatch (show (none : Option D) = some (.bool b) from h)
   | [_], [], h => exact nomatch (show (none : Option D) = some (.bool b) from h)
   | [_], _ :: _ :: _, h => exact nomatch (show (none : Option D) = some (.bool b) from h)
  | BoolOp op es p =>
   match es, h with
   | [x, y], h =>
    obtain ⟨a, c, ha, hb, hc⟩ := two_ok (show two (boolP op) (evalP ρ n x) (evalP ρ n y) = some (.bool b) from h)
    cases a with
    | bool a =>
     cases c with
     | bool c =>
      cases op with
      | Or => cases hc; exact Et.or2 (ih ha ⟨fun e => by subst e; exact ih hb q rfl, fun e => by subst e; exact q⟩ rfl)
      | And => cases hc; exact Et.and2 (ih ha ⟨fun e => by subst e; exact ih hb q rfl, fun e => by subst e; exact q⟩ rfl)
     | _ => exact nomatch (show (none : Option D) = some (.bool b) from hc)
    | _ => exact nomatch (show (none : Option D) = some (.bool b) from hc)
   | [], h => exact nomatch (show (none : Option D) = some (.bool b) from h)
   | [_], h => exact nomatch (show (none : Option D) = some (.bool b) from h)
   | _ :: _ :: _ :: _, h => exact nomatch (show (none : Option D) = some (.bool b) from h)
  | _ => exact nomatch (show (none : Option D) = some (.bool b) from h)
theorem Et.pure {e : Expr} {b : Bool} {Q : Bool → Mem → Prop} (h : evalP ρ fuelP e = some (.bool b)) (q : Q b μ) : Et C A env (isTrue e env (eval e env)) ρ μ Q := etP_ok _ h q rfl
theorem Ex.iteP {Q : Out → (Str → Option D) → Mem → Prop} {X : Xp} {test : Expr} {body orelse : List Stmt} {pos : Pos} {b : Bool} (h : evalP ρ fuelP test = some (.bool b)) (q : Br b (Ex C A env (execs body env) ρ μ Q X) (Ex C A env (execs orelse env) ρ μ Q X)) :
 Ex C A env (exec (.If test body orelse pos) env) ρ μ Q X := Ex.ite (Et.pure h q)
theorem Ex.retP {Q : Out → (Str → Option D) → Mem → Prop} {X : Xp} {e : Expr} {pos : Pos} {d : D} (h : evalP ρ fuelP e = some d) (q : Q (.ret d) ρ μ) : Ex C A env (exec (.Return (some e) pos) env) ρ μ Q X := Ex.ret (Ev.pure h q)
theorem Ex.assignP {Q : Out → (Str → Option D) → Mem → Prop} {X : Xp} {x : Str} {px pos : Pos} {value : Expr} {d : D} (h : evalP ρ fuelP value = some d) (q : Q .next (bnd ρ x d) μ)
 (hl : env.kindOf x = some .local ∨ env.kindOf x = some .cell) (hc : env.kindOf x = some .cell → (env.cells.lookup x).isSome = true)
 (hs : swapsWith value (some (.Name x px)) pos.line env = pure false) : Ex C A env (exec (.Assign [.Name x px] value pos) env) ρ μ Q X := Ex.assign (Ev.pure h q) hl hc hs
theorem Ev.ifP {Q : D → Mem → Prop} {test body orelse : Expr} {pos : Pos} {b : Bool} (h : evalP ρ fuelP test = some (.bool b)) (q : Br b (Ev C A env (eval body env) ρ μ Q) (Ev C A env (eval orelse env) ρ μ Q)) :
 Ev C A env (eval (.IfExp test body orelse pos) env) ρ μ Q := Ev.ifexp (Et.pure h q)
theorem Ex.skipIf {Q : Out → (Str → Option D) → Mem → Prop} {X : Xp} {test : Expr} {body rest : List Stmt} {pos : Pos} {b : Bool} (q : Ex C A env (execs rest env) ρ μ Q X) (h : evalP ρ fuelP test = some (.bool b)) (e : b = false) :
 Ex C A env (execs (.If test body [] pos :: rest) env) ρ μ Q X := Ex.cons (Ex.iteP h ⟨fun h' => absurd (e.symm.trans h') (by decide), fun _ => Ex.nil q⟩)
theorem Ex.skip2 {Q : Out → (Str → Option D) → Mem → Prop} {X : Xp} {t0 t1 : Expr} {b0 b1 rest : List Stmt} {p0 p1 : Pos} (q : Ex C A env (execs rest env) ρ μ Q X) (h : evalP ρ fuelP t0 = some (.bool false) ∧ evalP ρ fuelP t1 = some (.bool false)) : Ex C A env (execs (.If t0 b0 [] p0 :: .If t1 b1 [] p1 :: rest) env) ρ μ Q X := Ex.skipIf (Ex.skipIf q h.2 rfl) h.1 rfl
theorem Ex.skip3 {Q : Out → (Str → Option D) → Mem → Prop} {X : Xp} {t0 t1 t2 : Expr} {b0 b1 b2 rest : List Stmt} {p0 p1 p2 : Pos} (q : Ex C A env (execs rest env) ρ μ Q X) (h : evalP ρ fuelP t0 = some (.bool false) ∧ evalP ρ fuelP t1 = some (.bool false) ∧ evalP ρ fuelP t2 = some (.bool false)) : Ex C A env (execs (.If t0 b0 [] p0 :: .If t1 b1 [] p1 :: .If t2 b2 [] p2 :: rest) env) ρ μ Q X := Ex.skipIf (Ex.skip2 q h.2) h.1 rfl
theorem Ex.skip4 {Q : Out → (Str → Option D) → Mem → Prop} {X : Xp} {t0 t1 t2 t3 : Expr} {b0 b1 b2 b3 rest : List Stmt} {p0 p1 p2 p3 : Pos} (q : Ex C A env (execs rest env) ρ μ Q X) (h : evalP ρ fuelP t0 = some (.bool false) ∧ evalP ρ fuelP t1 = some (.bool false) ∧ evalP ρ fuelP t2 = some (.bool false) ∧ evalP ρ fuelP t3 = some (.bool false)) : Ex C A env (execs (.If t0 b0 [] p0 :: .If t1 b1 [] p1 :: .If t2 b2 [] p2 :: .If t3 b3 [] p3 :: rest) env) ρ μ Q X := Ex.skipIf (Ex.skip3 q h.2) h.1 rfl
theorem Ex.iteT {Q : Out → (Str → Option D) → Mem → Prop} {X : Xp} {test : Expr} {body orelse rest : List Stmt} {pos : Pos} {b : Bool} (q : Ex C A env (execs body env) ρ μ (SeqQ C A env rest Q X) X) (h : evalP ρ fuelP test = some (.bool b)) (e : b = true) :
 Ex C A env (execs (.If test body orelse pos :: rest) env) ρ μ Q X := Ex.cons (Ex.iteP h ⟨fun _ => q, fun h' => absurd (e.symm.trans h') (by decide)⟩)
theorem Ex.retC {Q : Out → (Str → Option D) → Mem → Prop} {X : Xp} {e : Expr} {rest : List Stmt} {pos : Pos} {d : D} (q : Q (.ret d) ρ μ) (h : evalP ρ fuelP e = some d) : Ex C A env (execs (.Return (some e) pos :: rest) env) ρ μ Q X := Ex.cons (Ex.retP h q)
theorem Ex.retE {Q : Out → (Str → Option D) → Mem → Prop} {X : Xp} {e : Expr} {rest : List Stmt} {pos : Pos} (h : Ev C A env (eval e env) ρ μ (RetQ Q ρ)) : Ex C A env (execs (.Return (some e) pos :: rest) env) ρ μ Q X := Ex.cons (Ex.ret h)
theorem Ex.asP {Q : Out → (Str → Option D) → Mem → Prop} {X : Xp} {x : Str} {px pos : Pos} {value : Expr} {rest : List Stmt} {d : D} (h : evalP ρ fuelP value = some d) (q : Ex C A env (execs rest env) (bnd ρ x d) μ Q X)
 (hl : env.kindOf x = some .local ∨ env.kindOf x = some .cell) (hc : env.kindOf x = some .cell → (env.cells.lookup x).isSome = true)
 (hs : swapsWith value (some (.Name x px)) pos.line env = pure false) : Ex C A env (execs (.Assign [.Name x px] value pos :: rest) env) ρ μ Q X := Ex.cons (Ex.assignP h q hl hc hs)
@[reducible] noncomputable def AsnC (C : Cx) (A : Around) (env : Env) (rest : List Stmt) (ρ : Str → Option D) (x : Str) (Q : Out → (Str → Option D) → Mem → Prop) (X : Xp) (d : D) (μ : Mem) : Prop := Ex C A env (execs rest env) (bnd ρ x d) μ Q X
theorem Ex.asC {Q : Out → (Str → Option D) → Mem → Prop} {X : Xp} {x : Str} {px pos : Pos} {value : Expr} {rest : List Stmt} (h : Ev C A env (eval value env) ρ μ (AsnC C A env rest ρ x Q X))
 (hl : env.kindOf x = some .local ∨ env.kindOf x = some .cell) (hc : env.kindOf x = some .cell → (env.cells.lookup x).isSome = true)
 (hs : swapsWith value (some (.Name x px)) pos.line env = pure false) : Ex C A env (execs (.Assign [.Name x px] value pos :: rest) env) ρ μ Q X := Ex.cons (Ex.assign h hl hc hs)
end
inductive Hd where
 | var (n : Nat) | ivar (n : Nat) | int (b : Bool) | bool | param | never | tup | ref (m : Bool) | box | arr (n : Nat) | adt (b : Bool)
 deriving DecidableEq
inductive T where
 | node (h : Hd) (ch : List T)
noncomputable instance : DecidableEq T := fun _ _ => Classical.propDecidable _
noncomputable abbrev T.hd : T → Hd | .node h _ => h
noncomputable abbrev T.ch : T → List T | .node _ ch => ch
noncomputable def wrap (h : Hd) (l : List D) : D := match h with
 | .var n => .tup [.str (PySem.Str.ofString "var"), .int (n : Int)]
 | .ivar n => .tup [.str (PySem.Str.ofString "intvar"), .int (n : Int)]
 | .int b => .tup [.str (PySem.Str.ofString "int"), .str (if b then PySem.Str.ofString "u8" else PySem.Str.ofString "i32")]
 | .bool => .tup [.str (PySem.Str.ofString "bool")]
 | .param => .tup [.str (PySem.Str.ofString "param"), .str (PySem.Str.ofString "X")]
 | .never => .tup [.str (PySem.Str.ofString "never")]
 | .tup => .tup [.str (PySem.Str.ofString "tuple"), .tup l]
 | .ref m => .tup (.str (PySem.Str.ofString "ref") :: .none :: .bool m :: l)
 | .box => .tup (.str (PySem.Str.ofString "box") :: l)
 | .arr n => .tup (.str (PySem.Str.ofString "array") :: (l ++ [.int (n : Int)]))
 | .adt b => .tup [.str (PySem.Str.ofString "adt"), .str (if b then PySem.Str.ofString "B" else PySem.Str.ofString "A"), .tup [], .tup l]
mutual
noncomputable def enc : T → D
 | .node h ch => wrap h (encs ch)
noncomputable def encs : List T → List D
 | [] => []
 | t :: ts => enc t :: encs ts
end
noncomputable def fits (h : Hd) (n : Nat) : Prop := match h with
 | .tup => n ≤ 2
 | .ref _ | .box | .arr _ => n = 1
 | .adt _ => n = 2
 | _ => n = 0
mutual
noncomputable def T.wf : T → Prop
 | .node h ch => fits h ch.length ∧ T.wfs ch
noncomputable def T.wfs : List T → Prop
 | [] => True
 | t :: ts => T.wf t ∧ T.wfs ts
end
theorem encs_eq : ∀ l : List T, encs l = l.map enc
 | [] => rfl
 | t :: ts => by simp [encs, encs_eq ts]
theorem encs_len (l : List T) : (encs l).length = l.length := by rw [encs_eq]; simp
theorem wfs_iff : ∀ l : List T, T.wfs l ↔ ∀ t ∈ l, t.wf
 | [] => ⟨fun _ _ h => (nomatch h), fun _ => trivial⟩
 | t :: ts => (and_congr Iff.rfl (wfs_iff ts)).trans List.forall_mem_cons.symm
theorem oks_append : ∀ l m : List D, D.oks (l ++ m) = (D.oks l && D.oks m)
 | [], m => by simp [D.oks]
 | d :: l, m => by simp [D.oks, oks_append l m, Bool.and_assoc]
theorem wrap_ok {h : Hd} {l : List D} (hl : D.oks l = true) : (wrap h l).ok = true := by
 cases h with
 | int b => cases b <;> (simp only [wrap, D.ok, D.oks]; decide +kernel)
 | adt b => cases b <;> (simp only [wrap, D.ok, D.oks, hl]; decide +kernel)
 | arr n => simp only [wrap, D.ok, D.oks, oks_append, hl]; decide +kernel
 | _ => simp only [wrap, D.ok, D.oks, hl]; try decide +kernel
mutual
theorem enc_ok : ∀ t : T, (enc t).ok = true
 | .node h ch => by unfold enc; exact wrap_ok (encs_ok ch)
theorem encs_ok : ∀ t : List T, D.oks (encs t) = true
 | [] => rfl
 | t :: ts => by simp [encs, D.oks, enc_ok t, encs_ok ts]
end
mutual
noncomputable def T.hgt : T → Nat
 | .node _ ch => T.hgts ch
noncomputable def T.hgts : List T → Nat
 | [] => 0
 | t :: ts => max (T.hgt t + 1) (T.hgts ts)
end
theorem hgts_mem : ∀ {l : List T} {t : T}, t ∈ l → t.hgt + 1 ≤ T.hgts l
 | [], t, h => by cases h
 | a :: l, t, h => by
  rcases List.mem_cons.mp h with rfl | h
  · simp [T.hgts]; omega
  · have := hgts_mem h; simp [T.hgts]; omega
theorem hgts_le {n : Nat} : ∀ {l : List T}, (∀ t ∈ l, t.hgt + 1 ≤ n) → T.hgts l ≤ n
 | [], _ => by simp [T.hgts]
 | a :: l, h => by
  have h1 := h a (.head _)
  have h2 := hgts_le (l := l) fun t ht => h t (.tail _ ht)
  simp [T.hgts]; omega
theorem pys_append : ∀ l m : List D, D.pys (l ++ m) = D.pys l ++ D.pys m
 | [], m => rfl
 | d :: l, m => by simp [D.pys, pys_append l m]
theorem depthAll_append : ∀ l m : List PyData, PyData.depthAll (l ++ m) = max (PyData.depthAll l) (PyData.depthAll m)
 | [], m => by simp [PyData.depthAll]
 | d :: l, m => by simp [PyData.depthAll, depthAll_append l m, Nat.max_assoc]
noncomputable abbrev dA (l : List D) : Nat := PyData.depthAll (D.pys l)
theorem dA_nil {n : Nat} : dA [] ≤ n := Nat.zero_le _
theorem dA_cons {d : D} {l : List D} {n : Nat} (h1 : d.dep ≤ n) (h2 : dA l ≤ n) : dA (d :: l) ≤ n := Nat.max_le.mpr ⟨h1, h2⟩
theorem dA_tup {l : List D} {n : Nat} (h : dA l ≤ n) : (D.tup l).dep ≤ n + 1 := Nat.succ_le_succ h
theorem dA_app {l m : List D} {n : Nat} (h1 : dA l ≤ n) (h2 : dA m ≤ n) : dA (l ++ m) ≤ n := by unfold dA; rw [pys_append, depthAll_append]; exact Nat.max_le.mpr ⟨h1, h2⟩
theorem wrap_dep (h : Hd) (l : List D) : (wrap h l).dep ≤ dA l + 2 := by
 have z : ∀ {n : Nat}, 0 ≤ n := Nat.zero_le _
 have t : dA l ≤ dA l + 1 := Nat.le_succ _
 have u : (D.tup l).dep ≤ dA l + 1 := dA_tup (Nat.le_refl _)
 cases h with
 | var n => exact dA_tup (dA_cons z (dA_cons z dA_nil))
 | ivar n => exact dA_tup (dA_cons z (dA_cons z dA_nil))
 | int n => exact dA_tup (dA_cons z (dA_cons z dA_nil))
 | bool => exact dA_tup (dA_cons z dA_nil)
 | param => exact dA_tup (dA_cons z (dA_cons z dA_nil))
 | never => exact dA_tup (dA_cons z dA_nil)
 | tup => exact dA_tup (dA_cons z (dA_cons u dA_nil))
 | ref n => exact dA_tup (dA_cons z (dA_cons z (dA_cons z t)))
 | box => exact dA_tup (dA_cons z t)
 | arr n => exact dA_tup (dA_cons z (dA_app t (dA_cons z dA_nil)))
 | adt n => exact dA_tup (dA_cons z (dA_cons z (dA_cons (dA_tup (n := dA l) dA_nil) (dA_cons u dA_nil))))
mutual
theorem enc_dep : ∀ t : T, (enc t).dep ≤ 2 * t.hgt + 2
 | .node h ch => Nat.le_trans (wrap_dep h (encs ch)) (Nat.add_le_add_right (encs_dep ch) 2)
theorem encs_dep : ∀ l : List T, dA (encs l) ≤ 2 * T.hgts l
 | [] => Nat.zero_le _
 | t :: ts => dA_cons (Nat.le_trans (enc_dep t) (Nat.mul_le_mul_left 2 (Nat.le_max_left (t.hgt + 1) _))) (Nat.le_trans (encs_dep ts) (Nat.mul_le_mul_left 2 (Nat.le_max_right _ _)))
end
theorem encs_dep' (l : List T) : PyData.depthAll (D.pys (encs l)) ≤ 2 * T.hgts l := encs_dep l
noncomputable def kd : Hd → String
 | .var _ => "var" | .ivar _ => "intvar" | .int _ => "int" | .bool => "bool" | .param => "param" | .never => "never" | .tup => "tuple" | .ref _ => "ref" | .box => "box" | .arr _ => "array" | .adt _ => "adt"
noncomputable def kds (h : Hd) : Str := PySem.Str.ofString (kd h)
theorem enc_kd (t : T) : ∃ r, enc t = .tup (.str (kds t.hd) :: r) := by
 obtain ⟨h, ch⟩ := t
 unfold enc
 cases h <;> exact ⟨_, rfl⟩
theorem eqvAll_append : ∀ {l m l' m' : List PyData}, l.length = l'.length → PyData.eqvAll (l ++ m) (l' ++ m') = (PyData.eqvAll l l' && PyData.eqvAll m m')
 | [], m, [], m', _ => by simp [PyData.eqvAll]
 | [], _, _ :: _, _, h => by simp at h
 | _ :: _, _, [], _, h => by simp at h
 | a :: l, m, b :: l', m', h => by simp only [List.cons_append, PyData.eqvAll]; rw [eqvAll_append (by simpa using h), Bool.and_assoc]
noncomputable def Hd.tag : Hd → Nat
 | .var _ => 0 | .ivar _ => 1 | .int _ => 2 | .bool => 3 | .param => 4 | .never => 5 | .tup => 6 | .ref _ => 7 | .box => 8 | .arr _ => 9 | .adt _ => 10
noncomputable def words : List Str := [PySem.Str.ofString "var", PySem.Str.ofString "intvar", PySem.Str.ofString "int", PySem.Str.ofString "bool", PySem.Str.ofString "param", PySem.Str.ofString "never", PySem.Str.ofString "tuple", PySem.Str.ofString "ref", PySem.Str.ofString "box", PySem.Str.ofString "array", PySem.Str.ofString "adt"]
noncomputable def wordsS : List String := ["var", "intvar", "int", "bool", "param", "never", "tuple", "ref", "box", "array", "adt"]
theorem kds_tag (h : Hd) : words.idxOf (kds h) = h.tag := by cases h <;> kernel_rfl
theorem kd_tag (h : Hd) : some (kd h) = wordsS[h.tag]? := by cases h <;> rfl
theorem tag_of_kds {h h' : Hd} (e : kds h = kds h') : h.tag = h'.tag := by rw [← kds_tag, e, kds_tag]
theorem kd_of_tag {h h' : Hd} (e : h.tag = h'.tag) : kd h = kd h' := Option.some.inj (by rw [kd_tag, e, kd_tag])
theorem kds_kd {h h' : Hd} (e : kds h = kds h') : kd h = kd h' := kd_of_tag (tag_of_kds e)
theorem tag_of_kd {h h' : Hd} (e : kd h = kd h') : h.tag = h'.tag := tag_of_kds (congrArg PySem.Str.ofString e)
theorem kds_ne {h h' : Hd} (hne : kd h ≠ kd h') : (kds h == kds h') = false := by
 cases z : kds h == kds h' with
 | false => rfl
 | true => exact absurd (kds_kd (by simpa using z)) hne
theorem noTag {a b : Nat} {P : Prop} (h : Nat.beq a b = false) (e : a = b) : P := (Nat.ne_of_beq_eq_false h e).elim
theorem Hd.same {P : Hd → Hd → Prop} (h0 : ∀ n m, P (.var n) (.var m)) (h1 : ∀ n m, P (.ivar n) (.ivar m)) (h2 : ∀ a b, P (.int a) (.int b)) (h3 : P .bool .bool) (h4 : P .param .param) (h5 : P .never .never) (h6 : P .tup .tup) (h7 : ∀ a b, P (.ref a) (.ref b)) (h8 : P .box .box) (h9 : ∀ n m, P (.arr n) (.arr m)) (h10 : ∀ a b, P (.adt a) (.adt b)) :
 ∀ h h' : Hd, h.tag = h'.tag → P h h' := by
 intro h h' e
 cases h with
 | var n => cases h' with | var m => exact h0 n m | _ => exact noTag rfl e
 | ivar n => cases h' with | ivar m => exact h1 n m | _ => exact noTag rfl e
 | int n => cases h' with | int m => exact h2 n m | _ => exact noTag rfl e
 | bool => cases h' with | bool => exact h3 | _ => exact noTag rfl e
 | param => cases h' with | param => exact h4 | _ => exact noTag rfl e
 | never => cases h' with | never => exact h5 | _ => exact noTag rfl e
 | tup => cases h' with | tup => exact h6 | _ => exact noTag rfl e
 | ref n => cases h' with | ref m => exact h7 n m | _ => exact noTag rfl e
 | box => cases h' with | box => exact h8 | _ => exact noTag rfl e
 | arr n => cases h' with | arr m => exact h9 n m | _ => exact noTag rfl e
 | adt n => cases h' with | adt m => exact h10 n m | _ => exact noTag rfl e
theorem wrap_kds (h : Hd) (l : List D) : ∃ r, wrap h l = .tup (.str (kds h) :: r) := by cases h <;> exact ⟨_, rfl⟩
theorem eqv_wrap_ne {h h' : Hd} {l l' : List D} (hne : kd h ≠ kd h') : PyData.eqv (wrap h l).py (wrap h' l').py = false := by
 obtain ⟨r, hr⟩ := wrap_kds h l
 obtain ⟨r', hr'⟩ := wrap_kds h' l'
 rw [hr, hr']
 simp only [D.py, D.pys, PyData.eqv, PyData.eqvAll, kds_ne hne, Bool.false_and]
theorem dnode {h h' : Hd} {a b : List T} : decide (T.node h a = T.node h' b) = (decide (h = h') && decide (a = b)) := by
 by_cases e1 : h = h' <;> by_cases e2 : a = b <;> simp [e1, e2]
theorem dec_eq {p q : Prop} [Decidable p] [Decidable q] (h : p ↔ q) : decide p = decide q := by
 rw [Bool.eq_iff_iff]; simp only [decide_eq_true_eq]; exact h
theorem eqv_wrap_eq {h h' : Hd} {a b : List T} (hk : kd h = kd h') (w1 : fits h a.length) (w2 : fits h' b.length) (ih : PyData.eqvAll (D.pys (encs a)) (D.pys (encs b)) = decide (a = b)) :
 PyData.eqv (wrap h (encs a)).py (wrap h' (encs b)).py = (decide (h = h') && decide (a = b)) := by
 have leaf : a.length = 0 → b.length = 0 → decide (a = b) = true := fun h1 h2 => by rw [List.length_eq_zero_iff.mp h1, List.length_eq_zero_iff.mp h2]; rfl
 have num : ∀ n m : Nat, ((n : Int) == (m : Int)) = decide (n = m) := fun n m => by rw [show ((n : Int) == (m : Int)) = decide ((n : Int) = (m : Int)) from rfl]; exact dec_eq Int.ofNat_inj
 revert w1 w2
 refine Hd.same (P := fun h h' => fits h a.length → fits h' b.length → PyData.eqv (wrap h (encs a)).py (wrap h' (encs b)).py = (decide (h = h') && decide (a = b))) ?_ ?_ ?_ ?_ ?_ ?_ ?_ ?_ ?_ ?_ ?_ h h' (tag_of_kd hk)
 · intro n m w1 w2; rw [leaf w1 w2, Bool.and_true, dec_eq (q := n = m) (Iff.of_eq (Hd.var.injEq n m)), ← num]; simp only [wrap, D.py, D.pys, PyData.eqv, PyData.eqvAll, beq_self_eq_true, Bool.true_and, Bool.and_true]
 · intro n m w1 w2; rw [leaf w1 w2, Bool.and_true, dec_eq (q := n = m) (Iff.of_eq (Hd.ivar.injEq n m)), ← num]; simp only [wrap, D.py, D.pys, PyData.eqv, PyData.eqvAll, beq_self_eq_true, Bool.true_and, Bool.and_true]
 · intro n m w1 w2; rw [leaf w1 w2]; cases n <;> cases m <;> kernel_rfl
 · intro w1 w2; rw [leaf w1 w2]; kernel_rfl
 · intro w1 w2; rw [leaf w1 w2]; kernel_rfl
 · intro w1 w2; rw [leaf w1 w2]; kernel_rfl
 · intro w1 w2; simp only [wrap, D.py, D.pys, PyData.eqv, PyData.eqvAll, ih, beq_self_eq_true, Bool.true_and, Bool.and_true, decide_true]
 · intro n m w1 w2; simp only [wrap, D.py, D.pys, PyData.eqv, PyData.eqvAll, ih, beq_self_eq_true, Bool.true_and]; cases n <;> cases m <;> rfl
 · intro w1 w2; simp only [wrap, D.py, D.pys, PyData.eqv, PyData.eqvAll, ih, beq_self_eq_true, Bool.true_and, Bool.and_true, decide_true]
 · intro n m w1 w2
   have hl : ∀ l : List T, (D.pys (encs l)).length = l.length := fun l => by
    induction l with
    | nil => rfl
    | cons t ts ih => exact congrArg Nat.succ ih
   simp only [wrap, D.py, D.pys, PyData.eqv, PyData.eqvAll, pys_append]
   rw [eqvAll_append (by rw [hl, hl, show a.length = 1 from w1, show b.length = 1 from w2]), ih, dec_eq (q := n = m) (Iff.of_eq (Hd.arr.injEq n m)), ← num]
   simp only [PyData.eqv, PyData.eqvAll, Bool.and_true, beq_self_eq_true, Bool.true_and, Bool.and_comm]
 · intro n m w1 w2
   have AB : (PySem.Str.ofString "A" == PySem.Str.ofString "B") = false := by kernel_rfl
   have BA : (PySem.Str.ofString "B" == PySem.Str.ofString "A") = false := by kernel_rfl
   cases n <;> cases m <;> (simp only [wrap, D.py, D.pys, PyData.eqv, PyData.eqvAll, ih, Bool.false_eq_true, if_true, if_false, AB, BA, beq_self_eq_true, Bool.true_and, Bool.and_true, Bool.false_and, Bool.and_false]; try rfl)
mutual
theorem eqv_enc : ∀ t u : T, t.wf → u.wf → PyData.eqv (enc t).py (enc u).py = decide (t = u)
 | .node h ch, .node h' ch', w1, w2 => by
  unfold enc
  rw [dnode]
  by_cases hk : kd h = kd h'
  · exact eqv_wrap_eq hk w1.1 w2.1 (eqvs_enc ch ch' w1.2 w2.2)
  · rw [eqv_wrap_ne hk]
    have : h ≠ h' := fun e => hk (e ▸ rfl)
    simp [this]
theorem eqvs_enc : ∀ t u : List T, T.wfs t → T.wfs u → PyData.eqvAll (D.pys (encs t)) (D.pys (encs u)) = decide (t = u)
 | [], [], _, _ => by simp [encs, D.pys, PyData.eqvAll]
 | [], _ :: _, _, _ => by simp [encs, D.pys, PyData.eqvAll]
 | _ :: _, [], _, _ => by simp [encs, D.pys, PyData.eqvAll]
 | t :: ts, u :: us, w1, w2 => by
  simp only [encs, D.pys, PyData.eqvAll, eqv_enc t u w1.1 w2.1, eqvs_enc ts us w1.2 w2.2]
  by_cases e1 : t = u <;> by_cases e2 : ts = us <;> simp [e1, e2]
end
theorem tag_word {h : Hd} {x : Str} (e : (kds h == x) = true) : words.idxOf x = h.tag := by rw [← kds_tag, eq_of_beq e]
theorem Hd.of_ref {h : Hd} (e : (kds h == PySem.Str.ofString "ref") = true) : ∃ m, h = .ref m := by
 have e : 7 = h.tag := (by kernel_rfl : words.idxOf (PySem.Str.ofString "ref") = 7) ▸ tag_word e
 cases h with
 | ref m => exact ⟨m, rfl⟩
 | _ => exact noTag rfl e
theorem Hd.of_box {h : Hd} (e : (kds h == PySem.Str.ofString "box") = true) : h = .box := by
 have e : 8 = h.tag := (by kernel_rfl : words.idxOf (PySem.Str.ofString "box") = 8) ▸ tag_word e
 cases h with
 | box => exact rfl
 | _ => exact noTag rfl e
theorem Hd.of_arr {h : Hd} (e : (kds h == PySem.Str.ofString "array") = true) : ∃ n, h = .arr n := by
 have e : 9 = h.tag := (by kernel_rfl : words.idxOf (PySem.Str.ofString "array") = 9) ▸ tag_word e
 cases h with
 | arr n => exact ⟨n, rfl⟩
 | _ => exact noTag rfl e
theorem Hd.of_tup {h : Hd} (e : (kds h == PySem.Str.ofString "tuple") = true) : h = .tup := by
 have e : 6 = h.tag := (by kernel_rfl : words.idxOf (PySem.Str.ofString "tuple") = 6) ▸ tag_word e
 cases h with
 | tup => exact rfl
 | _ => exact noTag rfl e
theorem Hd.of_adt {h : Hd} (e : (kds h == PySem.Str.ofString "adt") = true) : ∃ b, h = .adt b := by
 have e : 10 = h.tag := (by kernel_rfl : words.idxOf (PySem.Str.ofString "adt") = 10) ▸ tag_word e
 cases h with
 | adt b => exact ⟨b, rfl⟩
 | _ => exact noTag rfl e
theorem Hd.leaf {h : Hd} {n : Nat} (e1 : (kds h == PySem.Str.ofString "ref") = false) (e2 : (kds h == PySem.Str.ofString "box") = false) (e3 : (kds h == PySem.Str.ofString "array") = false) (e4 : (kds h == PySem.Str.ofString "tuple") = false) (e5 : (kds h == PySem.Str.ofString "adt") = false) (hf : fits h n) : n = 0 := by
 have no : ∀ {x : Str}, (x == x) = false → n = 0 := fun e => absurd e (by simp)
 cases h with
 | ref m => exact no e1
 | box => exact no e2
 | arr m => exact no e3
 | tup => exact no e4
 | adt b => exact no e5
 | _ => exact hf
theorem fits_len {h : Hd} {n : Nat} (w : fits h n) : n ≤ 2 := by
 cases h with
 | tup => exact w
 | ref | box | arr => exact Nat.le_trans (Nat.le_of_eq w) (by decide)
 | adt => exact Nat.le_of_eq w
 | _ => exact Nat.le_trans (Nat.le_of_eq w) (by decide)
theorem cont2 {a b x : Str} : [a, b].contains x = (x == a || x == b) := by
 cases h1 : x == a <;> cases h2 : x == b <;> simp [List.contains, List.elem, h1, h2]
noncomputable abbrev HK (C : Cx) : Prop := C.K = hd.heap_39 C.w.params
structure Rm (A : Around) (n : Nat) : Prop where
 hh : A.handled = none
 dep : A.depth + n ≤ 999
 uni : A.units + 3 * n ≤ 6000
theorem Rm.le {A : Around} {n m : Nat} (h : Rm A n) (l : m ≤ n) : Rm A m := ⟨h.hh, Nat.le_trans (Nat.add_le_add_left l _) h.dep, Nat.le_trans (Nat.add_le_add_left (Nat.mul_le_mul_left 3 l) _) h.uni⟩
theorem Rm.ad {A : Around} {n a b : Nat} (h : Rm A (n + a)) (e : Nat.ble b a = true) : Rm A (n + b) := h.le (Nat.add_le_add_left (Nat.le_of_ble_eq_true e) n)
theorem Rm.into {A A' : Around} {n : Nat} (h : Rm A (n + 1)) (h1 : A'.handled = A.handled) (h2 : A'.depth ≤ A.depth + 1) (h3 : A'.units ≤ A.units + 3) : Rm A' n := ⟨h1.trans h.hh, Nat.le_trans (Nat.add_le_add_right h2 n) (by rw [Nat.add_assoc, Nat.add_comm 1]; exact h.dep), Nat.le_trans (Nat.add_le_add_right h3 _) (by rw [Nat.add_assoc, Nat.add_comm 3]; exact h.uni)⟩
theorem Rm.room {A : Around} {n : Nat} (h : Rm A (n + 1)) : A.depth < recursionLimit := Nat.lt_of_le_of_lt (Nat.le_trans (Nat.le_add_right _ _) h.dep) (by decide)
theorem Rm.u {A : Around} {n k : Nat} (h : Rm A n) (hk : k ≤ 3000) : A.units + k < cLine := Nat.lt_of_le_of_lt (Nat.add_le_add (Nat.le_trans (Nat.le_add_right _ _) h.uni) hk) (by decide)
theorem kf_local {env : Env} {S : Scope} {x : Str} {k : NameKind} (h : env.scope = S) (e : S.names.lookup x = some k) : env.kindOf x = some k := by unfold Env.kindOf; rw [h]; exact e
theorem br_f {b : Bool} {P Q : Prop} (e : b = false) (h : Q) : Br b (P) (Q) := ⟨fun h' => absurd (e.symm.trans h') (by decide), fun _ => h⟩
theorem br_t {b : Bool} {P Q : Prop} (e : b = true) (h : P) : Br b (P) (Q) := ⟨fun _ => h, fun h' => absurd (e.symm.trans h') (by decide)⟩
theorem br_f' {b : Bool} {P Q : Prop} (e : b = false) (h : Q) : Br' b Q P := ⟨fun _ => h, fun h' => absurd (e.symm.trans h') (by decide)⟩
theorem br_t' {b : Bool} {P Q : Prop} (e : b = true) (h : P) : Br' b Q P := ⟨fun h' => absurd (e.symm.trans h') (by decide), fun _ => h⟩
theorem sz_and {n : Nat} {P : Prop} (e : n ≤ sizeLine) (h : P) : n ≤ sizeLine ∧ P := ⟨e, h⟩
section
variable {C : Cx} {A : Around} {env : Env} {ρ : Str → Option D} {μ : Mem} {Q : D → Mem → Prop} {X : Xp}
theorem Ev.gfn {x : Str} {pos : Pos} {v : Value} (hC : HK C) (e : nsIn (hd.heap_39 C.w.params) mainGlobals x = some (some v)) (hx : env.kindOf x = some .globalImplicit) (hdb : (x == ("__debug__" : Str)) = false) (h : Q (.raw v) μ) :
 Ev C A env (eval (.Name x pos) env) ρ μ Q := Ev.glob (v := v) (by rw [hC]; exact e) (.raw v) h hx hdb
theorem Ev.gbi {x : Str} {pos : Pos} {v : Value} (hC : HK C) (e : nsIn (hd.heap_39 C.w.params) mainGlobals x = some none) (hv : bootBuiltins x = some v) (hx : env.kindOf x = some .globalImplicit) (hn : x ≠ "__name__") (hdb : (x == ("__debug__" : Str)) = false) (h : Q (.raw v) μ) :
 Ev C A env (eval (.Name x pos) env) ρ μ Q := Ev.built (v := v) (by rw [hC]; exact e) hv h hx hn hdb
theorem Ev.callG {x : Str} {p pos : Pos} {e : Expr} {rest : List Expr} {fa : Addr} (hC : HK C) (hg : nsIn (hd.heap_39 C.w.params) mainGlobals x = some (some (.ref fa))) (hx : env.kindOf x = some .globalImplicit) (hdb : (x == ("__debug__" : Str)) = false)
 (hk : keepOk (hd.heap_39 C.w.params) (.ref fa) = true) (he : starEach (e :: rest) env = (false, eval e env) :: starEach rest env) (hp : (backTo pos (starEach rest env)).any (·.1) = false)
 (h : Es C A env (spliced (backTo pos (starEach (e :: rest) env))) ρ μ (CallQ C A (.ref fa) Q)) : Ev C A env (eval (.Call (.Name x p) (e :: rest) [] pos) env) ρ μ Q :=
 Ev.call (fv := .ref fa) (Ev.gfn hC hg hx hdb ⟨rfl, h⟩) (by rw [hC]; exact hk) he hp
theorem Ev.callG0 {x : Str} {p pos : Pos} {fa : Addr} (hC : HK C) (hg : nsIn (hd.heap_39 C.w.params) mainGlobals x = some (some (.ref fa))) (hx : env.kindOf x = some .globalImplicit) (hdb : (x == ("__debug__" : Str)) = false)
 (hk : keepOk (hd.heap_39 C.w.params) (.ref fa) = true)
 (h : Call C A (.ref fa) [] μ Q) : Ev C A env (eval (.Call (.Name x p) [] [] pos) env) ρ μ Q :=
 Ev.call0 (fv := .ref fa) (Ev.gfn hC hg hx hdb ⟨rfl, h⟩) (by rw [hC]; exact hk)
theorem Ev.callB {x : Str} {p pos : Pos} {e : Expr} {rest : List Expr} {fv : Value} (hC : HK C) (hg : nsIn (hd.heap_39 C.w.params) mainGlobals x = some none) (hv : bootBuiltins x = some fv) (hx : env.kindOf x = some .globalImplicit) (hn : x ≠ "__name__") (hdb : (x == ("__debug__" : Str)) = false)
 (hk : keepOk (hd.heap_39 C.w.params) fv = true) (he : starEach (e :: rest) env = (false, eval e env) :: starEach rest env) (hp : (backTo pos (starEach rest env)).any (·.1) = false)
 (h : Es C A env (spliced (backTo pos (starEach (e :: rest) env))) ρ μ (CallQ C A fv Q)) : Ev C A env (eval (.Call (.Name x p) (e :: rest) [] pos) env) ρ μ Q :=
 Ev.call (fv := fv) (Ev.gbi hC hg hv hx hn hdb ⟨rfl, h⟩) (by rw [hC]; exact hk) he hp
theorem Call.def {n : Nat} {a : Addr} {oc : Value} {od : Option Addr} {fd : FuncData} {osl : Array (Option Value)} {body : List Stmt} {ds : List D} (names : List Str) (hC : HK C) (hr : Rm A (n + 1))
 (ho : (hd.heap_39 C.w.params).lookup a = some ⟨oc, od, .func fd, osl⟩) (hbody : fd.body = .stmts body) (hg : fd.globals = mainGlobals) (hb : fd.builtins = builtinsNs) (hcl : fd.closure = [])
 (hcd : codeIn (hd.heap_39 C.w.params) fd.code fd.qualname = true)
 (hbind : ∀ s vs, vs.length = ds.length → BindsTo s fd ⟨vs, []⟩ (names.zip vs)) (hn : (names.all fun x => fd.scope.names.lookup x == some .local || fd.scope.names.lookup x == some .cell) = true) (nd : names.Nodup)
 (hk : fd.scope.kind = .function) (hco : fd.scope.isCoroutine = false) (hgen : fd.scope.isGenerator = false)
 (h : ∀ env A', env.scope = fd.scope → (∀ x, fd.scope.names.lookup x = some .cell → (env.cells.lookup x).isSome = true) → Rm A' n → A'.frames = A.frames.map (env :: ·) → env.frame = some env.locals →
  Ex C A' env (execs body env) (args names ds) μ (FnQ Q) noX) : Call C A (.ref a) ds μ Q :=
 Call.fn names (by rw [hC]; exact ho) hbody hg hb hcl (by rw [hC]; exact hcd) hr.room hbind hn nd hk hco hgen
  fun env A' h1 h2 h3 h4 h5 h6 h7 => h env A' h1 h2 (hr.into h3 (Nat.le_of_eq h4) (Nat.le_of_eq h5)) h6 h7
theorem bind0 {P : List Value → Prop} (h : Unit → P []) (vs : List Value) (e : vs.length = 0) : P vs := List.length_eq_zero_iff.mp e ▸ h ()
theorem bindS {n : Nat} {P : List Value → Prop} (h : ∀ a l, l.length = n → P (a :: l)) (vs : List Value) (e : vs.length = n + 1) : P vs := by
 obtain ⟨a, l, rfl⟩ := List.exists_cons_of_length_eq_add_one e
 exact h a l (Nat.succ.inj e)
theorem bind1 {P : List Value → Prop} (h : ∀ a, P [a]) : ∀ vs : List Value, vs.length = 1 → P vs := bindS fun a => bind0 fun _ => h a
theorem bind2 {P : List Value → Prop} (h : ∀ a b, P [a, b]) : ∀ vs : List Value, vs.length = 2 → P vs := bindS fun a => bind1 (P := fun l => P (a :: l)) (h a)
theorem bind3 {P : List Value → Prop} (h : ∀ a b c, P [a, b, c]) : ∀ vs : List Value, vs.length = 3 → P vs := bindS fun a => bind2 (P := fun l => P (a :: l)) (h a)
theorem bind4 {P : List Value → Prop} (h : ∀ a b c d, P [a, b, c, d]) : ∀ vs : List Value, vs.length = 4 → P vs := bindS fun a => bind3 (P := fun l => P (a :: l)) (h a)
theorem CallC.def {n : Nat} {a : Addr} {oc : Value} {od : Option Addr} {fd : FuncData} {osl : Array (Option Value)} {body : List Stmt} {ds : List D} (names : List Str) (hC : HK C) (hr : Rm A (n + 1))
 (ho : (hd.heap_39 C.w.params).lookup a = some ⟨oc, od, .func fd, osl⟩) (hbody : fd.body = .stmts body) (hg : fd.globals = mainGlobals) (hb : fd.builtins = builtinsNs) (hcl : fd.closure = [])
 (hcd : codeIn (hd.heap_39 C.w.params) fd.code fd.qualname = true)
 (hbind : ∀ s vs, vs.length = ds.length → BindsTo s fd ⟨vs, []⟩ (names.zip vs)) (hn : (names.all fun x => fd.scope.names.lookup x == some .local || fd.scope.names.lookup x == some .cell) = true) (nd : names.Nodup)
 (hk : fd.scope.kind = .function) (hco : fd.scope.isCoroutine = false) (hgen : fd.scope.isGenerator = false)
 (h : ∀ env A', env.scope = fd.scope → (∀ x, fd.scope.names.lookup x = some .cell → (env.cells.lookup x).isSome = true) → Rm A' n → A'.frames = A.frames.map (env :: ·) → env.frame = some env.locals →
  Ex C A' env (execs body env) (args names ds) μ (FnQ Q) noX) : CallC C A (.ref a) ds μ Q :=
 CallC.fn names [] [] .nil (by rw [hC]; exact ho) hbody hg hb hcl (by rw [hC]; exact hcd) hr.room (fun s vs hl _ => by rw [List.append_nil]; exact hbind s vs hl) hn nd hk hco hgen
  (by rw [List.append_nil]; exact fun env A' h1 h2 h3 h4 h5 h6 h7 => h env A' h1 h2 (hr.into h3 (Nat.le_of_eq h4) (Nat.le_of_eq h5)) h6 h7)
theorem CompGo.name {x : Str} {px : Pos} {elt : Expr} {scope : Scope} {R : List D → Mem → Prop} {ds : List D} {μ1 μh : Mem} (hz : ds.length ≤ sizeLine) (J : Nat → List D → Mem → Prop) (j0 : J 0 [] μh) (hx : scope.names.lookup x = some .local)
 (turn : ∀ B hB, (∀ b, C.B b → B b) → ∀ cenv, CompEnv scope cenv → ∀ i d acc μ, ds[i]? = some d → J i acc μ → Ev (C.ban B hB) A cenv (eval elt cenv) (bnd (cr scope ρ) x d) μ fun d' μ3 => J (i + 1) (acc ++ [d']) μ3)
 (fin : ∀ acc μ', J ds.length acc μ' → Fg (R acc) (rest μ1 μh μ')) : CompGo C A scope (.Name x px) elt [] ρ R ds μ1 μh := by
 refine ⟨hz, J, j0, fun B hB hb cenv hc i d acc μ' hd hj => AsgL.name (hc.names x _ hx (by decide)) ⟨fun y d' hy => ?_, Ets.nil ⟨fun _ => turn B hB hb cenv hc i d acc μ' hd hj, fun h => by cases h⟩⟩, fin⟩
 unfold bnd
 by_cases q : y = x
 · subst q; unfold cr at hy; rw [hx] at hy; simp at hy
 · rw [if_neg q]; exact hy
theorem Cmp.in2 {x a b : Str} {n : Nat} (hr : Rm A n) (ha : PyData.strOk a = true) (hb : PyData.strOk b = true) (hx : PyData.strOk x = true) (h : Q (.bool ([a, b].contains x)) μ) : Cmp C A .In (.str x) (.tup [.str a, .str b]) μ Q :=
 Cmp.inStrs (l := [a, b]) (by simp [ha, hb]) hx (hr.u (by decide)) h
theorem Cmp.notIn2 {x a b : Str} {n : Nat} (hr : Rm A n) (ha : PyData.strOk a = true) (hb : PyData.strOk b = true) (hx : PyData.strOk x = true) (h : Q (.bool (![a, b].contains x)) μ) : Cmp C A .NotIn (.str x) (.tup [.str a, .str b]) μ Q :=
 Cmp.notInStrs (l := [a, b]) (by simp [ha, hb]) hx (hr.u (by decide)) h
theorem bv_list : bootBuiltins (PySem.Str.ofString "list") = some (.type "list") := rfl
theorem bv_tuple : bootBuiltins (PySem.Str.ofString "tuple") = some (.type "tuple") := rfl
theorem bv_str : bootBuiltins (PySem.Str.ofString "str") = some (.type "str") := rfl
theorem bv_int : bootBuiltins (PySem.Str.ofString "int") = some (.type "int") := rfl
theorem bv_range : bootBuiltins (PySem.Str.ofString "range") = some (.type "range") := rfl
theorem bv_zip : bootBuiltins (PySem.Str.ofString "zip") = some (.type "zip") := rfl
theorem bv_len : bootBuiltins (PySem.Str.ofString "len") = some (.builtin "len") := rfl
theorem bv_max : bootBuiltins (PySem.Str.ofString "max") = some (.builtin "max") := rfl
theorem bv_isi : bootBuiltins (PySem.Str.ofString "isinstance") = some (.builtin "isinstance") := rfl
theorem CompScope.of {scope S : Scope} (hs : env.scope = S) (hc : ∀ x, S.names.lookup x = some .cell → (env.cells.lookup x).isSome = true)
 (h1 : (scope.names.all fun p => p.2 != .free || S.names.lookup p.1 == some .cell) = true) (h2 : (scope.names.all fun p => p.2 != .cell) = true) (h3 : scope.kind = .function) (h4 : (scope.names.all fun p => p.2 != .local || scope.names.lookup p.1 == some .local) = true) : CompScope scope env := by
 refine ⟨fun n hn => ?_, fun x hx => ?_, h3, fun x hx he => ?_⟩
 · have := List.all_eq_true.mp h1 _ hn
   simp at this
   exact ⟨kf_local hs this, hc _ this⟩
 · have := List.all_eq_true.mp h2 _ hx
   simpa using this
 · have := List.all_eq_true.mp h4 _ hx
   rw [he] at this
   simpa using this
theorem ne_upd {b c : Addr} {mo : MO} (h : upd μ b mo c = none) : b ≠ c := fun e => by subst e; rw [upd_self] at h; cases h
theorem none_upd {b c : Addr} {mo : MO} (h : upd μ b mo c = none) : μ c = none := by rwa [upd_other (ne_upd h).symm] at h
theorem ne_mem {b c : Addr} {mo : MO} (h1 : μ b = some mo) (h2 : μ c = none) : b ≠ c := fun e => by subst e; rw [h1] at h2; cases h2
theorem upd_upd {b : Addr} {m m' : MO} : upd (upd μ b m) b m' = upd μ b m' := by funext x; unfold upd; split <;> rfl
theorem upd_comm {b c : Addr} {m m' : MO} (h : b ≠ c) : upd (upd μ b m) c m' = upd (upd μ c m') b m := by
 funext x; unfold upd; split
 · rename_i e; split
   · rename_i e2; exact absurd (e2.symm.trans e) h
   · rfl
 · split <;> rfl
end
section
variable {C : Cx} {A : Around} {env : Env} {ρ : Str → Option D} {μ : Mem} {Q : D → Mem → Prop} {X : Xp}
theorem swaps_comp {env : Env} {S scope : Scope} {elt : Expr} {gens : List Comprehension} {p2 px : Pos} {x : Str} {line : Nat} (hs : env.scope = S) (hb : S.kind = .function) (hl : S.names.lookup x = some .local) (hp : (px.line == p2.line) = true)
 (hn : (scope.names.any fun p => p.1 == x && (p.2 == .local || p.2 == .cell)) = false) : swapsWith (.ListComp elt gens scope p2) (some (.Name x px)) line env = pure true := by
 have h1 : env.kindOf x = some .local := kf_local hs hl
 have h2 : env.blockKind = .function := by unfold Env.blockKind; rw [hs, hb]; rfl
 show (pure (env.blockKind == .function && env.kindOf x == some .local && px.line == p2.line && !(scope.names.any fun p => p.1 == x && (p.2 == .local || p.2 == .cell))) : Sem Bool) = pure true
 rw [h1, h2, hp, hn]; rfl
theorem kc_loc {S : Scope} {x : Str} (h : env.scope = S) (e : S.names.lookup x = some .local) : env.kindOf x = some .cell → (env.cells.lookup x).isSome = true := fun h9 => absurd ((kf_local h e).symm.trans h9) (by decide)
theorem Ev.p {e : Expr} {d : D} (q : Q d μ) (h : evalP ρ fuelP e = some d := by with_unfolding_all rfl) : Ev C A env (eval e env) ρ μ Q := Ev.pure h q
theorem Es.p {es : List Expr} {pos : Pos} {ds : List D} {Q : List D → Mem → Prop} (q : Q ds μ) (h : allP (evalP ρ fuelP) es = some ds := by with_unfolding_all rfl) : Es C A env (spliced (backTo pos (starEach es env))) ρ μ Q := Es.pure h q
theorem Ev.ip {test body orelse : Expr} {pos : Pos} {b : Bool} (q : Br b (Ev C A env (eval body env) ρ μ Q) (Ev C A env (eval orelse env) ρ μ Q)) (h : evalP ρ fuelP test = some (.bool b)) : Ev C A env (eval (.IfExp test body orelse pos) env) ρ μ Q := Ev.ifP h q
theorem Ev.n {x : Str} {pos : Pos} {d : D} (h : Q d μ) (hx : ρ x = some d) (hd : (x == ("__debug__" : Str)) = false) (hc : (x == ("__classdict__" : Str)) = false) : Ev C A env (eval (.Name x pos) env) ρ μ Q := Ev.name hx h hd hc
theorem Ev.g {S : Scope} {x : Str} {p pos : Pos} {e : Expr} {rest : List Expr} {fa : Addr} (h : Es C A env (spliced (backTo pos (starEach (e :: rest) env))) ρ μ (CallQ C A (.ref fa) Q)) (hC : HK C) (hg : nsIn (hd.heap_39 C.w.params) mainGlobals x = some (some (.ref fa))) (hS : env.scope = S) (hx : S.names.lookup x = some .globalImplicit) (hdb : (x == ("__debug__" : Str)) = false)
 (hk : keepOk (hd.heap_39 C.w.params) (.ref fa) = true) (he : starEach (e :: rest) env = (false, eval e env) :: starEach rest env) (hp : (backTo pos (starEach rest env)).any (·.1) = false) : Ev C A env (eval (.Call (.Name x p) (e :: rest) [] pos) env) ρ μ Q := Ev.callG hC hg (kf_local hS hx) hdb hk he hp h
theorem Ev.b {S : Scope} {x : Str} {p pos : Pos} {e : Expr} {rest : List Expr} {fv : Value} (hv : bootBuiltins x = some fv) (h : Es C A env (spliced (backTo pos (starEach (e :: rest) env))) ρ μ (CallQ C A fv Q)) (hC : HK C) (hg : nsIn (hd.heap_39 C.w.params) mainGlobals x = some none) (hS : env.scope = S) (hx : S.names.lookup x = some .globalImplicit) (hn : x ≠ "__name__") (hdb : (x == ("__debug__" : Str)) = false)
 (hk : keepOk (hd.heap_39 C.w.params) fv = true) (he : starEach (e :: rest) env = (false, eval e env) :: starEach rest env) (hp : (backTo pos (starEach rest env)).any (·.1) = false) : Ev C A env (eval (.Call (.Name x p) (e :: rest) [] pos) env) ρ μ Q := Ev.callB hC hg hv (kf_local hS hx) hn hdb hk he hp h
section
variable {S : Scope} {Q : Out → (Str → Option D) → Mem → Prop} {x : Str} {px pos : Pos} {value : Expr} {rest : List Stmt} {d : D}
theorem Ex.aC (h : Ev C A env (eval value env) ρ μ (AsnC C A env rest ρ x Q X)) (hS : env.scope = S) (e : S.names.lookup x = some .local) (hs : swapsWith value (some (.Name x px)) pos.line env = pure false) : Ex C A env (execs (.Assign [.Name x px] value pos :: rest) env) ρ μ Q X := Ex.asC h (.inl (kf_local hS e)) (kc_loc hS e) hs
theorem Ex.aP (q : Ex C A env (execs rest env) (bnd ρ x d) μ Q X) (h : evalP ρ fuelP value = some d) (hS : env.scope = S) (e : S.names.lookup x = some .local) (hs : swapsWith value (some (.Name x px)) pos.line env = pure false) : Ex C A env (execs (.Assign [.Name x px] value pos :: rest) env) ρ μ Q X := Ex.asP h q (.inl (kf_local hS e)) (kc_loc hS e) hs
theorem Ex.aL {elt tg iter : Expr} {ifs : List Expr} {scope : Scope} {p2 : Pos} (h : Ei C A env (eval iter env) tg ρ μ (CompGo C A scope tg elt ifs ρ (CompN Q ρ x))) (S' : CompScope scope env) (hs : ∀ x, foldedSetIterable iter env x = pure x) (hS : env.scope = S) (e : S.names.lookup x = some .local) (hb : S.kind = .function) (hp : (px.line == p2.line) = true)
 (hn : (scope.names.any fun p => p.1 == x && (p.2 == .local || p.2 == .cell)) = false) : Ex C A env (exec (.Assign [.Name x px] (.ListComp elt [⟨tg, iter, ifs, 0⟩] scope p2) pos) env) ρ μ Q X := Ex.assignComp h hs S' (.inl (kf_local hS e)) (kc_loc hS e) (swaps_comp hS hb e hp hn)
end
end
mutual
noncomputable def T.put (u v : T) : T → T
 | .node h ch => if T.node h ch = u then v else .node h (T.puts u v ch)
noncomputable def T.puts (u v : T) : List T → List T
 | [] => []
 | t :: ts => T.put u v t :: T.puts u v ts
end
theorem puts_eq (u v : T) : ∀ l : List T, T.puts u v l = l.map (T.put u v)
 | [] => rfl
 | t :: ts => congrArg (List.cons _) (puts_eq u v ts)
mutual
noncomputable def T.has (u : T) : T → Bool
 | .node h ch => decide (T.node h ch = u) || T.hass u ch
noncomputable def T.hass (u : T) : List T → Bool
 | [] => false
 | t :: ts => T.has u t || T.hass u ts
end
theorem hass_eq (u : T) : ∀ l : List T, T.hass u l = l.any (T.has u)
 | [] => rfl
 | t :: ts => congrArg (T.has u t || ·) (hass_eq u ts)
noncomputable def Hd.isVar : Hd → Bool
 | .var _ => true
 | _ => false
noncomputable def Hd.isIv : Hd → Bool
 | .ivar _ => true
 | _ => false
noncomputable def Hd.isInt : Hd → Bool
 | .int _ => true
 | _ => false
noncomputable def T.bound (a b : T) : Option (T × T) :=
 if a.hd.isVar then (if T.has a b then none else some (a, b))
 else if b.hd.isVar then (if T.has b a then none else some (b, a))
 else if a.hd.isIv && (b.hd.isInt || b.hd.isIv) then some (a, b)
 else if b.hd.isIv && (a.hd.isInt || a.hd.isIv) then some (b, a)
 else none
noncomputable def boundD (o : Option (T × T)) : D := match o with
 | none => .none
 | some (a, b) => .tup [enc a, enc b]
theorem kds_var (h : Hd) : (kds h == PySem.Str.ofString "var") = h.isVar := by cases h <;> rfl
theorem kds_iv (h : Hd) : (kds h == PySem.Str.ofString "intvar") = h.isIv := by cases h <;> rfl
theorem kds_ok (h : Hd) : PyData.strOk (kds h) = true := by cases h <;> kernel_rfl
theorem kds_in_int_iv (h : Hd) : [PySem.Str.ofString "int", PySem.Str.ofString "intvar"].contains (kds h) = (h.isInt || h.isIv) := by cases h <;> rfl
theorem kds_in_var_iv (h : Hd) : [PySem.Str.ofString "var", PySem.Str.ofString "intvar"].contains (kds h) = (h.isVar || h.isIv) := by cases h <;> rfl
section
variable {C : Cx} {A : Around} {env : Env} {ρ : Str → Option D} {μ : Mem} {Q : D → Mem → Prop} {X : Xp}
theorem Get.kd {t : T} (h : Q (.str (kds t.hd)) μ) : Get C A (enc t) (.int 0) μ Q := by
 obtain ⟨r, hr⟩ := enc_kd t
 rw [hr]
 exact Get.tup (k := 0) rfl (by decide) h
theorem dmin {a b c d : Nat} (h : min a b ≤ 1400) (ha : c ≤ 2 * a + 2) (hb : d ≤ 2 * b + 2) : min c d ≤ 3000 := by
 rcases Nat.le_total a b with q | q
 · rw [Nat.min_eq_left q] at h; exact Nat.le_trans (Nat.min_le_left _ _) (by omega)
 · rw [Nat.min_eq_right q] at h; exact Nat.le_trans (Nat.min_le_right _ _) (by omega)
theorem Cmp.eqT {n : Nat} (hr : Rm A n) {t u : T} (h1 : t.wf) (h2 : u.wf) (hz : min t.hgt u.hgt ≤ 1400) (h : Q (.bool (decide (t = u))) μ) : Cmp C A .Eq (enc t) (enc u) μ Q := by
 refine Cmp.eqPy (enc_ok t) (enc_ok u) (hr.u ?_) (by rw [eqv_enc t u h1 h2]; exact h)
 exact dmin hz (enc_dep t) (enc_dep u)
theorem Cmp.neT {n : Nat} (hr : Rm A n) {t u : T} (h1 : t.wf) (h2 : u.wf) (hz : min t.hgt u.hgt ≤ 1400) (h : Q (.bool (!decide (t = u))) μ) : Cmp C A .NotEq (enc t) (enc u) μ Q := by
 refine Cmp.nePy (enc_ok t) (enc_ok u) (hr.u ?_) (by rw [eqv_enc t u h1 h2]; exact h)
 exact dmin hz (enc_dep t) (enc_dep u)
theorem Cmp.neNil {n : Nat} (hr : Rm A n) {a b : Addr} {ts : List T} (ha : μ a = some (.list (encs ts))) (hb : μ b = some (.list [])) (h : Q (.bool (!decide (ts = []))) μ) : Cmp C A .NotEq (.raw (.ref a)) (.raw (.ref b)) μ Q := by
 refine Cmp.neList ha hb (encs_ok ts) rfl (hr.u ?_) ?_
 · simp only [D.pys, PyData.depth, PyData.depthAll]; omega
 · rw [eqv_nil]
   have : decide (encs ts = []) = decide (ts = []) := by cases ts <;> simp [encs]
   rw [this]; exact h
inductive All2 {α β : Type} (P : α → β → Prop) : List α → List β → Prop
 | nil : All2 P [] []
 | cons {a b l m} : P a b → All2 P l m → All2 P (a :: l) (b :: m)
theorem All2.snoc {α β : Type} {P : α → β → Prop} {l : List α} {m : List β} {a : α} {b : β} (h : All2 P l m) (x : P a b) : All2 P (l ++ [a]) (m ++ [b]) := by
 induction h with
 | nil => exact .cons x .nil
 | cons p _ ih => exact .cons p ih
theorem All2.map {α β : Type} {g : α → β} {l : List α} {m : List β} (h : All2 (fun a b => b = g a) l m) : m = l.map g := by
 induction h with
 | nil => rfl
 | cons p _ ih => rw [p, ih]; rfl
theorem CompGo.relT {x : Str} {px : Pos} {elt : Expr} {scope : Scope} {R : List D → Mem → Prop} {ts : List T} {μ1 μh : Mem} (P : T → D → Prop) (hz : ts.length ≤ 2 ^ 20) (hx : scope.names.lookup x = some .local) (hs : Sub μh μ1)
 (turn : ∀ B hB, (∀ b, C.B b → B b) → ∀ cenv, CompEnv scope cenv → ∀ t, t ∈ ts → Ev (C.ban B hB) A cenv (eval elt cenv) (bnd (cr scope ρ) x (enc t)) μh fun d' μ3 => P t d' ∧ Sub μh μ3)
 (fin : ∀ acc, All2 P ts acc → R acc μ1) : CompGo C A scope (.Name x px) elt [] ρ R (encs ts) μ1 μh := by
 refine CompGo.name (by rw [encs_len]; exact Nat.le_trans hz (by decide)) (fun i acc μ => All2 P (ts.take i) acc ∧ μ = μh) ⟨.nil, rfl⟩ hx ?_ ?_
 · rintro B hB hb cenv hc i d acc μ' hd ⟨ha, rfl⟩
   rw [encs_eq, List.getElem?_map] at hd
   obtain ⟨t, ht, rfl⟩ := Option.map_eq_some_iff.mp hd
   refine Ev.forgetPost (Ev.mono (turn B hB hb cenv hc t (List.mem_of_getElem? ht)) ?_)
   rintro d' μ3 ⟨hp, h3⟩
   refine ⟨_, h3, ?_, rfl⟩
   rw [List.take_add_one, ht]; exact ha.snoc hp
 · rintro acc μ' ⟨ha, rfl⟩
   refine ⟨μ1, Sub.rest hs (Sub.refl _), ?_⟩
   rw [encs_len, List.take_length] at ha; exact fin acc ha
theorem CompGo.mapT {x : Str} {px : Pos} {elt : Expr} {scope : Scope} {R : List D → Mem → Prop} {ts : List T} {μ1 μh : Mem} (g : T → D) (hz : ts.length ≤ 2 ^ 20) (hx : scope.names.lookup x = some .local) (hs : Sub μh μ1)
 (turn : ∀ B hB, (∀ b, C.B b → B b) → ∀ cenv, CompEnv scope cenv → ∀ t, t ∈ ts → Ev (C.ban B hB) A cenv (eval elt cenv) (bnd (cr scope ρ) x (enc t)) μh fun d' μ3 => d' = g t ∧ Sub μh μ3)
 (fin : R (ts.map g) μ1) : CompGo C A scope (.Name x px) elt [] ρ R (encs ts) μ1 μh :=
 CompGo.relT (fun t d => d = g t) hz hx hs turn fun acc ha => by rw [ha.map]; exact fin
theorem CompGo.filterT {x : Str} {px : Pos} {elt c : Expr} {scope : Scope} {R : List D → Mem → Prop} {ts : List T} {μ1 μh : Mem} (p : T → Bool) (hz : ts.length ≤ 2 ^ 20) (hx : scope.names.lookup x = some .local) (hs : Sub μh μ1)
 (turn : ∀ B hB, (∀ b, C.B b → B b) → ∀ cenv, CompEnv scope cenv → ∀ t, t ∈ ts → Et (C.ban B hB) A cenv (isTrue c cenv (eval c cenv)) (bnd (cr scope ρ) x (enc t)) μh fun b μ2 => b = p t ∧ Sub μh μ2)
 (item : ∀ B hB, (∀ b, C.B b → B b) → ∀ cenv, CompEnv scope cenv → ∀ t, t ∈ ts → ∀ μ2, Sub μh μ2 → Ev (C.ban B hB) A cenv (eval elt cenv) (bnd (cr scope ρ) x (enc t)) μ2 fun d' μ3 => d' = enc t ∧ Sub μh μ3)
 (fin : R (encs (ts.filter p)) μ1) : CompGo C A scope (.Name x px) elt [c] ρ R (encs ts) μ1 μh := by
 refine ⟨by rw [encs_len]; exact Nat.le_trans hz (by decide), fun i acc μ => acc = encs ((ts.take i).filter p) ∧ Sub μh μ, ⟨rfl, Sub.refl _⟩, ?_, ?_⟩
 · rintro B hB hb cenv hc i d acc μ' hd ⟨rfl, hsm⟩
   rw [encs_eq, List.getElem?_map] at hd
   obtain ⟨t, ht, rfl⟩ := Option.map_eq_some_iff.mp hd
   have hd' := List.mem_of_getElem? ht
   refine AsgL.name (hc.names x _ hx (by decide)) ⟨fun y d' hy => ?_, ?_⟩
   · unfold bnd
     by_cases q : y = x
     · subst q; unfold cr at hy; rw [hx] at hy; simp at hy
     · rw [if_neg q]; exact hy
   · refine Ets.one fun s k F => ?_
     refine wpAny_mono (turn B hB hb cenv hc t hd' s (k.sub hsm) (F.sub hsm)) ?_ fun _ _ x => x
     rintro b s' ⟨μ2, k2, t2, rfl, h2⟩
     refine ⟨μ2, k2, t2.sub hsm, fun hp => ?_, fun hp => ⟨?_, h2⟩⟩
     · refine Ev.mono (item B hB hb cenv hc t hd' μ2 h2) ?_
       rintro d' μ3 ⟨rfl, h3⟩
       refine ⟨?_, h3⟩
       rw [List.take_add_one, ht]; simp [List.filter_append, hp, encs_eq]
     · rw [List.take_add_one, ht]; simp [List.filter_append, hp]
 · rintro acc μ' ⟨rfl, hsm⟩
   refine ⟨μ1, Sub.rest hs hsm, ?_⟩
   rw [encs_len, List.take_length]; exact fin
end
inductive SameHd : Hd → Hd → Prop
 | var (n m : Nat) : SameHd (.var n) (.var m)
 | ivar (n m : Nat) : SameHd (.ivar n) (.ivar m)
 | int (a b : Bool) : SameHd (.int a) (.int b)
 | bool : SameHd .bool .bool
 | param : SameHd .param .param
 | never : SameHd .never .never
 | tup : SameHd .tup .tup
 | ref (a b : Bool) : SameHd (.ref a) (.ref b)
 | box : SameHd .box .box
 | arr (n m : Nat) : SameHd (.arr n) (.arr m)
 | adt (a b : Bool) : SameHd (.adt a) (.adt b)
theorem SameHd.of {h h' : Hd} (e : h.tag = h'.tag) : SameHd h h' := Hd.same .var .ivar .int .bool .param .never .tup .ref .box .arr .adt h h' e
section
variable {C : Cx} {A : Around} {μ : Mem} {Q : D → Mem → Prop}
theorem parts_of_spec (hC : HK C) {n : Nat} (hr : Rm A (n + 1)) (t : T) (ht : t.wf) (h : Q (.tup (encs t.ch)) μ) : Call C A (.ref 54) [enc t] μ Q := by
 refine Call.def [PySem.Str.ofString "told"] hC hr rfl rfl rfl rfl rfl (by rfl) ?_ rfl (by decide) rfl rfl rfl ?_
 · exact fun s => bind1 fun v0 => BindsTo.of_eq rfl
 intro env A' hs hc hr' hfr hef
 dsimp only at hs hc
 show Ex _ _ _ (execs (_ :: _) _) _ _ _ _
 obtain ⟨hh, ch⟩ := t
 obtain ⟨hf, hw⟩ := ht
 refine Ex.aC ?_ (by assumption) (by rfl) (by rfl)
 refine Ev.sub ?_
 refine Ev.p ?_
 refine Ev.p ?_
 refine Get.kd ?_
 refine Ex.cons ?_
 refine Ex.iteP (by with_unfolding_all rfl) ?_
 refine ⟨fun e => ?_, fun e1 => ?_⟩
 · obtain ⟨m, rfl⟩ := Hd.of_ref e
   obtain ⟨c, rfl⟩ := List.length_eq_one_iff.mp (show ch.length = 1 from hf)
   refine Ex.retC ?_ (by with_unfolding_all rfl)
   exact ⟨_, Sub.refl _, h⟩
 refine Ex.nil ?_
 refine Ex.cons ?_
 refine Ex.iteP (by with_unfolding_all rfl) ?_
 refine ⟨fun e => ?_, fun e2 => ?_⟩
 · have hl : ch.length = 1 := by rcases Bool.or_eq_true_iff.mp e with e | e; cases Hd.of_box e; exact hf; obtain ⟨k, rfl⟩ := Hd.of_arr e; exact hf
   obtain ⟨c, rfl⟩ := List.length_eq_one_iff.mp hl
   rcases Bool.or_eq_true_iff.mp e with e | e
   · cases Hd.of_box e
     refine Ex.retC ?_ (by with_unfolding_all rfl)
     exact ⟨_, Sub.refl _, h⟩
   · obtain ⟨k, rfl⟩ := Hd.of_arr e
     refine Ex.retC ?_ (by with_unfolding_all rfl)
     exact ⟨_, Sub.refl _, h⟩
 rw [Bool.or_eq_false_iff] at e2
 refine Ex.nil ?_
 refine Ex.cons ?_
 refine Ex.iteP (by with_unfolding_all rfl) ?_
 refine ⟨fun e => ?_, fun e3 => ?_⟩
 · cases Hd.of_tup e
   refine Ex.retC ?_ (by with_unfolding_all rfl)
   exact ⟨_, Sub.refl _, h⟩
 refine Ex.nil ?_
 refine Ex.retE ?_
 refine Ev.ip ?_ (by with_unfolding_all rfl)
 refine ⟨fun e => ?_, fun e4 => ?_⟩
 · obtain ⟨k, rfl⟩ := Hd.of_adt e
   refine Ev.p ?_
   exact ⟨_, Sub.refl _, h⟩
 cases List.length_eq_zero_iff.mp (Hd.leaf e1 e2.1 e2.2 e3 e4 hf)
 refine Ev.p ?_
 exact ⟨_, Sub.refl _, h⟩
theorem region_spec (hC : HK C) {n : Nat} (hr : Rm A (n + 1)) (h : Q (.str (PySem.Str.ofString "")) μ) : Call C A (.ref 68) [.none] μ Q := by
 refine Call.def [PySem.Str.ofString "region"] hC hr rfl rfl rfl rfl rfl (by rfl) ?_ rfl (by decide) rfl rfl rfl ?_
 · exact fun s => bind1 fun v0 => BindsTo.of_eq rfl
 intro env A' hs hc hr' hfr hef
 dsimp only at hs hc
 show Ex _ _ _ (execs (_ :: _) _) _ _ _ _
 refine Ex.iteT ?_ (by with_unfolding_all rfl) (by first | rfl | assumption)
 refine Ex.retC ?_ (by with_unfolding_all rfl)
 exact ⟨_, Sub.refl _, h⟩
theorem law_within_spec (hC : HK C) {n : Nat} (hr : Rm A (n + 1)) (t : T) (ht : t.wf) (h : ∀ a, μ a = none → Q (.raw (.ref a)) (upd μ a (.list (encs t.ch)))) : Call C A (.ref 182) [enc t] μ Q := by
 refine Call.def [PySem.Str.ofString "thing"] hC hr rfl rfl rfl rfl rfl (by rfl) ?_ rfl (by decide) rfl rfl rfl ?_
 · exact fun s => bind1 fun v0 => BindsTo.of_eq rfl
 intro env A' hs hc hr' hfr hef
 dsimp only at hs hc
 show Ex _ _ _ (execs (_ :: _) _) _ _ _ _
 obtain ⟨hh, ch⟩ := t
 obtain ⟨hf, hw⟩ := ht
 have hz : (encs ch).length ≤ sizeLine := by rw [encs_len]; exact Nat.le_trans (fits_len hf) (by decide)
 refine Ex.cons ?_
 refine Ex.ite ?_
 refine Et.cmp ?_
 refine Ev.sub ?_
 refine Ev.p ?_
 refine Ev.p ?_
 refine Get.kd ?_
 refine Ev.p ?_
 refine Cmp.eqStr ?_
 refine Tru.bool ?_
 refine ⟨fun e => ?_, fun e1 => ?_⟩
 · obtain ⟨m, rfl⟩ := Hd.of_ref e
   obtain ⟨c, rfl⟩ := List.length_eq_one_iff.mp (show ch.length = 1 from hf)
   refine Ex.retE ?_
   refine Ev.list ?_
   refine Es.p ?_
   refine sz_and (by assumption) ?_
   exact fun a ha => ⟨_, Sub.refl _, h a ha⟩
 refine Ex.nil ?_
 refine Ex.cons ?_
 refine Ex.ite ?_
 refine Et.cmp ?_
 refine Ev.sub ?_
 refine Ev.p ?_
 refine Ev.p ?_
 refine Get.kd ?_
 refine Ev.p ?_
 refine Cmp.in2 (by assumption) (by decide +kernel) (by decide +kernel) (by first | exact kds_ok _ | decide +kernel) ?_
 refine Tru.bool ?_
 rw [cont2]
 refine ⟨fun e => ?_, fun e2 => ?_⟩
 · rcases Bool.or_eq_true_iff.mp e with e | e
   · cases Hd.of_box e
     obtain ⟨c, rfl⟩ := List.length_eq_one_iff.mp (show ch.length = 1 from hf)
     refine Ex.retE ?_
     refine Ev.list ?_
     refine Es.p ?_
     refine sz_and (by assumption) ?_
     exact fun a ha => ⟨_, Sub.refl _, h a ha⟩
   · obtain ⟨k, rfl⟩ := Hd.of_arr e
     obtain ⟨c, rfl⟩ := List.length_eq_one_iff.mp (show ch.length = 1 from hf)
     refine Ex.retE ?_
     refine Ev.list ?_
     refine Es.p ?_
     refine sz_and (by assumption) ?_
     exact fun a ha => ⟨_, Sub.refl _, h a ha⟩
 rw [Bool.or_eq_false_iff] at e2
 refine Ex.nil ?_
 refine Ex.retE ?_
 refine Ev.ifexp ?_
 refine Et.cmp ?_
 refine Ev.sub ?_
 refine Ev.p ?_
 refine Ev.p ?_
 refine Get.kd ?_
 refine Ev.p ?_
 refine Cmp.eqStr ?_
 refine Tru.bool ?_
 refine ⟨fun e => ?_, fun e3 => ?_⟩
 · cases Hd.of_tup e
   refine Ev.b bv_list ?_ (by assumption) (by rfl) (by assumption) (by rfl) (by decide) (by rfl) (by rfl) (by rfl) (by rfl)
   refine Es.p ?_
   refine Call.listTup (by assumption) ?_
   exact fun a ha => ⟨_, Sub.refl _, h a ha⟩
 refine Ev.ifexp ?_
 refine Et.cmp ?_
 refine Ev.sub ?_
 refine Ev.p ?_
 refine Ev.p ?_
 refine Get.kd ?_
 refine Ev.p ?_
 refine Cmp.eqStr ?_
 refine Tru.bool ?_
 refine ⟨fun e => ?_, fun e4 => ?_⟩
 · obtain ⟨k, rfl⟩ := Hd.of_adt e
   refine Ev.b bv_list ?_ (by assumption) (by rfl) (by assumption) (by rfl) (by decide) (by rfl) (by rfl) (by rfl) (by rfl)
   refine Es.p ?_
   refine Call.listTup (by assumption) ?_
   exact fun a ha => ⟨_, Sub.refl _, h a ha⟩
 cases List.length_eq_zero_iff.mp (Hd.leaf e1 e2.1 e2.2 e3 e4 hf)
 refine Ev.list ?_
 refine Es.p ?_
 refine sz_and (by assumption) ?_
 exact fun a ha => ⟨_, Sub.refl _, h a ha⟩
end
section
variable {C : Cx} {A : Around} {μ : Mem} {Q : D → Mem → Prop}
theorem rebuilt_spec (hC : HK C) {n : Nat} (hr : Rm A (n + 1)) (hh : Hd) (ch us : List T) (hf : fits hh ch.length) (hu : us.length = ch.length) {a : Addr} (hm : μ a = some (.list (encs us))) (h : Q (enc (.node hh us)) μ) :
 Call C A (.ref 61) [enc (.node hh ch), .raw (.ref a)] μ Q := by
 refine Call.def [PySem.Str.ofString "told", PySem.Str.ofString "parts"] hC hr rfl rfl rfl rfl rfl (by rfl) ?_ rfl (by decide) rfl rfl rfl ?_
 · exact fun s => bind2 fun v0 v1 => BindsTo.of_eq rfl
 intro env A' hs hc hr' hfr hef
 dsimp only at hs hc
 show Ex _ _ _ (execs (_ :: _) _) _ _ _ _
 unfold enc at *
 cases hh
 case ref =>
  match ch, us, hf, hu with
  | [c], [u], _, _ =>
   refine Ex.cons ?_
   refine Ex.assignP (by with_unfolding_all rfl) ?_ (Or.inl (kf_local (by assumption) (by rfl))) (kc_loc (by assumption) (by rfl)) (by first | rfl | exact swaps_comp (by assumption) (by rfl) (by rfl) (by rfl) (by rfl))
   refine Ex.iteT ?_ (by with_unfolding_all rfl) (by first | rfl | assumption)
   refine Ex.retE ?_
   refine Ev.tuple ?_
   refine Es.cons ?_
   refine Ev.p ?_
   refine Es.cons ?_
   refine Ev.p ?_
   refine Es.cons ?_
   refine Ev.p ?_
   refine Es.cons ?_
   refine Ev.sub ?_
   refine Ev.p ?_
   refine Ev.p ?_
   refine Get.list (k := _) (d := _) (by assumption) (by rfl) (by decide) ?_
   refine Es.p ?_
   refine sz_and (by (show _ ≤ 16777216; simp; done)) ?_
   exact ⟨_, Sub.refl _, h⟩
 case box =>
  match ch, us, hf, hu with
  | [c], [u], _, _ =>
   refine Ex.cons ?_
   refine Ex.assignP (by with_unfolding_all rfl) ?_ (Or.inl (kf_local (by assumption) (by rfl))) (kc_loc (by assumption) (by rfl)) (by first | rfl | exact swaps_comp (by assumption) (by rfl) (by rfl) (by rfl) (by rfl))
   refine Ex.skipIf ?_ (by with_unfolding_all rfl) (by first | rfl | assumption)
   refine Ex.iteT ?_ (by with_unfolding_all rfl) (by first | rfl | assumption)
   refine Ex.retE ?_
   refine Ev.tuple ?_
   refine Es.cons ?_
   refine Ev.p ?_
   refine Es.cons ?_
   refine Ev.sub ?_
   refine Ev.p ?_
   refine Ev.p ?_
   refine Get.list (k := _) (d := _) (by assumption) (by rfl) (by decide) ?_
   refine Es.p ?_
   refine sz_and (by (show _ ≤ 16777216; simp; done)) ?_
   exact ⟨_, Sub.refl _, h⟩
 case arr =>
  match ch, us, hf, hu with
  | [c], [u], _, _ =>
   refine Ex.cons ?_
   refine Ex.assignP (by with_unfolding_all rfl) ?_ (Or.inl (kf_local (by assumption) (by rfl))) (kc_loc (by assumption) (by rfl)) (by first | rfl | exact swaps_comp (by assumption) (by rfl) (by rfl) (by rfl) (by rfl))
   refine Ex.skip2 ?_ (by with_unfolding_all exact ⟨rfl, rfl⟩)
   refine Ex.iteT ?_ (by with_unfolding_all rfl) (by first | rfl | assumption)
   refine Ex.retE ?_
   refine Ev.tuple ?_
   refine Es.cons ?_
   refine Ev.p ?_
   refine Es.cons ?_
   refine Ev.sub ?_
   refine Ev.p ?_
   refine Ev.p ?_
   refine Get.list (k := _) (d := _) (by assumption) (by rfl) (by decide) ?_
   refine Es.p ?_
   refine sz_and (by (show _ ≤ 16777216; simp; done)) ?_
   exact ⟨_, Sub.refl _, h⟩
 case tup =>
  have hz : (encs us).length ≤ sizeLine := by rw [encs_len, hu]; exact Nat.le_trans hf (by decide)
  refine Ex.aP ?_ (by with_unfolding_all rfl) (by assumption) (by rfl) (by rfl)
  refine Ex.skip3 ?_ (by with_unfolding_all exact ⟨rfl, rfl, rfl⟩)
  refine Ex.iteT ?_ (by with_unfolding_all rfl) (by first | rfl | assumption)
  refine Ex.retE ?_
  refine Ev.tuple ?_
  refine Es.cons ?_
  refine Ev.p ?_
  refine Es.cons ?_
  refine Ev.b bv_tuple ?_ (by assumption) (by rfl) (by assumption) (by rfl) (by decide) (by rfl) (by rfl) (by rfl) (by rfl)
  refine Es.p ?_
  refine Call.tupleList (by assumption) (by assumption) ?_
  refine Es.p ?_
  refine sz_and (by (show _ ≤ 16777216; simp; done)) ?_
  exact ⟨_, Sub.refl _, h⟩
 case adt =>
  have hz : (encs us).length ≤ sizeLine := by rw [encs_len, hu]; exact Nat.le_trans (Nat.le_of_eq hf) (by decide)
  refine Ex.aP ?_ (by with_unfolding_all rfl) (by assumption) (by rfl) (by rfl)
  refine Ex.skip4 ?_ (by with_unfolding_all exact ⟨rfl, rfl, rfl, rfl⟩)
  refine Ex.retE ?_
  refine Ev.ip ?_ (by with_unfolding_all rfl)
  refine br_t (by first | rfl | assumption) ?_
  refine Ev.tuple ?_
  refine Es.cons ?_
  refine Ev.p ?_
  refine Es.cons ?_
  refine Ev.p ?_
  refine Es.cons ?_
  refine Ev.p ?_
  refine Es.cons ?_
  refine Ev.b bv_tuple ?_ (by assumption) (by rfl) (by assumption) (by rfl) (by decide) (by rfl) (by rfl) (by rfl) (by rfl)
  refine Es.p ?_
  refine Call.tupleList (by assumption) (by assumption) ?_
  refine Es.p ?_
  refine sz_and (by (show _ ≤ 16777216; simp; done)) ?_
  exact ⟨_, Sub.refl _, h⟩
 case var =>
  match ch, us, hf, hu with
  | [], [], _, _ =>
   refine Ex.cons ?_
   refine Ex.assignP (by with_unfolding_all rfl) ?_ (Or.inl (kf_local (by assumption) (by rfl))) (kc_loc (by assumption) (by rfl)) (by first | rfl | exact swaps_comp (by assumption) (by rfl) (by rfl) (by rfl) (by rfl))
   refine Ex.skip4 ?_ (by with_unfolding_all exact ⟨rfl, rfl, rfl, rfl⟩)
   refine Ex.retE ?_
   refine Ev.ip ?_ (by with_unfolding_all rfl)
   refine br_f (by first | rfl | assumption) ?_
   refine Ev.p ?_
   exact ⟨_, Sub.refl _, h⟩
 case ivar =>
  match ch, us, hf, hu with
  | [], [], _, _ =>
   refine Ex.cons ?_
   refine Ex.assignP (by with_unfolding_all rfl) ?_ (Or.inl (kf_local (by assumption) (by rfl))) (kc_loc (by assumption) (by rfl)) (by first | rfl | exact swaps_comp (by assumption) (by rfl) (by rfl) (by rfl) (by rfl))
   refine Ex.skip4 ?_ (by with_unfolding_all exact ⟨rfl, rfl, rfl, rfl⟩)
   refine Ex.retE ?_
   refine Ev.ip ?_ (by with_unfolding_all rfl)
   refine br_f (by first | rfl | assumption) ?_
   refine Ev.p ?_
   exact ⟨_, Sub.refl _, h⟩
 case int =>
  match ch, us, hf, hu with
  | [], [], _, _ =>
   refine Ex.cons ?_
   refine Ex.assignP (by with_unfolding_all rfl) ?_ (Or.inl (kf_local (by assumption) (by rfl))) (kc_loc (by assumption) (by rfl)) (by first | rfl | exact swaps_comp (by assumption) (by rfl) (by rfl) (by rfl) (by rfl))
   refine Ex.skip4 ?_ (by with_unfolding_all exact ⟨rfl, rfl, rfl, rfl⟩)
   refine Ex.retE ?_
   refine Ev.ip ?_ (by with_unfolding_all rfl)
   refine br_f (by first | rfl | assumption) ?_
   refine Ev.p ?_
   exact ⟨_, Sub.refl _, h⟩
 case bool =>
  match ch, us, hf, hu with
  | [], [], _, _ =>
   refine Ex.cons ?_
   refine Ex.assignP (by with_unfolding_all rfl) ?_ (Or.inl (kf_local (by assumption) (by rfl))) (kc_loc (by assumption) (by rfl)) (by first | rfl | exact swaps_comp (by assumption) (by rfl) (by rfl) (by rfl) (by rfl))
   refine Ex.skip4 ?_ (by with_unfolding_all exact ⟨rfl, rfl, rfl, rfl⟩)
   refine Ex.retE ?_
   refine Ev.ip ?_ (by with_unfolding_all rfl)
   refine br_f (by first | rfl | assumption) ?_
   refine Ev.p ?_
   exact ⟨_, Sub.refl _, h⟩
 case param =>
  match ch, us, hf, hu with
  | [], [], _, _ =>
   refine Ex.cons ?_
   refine Ex.assignP (by with_unfolding_all rfl) ?_ (Or.inl (kf_local (by assumption) (by rfl))) (kc_loc (by assumption) (by rfl)) (by first | rfl | exact swaps_comp (by assumption) (by rfl) (by rfl) (by rfl) (by rfl))
   refine Ex.skip4 ?_ (by with_unfolding_all exact ⟨rfl, rfl, rfl, rfl⟩)
   refine Ex.retE ?_
   refine Ev.ip ?_ (by with_unfolding_all rfl)
   refine br_f (by first | rfl | assumption) ?_
   refine Ev.p ?_
   exact ⟨_, Sub.refl _, h⟩
 case never =>
  match ch, us, hf, hu with
  | [], [], _, _ =>
   refine Ex.cons ?_
   refine Ex.assignP (by with_unfolding_all rfl) ?_ (Or.inl (kf_local (by assumption) (by rfl))) (kc_loc (by assumption) (by rfl)) (by first | rfl | exact swaps_comp (by assumption) (by rfl) (by rfl) (by rfl) (by rfl))
   refine Ex.skip4 ?_ (by with_unfolding_all exact ⟨rfl, rfl, rfl, rfl⟩)
   refine Ex.retE ?_
   refine Ev.ip ?_ (by with_unfolding_all rfl)
   refine br_f (by first | rfl | assumption) ?_
   refine Ev.p ?_
   exact ⟨_, Sub.refl _, h⟩
theorem law_with_spec (hC : HK C) {n : Nat} (hr : Rm A (n + 1)) (hh : Hd) (ch us : List T) (hf : fits hh ch.length) (hu : us.length = ch.length) {a : Addr} (hm : μ a = some (.list (encs us))) (h : Q (enc (.node hh us)) μ) :
 Call C A (.ref 189) [enc (.node hh ch), .raw (.ref a)] μ Q := by
 refine Call.def [PySem.Str.ofString "thing", PySem.Str.ofString "inner"] hC hr rfl rfl rfl rfl rfl (by rfl) ?_ rfl (by decide) rfl rfl rfl ?_
 · exact fun s => bind2 fun v0 v1 => BindsTo.of_eq rfl
 intro env A' hs hc hr' hfr hef
 dsimp only at hs hc
 show Ex _ _ _ (execs (_ :: _) _) _ _ _ _
 unfold enc at *
 cases hh
 case ref =>
  match ch, us, hf, hu with
  | [c], [u], _, _ =>
   refine Ex.cons ?_
   refine Ex.iteP (by with_unfolding_all rfl) ?_
   refine br_t (by first | rfl | assumption) ?_
   refine Ex.retE ?_
   refine Ev.binop ?_
   refine Ev.slice3 (fun _ _ _ _ _ _ h => Ev.cint h) ?_
   refine Ev.p ?_
   refine ⟨_, _, _, _, rfl, ?_⟩
   refine Ev.tuple ?_
   refine Es.cons ?_
   refine Ev.sub ?_
   refine Ev.p ?_
   refine Ev.p ?_
   refine Get.list (k := _) (d := _) (by assumption) (by rfl) (by decide) ?_
   refine Es.p ?_
   refine sz_and (by (show _ ≤ 16777216; simp; done)) ?_
   refine Bin.tup (List.cons_ne_nil _ _) (List.cons_ne_nil _ _) (by (show _ ≤ 16777216; simp; done)) ?_
   exact ⟨_, Sub.refl _, h⟩
 case box =>
  match ch, us, hf, hu with
  | [c], [u], _, _ =>
   refine Ex.cons ?_
   refine Ex.iteP (by with_unfolding_all rfl) ?_
   refine br_f (by first | rfl | assumption) ?_
   refine Ex.nil ?_
   refine Ex.iteT ?_ (by with_unfolding_all rfl) (by first | rfl | assumption)
   refine Ex.retE ?_
   refine Ev.tuple ?_
   refine Es.cons ?_
   refine Ev.p ?_
   refine Es.cons ?_
   refine Ev.sub ?_
   refine Ev.p ?_
   refine Ev.p ?_
   refine Get.list (k := _) (d := _) (by assumption) (by rfl) (by decide) ?_
   refine Es.p ?_
   refine sz_and (by (show _ ≤ 16777216; simp; done)) ?_
   exact ⟨_, Sub.refl _, h⟩
 case arr =>
  match ch, us, hf, hu with
  | [c], [u], _, _ =>
   refine Ex.cons ?_
   refine Ex.iteP (by with_unfolding_all rfl) ?_
   refine br_f (by first | rfl | assumption) ?_
   refine Ex.nil ?_
   refine Ex.skipIf ?_ (by with_unfolding_all rfl) (by first | rfl | assumption)
   refine Ex.iteT ?_ (by with_unfolding_all rfl) (by first | rfl | assumption)
   refine Ex.retE ?_
   refine Ev.tuple ?_
   refine Es.cons ?_
   refine Ev.p ?_
   refine Es.cons ?_
   refine Ev.sub ?_
   refine Ev.p ?_
   refine Ev.p ?_
   refine Get.list (k := _) (d := _) (by assumption) (by rfl) (by decide) ?_
   refine Es.p ?_
   refine sz_and (by (show _ ≤ 16777216; simp; done)) ?_
   exact ⟨_, Sub.refl _, h⟩
 case tup =>
  have hz : (encs us).length ≤ sizeLine := by rw [encs_len, hu]; exact Nat.le_trans hf (by decide)
  refine Ex.skip3 ?_ (by with_unfolding_all exact ⟨rfl, rfl, rfl⟩)
  refine Ex.iteT ?_ (by with_unfolding_all rfl) (by first | rfl | assumption)
  refine Ex.retE ?_
  refine Ev.tuple ?_
  refine Es.cons ?_
  refine Ev.p ?_
  refine Es.cons ?_
  refine Ev.b bv_tuple ?_ (by assumption) (by rfl) (by assumption) (by rfl) (by decide) (by rfl) (by rfl) (by rfl) (by rfl)
  refine Es.p ?_
  refine Call.tupleList (by assumption) (by assumption) ?_
  refine Es.p ?_
  refine sz_and (by (show _ ≤ 16777216; simp; done)) ?_
  exact ⟨_, Sub.refl _, h⟩
 case adt =>
  have hz : (encs us).length ≤ sizeLine := by rw [encs_len, hu]; exact Nat.le_trans (Nat.le_of_eq hf) (by decide)
  refine Ex.skip4 ?_ (by with_unfolding_all exact ⟨rfl, rfl, rfl, rfl⟩)
  refine Ex.retE ?_
  refine Ev.ip ?_ (by with_unfolding_all rfl)
  refine br_t (by first | rfl | assumption) ?_
  refine Ev.binop ?_
  refine Ev.slice3 (fun _ _ _ _ _ _ h => Ev.cint h) ?_
  refine Ev.p ?_
  refine ⟨_, _, _, _, rfl, ?_⟩
  refine Ev.tuple ?_
  refine Es.cons ?_
  refine Ev.b bv_tuple ?_ (by assumption) (by rfl) (by assumption) (by rfl) (by decide) (by rfl) (by rfl) (by rfl) (by rfl)
  refine Es.p ?_
  refine Call.tupleList (by assumption) (by assumption) ?_
  refine Es.p ?_
  refine sz_and (by (show _ ≤ 16777216; simp; done)) ?_
  refine Bin.tup (List.cons_ne_nil _ _) (List.cons_ne_nil _ _) (by (show _ ≤ 16777216; simp; done)) ?_
  exact ⟨_, Sub.refl _, h⟩
 case var =>
  match ch, us, hf, hu with
  | [], [], _, _ =>
   refine Ex.cons ?_
   refine Ex.iteP (by with_unfolding_all rfl) ?_
   refine br_f (by first | rfl | assumption) ?_
   refine Ex.nil ?_
   refine Ex.skip3 ?_ (by with_unfolding_all exact ⟨rfl, rfl, rfl⟩)
   refine Ex.retE ?_
   refine Ev.ip ?_ (by with_unfolding_all rfl)
   refine br_f (by first | rfl | assumption) ?_
   refine Ev.p ?_
   exact ⟨_, Sub.refl _, h⟩
 case ivar =>
  match ch, us, hf, hu with
  | [], [], _, _ =>
   refine Ex.cons ?_
   refine Ex.iteP (by with_unfolding_all rfl) ?_
   refine br_f (by first | rfl | assumption) ?_
   refine Ex.nil ?_
   refine Ex.skip3 ?_ (by with_unfolding_all exact ⟨rfl, rfl, rfl⟩)
   refine Ex.retE ?_
   refine Ev.ip ?_ (by with_unfolding_all rfl)
   refine br_f (by first | rfl | assumption) ?_
   refine Ev.p ?_
   exact ⟨_, Sub.refl _, h⟩
 case int =>
  match ch, us, hf, hu with
  | [], [], _, _ =>
   refine Ex.cons ?_
   refine Ex.iteP (by with_unfolding_all rfl) ?_
   refine br_f (by first | rfl | assumption) ?_
   refine Ex.nil ?_
   refine Ex.skip3 ?_ (by with_unfolding_all exact ⟨rfl, rfl, rfl⟩)
   refine Ex.retE ?_
   refine Ev.ip ?_ (by with_unfolding_all rfl)
   refine br_f (by first | rfl | assumption) ?_
   refine Ev.p ?_
   exact ⟨_, Sub.refl _, h⟩
 case bool =>
  match ch, us, hf, hu with
  | [], [], _, _ =>
   refine Ex.cons ?_
   refine Ex.iteP (by with_unfolding_all rfl) ?_
   refine br_f (by first | rfl | assumption) ?_
   refine Ex.nil ?_
   refine Ex.skip3 ?_ (by with_unfolding_all exact ⟨rfl, rfl, rfl⟩)
   refine Ex.retE ?_
   refine Ev.ip ?_ (by with_unfolding_all rfl)
   refine br_f (by first | rfl | assumption) ?_
   refine Ev.p ?_
   exact ⟨_, Sub.refl _, h⟩
 case param =>
  match ch, us, hf, hu with
  | [], [], _, _ =>
   refine Ex.cons ?_
   refine Ex.iteP (by with_unfolding_all rfl) ?_
   refine br_f (by first | rfl | assumption) ?_
   refine Ex.nil ?_
   refine Ex.skip3 ?_ (by with_unfolding_all exact ⟨rfl, rfl, rfl⟩)
   refine Ex.retE ?_
   refine Ev.ip ?_ (by with_unfolding_all rfl)
   refine br_f (by first | rfl | assumption) ?_
   refine Ev.p ?_
   exact ⟨_, Sub.refl _, h⟩
 case never =>
  match ch, us, hf, hu with
  | [], [], _, _ =>
   refine Ex.cons ?_
   refine Ex.iteP (by with_unfolding_all rfl) ?_
   refine br_f (by first | rfl | assumption) ?_
   refine Ex.nil ?_
   refine Ex.skip3 ?_ (by with_unfolding_all exact ⟨rfl, rfl, rfl⟩)
   refine Ex.retE ?_
   refine Ev.ip ?_ (by with_unfolding_all rfl)
   refine br_f (by first | rfl | assumption) ?_
   refine Ev.p ?_
   exact ⟨_, Sub.refl _, h⟩
end
section
variable {C : Cx} {A : Around} {μ : Mem} {Q : D → Mem → Prop}
theorem wf_len {t : T} (w : t.wf) : t.ch.length ≤ 2 ^ 20 := by
 obtain ⟨h, ch⟩ := t
 have := fits_len w.1
 show ch.length ≤ _
 omega
theorem law_head_spec (hC : HK C) {n : Nat} (hr : Rm A (n + 2)) (t : T) (ht : t.wf) (h : Q (enc (.node t.hd (t.ch.map fun _ => .node .bool []))) μ) : Call C A (.ref 209) [enc t] μ Q := by
 refine Call.def [PySem.Str.ofString "thing"] hC hr rfl rfl rfl rfl rfl (by rfl) ?_ rfl (by decide) rfl rfl rfl ?_
 · exact fun s => bind1 fun v0 => BindsTo.of_eq rfl
 intro env A' hs hc hr' hfr hef
 dsimp only at hs hc
 show Ex _ _ _ (execs (_ :: _) _) _ _ _ _
 obtain ⟨hh, ch⟩ := t
 refine Ex.retE ?_
 refine Ev.g ?_ (by assumption) (by rfl) (by assumption) (by rfl) (by rfl) (by rfl) (by rfl) (by rfl)
 refine Es.cons ?_
 refine Ev.p ?_
 refine Es.cons ?_
 refine Ev.comp ?_ (by intro _; rfl) (by exact CompScope.of (by assumption) (by assumption) (by rfl) (by rfl) (by rfl) (by rfl))
 refine Ei.list hr'.hh ?_
 refine Ev.g ?_ (by assumption) (by rfl) (by assumption) (by rfl) (by rfl) (by rfl) (by rfl) (by rfl)
 refine Es.p ?_
 refine law_within_spec (by assumption) (by assumption) _ (by assumption) ?_
 intro a ha
 refine ⟨a, _, rfl, upd_self, ?_⟩
 refine CompGo.mapT (fun _ => enc (.node .bool [])) (wf_len ht) (by rfl) (Sub.hide _ _) ?_ ?_
 · intro B hB hb cenv hce t' _
   refine Ev.p ?_
   exact ⟨rfl, Sub.refl _⟩
 intro b hb
 refine Es.p ?_
 refine law_with_spec (n := 0) (by assumption) (by exact Rm.le (by assumption) (by omega)) _ _ (ch.map fun _ => .node .bool []) ht.1 (by simp) (upd_self.trans (by rw [encs_eq, List.map_map]; rfl)) ?_
 exact ⟨_, (Sub.new ha).trans (Sub.new hb), h⟩
theorem law_put_spec (u v : T) (hu : u.wf) (hu0 : u.hgt ≤ 1) : ∀ {n : Nat} {C : Cx} {A : Around} {μ : Mem} {Q : D → Mem → Prop} (hC : HK C) (hr : Rm A (n + 1)) (t : T) (ht : t.wf) (hn : t.hgt < n) (h : Q (enc (T.put u v t)) μ),
 Call C A (.ref 194) [enc t, enc u, enc v] μ Q := by
 intro n
 induction n with
 | zero => intro C A μ Q hC hr t ht hn h; omega
 | succ n ih =>
  intro C A μ Q hC hr t ht hn h
  refine Call.def [PySem.Str.ofString "thing", PySem.Str.ofString "unknown", PySem.Str.ofString "value"] hC hr rfl rfl rfl rfl rfl (by rfl) ?_ rfl (by decide) rfl rfl rfl ?_
  · exact fun s => bind3 fun v0 v1 v2 => BindsTo.of_eq rfl
  intro env A' hs hc hr' hfr hef
  dsimp only at hs hc
  show Ex _ _ _ (execs (_ :: _) _) _ _ _ _
  obtain ⟨hh, ch⟩ := t
  unfold T.put at h
  have hz : min (T.node hh ch).hgt u.hgt ≤ 1400 := by omega
  refine Ex.cons ?_
  refine Ex.ite ?_
  refine Et.cmp ?_
  refine Ev.p ?_
  refine Ev.p ?_
  refine Cmp.eqT (by assumption) (by assumption) (by assumption) (by first | assumption | omega) ?_
  refine Tru.bool ?_
  refine ⟨fun e => ?_, fun e => ?_⟩
  · rw [if_pos (of_decide_eq_true e)] at h
    refine Ex.retC ?_ (by with_unfolding_all rfl)
    exact ⟨_, Sub.refl _, h⟩
  · rw [if_neg (of_decide_eq_false e)] at h
    refine Ex.nil ?_
    refine Ex.retE ?_
    refine Ev.g ?_ (by assumption) (by rfl) (by assumption) (by rfl) (by rfl) (by rfl) (by rfl) (by rfl)
    refine Es.cons ?_
    refine Ev.p ?_
    refine Es.cons ?_
    refine Ev.comp ?_ (by intro _; rfl) (by exact CompScope.of (by assumption) (by assumption) (by rfl) (by rfl) (by rfl) (by rfl))
    refine Ei.list hr'.hh ?_
    refine Ev.g ?_ (by assumption) (by rfl) (by assumption) (by rfl) (by rfl) (by rfl) (by rfl) (by rfl)
    refine Es.p ?_
    refine law_within_spec (by assumption) (by assumption) _ (by assumption) ?_
    intro a ha
    refine ⟨a, _, rfl, upd_self, ?_⟩
    refine CompGo.mapT (fun c => enc (T.put u v c)) (wf_len ht) (by rfl) (Sub.hide _ _) ?_ ?_
    · intro B hB hb cenv hce t' ht'
      refine Ev.callG (by assumption) (by rfl) (by exact CompEnv.names (by assumption) _ _ (by rfl) (by decide)) (by rfl) (by rfl) (by rfl) (by rfl) ?_
      refine Es.p ?_
      have h1 : t'.hgt + 1 ≤ T.hgts ch := hgts_mem ht'
      exact ih (by assumption) hr' t' ((wfs_iff _).mp ht.2 _ ht') (by show t'.hgt < n; simp only [T.hgt] at hn; omega) ⟨rfl, Sub.refl _⟩
    intro b hb
    refine Es.p ?_
    refine law_with_spec (n := 0) (by assumption) (by exact Rm.le (by assumption) (by omega)) _ _ (ch.map (T.put u v)) ht.1 (by simp) (upd_self.trans (by rw [encs_eq, List.map_map]; rfl)) ?_
    rw [puts_eq] at h
    exact ⟨_, (Sub.new ha).trans (Sub.new hb), h⟩
theorem law_has_spec (u : T) (hu : u.wf) (hu0 : u.hgt ≤ 1) : ∀ {n : Nat} {C : Cx} {A : Around} {μ : Mem} {Q : D → Mem → Prop} (hC : HK C) (hr : Rm A (n + 1)) (t : T) (ht : t.wf) (hn : t.hgt < n) (h : Q (.bool (T.has u t)) μ),
 Call C A (.ref 204) [enc t, enc u] μ Q := by
 intro n
 induction n with
 | zero => intro C A μ Q hC hr t ht hn h; omega
 | succ n ih =>
  intro C A μ Q hC hr t ht hn h
  refine Call.def [PySem.Str.ofString "thing", PySem.Str.ofString "unknown"] hC hr rfl rfl rfl rfl rfl (by rfl) ?_ rfl (by decide) rfl rfl rfl ?_
  · exact fun s => bind2 fun v0 v1 => BindsTo.of_eq rfl
  intro env A' hs hc hr' hfr hef
  dsimp only at hs hc
  show Ex _ _ _ (execs (_ :: _) _) _ _ _ _
  obtain ⟨hh, ch⟩ := t
  unfold T.has at h
  have hz : min (T.node hh ch).hgt u.hgt ≤ 1400 := by omega
  refine Ex.retE ?_
  refine Ev.or2 ?_
  refine Ev.cmp ?_
  refine Ev.p ?_
  refine Ev.p ?_
  refine Cmp.eqT (by assumption) (by assumption) (by assumption) (by first | assumption | omega) ?_
  refine Tru.bool ?_
  refine ⟨fun e => ?_, fun e => ?_⟩
  · rw [e, Bool.true_or] at h
    rw [e]
    exact ⟨_, Sub.refl _, h⟩
  · rw [e, Bool.false_or] at h
    refine Ev.cmp ?_
    refine Ev.comp ?_ (by intro _; rfl) (by exact CompScope.of (by assumption) (by assumption) (by rfl) (by rfl) (by rfl) (by rfl))
    refine Ei.list hr'.hh ?_
    refine Ev.g ?_ (by assumption) (by rfl) (by assumption) (by rfl) (by rfl) (by rfl) (by rfl) (by rfl)
    refine Es.p ?_
    refine law_within_spec (by assumption) (by assumption) _ (by assumption) ?_
    intro a ha
    refine ⟨a, _, rfl, upd_self, ?_⟩
    refine CompGo.filterT (T.has u) (wf_len ht) (by rfl) (Sub.hide _ _) ?_ ?_ ?_
    · intro B hB hb cenv hce t' ht'
      refine Et.value ?_ (by rfl)
      refine Ev.callG (by assumption) (by rfl) (by exact CompEnv.names (by assumption) _ _ (by rfl) (by decide)) (by rfl) (by rfl) (by rfl) (by rfl) ?_
      refine Es.p ?_
      have h1 : t'.hgt + 1 ≤ T.hgts ch := hgts_mem ht'
      refine ih (by assumption) hr' t' ((wfs_iff _).mp ht.2 _ ht') (by show t'.hgt < n; simp only [T.hgt] at hn; omega) ?_
      refine Tru.bool ?_
      exact ⟨rfl, Sub.refl _⟩
    · intro B hB hb cenv hce t' ht' μ2 h2
      refine Ev.p ?_
      exact ⟨rfl, h2⟩
    intro b hb
    refine Ev.list ?_
    refine Es.p ?_
    refine sz_and (by (show _ ≤ 16777216; simp; done)) ?_
    intro c hc
    refine Cmp.neNil hr' (ts := ch.filter (T.has u)) ?_ upd_self ?_
    · (refine Eq.trans (upd_other ?_) ?_; (exact ne_upd (by assumption)); exact upd_self)
    · rw [hass_eq] at h
      have e2 : (!decide (ch.filter (T.has u) = [])) = ch.any (T.has u) := by
       rw [Bool.eq_iff_iff]; simp [List.filter_eq_nil_iff]
      rw [e2]
      exact ⟨_, ((Sub.new ha).trans (Sub.new hb)).trans (Sub.new hc), h⟩
end
section
variable {C : Cx} {A : Around} {μ : Mem} {Q : D → Mem → Prop}
noncomputable abbrev sS (x : String) : Str := PySem.Str.ofString x
theorem Ex.pairs {env : Env} {ρ : Str → Option D} {μ : Mem} {Q : Out → (Str → Option D) → Mem → Prop} {X : Xp} {body : List Stmt} {px py p3 p4 p5 p6 p7 p8 p9 p10 pos : Pos} {x1 k1 k2} {t u : T} (hh : A.handled = none)
 (c : T → T → Bool) (res : T → T → D)
 (ho : ρ (sS "one") = some (enc t)) (hot : ρ (sS "other") = some (enc u)) (hX : ∀ B hB, Thru (C.ban B hB) A env X)
 (kl : env.kindOf (sS "left") = some .local) (kr : env.kindOf (sS "right") = some .local)
 (turn : ∀ B hB, (∀ b, C.B b → B b) → ∀ l r, ((l = t ∧ r = u) ∨ (l = u ∧ r = t)) → ∀ ρ' μ', ρ' (sS "left") = some (enc l) → ρ' (sS "right") = some (enc r) →
  Ex (C.ban B hB) A env (execs body env) ρ' μ' (fun o ρ2 μ2 => (c l r = true ∧ o = .ret (res l r) ∧ Sub μ' μ2) ∨ (c l r = false ∧ o = .next ∧ ρ2 = ρ' ∧ Sub μ' μ2)) X)
 (q1 : c t u = true → ∀ ρ', Q (.ret (res t u)) ρ' μ) (q2 : c t u = false → c u t = true → ∀ ρ', Q (.ret (res u t)) ρ' μ)
 (q3 : c t u = false → c u t = false → ∀ ρ', ρ' (sS "one") = some (enc t) → ρ' (sS "other") = some (enc u) → Q .next ρ' μ) :
 Ex C A env (exec (.For (.Tuple [.Name (sS "left") px, .Name (sS "right") py] x1 p3) (.List [.Tuple [.Name (sS "one") p4, .Name (sS "other") p5] k1 p6, .Tuple [.Name (sS "other") p7, .Name (sS "one") p8] k2 p9] p10) body [] pos) env) ρ μ Q X := by
 refine Ex.for ?_ fun _ => rfl
 refine Ei.list hh ?_
 refine Ev.list ?_
 refine Es.cons ?_
 refine Ev.tuple ?_
 refine Es.cons ?_
 refine Ev.n ?_ (by assumption) (by rfl) (by rfl)
 refine Es.cons ?_
 refine Ev.n ?_ (by assumption) (by rfl) (by rfl)
 refine Es.p ?_
 refine sz_and (by (show _ ≤ 16777216; simp; done)) ?_
 refine Es.cons ?_
 refine Ev.tuple ?_
 refine Es.cons ?_
 refine Ev.n ?_ (by assumption) (by rfl) (by rfl)
 refine Es.cons ?_
 refine Ev.n ?_ (by assumption) (by rfl) (by rfl)
 refine Es.p ?_
 refine sz_and (by (show _ ≤ 16777216; simp; done)) ?_
 refine Es.p ?_
 refine sz_and (by (show _ ≤ 16777216; simp; done)) ?_
 intro a ha
 refine ⟨a, _, rfl, upd_self, ?_⟩
 have hsub := Sub.hide (upd μ a (MO.list [D.tup [enc t, enc u], D.tup [enc u, enc t]])) a
 generalize hide (upd μ a (MO.list [D.tup [enc t, enc u], D.tup [enc u, enc t]])) a = μh at hsub
 have hsa := Sub.new (mo := MO.list [D.tup [enc t, enc u], D.tup [enc u, enc t]]) ha
 generalize upd μ a (MO.list [D.tup [enc t, enc u], D.tup [enc u, enc t]]) = μ1 at hsub hsa
 refine ⟨fun i ρ μ => ρ (sS "one") = some (enc t) ∧ ρ (sS "other") = some (enc u) ∧ Sub μh μ ∧ (1 ≤ i → c t u = false) ∧ (2 ≤ i → c u t = false), ⟨ho, hot, Sub.refl _, fun h => by omega, fun h => by omega⟩, fun B hB hb => ⟨hX B hB, ?_⟩, ?_⟩
 · intro i d ρ' μ' hd ⟨j1, j2, j3, j4, j5⟩
   match i, hd with
   | 0, hd =>
    have hd : D.tup [enc t, enc u] = d := by simpa using hd
    subst hd
    refine Asg.tuple hh rfl rfl (Assigns.cons (Asg.name (.inl kl) (fun h => by rw [kl] at h; cases h) (Assigns.cons (Asg.name (.inl kr) (fun h => by rw [kr] at h; cases h) (Assigns.nil ?_)) rfl)) rfl)
    refine Ex.mono (turn B hB hb t u (.inl ⟨rfl, rfl⟩) _ _ rfl rfl) ?_
    rintro o ρ2 μ2 (⟨e1, rfl, e3⟩ | ⟨e1, rfl, rfl, e3⟩)
    · exact ⟨μ, hsa.trans (Sub.rest hsub (j3.trans e3)), q1 e1 _⟩
    · exact ⟨j1, j2, j3.trans e3, fun _ => e1, fun h => by omega⟩
   | 1, hd =>
    have hd : D.tup [enc u, enc t] = d := by simpa using hd
    subst hd
    refine Asg.tuple hh rfl rfl (Assigns.cons (Asg.name (.inl kl) (fun h => by rw [kl] at h; cases h) (Assigns.cons (Asg.name (.inl kr) (fun h => by rw [kr] at h; cases h) (Assigns.nil ?_)) rfl)) rfl)
    refine Ex.mono (turn B hB hb u t (.inr ⟨rfl, rfl⟩) _ _ rfl rfl) ?_
    rintro o ρ2 μ2 (⟨e1, rfl, e3⟩ | ⟨e1, rfl, rfl, e3⟩)
    · exact ⟨μ, hsa.trans (Sub.rest hsub (j3.trans e3)), q2 (j4 (by omega)) e1 _⟩
    · exact ⟨j1, j2, j3.trans e3, fun _ => j4 (Nat.le_refl 1), fun _ => e1⟩
   | i + 2, hd => simp at hd
 · rintro ρ' μ' ⟨j1, j2, j3, j4, j5⟩
   exact ⟨μ, hsa.trans (Sub.rest hsub j3), q3 (j4 (by simp)) (j5 (by simp)) _ j1 j2⟩
theorem law_bound_spec (hC : HK C) {n : Nat} (hr : Rm A (n + 3)) (t u : T) (ht : t.wf) (hu : u.wf) (hn : t.hgt < n + 1) (hn2 : u.hgt < n + 1) (h : Q (boundD (T.bound t u)) μ) : Call C A (.ref 216) [enc t, enc u] μ Q := by
 refine Call.def [PySem.Str.ofString "one", PySem.Str.ofString "other"] hC hr rfl rfl rfl rfl rfl (by rfl) ?_ rfl (by decide) rfl rfl rfl ?_
 · exact fun s => bind2 fun v0 v1 => BindsTo.of_eq rfl
 intro env A' hs hc hr' hfr hef
 dsimp only at hs hc
 show Ex _ _ _ (execs (_ :: _) _) _ _ _ _
 refine Ex.cons (Ex.pairs (t := t) (u := u) hr'.hh (fun l r => l.hd.isVar) (fun l r => boundD (if T.has l r then none else some (l, r))) rfl rfl (fun _ _ => Thru.no) (kf_local hs rfl) (kf_local hs rfl) ?_ ?_ ?_ ?_)
 · intro B hB hb l r hlr ρ' μ' hl hrr
   have hlw : l.wf ∧ r.wf ∧ l.hgt < n + 1 ∧ r.hgt < n + 1 := by rcases hlr with ⟨rfl, rfl⟩ | ⟨rfl, rfl⟩ <;> exact ⟨by assumption, by assumption, by assumption, by assumption⟩
   obtain ⟨w1, w2, w3, w4⟩ := hlw
   refine Ex.cons ?_
   refine Ex.ite ?_
   refine Et.cmp ?_
   refine Ev.sub ?_
   refine Ev.n ?_ (by assumption) (by rfl) (by rfl)
   refine Ev.p ?_
   refine Get.kd ?_
   refine Ev.p ?_
   refine Cmp.eqStr ?_
   refine Tru.bool ?_
   refine ⟨fun e => ?_, fun e => ?_⟩
   · rw [kds_var] at e
     have hl0 : l.hgt ≤ 1 := by
      obtain ⟨lh, lc⟩ := l
      cases lh with
      | var n => rw [List.length_eq_zero_iff.mp (show lc.length = 0 from w1.1)]; exact Nat.zero_le _
      | _ => exact nomatch (show false = true from e)
     refine Ex.retE ?_
     refine Ev.ifexp ?_
     refine Et.value ?_ (by rfl)
     refine Ev.g ?_ (by assumption) (by rfl) (by assumption) (by rfl) (by rfl) (by rfl) (by rfl) (by rfl)
     refine Es.cons ?_
     refine Ev.n ?_ (by assumption) (by rfl) (by rfl)
     refine Es.cons ?_
     refine Ev.n ?_ (by assumption) (by rfl) (by rfl)
     refine Es.p ?_
     refine law_has_spec _ (by assumption) (by assumption) (by assumption) (by assumption) _ (by assumption) (by assumption) ?_
     refine Tru.bool ?_
     refine ⟨fun e2 => ?_, fun e2 => ?_⟩
     · refine Ev.p ?_
       refine .inl ⟨e, ?_, Sub.refl _⟩
       rw [if_pos e2]; rfl
     · refine Ev.tuple ?_
       refine Es.cons ?_
       refine Ev.n ?_ (by assumption) (by rfl) (by rfl)
       refine Es.cons ?_
       refine Ev.n ?_ (by assumption) (by rfl) (by rfl)
       refine Es.p ?_
       refine sz_and (by (show _ ≤ 16777216; simp; done)) ?_
       refine .inl ⟨e, ?_, Sub.refl _⟩
       rw [if_neg (by rw [e2]; decide)]; rfl
   · rw [kds_var] at e
     refine Ex.nil ?_
     refine Ex.nil ?_
     exact .inr ⟨e, rfl, rfl, Sub.refl _⟩
 · intro e ρ'
   unfold T.bound at h
   rw [if_pos e] at h
   refine ⟨_, Sub.refl _, h⟩
 · intro e e2 ρ'
   unfold T.bound at h
   rw [if_neg (by rw [e]; decide), if_pos e2] at h
   refine ⟨_, Sub.refl _, h⟩
 intro e1 e2 ρ' ho hot
 refine Ex.cons (Ex.pairs (t := t) (u := u) hr'.hh (fun l r => l.hd.isIv && (r.hd.isInt || r.hd.isIv)) (fun l r => .tup [enc l, enc r]) ho hot (fun _ _ => Thru.no) (kf_local hs rfl) (kf_local hs rfl) ?_ ?_ ?_ ?_)
 · intro B hB hb l r hlr ρ' μ' hl hrr
   refine Ex.cons ?_
   refine Ex.ite ?_
   refine Et.and2 ?_
   refine Et.cmp ?_
   refine Ev.sub ?_
   refine Ev.n ?_ (by assumption) (by rfl) (by rfl)
   refine Ev.p ?_
   refine Get.kd ?_
   refine Ev.p ?_
   refine Cmp.eqStr ?_
   refine Tru.bool ?_
   refine ⟨fun e => ?_, fun e => ?_⟩
   · rw [kds_iv] at e
     refine Et.cmp ?_
     refine Ev.sub ?_
     refine Ev.n ?_ (by assumption) (by rfl) (by rfl)
     refine Ev.p ?_
     refine Get.kd ?_
     refine Ev.p ?_
     refine Cmp.in2 (by assumption) (by decide +kernel) (by decide +kernel) (by first | exact kds_ok _ | decide +kernel) ?_
     refine Tru.bool ?_
     refine ⟨fun e3 => ?_, fun e3 => ?_⟩
     · rw [kds_in_int_iv] at e3
       refine Ex.retE ?_
       refine Ev.tuple ?_
       refine Es.cons ?_
       refine Ev.n ?_ (by assumption) (by rfl) (by rfl)
       refine Es.cons ?_
       refine Ev.n ?_ (by assumption) (by rfl) (by rfl)
       refine Es.p ?_
       refine sz_and (by (show _ ≤ 16777216; simp; done)) ?_
       exact .inl ⟨by rw [e, e3]; rfl, rfl, Sub.refl _⟩
     · rw [kds_in_int_iv] at e3
       refine Ex.nil ?_
       refine Ex.nil ?_
       exact .inr ⟨by rw [e, e3]; rfl, rfl, rfl, Sub.refl _⟩
   · rw [kds_iv] at e
     refine br_f (by first | rfl | assumption) ?_
     refine Ex.nil ?_
     refine Ex.nil ?_
     exact .inr ⟨by rw [e]; rfl, rfl, rfl, Sub.refl _⟩
 · intro e ρ'
   unfold T.bound at h
   rw [if_neg (by rw [e1]; decide), if_neg (by rw [e2]; decide), if_pos e] at h
   exact ⟨_, Sub.refl _, h⟩
 · intro e e3 ρ'
   unfold T.bound at h
   rw [if_neg (by rw [e1]; decide), if_neg (by rw [e2]; decide), if_neg (by rw [e]; decide), if_pos e3] at h
   exact ⟨_, Sub.refl _, h⟩
 · intro e e3 ρ2 _ _
   unfold T.bound at h
   rw [if_neg (by rw [e1]; decide), if_neg (by rw [e2]; decide), if_neg (by rw [e]; decide), if_neg (by rw [e3]; decide)] at h
   refine Ex.retC ?_ (by with_unfolding_all rfl)
   exact ⟨_, Sub.refl _, h⟩
end
section
variable {C : Cx} {A : Around} {μ : Mem} {Q : D → Mem → Prop}
theorem SetI.two0 {a : Addr} {x y d : D} {Q : Mem → Prop} (hm : μ a = some (.list [x, y])) (h : Q (upd μ a (.list [d, y]))) : SetI C A (.raw (.ref a)) (.int 0) d μ Q :=
 SetI.list (i := 0) hm (by simp) (show _ ≤ 16777216 by simp) h
theorem SetI.two1 {a : Addr} {x y d : D} {Q : Mem → Prop} (hm : μ a = some (.list [x, y])) (h : Q (upd μ a (.list [x, d]))) : SetI C A (.raw (.ref a)) (.int 1) d μ Q :=
 SetI.list (i := 1) hm (by simp) (show _ ≤ 16777216 by simp) h
theorem Get.frozen {a : Addr} {vs : List Value} {xs : List D} {k : Nat} {d : D} (hl : C.h0.IsList a vs.toArray) (hr : RepAll C.B C.h0 vs xs) (hx : xs[k]? = some d) (hk : k < 2 ^ 62) (h : Q d μ) : Get C A (.raw (.ref a)) (.int (k : Int)) μ Q := by
 intro s va vi o ra ri
 cases ra; cases ri
 obtain ⟨ob, ho, r⟩ := hl
 have hl : s.heap.IsList a vs.toArray := ⟨ob, (o.base a ob ho).2, r⟩
 refine ⟨"list", _, hl.typeIs, slot_list_getitem.lookup, ?_⟩
 obtain ⟨v, hv, rv⟩ := hr.get hx
 have rv' : Rep C.B s.heap v d := rv.mono fun a vs n _ t => (o.base a _ t).2
 exact wpAny_getItem_list hl (by omega) (by omega) (by simpa using hv) ⟨d, μ, rv', o, .refl _ _, h⟩
theorem Call.lenFrozen {a : Addr} {vs : List Value} (hl : C.h0.IsList a vs.toArray) (hz : vs.length < 2 ^ 62) (h : Q (.int (vs.length : Int)) μ) : Call C A (.builtin "len") [.raw (.ref a)] μ Q := by
 intro s us k r
 cases r with
 | cons r1 r =>
  cases r; cases r1
  obtain ⟨ob, ho, r⟩ := hl
  have hl : s.heap.IsList a vs.toArray := ⟨ob, (k.base a ob ho).2, r⟩
  have e : vs.toArray.size = vs.length := by simp
  refine Calls.call_len_list hl (by rw [e]; omega) ?_
  rw [e]
  exact ⟨_, μ, .int _ _, k.toks _, .toks _, h⟩
theorem ints_rep {B : Addr → Prop} {h : Heap} {vs : List Value} {ns : List Int} (x : IntsAre vs ns) : RepAll B h vs (ns.map .int) := by
 induction x with
 | nil => exact .nil
 | cons n t _ ih => exact .cons (.int n t) ih
end
section
variable {C : Cx} {A : Around} {μ : Mem} {Q : D → Mem → Prop}
noncomputable def srcMO (a b : Int) : MO := .list [.int a, .int b]
theorem law_take_spec (hC : HK C) {n : Nat} (hr : Rm A (n + 1)) {src : Addr} {a b : Int} (hm : μ src = some (srcMO a b)) (ha : 0 ≤ a) (hb : 0 ≤ b ∧ b < 2147483647) {k : Int} (hk : 0 < k ∧ k < 100)
 (h : ∀ d a' b', 0 ≤ d → d < k → 0 ≤ a' → (0 ≤ b' ∧ b' < 2147483647) → Q (.int d) (upd μ src (srcMO a' b'))) : Call C A (.ref 170) [.raw (.ref src), .int k] μ Q := by
 refine Call.def [PySem.Str.ofString "source", PySem.Str.ofString "top"] hC hr rfl rfl rfl rfl rfl (by rfl) ?_ rfl (by decide) rfl rfl rfl ?_
 · exact fun s => bind2 fun v0 v1 => BindsTo.of_eq rfl
 intro env A' hs hc hr' hfr hef
 dsimp only at hs hc
 show Ex _ _ _ (execs (_ :: _) _) _ _ _ _
 unfold srcMO at *
 have hk0 : k ≠ 0 := by omega
 with_reducible refine' Ex.cons ?_
 refine Ex.ite ?_
 refine Et.cmp ?_
 refine Ev.sub ?_
 refine Ev.p ?_
 refine Ev.p ?_
 refine Get.list (k := _) (d := _) (by assumption) (by rfl) (by decide) ?_
 refine Ev.p ?_
 refine Cmp.gtInt ?_
 refine Tru.bool ?_
 refine ⟨fun e => ?_, fun e => ?_⟩
 · with_reducible refine' Ex.cons ?_
   refine Ex.assign ?_ (Or.inl (kf_local (by assumption) (by rfl))) (kc_loc (by assumption) (by rfl)) (by rfl)
   refine Ev.binop ?_
   refine Ev.b bv_int ?_ (by assumption) (by rfl) (by assumption) (by rfl) (by decide) (by rfl) (by rfl) (by rfl) (by rfl)
   refine Es.cons ?_
   refine Ev.sub ?_
   refine Ev.p ?_
   refine Ev.p ?_
   refine Get.list (k := _) (d := _) (by assumption) (by rfl) (by decide) ?_
   refine Es.p ?_
   refine Call.intInt ?_
   refine Ev.p ?_
   refine Bin.mod (by first | assumption | decide) ?_
   refine Ex.cons ?_
   refine Ex.assignSub ?_ (by rfl)
   refine Ev.binop ?_
   refine Ev.sub ?_
   refine Ev.p ?_
   refine Ev.p ?_
   refine Get.list (k := _) (d := _) (by assumption) (by rfl) (by decide) ?_
   refine Ev.p ?_
   refine Bin.div (by first | assumption | decide) (by first | exact PyProof.noPylong_small (by decide) | exact PyProof.noPylong_small (by omega)) ?_
   refine Ev.p ?_
   refine Ev.p ?_
   refine SetI.two0 (by assumption) ?_
   refine Ex.retC ?_ (by with_unfolding_all rfl)
   refine ⟨_, Sub.refl _, h _ _ _ (Int.fmod_nonneg_of_pos _ hk.1) (Int.fmod_lt_of_pos _ hk.1) ?_ hb⟩
   rw [Int.fdiv_eq_ediv_of_nonneg _ (by omega)]
   exact Int.ediv_nonneg ha (by omega)
 · refine Ex.nil ?_
   refine Ex.cons ?_
   refine Ex.assignSub ?_ (by rfl)
   refine Ev.binop ?_
   refine Ev.b bv_int ?_ (by assumption) (by rfl) (by assumption) (by rfl) (by decide) (by rfl) (by rfl) (by rfl) (by rfl)
   refine Es.cons ?_
   refine Ev.binop ?_
   refine Ev.binop ?_
   refine Ev.sub ?_
   refine Ev.p ?_
   refine Ev.p ?_
   refine Get.list (k := _) (d := _) (by assumption) (by rfl) (by decide) ?_
   refine Ev.p ?_
   refine Bin.mul (by first | assumption | exact IntMulOk.of_right (intBits_le_iff.mpr (by decide)) | exact IntMulOk.of_left (intBits_le_iff.mpr (by decide)) | exact IntMulOk.of_left (intBits_le_iff.mpr (by omega))) ?_
   refine Ev.p ?_
   refine Bin.add ?_
   refine Es.p ?_
   refine Call.intInt ?_
   refine Ev.p ?_
   refine Bin.mod (by first | assumption | decide) ?_
   refine Ev.p ?_
   refine Ev.p ?_
   refine SetI.two1 (by assumption) ?_
   refine Ex.retE ?_
   refine Ev.binop ?_
   refine Ev.b bv_int ?_ (by assumption) (by rfl) (by assumption) (by rfl) (by decide) (by rfl) (by rfl) (by rfl) (by rfl)
   refine Es.cons ?_
   refine Ev.binop ?_
   refine Ev.binop ?_
   refine Ev.b bv_int ?_ (by assumption) (by rfl) (by assumption) (by rfl) (by decide) (by rfl) (by rfl) (by rfl) (by rfl)
   refine Es.cons ?_
   refine Ev.binop ?_
   refine Ev.sub ?_
   refine Ev.p ?_
   refine Ev.p ?_
   refine Get.list (k := _) (d := _) (by exact upd_self) (by rfl) (by decide) ?_
   refine Ev.sub ?_
   refine Ev.p ?_
   refine Ev.p ?_
   refine Get.list (k := _) (d := _) (by exact upd_self) (by rfl) (by decide) ?_
   generalize hb2 : (b * 39373 + 7).fmod 2147483647 = b2
   have hb3 : 0 ≤ b2 ∧ b2 < 2147483647 := by rw [← hb2]; exact ⟨Int.fmod_nonneg_of_pos _ (by decide), Int.fmod_lt_of_pos _ (by decide)⟩
   refine Bin.mul (by first | assumption | exact IntMulOk.of_right (intBits_le_iff.mpr (by decide)) | exact IntMulOk.of_left (intBits_le_iff.mpr (by decide)) | exact IntMulOk.of_left (intBits_le_iff.mpr (by omega))) ?_
   refine Es.p ?_
   refine Call.intInt ?_
   refine Ev.p ?_
   refine Bin.mod (by first | assumption | decide) ?_
   refine Ev.p ?_
   refine Bin.div (by first | assumption | decide) (by first | exact PyProof.noPylong_small (by decide) | exact PyProof.noPylong_small (by omega)) ?_
   refine Es.p ?_
   refine Call.intInt ?_
   refine Ev.p ?_
   refine Bin.mod (by first | assumption | decide) ?_
   exact ⟨_, Sub.refl _, h _ _ _ (Int.fmod_nonneg_of_pos _ hk.1) (Int.fmod_lt_of_pos _ hk.1) ha hb3⟩
theorem bits01 (b : Bool) : Builtin.Int.intBits (if b then 1 else 0) ≤ 64 := by cases b <;> decide
theorem nn01 (b : Bool) : (0 : Int) ≤ (if b then 1 else 0) := by cases b <;> decide
theorem law_pool_spec (hC : HK C) {n : Nat} (hr : Rm A (n + 1)) {sa : Addr} {vs : List Value} {ns : List Int} (hl : C.h0.IsList sa vs.toArray) (hi : IntsAre vs ns) (hz : ns.length ≤ 63) (hb : ∀ x ∈ ns, Builtin.Int.intBits x ≤ 1048576)
 (h : ∀ src a b, μ src = none → 0 ≤ a → (0 ≤ b ∧ b < 2147483647) → Q (.raw (.ref src)) (upd μ src (srcMO a b))) : Call C A (.ref 163) [.raw (.ref sa), .int 0] μ Q := by
 refine Call.def [PySem.Str.ofString "script", PySem.Str.ofString "k"] hC hr rfl rfl rfl rfl rfl (by rfl) ?_ rfl (by decide) rfl rfl rfl ?_
 · exact fun s => bind2 fun v0 v1 => BindsTo.of_eq rfl
 intro env A' hs hc hr' hfr hef
 dsimp only at hs hc
 show Ex _ _ _ (execs (_ :: _) _) _ _ _ _
 have hv : vs.length = ns.length := hi.length
 with_reducible refine' Ex.cons ?_
 refine Ex.assignP (by with_unfolding_all rfl) ?_ (Or.inl (kf_local (by assumption) (by rfl))) (kc_loc (by assumption) (by rfl)) (by first | rfl | exact swaps_comp (by assumption) (by rfl) (by rfl) (by rfl) (by rfl))
 refine Ex.cons ?_
 refine Ex.ite ?_
 refine Et.cmp ?_
 refine Ev.p ?_
 refine Ev.b bv_len ?_ (by assumption) (by rfl) (by assumption) (by rfl) (by decide) (by rfl) (by rfl) (by rfl) (by rfl)
 refine Es.p ?_
 refine Call.lenFrozen hl (by omega) ?_
 refine Cmp.ltInt ?_
 refine Tru.bool ?_
 refine ⟨fun e => ?_, fun e => ?_⟩
 · have hpos : 0 < ns.length := by have := of_decide_eq_true e; omega
   obtain ⟨x, hx⟩ : ∃ x, ns[0]? = some x := ⟨ns[0], List.getElem?_eq_getElem hpos⟩
   have hbx := hb x (List.mem_of_getElem? hx)
   refine Ex.aC ?_ (by assumption) (by rfl) (by rfl)
   refine Ev.sub ?_
   refine Ev.p ?_
   refine Ev.p ?_
   refine Get.frozen (k := 0) hl (ints_rep hi) (d := .int x) (by rw [List.getElem?_map, hx]; rfl) (by decide) ?_
   refine Ex.nil ?_
   refine Ex.aC ?_ (by assumption) (by rfl) (by rfl)
   refine Ev.b bv_max ?_ (by assumption) (by rfl) (by assumption) (by rfl) (by decide) (by rfl) (by rfl) (by rfl) (by rfl)
   refine Es.cons ?_
   refine Ev.b bv_int ?_ (by assumption) (by rfl) (by assumption) (by rfl) (by decide) (by rfl) (by rfl) (by rfl) (by rfl)
   refine Es.p ?_
   refine Call.intInt ?_
   refine Es.cons ?_
   refine Ev.b bv_int ?_ (by assumption) (by rfl) (by assumption) (by rfl) (by decide) (by rfl) (by rfl) (by rfl) (by rfl)
   refine Es.cons ?_
   refine Ev.binop ?_
   refine Ev.unop ?_
   refine Ev.p ?_
   refine Una.neg ?_
   refine Ev.p ?_
   refine Bin.sub ?_
   refine Es.p ?_
   refine Call.intInt ?_
   refine Es.p ?_
   refine Call.maxInt (Rm.hh (by assumption)) ?_
   refine Ex.aC ?_ (by assumption) (by rfl) (by rfl)
   refine Ev.binop ?_
   refine Ev.b bv_int ?_ (by assumption) (by rfl) (by assumption) (by rfl) (by decide) (by rfl) (by rfl) (by rfl) (by rfl)
   refine Es.cons ?_
   refine Ev.binop ?_
   refine Ev.binop ?_
   refine Ev.binop ?_
   refine Ev.binop ?_
   refine Ev.binop ?_
   refine Ev.b bv_int ?_ (by assumption) (by rfl) (by assumption) (by rfl) (by decide) (by rfl) (by rfl) (by rfl) (by rfl)
   refine Es.p ?_
   refine Call.intInt ?_
   refine Ev.p ?_
   refine Bin.mod (by first | assumption | decide) ?_
   refine Ev.binop ?_
   refine Ev.binop ?_
   refine Ev.p ?_
   refine Ev.p ?_
   refine Bin.mul (by first | assumption | exact IntMulOk.of_right (intBits_le_iff.mpr (by decide)) | exact IntMulOk.of_left (intBits_le_iff.mpr (by decide)) | exact IntMulOk.of_left (intBits_le_iff.mpr (by omega))) ?_
   refine Ev.p ?_
   refine Bin.mul (by first | assumption | exact IntMulOk.of_right (intBits_le_iff.mpr (by decide)) | exact IntMulOk.of_left (intBits_le_iff.mpr (by decide)) | exact IntMulOk.of_left (intBits_le_iff.mpr (by omega))) ?_
   refine Bin.add ?_
   refine Ev.binop ?_
   refine Ev.p ?_
   refine Ev.p ?_
   refine Bin.mul (by first | assumption | exact IntMulOk.of_right (intBits_le_iff.mpr (by decide)) | exact IntMulOk.of_left (intBits_le_iff.mpr (by decide)) | exact IntMulOk.of_left (intBits_le_iff.mpr (by omega))) ?_
   refine Bin.add ?_
   refine Ev.p ?_
   refine Bin.add ?_
   refine Ev.p ?_
   refine Bin.mul (by first | assumption | exact IntMulOk.of_right (intBits_le_iff.mpr (by decide)) | exact IntMulOk.of_left (intBits_le_iff.mpr (by decide)) | exact IntMulOk.of_left (intBits_le_iff.mpr (by omega))) ?_
   refine Es.p ?_
   refine Call.intInt ?_
   refine Ev.p ?_
   refine Bin.mod (by first | assumption | decide) ?_
   refine Ex.retE ?_
   refine Ev.list ?_
   refine Es.cons ?_
   refine Ev.binop ?_
   refine Ev.p ?_
   refine Ev.b bv_int ?_ (by assumption) (by rfl) (by assumption) (by rfl) (by decide) (by rfl) (by rfl) (by rfl) (by rfl)
   refine Es.cons ?_
   refine Ev.cmp ?_
   refine Ev.p ?_
   refine Ev.binop ?_
   refine Ev.p ?_
   refine Ev.p ?_
   refine Bin.pow (by decide) (by decide) ?_
   refine Cmp.geInt ?_
   refine Es.p ?_
   refine Call.intBool ?_
   refine Bin.mul (IntMulOk.of_right (bits01 _)) ?_
   refine Es.p ?_
   refine sz_and (by (show _ ≤ 16777216; simp; done)) ?_
   intro src hsrc
   exact ⟨_, Sub.refl _, h src _ _ hsrc (Int.mul_nonneg (by split <;> omega) (nn01 _)) ⟨Int.fmod_nonneg_of_pos _ (by decide), Int.fmod_lt_of_pos _ (by decide)⟩⟩
 · refine Ex.nil ?_
   refine Ex.aC ?_ (by assumption) (by rfl) (by rfl)
   refine Ev.b bv_max ?_ (by assumption) (by rfl) (by assumption) (by rfl) (by decide) (by rfl) (by rfl) (by rfl) (by rfl)
   refine Es.cons ?_
   refine Ev.b bv_int ?_ (by assumption) (by rfl) (by assumption) (by rfl) (by decide) (by rfl) (by rfl) (by rfl) (by rfl)
   refine Es.p ?_
   refine Call.intInt ?_
   refine Es.cons ?_
   refine Ev.b bv_int ?_ (by assumption) (by rfl) (by assumption) (by rfl) (by decide) (by rfl) (by rfl) (by rfl) (by rfl)
   refine Es.cons ?_
   refine Ev.binop ?_
   refine Ev.unop ?_
   refine Ev.p ?_
   refine Una.neg ?_
   refine Ev.p ?_
   refine Bin.sub ?_
   refine Es.p ?_
   refine Call.intInt ?_
   refine Es.p ?_
   refine Call.maxInt (Rm.hh (by assumption)) ?_
   refine Ex.aC ?_ (by assumption) (by rfl) (by rfl)
   refine Ev.binop ?_
   refine Ev.b bv_int ?_ (by assumption) (by rfl) (by assumption) (by rfl) (by decide) (by rfl) (by rfl) (by rfl) (by rfl)
   refine Es.cons ?_
   refine Ev.binop ?_
   refine Ev.binop ?_
   refine Ev.binop ?_
   refine Ev.binop ?_
   refine Ev.binop ?_
   refine Ev.b bv_int ?_ (by assumption) (by rfl) (by assumption) (by rfl) (by decide) (by rfl) (by rfl) (by rfl) (by rfl)
   refine Es.p ?_
   refine Call.intInt ?_
   refine Ev.p ?_
   refine Bin.mod (by first | assumption | decide) ?_
   refine Ev.binop ?_
   refine Ev.binop ?_
   refine Ev.p ?_
   refine Ev.p ?_
   refine Bin.mul (by first | assumption | exact IntMulOk.of_right (intBits_le_iff.mpr (by decide)) | exact IntMulOk.of_left (intBits_le_iff.mpr (by decide)) | exact IntMulOk.of_left (intBits_le_iff.mpr (by omega))) ?_
   refine Ev.p ?_
   refine Bin.mul (by first | assumption | exact IntMulOk.of_right (intBits_le_iff.mpr (by decide)) | exact IntMulOk.of_left (intBits_le_iff.mpr (by decide)) | exact IntMulOk.of_left (intBits_le_iff.mpr (by omega))) ?_
   refine Bin.add ?_
   refine Ev.binop ?_
   refine Ev.p ?_
   refine Ev.p ?_
   refine Bin.mul (by first | assumption | exact IntMulOk.of_right (intBits_le_iff.mpr (by decide)) | exact IntMulOk.of_left (intBits_le_iff.mpr (by decide)) | exact IntMulOk.of_left (intBits_le_iff.mpr (by omega))) ?_
   refine Bin.add ?_
   refine Ev.p ?_
   refine Bin.add ?_
   refine Ev.p ?_
   refine Bin.mul (by first | assumption | exact IntMulOk.of_right (intBits_le_iff.mpr (by decide)) | exact IntMulOk.of_left (intBits_le_iff.mpr (by decide)) | exact IntMulOk.of_left (intBits_le_iff.mpr (by omega))) ?_
   refine Es.p ?_
   refine Call.intInt ?_
   refine Ev.p ?_
   refine Bin.mod (by first | assumption | decide) ?_
   refine Ex.retE ?_
   refine Ev.list ?_
   refine Es.cons ?_
   refine Ev.binop ?_
   refine Ev.p ?_
   refine Ev.b bv_int ?_ (by assumption) (by rfl) (by assumption) (by rfl) (by decide) (by rfl) (by rfl) (by rfl) (by rfl)
   refine Es.cons ?_
   refine Ev.cmp ?_
   refine Ev.p ?_
   refine Ev.binop ?_
   refine Ev.p ?_
   refine Ev.p ?_
   refine Bin.pow (by decide) (by decide) ?_
   refine Cmp.geInt ?_
   refine Es.p ?_
   refine Call.intBool ?_
   refine Bin.mul (by first | assumption | exact IntMulOk.of_right (intBits_le_iff.mpr (by decide)) | exact IntMulOk.of_left (intBits_le_iff.mpr (by decide)) | exact IntMulOk.of_left (intBits_le_iff.mpr (by omega))) ?_
   refine Es.p ?_
   refine sz_and (by (show _ ≤ 16777216; simp; done)) ?_
   intro src hsrc
   exact ⟨_, Sub.refl _, h src _ _ hsrc (Int.mul_nonneg (by split <;> omega) (nn01 _)) ⟨Int.fmod_nonneg_of_pos _ (by decide), Int.fmod_lt_of_pos _ (by decide)⟩⟩
end
theorem six {v : Int} (h0 : 0 ≤ v) (h : v < 6) : v = 0 ∨ v = 1 ∨ v = 2 ∨ v = 3 ∨ v = 4 ∨ v = 5 := by
 obtain ⟨k, rfl⟩ := Int.eq_ofNat_of_zero_le h0
 exact (by decide : ∀ k : Nat, k < 6 → ((k : Int) = 0 ∨ (k : Int) = 1 ∨ (k : Int) = 2 ∨ (k : Int) = 3 ∨ (k : Int) = 4 ∨ (k : Int) = 5)) k (Int.ofNat_lt.mp h)
theorem five {i : Nat} (h : i < 5) : i = 0 ∨ i = 1 ∨ i = 2 ∨ i = 3 ∨ i = 4 := (by decide : ∀ k : Nat, k < 5 → (k = 0 ∨ k = 1 ∨ k = 2 ∨ k = 3 ∨ k = 4)) i h
noncomputable def hok : Hd → Prop
 | .var n => n < 3
 | .ivar n => 3 ≤ n ∧ n < 5
 | .arr n => n < 10
 | _ => True
mutual
noncomputable def T.vok : T → Prop
 | .node h ch => hok h ∧ T.voks ch
noncomputable def T.voks : List T → Prop
 | [] => True
 | t :: ts => T.vok t ∧ T.voks ts
end
theorem voks_iff : ∀ l : List T, T.voks l ↔ ∀ t ∈ l, t.vok
 | [] => ⟨fun _ _ h => (nomatch h), fun _ => trivial⟩
 | t :: ts => (and_congr Iff.rfl (voks_iff ts)).trans List.forall_mem_cons.symm
structure T.good (t : T) (n : Nat) : Prop where
 wf : t.wf
 vok : t.vok
 hgt : t.hgt ≤ n
theorem good_node {h : Hd} {ch : List T} {n : Nat} (hf : fits h ch.length) (hv : hok h) (hc : ∀ c ∈ ch, c.good n) : (T.node h ch).good (n + 1) :=
 ⟨⟨hf, (wfs_iff _).mpr fun c hc' => (hc c hc').wf⟩, ⟨hv, (voks_iff _).mpr fun c hc' => (hc c hc').vok⟩, hgts_le fun c hc' => Nat.succ_le_succ (hc c hc').hgt⟩
theorem good_leaf {h : Hd} {n : Nat} (hf : fits h 0) (hv : hok h) : (T.node h []).good n := ⟨⟨hf, trivial⟩, ⟨hv, trivial⟩, Nat.zero_le _⟩
theorem T.good.le {t : T} {n m : Nat} (h : t.good n) (l : n ≤ m) : t.good m := ⟨h.wf, h.vok, Nat.le_trans h.hgt l⟩
section
variable {μ μ' : Mem}
theorem sub_over {s : Addr} {m m2 : MO} {X : Mem} (h : Sub (upd μ s m) X) : Sub (upd μ s m2) (upd X s m2) := by
 have := Sub.both h s m2
 rwa [upd_upd] at this
theorem upd_same {s : Addr} {m : MO} (h : μ s = some m) : upd μ s m = μ := by
 funext b; unfold upd; split
 · rename_i e; rw [e, h]
 · rfl
theorem rest_self {μ1 μ' : Mem} : rest μ1 μ1 μ' = μ' := by
 funext b; unfold rest; cases μ1 b <;> rfl
theorem sub_restOf {μ1 μh μ' μ3 : Mem} (h : Sub μ3 μ') (k : ∀ x, μ3 x ≠ none → μh x ≠ none) : Sub μ3 (rest μ1 μh μ') := fun b m e => by
 unfold rest
 have : (μh b).isNone = false := by
  have := k b (by rw [e]; simp)
  cases q : μh b with
  | none => exact absurd q this
  | some _ => rfl
 rw [this]; exact h b m e
theorem sub_hideNew {a : Addr} {mo : MO} (h : μ a = none) : Sub μ (hide (upd μ a mo) a) := fun b m e => by
 have : b ≠ a := fun q => by rw [q, h] at e; cases e
 unfold hide; rw [if_neg this, upd_other this]; exact e
theorem sub_ne {x : Addr} (h : Sub μ μ') (e : μ x ≠ none) : μ' x ≠ none := by
 cases q : μ x with
 | none => exact absurd q e
 | some m => rw [h x m q]; simp
theorem sub_bothNe {s : Addr} {m m' : MO} {x : Addr} (h : Sub μ μ') (hs : μ s ≠ none) (e : upd μ s m x ≠ none) : μ' x ≠ none := by
 by_cases q : x = s
 · subst q; exact sub_ne h hs
 · rw [upd_other q] at e; exact sub_ne h e
end
section
variable {C : Cx} {A : Around} {μ : Mem} {Q : D → Mem → Prop}
theorem law_type0_spec {C : Cx} {A : Around} {μ : Mem} {Q : D → Mem → Prop} (hC : HK C) {n : Nat} (hr : Rm A (n + 2)) {src : Addr} {a b : Int} (hm : μ src = some (srcMO a b)) (ha : 0 ≤ a) (hb : 0 ≤ b ∧ b < 2147483647)
 (h : ∀ t a' b', T.good t 0 → 0 ≤ a' → (0 ≤ b' ∧ b' < 2147483647) → Q (enc t) (upd μ src (srcMO a' b'))) : Call C A (.ref 175) [.raw (.ref src), .int 0] μ Q := by
 refine Call.def [PySem.Str.ofString "source", PySem.Str.ofString "fuel"] hC hr rfl rfl rfl rfl rfl (by rfl) ?_ rfl (by decide) rfl rfl rfl ?_
 · exact fun s => bind2 fun v0 v1 => BindsTo.of_eq rfl
 intro env A' hs hc hr' hfr hef
 dsimp only at hs hc
 show Ex _ _ _ (execs (_ :: _) _) _ _ _ _
 refine Ex.aC ?_ (by assumption) (by rfl) (by rfl)
 refine Ev.g ?_ (by assumption) (by rfl) (by assumption) (by rfl) (by rfl) (by rfl) (by rfl) (by rfl)
 refine Es.cons ?_
 refine Ev.p ?_
 refine Es.cons ?_
 refine Ev.ip ?_ (by with_unfolding_all rfl)
 refine br_f (by first | rfl | assumption) ?_
 refine Ev.p ?_
 refine Es.p ?_
 refine law_take_spec (by assumption) (by assumption) (src := _) (by assumption) (by assumption) (by assumption) (by decide) ?_
 intro way a1 b1 w0 w1 ha1 hb1
 refine Ex.cons ?_
 refine Ex.iteP (by with_unfolding_all rfl) ?_
 refine ⟨fun e => ?_, fun e => ?_⟩
 · refine Ex.retE ?_
   refine Ev.tuple ?_
   refine Es.cons ?_
   refine Ev.p ?_
   refine Es.cons ?_
   refine Ev.g ?_ (by assumption) (by rfl) (by assumption) (by rfl) (by rfl) (by rfl) (by rfl) (by rfl)
   refine Es.p ?_
   refine law_take_spec (by assumption) (by assumption) (src := _) (by exact upd_self) (by assumption) (by assumption) (by decide) ?_
   intro v a2 b2 v0 v1 ha2 hb2
   obtain ⟨n, rfl⟩ := Int.eq_ofNat_of_zero_le v0
   refine Es.p ?_
   refine sz_and (by (show _ ≤ 16777216; simp; done)) ?_
   exact ⟨_, by (apply sub_over; exact Sub.refl _), h (.node (.var n) []) _ _ (good_leaf rfl (by show n < 3; omega)) ha2 hb2⟩
 refine Ex.nil ?_
 refine Ex.cons ?_
 refine Ex.iteP (by with_unfolding_all rfl) ?_
 refine ⟨fun e2 => ?_, fun e2 => ?_⟩
 · refine Ex.retE ?_
   refine Ev.tuple ?_
   refine Es.cons ?_
   refine Ev.p ?_
   refine Es.cons ?_
   refine Ev.binop ?_
   refine Ev.p ?_
   refine Ev.g ?_ (by assumption) (by rfl) (by assumption) (by rfl) (by rfl) (by rfl) (by rfl) (by rfl)
   refine Es.p ?_
   refine law_take_spec (by assumption) (by assumption) (src := _) (by exact upd_self) (by assumption) (by assumption) (by decide) ?_
   intro v a2 b2 v0 v1 ha2 hb2
   obtain ⟨n, rfl⟩ := Int.eq_ofNat_of_zero_le v0
   refine Bin.add ?_
   refine Es.p ?_
   refine sz_and (by (show _ ≤ 16777216; simp; done)) ?_
   exact ⟨_, by (apply sub_over; exact Sub.refl _), h (.node (.ivar (3 + n)) []) _ _ (good_leaf rfl (by show 3 ≤ 3 + n ∧ 3 + n < 5; omega)) ha2 hb2⟩
 refine Ex.nil ?_
 refine Ex.cons ?_
 refine Ex.iteP (by with_unfolding_all rfl) ?_
 refine ⟨fun e3 => ?_, fun e3 => ?_⟩
 · refine Ex.cons ?_
   ((with_reducible refine' Ex.assign ?_ ?kf ?kc ?sw); (case kf => exact Or.inl (kf_local (by assumption) (by rfl))); (case kc => (intro h9; exact absurd ((kf_local (k := NameKind.local) (by assumption) (by rfl)).symm.trans h9) (by decide))); (case sw => rfl))
   refine Ev.list ?_
   with_reducible refine Es.p ?_
   refine sz_and (by (show _ ≤ 16777216; simp; done)) ?_
   intro at' hat
   refine Ex.retE ?_
   refine Ev.sub ?_
   refine Ev.p ?_
   refine Ev.g ?_ (by assumption) (by rfl) (by assumption) (by rfl) (by rfl) (by rfl) (by rfl) (by rfl)
   refine Es.p ?_
   refine law_take_spec (by assumption) (by assumption) (src := _) (by (refine Eq.trans (upd_other ?_) ?_; (exact ne_upd (by assumption)); exact upd_self)) (by assumption) (by assumption) (by decide) ?_
   intro v a2 b2 v0 v1 ha2 hb2
   have hv : v = 0 ∨ v = 1 ∨ v = 2 ∨ v = 3 ∨ v = 4 ∨ v = 5 := six (by assumption) (by assumption)
   rcases hv with rfl | rfl | rfl | rfl | rfl | rfl
   · refine Get.list (k := _) (d := _) (by (refine Eq.trans (upd_other ?_) ?_; (exact (ne_upd (by assumption)).symm); exact upd_self)) (by rfl) (by decide) ?_
     exact ⟨_, by (apply sub_over; exact Sub.new (by assumption)), h (.node (.int false) []) _ _ (good_leaf rfl trivial) ha2 hb2⟩
   · refine Get.list (k := _) (d := _) (by (refine Eq.trans (upd_other ?_) ?_; (exact (ne_upd (by assumption)).symm); exact upd_self)) (by rfl) (by decide) ?_
     exact ⟨_, by (apply sub_over; exact Sub.new (by assumption)), h (.node (.int true) []) _ _ (good_leaf rfl trivial) ha2 hb2⟩
   · refine Get.list (k := _) (d := _) (by (refine Eq.trans (upd_other ?_) ?_; (exact (ne_upd (by assumption)).symm); exact upd_self)) (by rfl) (by decide) ?_
     exact ⟨_, by (apply sub_over; exact Sub.new (by assumption)), h (.node .bool []) _ _ (good_leaf rfl trivial) ha2 hb2⟩
   · refine Get.list (k := _) (d := _) (by (refine Eq.trans (upd_other ?_) ?_; (exact (ne_upd (by assumption)).symm); exact upd_self)) (by rfl) (by decide) ?_
     exact ⟨_, by (apply sub_over; exact Sub.new (by assumption)), h (.node .param []) _ _ (good_leaf rfl trivial) ha2 hb2⟩
   · refine Get.list (k := _) (d := _) (by (refine Eq.trans (upd_other ?_) ?_; (exact (ne_upd (by assumption)).symm); exact upd_self)) (by rfl) (by decide) ?_
     exact ⟨_, by (apply sub_over; exact Sub.new (by assumption)), h (.node .never []) _ _ (good_leaf rfl trivial) ha2 hb2⟩
   · ((refine' Get.list (k := _) (d := _) ?lm ?gx ?gk ?_); (case lm => (refine Eq.trans (upd_other ?_) ?_; (exact (ne_upd (by assumption)).symm); exact upd_self)); (case gx => rfl); (case gk => decide))
     exact ⟨_, by (apply sub_over; exact Sub.new (by assumption)), h (.node .tup []) _ _ (good_leaf (Nat.zero_le _) trivial) ha2 hb2⟩
 have := of_decide_eq_false e3
 omega
theorem law_type_spec (f : Nat) : ∀ {C : Cx} {A : Around} {μ : Mem} {Q : D → Mem → Prop} (hC : HK C) (hr : Rm A (f + 3)) {src : Addr} {a b : Int} (hm : μ src = some (srcMO a b)) (ha : 0 ≤ a) (hb : 0 ≤ b ∧ b < 2147483647)
 (h : ∀ t a' b', T.good t f → 0 ≤ a' → (0 ≤ b' ∧ b' < 2147483647) → Q (enc t) (upd μ src (srcMO a' b'))), Call C A (.ref 175) [.raw (.ref src), .int (f : Int)] μ Q := by
 induction f with
 | zero => intro C A μ Q hC hr src a b hm ha hb h; exact law_type0_spec hC (hr.le (Nat.le_succ 2)) hm ha hb h
 | succ f ih =>
  intro C A μ Q hC hr src a b hm ha hb h
  refine Call.def [PySem.Str.ofString "source", PySem.Str.ofString "fuel"] hC hr rfl rfl rfl rfl rfl (by rfl) ?_ rfl (by decide) rfl rfl rfl ?_
  · exact fun s => bind2 fun v0 v1 => BindsTo.of_eq rfl
  intro env A' hs hc hr' hfr hef
  dsimp only at hs hc
  show Ex _ _ _ (execs (_ :: _) _) _ _ _ _
  have hgt : decide ((0 : Int) < ((f + 1 : Nat) : Int)) = true := decide_eq_true (by omega)
  have hgt : decide ((0 : Int) < ((f + 1 : Nat) : Int)) = true := decide_eq_true (by omega)
  refine Ex.aC ?_ (by assumption) (by rfl) (by rfl)
  refine Ev.g ?_ (by assumption) (by rfl) (by assumption) (by rfl) (by rfl) (by rfl) (by rfl) (by rfl)
  refine Es.cons ?_
  refine Ev.p ?_
  refine Es.cons ?_
  refine Ev.ip ?_ (by with_unfolding_all rfl)
  refine br_t (by first | rfl | assumption) ?_
  refine Ev.p ?_
  refine Es.p ?_
  refine law_take_spec (by assumption) (by assumption) (src := _) (by assumption) (by assumption) (by assumption) (by decide) ?_
  intro way a1 b1 w0 w1 ha1 hb1
  refine Ex.cons ?_
  refine Ex.iteP (by with_unfolding_all rfl) ?_
  refine ⟨fun e => ?_, fun e => ?_⟩
  · refine Ex.retE ?_
    refine Ev.tuple ?_
    refine Es.cons ?_
    refine Ev.p ?_
    refine Es.cons ?_
    refine Ev.g ?_ (by assumption) (by rfl) (by assumption) (by rfl) (by rfl) (by rfl) (by rfl) (by rfl)
    refine Es.p ?_
    refine law_take_spec (by assumption) (by assumption) (src := _) (by exact upd_self) (by assumption) (by assumption) (by decide) ?_
    intro v a2 b2 v0 v1 ha2 hb2
    obtain ⟨n, rfl⟩ := Int.eq_ofNat_of_zero_le v0
    refine Es.p ?_
    refine sz_and (by (show _ ≤ 16777216; simp; done)) ?_
    exact ⟨_, by (apply sub_over; exact Sub.refl _), h (.node (.var n) []) _ _ (good_leaf rfl (by show n < 3; omega)) ha2 hb2⟩
  refine Ex.nil ?_
  refine Ex.cons ?_
  refine Ex.iteP (by with_unfolding_all rfl) ?_
  refine ⟨fun e2 => ?_, fun e2 => ?_⟩
  · refine Ex.retE ?_
    refine Ev.tuple ?_
    refine Es.cons ?_
    refine Ev.p ?_
    refine Es.cons ?_
    refine Ev.binop ?_
    refine Ev.p ?_
    refine Ev.g ?_ (by assumption) (by rfl) (by assumption) (by rfl) (by rfl) (by rfl) (by rfl) (by rfl)
    refine Es.p ?_
    refine law_take_spec (by assumption) (by assumption) (src := _) (by exact upd_self) (by assumption) (by assumption) (by decide) ?_
    intro v a2 b2 v0 v1 ha2 hb2
    obtain ⟨n, rfl⟩ := Int.eq_ofNat_of_zero_le v0
    refine Bin.add ?_
    refine Es.p ?_
    refine sz_and (by (show _ ≤ 16777216; simp; done)) ?_
    exact ⟨_, by (apply sub_over; exact Sub.refl _), h (.node (.ivar (3 + n)) []) _ _ (good_leaf rfl (by show 3 ≤ 3 + n ∧ 3 + n < 5; omega)) ha2 hb2⟩
  refine Ex.nil ?_
  refine Ex.cons ?_
  refine Ex.iteP (by with_unfolding_all rfl) ?_
  refine ⟨fun e3 => ?_, fun e3 => ?_⟩
  · refine Ex.cons ?_
    ((with_reducible refine' Ex.assign ?_ ?kf ?kc ?sw); (case kf => exact Or.inl (kf_local (by assumption) (by rfl))); (case kc => (intro h9; exact absurd ((kf_local (k := NameKind.local) (by assumption) (by rfl)).symm.trans h9) (by decide))); (case sw => rfl))
    refine Ev.list ?_
    with_reducible refine' Es.p ?_
    refine sz_and (by (show _ ≤ 16777216; simp; done)) ?_
    intro at' hat
    refine Ex.retE ?_
    refine Ev.sub ?_
    refine Ev.p ?_
    refine Ev.g ?_ (by assumption) (by rfl) (by assumption) (by rfl) (by rfl) (by rfl) (by rfl) (by rfl)
    refine Es.p ?_
    refine law_take_spec (by assumption) (by assumption) (src := _) (by (refine Eq.trans (upd_other ?_) ?_; (exact ne_upd (by assumption)); exact upd_self)) (by assumption) (by assumption) (by decide) ?_
    intro v a2 b2 v0 v1 ha2 hb2
    have hv : v = 0 ∨ v = 1 ∨ v = 2 ∨ v = 3 ∨ v = 4 ∨ v = 5 := six (by assumption) (by assumption)
    rcases hv with rfl | rfl | rfl | rfl | rfl | rfl
    · refine Get.list (k := _) (d := _) (by (refine Eq.trans (upd_other ?_) ?_; (exact (ne_upd (by assumption)).symm); exact upd_self)) (by rfl) (by decide) ?_
      exact ⟨_, by (apply sub_over; exact Sub.new (by assumption)), h (.node (.int false) []) _ _ (good_leaf rfl trivial) ha2 hb2⟩
    · refine Get.list (k := _) (d := _) (by (refine Eq.trans (upd_other ?_) ?_; (exact (ne_upd (by assumption)).symm); exact upd_self)) (by rfl) (by decide) ?_
      exact ⟨_, by (apply sub_over; exact Sub.new (by assumption)), h (.node (.int true) []) _ _ (good_leaf rfl trivial) ha2 hb2⟩
    · refine Get.list (k := _) (d := _) (by (refine Eq.trans (upd_other ?_) ?_; (exact (ne_upd (by assumption)).symm); exact upd_self)) (by rfl) (by decide) ?_
      exact ⟨_, by (apply sub_over; exact Sub.new (by assumption)), h (.node .bool []) _ _ (good_leaf rfl trivial) ha2 hb2⟩
    · refine Get.list (k := _) (d := _) (by (refine Eq.trans (upd_other ?_) ?_; (exact (ne_upd (by assumption)).symm); exact upd_self)) (by rfl) (by decide) ?_
      exact ⟨_, by (apply sub_over; exact Sub.new (by assumption)), h (.node .param []) _ _ (good_leaf rfl trivial) ha2 hb2⟩
    · refine Get.list (k := _) (d := _) (by (refine Eq.trans (upd_other ?_) ?_; (exact (ne_upd (by assumption)).symm); exact upd_self)) (by rfl) (by decide) ?_
      exact ⟨_, by (apply sub_over; exact Sub.new (by assumption)), h (.node .never []) _ _ (good_leaf rfl trivial) ha2 hb2⟩
    · refine Get.list (k := _) (d := _) (by (refine Eq.trans (upd_other ?_) ?_; (exact (ne_upd (by assumption)).symm); exact upd_self)) (by rfl) (by decide) ?_
      exact ⟨_, by (apply sub_over; exact Sub.new (by assumption)), h (.node .tup []) _ _ (good_leaf (Nat.zero_le _) trivial) ha2 hb2⟩
  refine Ex.nil ?_
  with_reducible refine' Ex.cons ?_
  refine Ex.assign ?_ (Or.inl (kf_local (by assumption) (by rfl))) (kc_loc (by assumption) (by rfl)) (by rfl)
  refine Ev.g ?_ (by assumption) (by rfl) (by assumption) (by rfl) (by rfl) (by rfl) (by rfl) (by rfl)
  refine Es.cons ?_
  refine Ev.p ?_
  refine Es.cons ?_
  refine Ev.binop ?_
  refine Ev.p ?_
  refine Ev.p ?_
  refine Bin.sub ?_
  refine Es.p ?_
  have ef : ((f + 1 : Nat) : Int) - 1 = (f : Int) := by omega
  rw [ef]
  refine ih hC hr' upd_self ha1 hb1 ?_
  intro ti a2 b2 hti ha2 hb2
  rw [upd_upd]
  refine Ex.cons ?_
  refine Ex.iteP (by with_unfolding_all rfl) ?_
  refine ⟨fun e4 => ?_, fun e4 => ?_⟩
  · refine Ex.retE ?_
    refine Ev.tuple ?_
    refine Es.cons ?_
    refine Ev.p ?_
    refine Es.cons ?_
    refine Ev.b bv_tuple ?_ (by assumption) (by rfl) (by assumption) (by rfl) (by decide) (by rfl) (by rfl) (by rfl) (by rfl)
    refine Es.cons ?_
    refine Ev.binop ?_
    refine Ev.list ?_
    refine Es.p ?_
    refine sz_and (by (show _ ≤ 16777216; simp; done)) ?_
    intro c hc
    refine Ev.comp ?_ (by intro _; rfl) (by exact CompScope.of (by assumption) (by assumption) (by rfl) (by rfl) (by rfl) (by rfl))
    refine Ei.range hr'.hh ?_
    refine Ev.b bv_range ?_ (by assumption) (by rfl) (by assumption) (by rfl) (by decide) (by rfl) (by rfl) (by rfl) (by rfl)
    refine Es.cons ?_
    refine Ev.g ?_ (by assumption) (by rfl) (by assumption) (by rfl) (by rfl) (by rfl) (by rfl) (by rfl)
    refine Es.p ?_
    refine law_take_spec (by assumption) (by assumption) (src := _) (by (refine Eq.trans (upd_other ?_) ?_; (exact ne_upd (by assumption)); exact upd_self)) (by assumption) (by assumption) (by decide) ?_
    intro v a3 b3 v0 v1 ha3 hb3
    obtain ⟨n, rfl⟩ := Int.eq_ofNat_of_zero_le v0
    refine Es.p ?_
    refine Call.range ?_
    intro r hr0
    refine ⟨r, n, rfl, upd_self, by omega, ?_⟩
    generalize hμ1 : upd (upd (upd (upd μ src (srcMO a2 b2)) c (MO.list [enc ti])) src (srcMO a3 b3)) r (MO.obj (rangeOf n)) = μ1
    have hm1 : μ1 src = some (srcMO a3 b3) := by rw [← hμ1]; (refine Eq.trans (upd_other ?_) ?_; (exact ne_upd (by assumption)); exact upd_self)
    have hc1 : μ1 c = some (.list [enc ti]) := by rw [← hμ1]; (refine Eq.trans (upd_other ?_) ?_; (exact ne_upd (none_upd (by assumption))); (refine Eq.trans (upd_other ?_) ?_; (exact (ne_upd (by assumption)).symm); exact upd_self))
    have hs1 : Sub (upd μ src (srcMO a3 b3)) μ1 := by rw [← hμ1]; (apply Sub.trans; rotate_left; (exact Sub.new (by assumption)); (apply sub_over; exact Sub.new (by assumption)))
    refine CompGo.name (by rw [rgs_length]; exact Nat.le_trans (show n ≤ 1 by omega) (by decide)) (fun i acc μ' => ∃ ts x y, acc = encs ts ∧ ts.length = i ∧ (∀ t ∈ ts, T.good t f) ∧ 0 ≤ x ∧ (0 ≤ y ∧ y < 2147483647) ∧ μ' = upd μ1 src (srcMO x y)) ?_ (by rfl) ?_ ?_
    · exact ⟨[], a3, b3, rfl, rfl, by simp, ha3, hb3, by rw [upd_same hm1]⟩
    · rintro B hB hb' cenv hce i d acc μ' hd' ⟨ts, x, y, rfl, hl, hg, hx, hy, rfl⟩
      refine Ev.callG (by assumption) (by rfl) (by exact CompEnv.names (by assumption) _ _ (by rfl) (by decide)) (by rfl) (by rfl) (by rfl) (by rfl) ?_
      refine Es.cons ?_
      refine Ev.p ?_
      refine Es.cons ?_
      refine Ev.binop ?_
      refine Ev.p ?_
      refine Ev.p ?_
      refine Bin.sub ?_
      refine Es.p ?_
      rw [ef]
      refine ih (C := C.ban B hB) hC hr' upd_self hx hy ?_
      intro t x' y' ht hx' hy'
      rw [upd_upd]
      refine ⟨ts ++ [t], x', y', by simp [encs_eq], by simp [hl], ?_, hx', hy', rfl⟩
      intro u hu
      rcases List.mem_append.mp hu with hu | hu
      · exact hg u hu
      · rw [List.mem_singleton.mp hu]; exact ht
    · rintro acc μ' ⟨ts, x, y, rfl, hl, hg, hx, hy, rfl⟩
      rw [rest_self]
      refine ⟨_, Sub.refl _, ?_⟩
      rw [rgs_length] at hl
      have hz1 : (encs ts).length ≤ 1 := by rw [encs_len]; omega
      intro e he
      refine Bin.list (by (refine Eq.trans (upd_other ?_) ?_; (exact ne_mem (by assumption) (none_upd (by assumption))); (refine Eq.trans (upd_other ?_) ?_; (exact (ne_upd (by assumption)).symm); assumption))) (by exact upd_self) (by (show _ ≤ 16777216; simp; omega)) ?_
      intro g hg'
      refine Es.p ?_
      refine Call.tupleList (by exact upd_self) (by (show _ ≤ 16777216; simp; omega)) ?_
      refine Es.p ?_
      refine sz_and (by (show _ ≤ 16777216; simp; done)) ?_
      refine ⟨upd μ src (srcMO x y), ?_, h (.node .tup (ti :: ts)) _ _ (good_node (show (ti :: ts).length ≤ 2 by simp; omega) trivial ?_) hx hy⟩
      · exact ((sub_over hs1).trans (Sub.new he)).trans (Sub.new hg')
      · intro u hu
        rcases List.mem_cons.mp hu with rfl | hu
        · exact hti
        · exact hg u hu
  refine Ex.nil ?_
  refine Ex.cons ?_
  refine Ex.iteP (by with_unfolding_all rfl) ?_
  refine ⟨fun e5 => ?_, fun e5 => ?_⟩
  · refine Ex.retE ?_
    refine Ev.tuple ?_
    refine Es.cons ?_
    refine Ev.p ?_
    refine Es.cons ?_
    refine Ev.p ?_
    refine Es.cons ?_
    refine Ev.cmp ?_
    refine Ev.g ?_ (by assumption) (by rfl) (by assumption) (by rfl) (by rfl) (by rfl) (by rfl) (by rfl)
    refine Es.p ?_
    refine law_take_spec (by assumption) (by assumption) (src := _) (by exact upd_self) (by assumption) (by assumption) (by decide) ?_
    intro v a3 b3 v0 v1 ha3 hb3
    refine Ev.p ?_
    refine Cmp.eqInt ?_
    refine Es.p ?_
    refine sz_and (by (show _ ≤ 16777216; simp; done)) ?_
    exact ⟨_, by (apply sub_over; exact Sub.refl _), h (.node (.ref (v == 0)) [ti]) _ _ (good_node rfl trivial (by simpa using hti)) ha3 hb3⟩
  refine Ex.nil ?_
  refine Ex.cons ?_
  refine Ex.iteP (by with_unfolding_all rfl) ?_
  refine ⟨fun e6 => ?_, fun e6 => ?_⟩
  · refine Ex.retC ?_ (by with_unfolding_all rfl)
    exact ⟨_, by exact Sub.refl _, h (.node .box [ti]) _ _ (good_node rfl trivial (by simpa using hti)) ha2 hb2⟩
  refine Ex.nil ?_
  refine Ex.cons ?_
  refine Ex.iteP (by with_unfolding_all rfl) ?_
  refine ⟨fun e7 => ?_, fun e7 => ?_⟩
  · refine Ex.retE ?_
    refine Ev.tuple ?_
    refine Es.cons ?_
    refine Ev.p ?_
    refine Es.cons ?_
    refine Ev.p ?_
    refine Es.cons ?_
    refine Ev.binop ?_
    refine Ev.p ?_
    refine Ev.g ?_ (by assumption) (by rfl) (by assumption) (by rfl) (by rfl) (by rfl) (by rfl) (by rfl)
    refine Es.p ?_
    refine law_take_spec (by assumption) (by assumption) (src := _) (by exact upd_self) (by assumption) (by assumption) (by decide) ?_
    intro v a3 b3 v0 v1 ha3 hb3
    obtain ⟨n, rfl⟩ := Int.eq_ofNat_of_zero_le v0
    refine Bin.add ?_
    refine Es.p ?_
    refine sz_and (by (show _ ≤ 16777216; simp; done)) ?_
    exact ⟨_, by (apply sub_over; exact Sub.refl _), h (.node (.arr (2 + n)) [ti]) _ _ (good_node rfl (by show 2 + n < 10; omega) (by simpa using hti)) ha3 hb3⟩
  refine Ex.nil ?_
  refine Ex.retE ?_
  refine Ev.tuple ?_
  refine Es.cons ?_
  refine Ev.p ?_
  refine Es.cons ?_
  refine Ev.sub ?_
  refine Ev.list ?_
  refine Es.p ?_
  refine sz_and (by (show _ ≤ 16777216; simp; done)) ?_
  intro d hd
  refine Ev.g ?_ (by assumption) (by rfl) (by assumption) (by rfl) (by rfl) (by rfl) (by rfl) (by rfl)
  refine Es.p ?_
  refine law_take_spec (by assumption) (by assumption) (src := _) (by (refine Eq.trans (upd_other ?_) ?_; (exact ne_upd (by assumption)); exact upd_self)) (by assumption) (by assumption) (by decide) ?_
  intro v a3 b3 v0 v1 ha3 hb3
  have hv : v = 0 ∨ v = 1 := by omega
  rcases hv with rfl | rfl
  · refine Get.list (k := _) (d := _) (by (refine Eq.trans (upd_other ?_) ?_; (exact (ne_upd (by assumption)).symm); exact upd_self)) (by rfl) (by decide) ?_
    refine Es.cons ?_
    refine Ev.p ?_
    refine Es.cons ?_
    refine Ev.tuple ?_
    refine Es.cons ?_
    refine Ev.p ?_
    refine Es.cons ?_
    refine Ev.g ?_ (by assumption) (by rfl) (by assumption) (by rfl) (by rfl) (by rfl) (by rfl) (by rfl)
    refine Es.p ?_
    refine law_type0_spec hC (n := 0) (by exact Rm.le (by assumption) (by omega)) upd_self ha3 hb3 ?_
    intro t a4 b4 ht ha4 hb4
    rw [upd_upd]
    refine Es.p ?_
    refine sz_and (by (show _ ≤ 16777216; simp; done)) ?_
    refine Es.p ?_
    refine sz_and (by (show _ ≤ 16777216; simp; done)) ?_
    exact ⟨_, by (apply sub_over; exact Sub.new (by assumption)), h (.node (.adt false) [ti, t]) _ _ (good_node rfl trivial (by simpa using ⟨hti, ht.le (Nat.zero_le _)⟩)) ha4 hb4⟩
  · refine Get.list (k := _) (d := _) (by (refine Eq.trans (upd_other ?_) ?_; (exact (ne_upd (by assumption)).symm); exact upd_self)) (by rfl) (by decide) ?_
    refine Es.cons ?_
    refine Ev.p ?_
    refine Es.cons ?_
    refine Ev.tuple ?_
    refine Es.cons ?_
    refine Ev.p ?_
    refine Es.cons ?_
    refine Ev.g ?_ (by assumption) (by rfl) (by assumption) (by rfl) (by rfl) (by rfl) (by rfl) (by rfl)
    refine Es.p ?_
    refine law_type0_spec hC (n := 0) (by exact Rm.le (by assumption) (by omega)) upd_self ha3 hb3 ?_
    intro t a4 b4 ht ha4 hb4
    rw [upd_upd]
    refine Es.p ?_
    refine sz_and (by (show _ ≤ 16777216; simp; done)) ?_
    refine Es.p ?_
    refine sz_and (by (show _ ≤ 16777216; simp; done)) ?_
    exact ⟨_, by (apply sub_over; exact Sub.new (by assumption)), h (.node (.adt true) [ti, t]) _ _ (good_node rfl trivial (by simpa using ⟨hti, ht.le (Nat.zero_le _)⟩)) ha4 hb4⟩
end
section
noncomputable def CopySpec (k : Nat) : Prop := ∀ (C : Cx) (A : Around) (μ : Mem) (Q : D → Mem → Prop) (hC : HK C) (hr : Rm A (k + 4)) (src : Addr) (a b : Int) (hm : μ src = some (srcMO a b)) (ha : 0 ≤ a) (hb : 0 ≤ b ∧ b < 2147483647) (t : T) (ht : t.good k)
 (h : ∀ t a' b', T.good t k → 0 ≤ a' → (0 ≤ b' ∧ b' < 2147483647) → Q (enc t) (upd μ src (srcMO a' b'))), Call C A (.ref 199) [.raw (.ref src), enc t] μ Q
theorem law_copy_step (k : Nat) (ih : ∀ j, k = j + 1 → CopySpec j) : CopySpec k := by
 intro C A μ Q hC hr src a b hm ha hb t ht h
 refine Call.def [PySem.Str.ofString "source", PySem.Str.ofString "thing"] hC hr rfl rfl rfl rfl rfl (by rfl) ?_ rfl (by decide) rfl rfl rfl ?_
 · exact fun s => bind2 fun v0 v1 => BindsTo.of_eq rfl
 intro env A' hs hc hr' hfr hef
 dsimp only at hs hc
 show Ex _ _ _ (execs (_ :: _) _) _ _ _ _
 obtain ⟨hh, ch⟩ := t
 have hwf := ht.wf
 have hcg : ∀ c ∈ ch, ∃ j, k = j + 1 ∧ c.good j := fun c hc => by
  have h1 : c.hgt + 1 ≤ T.hgts ch := hgts_mem hc
  have h2 : T.hgts ch ≤ k := ht.hgt
  exact ⟨k - 1, (Nat.succ_pred_eq_of_pos (Nat.lt_of_lt_of_le (Nat.succ_pos _) (Nat.le_trans h1 h2))).symm, (wfs_iff _).mp ht.wf.2 c hc, (voks_iff _).mp ht.vok.2 c hc, by omega⟩
 refine Ex.aC ?_ (by assumption) (by rfl) (by rfl)
 refine Ev.g ?_ (by assumption) (by rfl) (by assumption) (by rfl) (by rfl) (by rfl) (by rfl) (by rfl)
 refine Es.p ?_
 refine law_take_spec (by assumption) (by assumption) (src := _) (by assumption) (by assumption) (by assumption) (by decide) ?_
 intro way a1 b1 w0 w1 ha1 hb1
 refine Ex.cons ?_
 refine Ex.iteP (by with_unfolding_all rfl) ?_
 refine ⟨fun e => ?_, fun e => ?_⟩
 · refine Ex.retE ?_
   refine Ev.g ?_ (by assumption) (by rfl) (by assumption) (by rfl) (by rfl) (by rfl) (by rfl) (by rfl)
   refine Es.p ?_
   refine law_type0_spec hC (n := 0) (by exact Rm.le (by assumption) (by omega)) upd_self ha1 hb1 ?_
   intro t a4 b4 ht ha4 hb4
   rw [upd_upd]
   exact ⟨_, by exact Sub.refl _, h _ _ _ (ht.le (Nat.zero_le _)) ha4 hb4⟩
 · refine Ex.nil ?_
   refine Ex.retE ?_
   refine Ev.g ?_ (by assumption) (by rfl) (by assumption) (by rfl) (by rfl) (by rfl) (by rfl) (by rfl)
   refine Es.cons ?_
   refine Ev.p ?_
   refine Es.cons ?_
   refine Ev.comp ?_ (by intro _; rfl) (by exact CompScope.of (by assumption) (by assumption) (by rfl) (by rfl) (by rfl) (by rfl))
   refine Ei.list hr'.hh ?_
   refine Ev.g ?_ (by assumption) (by rfl) (by assumption) (by rfl) (by rfl) (by rfl) (by rfl) (by rfl)
   refine Es.p ?_
   refine law_within_spec (by assumption) (by assumption) _ (by assumption) ?_
   intro l hl
   refine ⟨l, _, rfl, upd_self, ?_⟩
   have hs1 := sub_hideNew (mo := MO.list (encs (T.node hh ch).ch)) hl
   generalize hμh : hide (upd (upd μ src (srcMO a1 b1)) l (MO.list (encs (T.node hh ch).ch))) l = μh at hs1
   have hmh : μh src = some (srcMO a1 b1) := hs1 _ _ upd_self
   refine CompGo.name (by rw [encs_len]; exact Nat.le_trans (wf_len hwf) (by decide)) (fun i acc μ' => ∃ ts x y, acc = encs ts ∧ ts.length = i ∧ (∀ t ∈ ts, ∃ j, k = j + 1 ∧ T.good t j) ∧ 0 ≤ x ∧ (0 ≤ y ∧ y < 2147483647) ∧ μ' = upd μh src (srcMO x y)) ?_ (by rfl) ?_ ?_
   · exact ⟨[], a1, b1, rfl, rfl, by simp, ha1, hb1, by rw [upd_same hmh]⟩
   · rintro B hB hb' cenv hce i d acc μ' hd' ⟨ts, x, y, rfl, hl, hg, hx, hy, rfl⟩
     rw [encs_eq, List.getElem?_map] at hd'
     obtain ⟨c, hc', rfl⟩ := Option.map_eq_some_iff.mp hd'
     refine Ev.callG (by assumption) (by rfl) (by exact CompEnv.names (by assumption) _ _ (by rfl) (by decide)) (by rfl) (by rfl) (by rfl) (by rfl) ?_
     refine Es.p ?_
     obtain ⟨j, rfl, hcj⟩ := hcg c (List.mem_of_getElem? hc')
     refine ih j rfl (C.ban B hB) A' _ _ hC hr' src x y upd_self hx hy c hcj ?_
     intro t x' y' ht hx' hy'
     rw [upd_upd]
     refine ⟨ts ++ [t], x', y', by simp [encs_eq], by simp [hl], ?_, hx', hy', rfl⟩
     intro u hu
     rcases List.mem_append.mp hu with hu | hu
     · exact hg u hu
     · rw [List.mem_singleton.mp hu]; exact ⟨j, rfl, ht⟩
   · rintro acc μ' ⟨ts, x, y, rfl, hl', hg, hx, hy, rfl⟩
     refine ⟨upd μ src (srcMO x y), sub_restOf (sub_over hs1) fun z hz => sub_bothNe hs1 (by rw [upd_self]; simp) (m := srcMO x y) (m' := srcMO x y) (by rw [upd_upd]; exact hz), ?_⟩
     intro e he
     refine Es.p ?_
     rw [encs_len] at hl'
     refine law_with_spec (n := 0) hC (by exact Rm.le (by assumption) (by omega)) hh ch ts hwf.1 hl' upd_self ?_
     refine ⟨_, by exact Sub.new (by assumption), h (.node hh ts) _ _ ?_ hx hy⟩
     refine ⟨⟨by rw [hl']; exact hwf.1, (wfs_iff _).mpr fun c hc => ?_⟩, ⟨ht.vok.1, (voks_iff _).mpr fun c hc => ?_⟩, hgts_le fun c hc => ?_⟩ <;> obtain ⟨j, hj, hg'⟩ := hg c hc
     · exact hg'.wf
     · exact hg'.vok
     · have := hg'.hgt; omega
theorem law_copy_spec : ∀ k : Nat, CopySpec k
 | 0 => law_copy_step 0 fun j e => by omega
 | k + 1 => law_copy_step (k + 1) fun j e => by
  have : j = k := by omega
  subst this; exact law_copy_spec j
end
noncomputable def slotD : Option T → D
 | none => .none
 | some t => enc t
noncomputable def infF (kn nu : Addr) : Str → Option Value := attrUpd (attrUpd (fun _ => none) (PySem.Str.ofString "known") (.ref kn)) (PySem.Str.ofString "is_number") (.ref nu)
noncomputable abbrev nums : List D := [.bool false, .bool false, .bool false, .bool true, .bool true]
structure Inf (μ : Mem) (x dx kn nu : Addr) (κ : List (Option T)) : Prop where
 hx : μ x = some (.inst 152 dx)
 hd : μ dx = some (.attrs (infF kn nu) 2)
 m1 : μ kn = some (.list (κ.map slotD))
 m2 : μ nu = some (.list nums)
 ne : kn ≠ nu
theorem Inf.mono {μ μ' : Mem} {x dx kn nu : Addr} {κ : List (Option T)} (h : Sub μ μ') (I : Inf μ x dx kn nu κ) : Inf μ' x dx kn nu κ := ⟨h _ _ I.hx, h _ _ I.hd, h _ _ I.m1, h _ _ I.m2, I.ne⟩
theorem Inf.set {μ : Mem} {x dx kn nu : Addr} {κ κ' : List (Option T)} (I : Inf μ x dx kn nu κ) : Inf (upd μ kn (.list (κ'.map slotD))) x dx kn nu κ' := by
 have h1 : x ≠ kn := fun e => by have := I.hx; rw [e, I.m1] at this; cases this
 have h2 : dx ≠ kn := fun e => by have := I.hd; rw [e, I.m1] at this; cases this
 exact ⟨(upd_other h1).trans I.hx, (upd_other h2).trans I.hd, upd_self, (upd_other I.ne.symm).trans I.m2, I.ne⟩
noncomputable def Hd.idx : Hd → Option Nat
 | .var n => some n
 | .ivar n => some n
 | _ => none
inductive Shal (κ : List (Option T)) : T → T → Nat → Prop
 | leaf {t : T} : t.hd.idx = none → Shal κ t t 0
 | free {t : T} {i : Nat} : t.hd.idx = some i → κ[i]? = some none → Shal κ t t 0
 | step {t t' u : T} {i n : Nat} : t.hd.idx = some i → κ[i]? = some (some t') → Shal κ t' u n → Shal κ t u (n + 1)
theorem idx_inv {h : Hd} {i : Nat} (e : h.idx = some i) : h = .var i ∨ h = .ivar i := by
 cases h with
 | var n => cases e; exact .inl rfl
 | ivar n => cases e; exact .inr rfl
 | _ => exact nomatch (show (none : Option Nat) = some i from e)
theorem leaf_nil {h : Hd} {ch : List T} {i : Nat} (e : h.idx = some i) (hf : fits h ch.length) : ch = [] := by
 rcases idx_inv e with rfl | rfl <;> exact List.length_eq_zero_iff.mp hf
theorem idx_some {h : Hd} (e : (h.isVar || h.isIv) = true) : ∃ i, h.idx = some i := by cases h <;> first | exact ⟨_, rfl⟩ | exact nomatch (show false = true from e)
theorem idx_none {h : Hd} (e : (h.isVar || h.isIv) = false) : h.idx = none := by cases h <;> first | rfl | exact nomatch (show true = false from e)
theorem idx_is {h : Hd} {i : Nat} (e : h.idx = some i) : (h.isVar || h.isIv) = true := by cases h <;> first | rfl | exact nomatch (show (none : Option Nat) = some i from e)
theorem enc_idx {t : T} {i : Nat} (e : t.hd.idx = some i) : enc t = .tup [.str (kds t.hd), .int (i : Int)] := by
 obtain ⟨h, ch⟩ := t
 unfold enc
 rcases idx_inv e with rfl | rfl <;> rfl
theorem slot_none {o : Option T} : (slotD o).isNone = o.isNone := by
 cases o with
 | none => rfl
 | some t => obtain ⟨r, e⟩ := enc_kd t; show (enc t).isNone = false; rw [e]; rfl
section
variable {C : Cx} {A : Around} {env : Env} {ρ : Str → Option D} {μ : Mem} {Q : D → Mem → Prop} {X : Xp}
theorem Get.idx {t : T} {i : Nat} (e : t.hd.idx = some i) (h : Q (.int (i : Int)) μ) : Get C A (enc t) (.int 1) μ Q := by
 rw [enc_idx e]
 exact Get.tup (k := 1) rfl (by decide) h
theorem Get.known {x dx kn nu : Addr} {κ : List (Option T)} {i : Nat} {o : Option T} (I : Inf μ x dx kn nu κ) (e : κ[i]? = some o) (hi : κ.length ≤ 5) (h : Q (slotD o) μ) : Get C A (.raw (.ref kn)) (.int (i : Int)) μ Q := by
 have hl : i < κ.length := by
  rcases Nat.lt_or_ge i κ.length with h | h
  · exact h
  · rw [List.getElem?_eq_none h] at e; cases e
 exact Get.list I.m1 (by rw [List.getElem?_map, e]; rfl) (by
  have : (2:Nat) ^ 62 > 5 := by decide
  omega) h
theorem infM {name : Str} {fa x dx kn nu : Addr} {κ : List (Option T)} {P : Value → Prop} (hC : HK C) (I : Inf μ x dx kn nu κ) (hg : plainGet (hd.heap_39 C.w.params) 152 name = true) (hf : findIn (hd.heap_39 C.w.params) (.ref 152) name = some (some (.ref fa)))
 (ht : isFn (hd.heap_39 C.w.params) (.ref fa) = true) (hl : infF kn nu name = none) (hk : keepOk (hd.heap_39 C.w.params) (.ref fa) = true) (h : P (.ref fa)) : ∃ fv, GetM C A (.raw (.ref x)) name μ fv ∧ keepOk C.K fv = true ∧ P fv :=
 ⟨.ref fa, GetM.inst I.hx I.hd (by rw [hC]; exact hg) (by rw [hC]; exact hf) (by rw [hC]; exact ht) hl, by rw [hC]; exact hk, h⟩
theorem infMm {name : Str} {l : List Expr} {pos : Pos} {fa x dx kn nu : Addr} {κ : List (Option T)} (hC : HK C) (I : Inf μ x dx kn nu κ) (hg : plainGet (hd.heap_39 C.w.params) 152 name = true) (hf : findIn (hd.heap_39 C.w.params) (.ref 152) name = some (some (.ref fa)))
 (ht : isFn (hd.heap_39 C.w.params) (.ref fa) = true) (hl : infF kn nu name = none) (hk : keepOk (hd.heap_39 C.w.params) (.ref fa) = true) (h : Es C A env (spliced (backTo pos (starEach l env))) ρ μ (CallDQ C A (.ref fa) Q (.raw (.ref x)))) : MethQ C A env l pos name ρ Q (.raw (.ref x)) μ := infM hC I hg hf ht hl hk h
theorem infA {name y : Str} {py pos : Pos} {x dx kn nu v : Addr} {κ : List (Option T)} (hC : HK C) (hy : ρ y = some (.raw (.ref x))) (I : Inf μ x dx kn nu κ) (hv : infF kn nu name = some (.ref v)) (hg : plainGet (hd.heap_39 C.w.params) 152 name = true)
 (ha : findIn (hd.heap_39 C.w.params) (.ref 152) name = some none) (hh : hasDictIn (hd.heap_39 C.w.params) 152 = true)
 (hc : eval (.Attribute (.Name y py) name pos) env = (do
  let o' ← eval (.Name y py) env
  standAt pos.atName
  let r ← holding [o'] (getAttr o' name true)
  letTemporaryGo (.Name y py) o' r
  pure r))
 (hd0 : (y == ("__debug__" : Str)) = false) (hc0 : (y == ("__classdict__" : Str)) = false)
 (h : Q (.raw (.ref v)) μ) : Ev C A env (eval (.Attribute (.Name y py) name pos) env) ρ μ Q :=
 Ev.attr (Cl := 152) (dx := dx) (f := infF kn nu) (m := 2) (v := .ref v) (Ev.name hy ⟨rfl, I.hx, I.hd, hv, h⟩ hd0 hc0) (by rw [hC]; exact hg) (by rw [hC]; exact hh) (by rw [hC]; exact ha) rfl hc
theorem listAppend {a : Addr} {xs : List D} {P : Value → Prop} (hm : μ a = some (.list xs)) (h : P (.builtin "list.append")) : ∃ fv, GetM C A (.raw (.ref a)) (PySem.Str.ofString "append") μ fv ∧ keepOk C.K fv = true ∧ P fv := ⟨_, GetM.list hm F.slot_list_append F.type_list_append, rfl, h⟩
theorem listPop {a : Addr} {xs : List D} {P : Value → Prop} (hm : μ a = some (.list xs)) (h : P (.builtin "list.pop")) : ∃ fv, GetM C A (.raw (.ref a)) (PySem.Str.ofString "pop") μ fv ∧ keepOk C.K fv = true ∧ P fv := ⟨_, GetM.list hm F.slot_list_pop F.type_list_pop, rfl, h⟩
theorem listExtend {a : Addr} {xs : List D} {P : Value → Prop} (hm : μ a = some (.list xs)) (h : P (.builtin "list.extend")) : ∃ fv, GetM C A (.raw (.ref a)) (PySem.Str.ofString "extend") μ fv ∧ keepOk C.K fv = true ∧ P fv := ⟨_, GetM.list hm F.slot_list_extend F.type_list_extend, rfl, h⟩
theorem dictGetM {a : Addr} {ps : PS} {P : Value → Prop} (hm : μ a = some (dictMO C ps)) (h : P (.builtin "dict.get")) : ∃ fv, GetM C A (.raw (.ref a)) (PySem.Str.ofString "get") μ fv ∧ keepOk C.K fv = true ∧ P fv := ⟨_, GetM.dict hm F.slot_dict_get F.type_dict_get, rfl, h⟩
theorem strJoin {x : Str} {P : Value → Prop} (h : P (.builtin "str.join")) : ∃ fv, GetM C A (.str x) (PySem.Str.ofString "join") μ fv ∧ keepOk C.K fv = true ∧ P fv := ⟨_, GetM.str F.slot_str_join F.type_str_join, rfl, h⟩
end
section
theorem shallow_spec {C : Cx} {A : Around} {μ : Mem} {Q : D → Mem → Prop} (hC : HK C) {n : Nat} (hr : Rm A (n + 1)) {x dx kn nu : Addr} {κ : List (Option T)} (I : Inf μ x dx kn nu κ) {t u : T} {m : Nat} (hsh : Shal κ t u m) (hκ : κ.length = 5) (h : Q (enc u) μ) :
 Call C A (.ref 109) [.raw (.ref x), enc t] μ Q := by
 refine Call.def [PySem.Str.ofString "self", PySem.Str.ofString "told"] hC hr rfl rfl rfl rfl rfl (by rfl) ?_ rfl (by decide) rfl rfl rfl ?_
 · exact fun s => bind2 fun v0 v1 => BindsTo.of_eq rfl
 intro env A' hs hc hr' hfr hef
 dsimp only at hs hc
 show Ex _ _ _ (execs (_ :: _) _) _ _ _ _
 refine Ex.cons (Ex.while (fun m ρ μ' => μ' = μ ∧ ρ (sS "self") = some (.raw (.ref x)) ∧ ∃ t', ρ (sS "told") = some (enc t') ∧ Shal κ t' u m) m ⟨rfl, rfl, t, rfl, hsh⟩ Thru.no ?_)
 rintro m ρ μ' ⟨rfl, r1, t', r2, hs'⟩
 refine Et.and2 ?_
 refine Et.cmp ?_
 refine Ev.sub ?_
 refine Ev.n ?_ (by assumption) (by rfl) (by rfl)
 refine Ev.p ?_
 refine Get.kd ?_
 refine Ev.p ?_
 refine Cmp.in2 (by assumption) (by decide +kernel) (by decide +kernel) (by first | exact kds_ok _ | decide +kernel) ?_
 refine Tru.bool ?_
 refine ⟨fun e => ?_, fun e => ?_⟩
 · rw [kds_in_var_iv] at e
   obtain ⟨i, hi⟩ := idx_some e
   cases hs' with
   | leaf e1 => rw [e1] at hi; cases hi
   | free e1 e2 =>
    refine Et.cmp ?_
    refine Ev.sub ?_
    refine infA (by assumption) (by assumption) (by assumption) (by rfl) (by rfl) (by rfl) (by rfl) (by rfl) (by rfl) (by rfl) ?_
    refine Ev.sub ?_
    refine Ev.n ?_ (by assumption) (by rfl) (by rfl)
    refine Ev.p ?_
    refine Get.idx (by assumption) ?_
    refine Get.known (by assumption) (by assumption) (by omega) ?_
    refine Ev.p ?_
    refine Cmp.isNotNone ?_
    refine Tru.bool ?_
    refine br_f' (by first | rfl | assumption) ?_
    refine Ex.retE ?_
    refine Ev.n ?_ (by assumption) (by rfl) (by rfl)
    exact ⟨_, Sub.refl _, h⟩
   | @step _ t2 _ j m' e1 e2 h3 =>
    refine Et.cmp ?_
    refine Ev.sub ?_
    refine infA (by assumption) (by assumption) (by assumption) (by rfl) (by rfl) (by rfl) (by rfl) (by rfl) (by rfl) (by rfl) ?_
    refine Ev.sub ?_
    refine Ev.n ?_ (by assumption) (by rfl) (by rfl)
    refine Ev.p ?_
    refine Get.idx (by assumption) ?_
    refine Get.known (by assumption) (by assumption) (by omega) ?_
    refine Ev.p ?_
    refine Cmp.isNotNone ?_
    refine Tru.bool ?_
    refine br_t' (by rw [slot_none]; rfl) ?_
    refine Ex.aC ?_ (by assumption) (by rfl) (by rfl)
    refine Ev.sub ?_
    refine infA (by assumption) (by assumption) (by assumption) (by rfl) (by rfl) (by rfl) (by rfl) (by rfl) (by rfl) (by rfl) ?_
    refine Ev.sub ?_
    refine Ev.n ?_ (by assumption) (by rfl) (by rfl)
    refine Ev.p ?_
    refine Get.idx (by assumption) ?_
    refine Get.known (by assumption) (by assumption) (by omega) ?_
    refine Ex.nil ?_
    exact ⟨m', by omega, rfl, r1, t2, rfl, h3⟩
 · rw [kds_in_var_iv] at e
   have e2 := idx_none e
   cases hs' with
   | leaf e1 =>
    refine br_f' (by first | rfl | assumption) ?_
    refine Ex.retE ?_
    refine Ev.n ?_ (by assumption) (by rfl) (by rfl)
    exact ⟨_, Sub.refl _, h⟩
   | free e1 _ => rw [e2] at e1; cases e1
   | step e1 _ _ => rw [e2] at e1; cases e1
end
mutual
noncomputable def T.size : T → Nat
 | .node _ ch => T.sizes ch + 1
noncomputable def T.sizes : List T → Nat
 | [] => 0
 | t :: ts => T.size t + T.sizes ts
end
theorem size_mem {c : T} : ∀ {l : List T}, c ∈ l → c.size ≤ T.sizes l
 | [], h => by cases h
 | a :: l, h => by
  rcases List.mem_cons.mp h with rfl | h
  · simp only [T.sizes]; omega
  · have := size_mem h; simp only [T.sizes]; omega
theorem All2.length {α β : Type} {P : α → β → Prop} {l : List α} {m : List β} (h : All2 P l m) : l.length = m.length := by
 induction h with
 | nil => rfl
 | cons _ _ ih => simp [ih]
theorem All2.get {α β : Type} {P : α → β → Prop} {l : List α} {m : List β} (h : All2 P l m) : ∀ {i : Nat} {a : α}, l[i]? = some a → ∃ b, m[i]? = some b ∧ P a b := by
 induction h with
 | nil => intro i a e; simp at e
 | cons p _ ih =>
  intro i a e
  cases i with
  | zero => simp at e; subst e; exact ⟨_, rfl, p⟩
  | succ i => simpa using ih (by simpa using e)
noncomputable def Res (κ : List (Option T)) : Nat → T → T → Prop
 | 0, _, _ => False
 | n + 1, t, r => ∃ m u us, Shal κ t u m ∧ u.wf ∧ All2 (Res κ n) u.ch us ∧ r = .node u.hd us
inductive Occ (κ : List (Option T)) (u : T) : List T → Bool → Nat → Prop
 | done : Occ κ u [] false 0
 | hit {l : List T} {t : T} {m : Nat} : Shal κ t u m → Occ κ u (l ++ [t]) true 0
 | go {l : List T} {t t' : T} {m n : Nat} {b : Bool} : Shal κ t t' m → t' ≠ u → t'.wf → (l ++ t'.ch).length ≤ 2 ^ 20 → Occ κ u (l ++ t'.ch) b n → Occ κ u (l ++ [t]) b (n + 1)
noncomputable def Tells (κ : List (Option T)) (t : T) : Prop := ∃ n r, Res κ n t r ∧ n ≤ 100 ∧ r.wf ∧ r.vok ∧ r.size ≤ 2 ^ 19 ∧ r.hgt ≤ 100
inductive Bnd (κ : List (Option T)) (u t : T) : Option (List (Option T)) → Prop
 | flip {i : Nat} : u.hd.isIv = true → t.hd = .var i → i < κ.length → Bnd κ u t (some (κ.set i (some u)))
 | bad : u.hd.isIv = true → (t.hd.isInt || t.hd.isIv) = false → t.hd.isVar = false → Tells κ t → Bnd κ u t none
 | occ {n : Nat} : (u.hd.isIv && !(t.hd.isInt || t.hd.isIv)) = false → Occ κ u [t] true n → Bnd κ u t none
 | ok {i n : Nat} : (u.hd.isIv && !(t.hd.isInt || t.hd.isIv)) = false → Occ κ u [t] false n → u.hd.idx = some i → i < κ.length → Bnd κ u t (some (κ.set i (some t)))
noncomputable def isAlike (t u : T) : Bool := decide (t.hd = u.hd) && decide (t.ch.length = u.ch.length)
inductive URun : List (Option T) → List (T × T) → Option (List (Option T)) → Nat → Prop
 | done {κ : List (Option T)} : URun κ [] (some κ) 0
 | skip {κ : List (Option T)} {l : List (T × T)} {a b c : T} {m m' n : Nat} {r : Option (List (Option T))} : Shal κ a c m → Shal κ b c m' → c.wf → c.hgt ≤ 1000 → URun κ l r n → URun κ (l ++ [(a, b)]) r (n + 1)
 | bindL {κ κ' : List (Option T)} {l : List (T × T)} {a b c d : T} {m m' n i : Nat} {r : Option (List (Option T))} : Shal κ a c m → Shal κ b d m' → c ≠ d → c.wf → d.wf → d.hgt ≤ 1000 → c.hd.idx = some i → Bnd κ c d (some κ') → URun κ' l r n → URun κ (l ++ [(a, b)]) r (n + 1)
 | bindL0 {κ : List (Option T)} {l : List (T × T)} {a b c d : T} {m m' i : Nat} : Shal κ a c m → Shal κ b d m' → c ≠ d → c.wf → d.wf → d.hgt ≤ 1000 → c.hd.idx = some i → Bnd κ c d none → URun κ (l ++ [(a, b)]) none 0
 | bindR {κ κ' : List (Option T)} {l : List (T × T)} {a b c d : T} {m m' n i : Nat} {r : Option (List (Option T))} : Shal κ a c m → Shal κ b d m' → c ≠ d → c.wf → d.wf → c.hgt ≤ 1000 → c.hd.idx = none → d.hd.idx = some i → Bnd κ d c (some κ') → URun κ' l r n → URun κ (l ++ [(a, b)]) r (n + 1)
 | bindR0 {κ : List (Option T)} {l : List (T × T)} {a b c d : T} {m m' i : Nat} : Shal κ a c m → Shal κ b d m' → c ≠ d → c.wf → d.wf → c.hgt ≤ 1000 → c.hd.idx = none → d.hd.idx = some i → Bnd κ d c none → URun κ (l ++ [(a, b)]) none 0
 | split {κ : List (Option T)} {l : List (T × T)} {a b c d : T} {m m' n : Nat} {r : Option (List (Option T))} : Shal κ a c m → Shal κ b d m' → c ≠ d → c.wf → d.wf → c.hgt ≤ 1000 → d.hgt ≤ 1000 → c.hd.idx = none → d.hd.idx = none → isAlike c d = true → l.length ≤ 2 ^ 20 → URun κ (l ++ (c.ch.zip d.ch).reverse) r n → URun κ (l ++ [(a, b)]) r (n + 1)
 | clash {κ : List (Option T)} {l : List (T × T)} {a b c d : T} {m m' : Nat} : Shal κ a c m → Shal κ b d m' → c ≠ d → c.wf → d.wf → c.hgt ≤ 1000 → d.hgt ≤ 1000 → c.hd.idx = none → d.hd.idx = none → isAlike c d = false → Tells κ c → Tells κ d → URun κ (l ++ [(a, b)]) none 0
theorem join_len (sep : Str) (ys : List Str) : (Txt.join sep ys).length ≤ (ys.map (·.length)).sum + ys.length * sep.length := by
 unfold Txt.join
 rw [StrLaws.glued_eq_join]
 exact StrLaws.join_length_le sep ys
theorem st1 {y l : Str} {a : Nat} (h : y.length ≤ 8 * a) (ha : a ≤ 2 ^ 19) (e : Nat.ble l.length 100 = true) : y.length + l.length ≤ 16777216 := by have := Nat.le_of_ble_eq_true e; omega
theorem st1' {y l : Str} {a : Nat} (h : y.length ≤ 8 * a) (ha : a ≤ 2 ^ 19) (e : Nat.ble l.length 100 = true) : l.length + y.length ≤ 16777216 := by rw [Nat.add_comm]; exact st1 h ha e
theorem st2 {y l y' : Str} {a b : Nat} (h : y.length ≤ 8 * a) (ha : a ≤ 2 ^ 19) (e : Nat.ble l.length 100 = true) (h' : y'.length ≤ 8 * b) (hb : b ≤ 2 ^ 19) : (y ++ l).length + y'.length ≤ 4194304 * 2 + 100 := by have := Nat.le_of_ble_eq_true e; rw [Str.length_append]; omega
theorem st3 {l2 z1 z2 : Str} (h : z1.length + z2.length ≤ 4194304 * 2 + 100) (e : Nat.ble l2.length 100 = true) : l2.length + (z1 ++ z2).length ≤ 16777216 := by have := Nat.le_of_ble_eq_true e; rw [Str.length_append]; omega
theorem lit_amp : (PySem.Str.ofString "&").length = 1 := by kernel_rfl
theorem lit_e : (PySem.Str.ofString "").length = 0 := by kernel_rfl
theorem lit_sp : (PySem.Str.ofString " ").length = 1 := by kernel_rfl
theorem lit_A : (PySem.Str.ofString "A").length = 1 := by kernel_rfl
theorem lit_B : (PySem.Str.ofString "B").length = 1 := by kernel_rfl
theorem lit_mut : (PySem.Str.ofString "mut ").length = 4 := by kernel_rfl
theorem lit_bx : (PySem.Str.ofString "Box<").length = 4 := by kernel_rfl
theorem lit_gt : (PySem.Str.ofString ">").length = 1 := by kernel_rfl
theorem lit_lb : (PySem.Str.ofString "[").length = 1 := by kernel_rfl
theorem lit_sc : (PySem.Str.ofString "; ").length = 2 := by kernel_rfl
theorem lit_rb : (PySem.Str.ofString "]").length = 1 := by kernel_rfl
theorem lit_lp : (PySem.Str.ofString "(").length = 1 := by kernel_rfl
theorem lit_cr : (PySem.Str.ofString ",)").length = 2 := by kernel_rfl
theorem lit_rp : (PySem.Str.ofString ")").length = 1 := by kernel_rfl
theorem lit_cs : (PySem.Str.ofString ", ").length = 2 := by kernel_rfl
theorem lit_lt : (PySem.Str.ofString "<").length = 1 := by kernel_rfl
theorem lit_us : (PySem.Str.ofString "_").length = 1 := by kernel_rfl
theorem lit_bang : (PySem.Str.ofString "!").length = 1 := by kernel_rfl
theorem lit_bool : (PySem.Str.ofString "bool").length = 4 := by kernel_rfl
theorem lit_X : (PySem.Str.ofString "X").length = 1 := by kernel_rfl
theorem lit_i : (PySem.Str.ofString "i32").length = 3 := by kernel_rfl
theorem lit_u : (PySem.Str.ofString "u8").length = 2 := by kernel_rfl
theorem lit_num : ∀ n : Nat, n < 10 → ((toString (n : Int) : String) : Str).length = 1
 | 0, _ => by kernel_rfl
 | 1, _ => by kernel_rfl
 | 2, _ => by kernel_rfl
 | 3, _ => by kernel_rfl
 | 4, _ => by kernel_rfl
 | 5, _ => by kernel_rfl
 | 6, _ => by kernel_rfl
 | 7, _ => by kernel_rfl
 | 8, _ => by kernel_rfl
 | 9, _ => by kernel_rfl
 | n + 10, h => by omega
section
variable {C : Cx} {A : Around} {env : Env} {ρ : Str → Option D} {μ : Mem} {Q : D → Mem → Prop} {X : Xp}
theorem Cmp.neStr {x y : Str} {n : Nat} (hr : Rm A n) (hx : PyData.strOk x = true) (hy : PyData.strOk y = true) (h : Q (.bool (!(x == y))) μ) : Cmp C A .NotEq (.str x) (.str y) μ Q :=
 Cmp.nePy (by simpa [D.ok] using hx) (by simpa [D.ok] using hy) (hr.u (by simp [D.dep, D.py, PyData.depth])) (by simpa [D.py, PyData.eqv] using h)
end
theorem strOk_append (a b : Str) : PyData.strOk (a ++ b) = (PyData.strOk a && PyData.strOk b) := by
 unfold PyData.strOk; rw [Str.cps_append]; simp
theorem strOk_app {a b : Str} (h1 : PyData.strOk a = true) (h2 : PyData.strOk b = true) : PyData.strOk (a ++ b) = true := by rw [strOk_append, h1, h2]; rfl
theorem strOk_join {sep : Str} (hs : PyData.strOk sep = true) : ∀ {ys : List Str}, (∀ y ∈ ys, PyData.strOk y = true) → PyData.strOk (Txt.join sep ys) = true := by
 intro ys h
 unfold Txt.join
 rw [StrLaws.glued_eq_join]
 induction ys with
 | nil => exact (by kernel_rfl : PyData.strOk Str.empty = true)
 | cons y ys ih =>
  cases ys with
  | nil => exact h y (.head _)
  | cons z zs => exact strOk_app (strOk_app (h y (.head _)) hs) (ih fun w hw => h w (.tail _ hw))
theorem num_ok : ∀ n : Nat, n < 10 → PyData.strOk ((toString (n : Int) : String) : Str) = true
 | 0, _ => by kernel_rfl
 | 1, _ => by kernel_rfl
 | 2, _ => by kernel_rfl
 | 3, _ => by kernel_rfl
 | 4, _ => by kernel_rfl
 | 5, _ => by kernel_rfl
 | 6, _ => by kernel_rfl
 | 7, _ => by kernel_rfl
 | 8, _ => by kernel_rfl
 | 9, _ => by kernel_rfl
 | n + 10, h => by omega
theorem oks_strs' {ys : List Str} (h : ∀ y ∈ ys, PyData.strOk y = true) : D.oks (ys.map .str) = true := oks_strs ys (List.all_eq_true.mpr h)
section
variable {C : Cx} {A : Around} {env : Env} {ρ : Str → Option D} {μ : Mem} {Q : D → Mem → Prop} {X : Xp}
theorem Cmp.neNilD {n : Nat} (hr : Rm A n) {a b : Addr} {xs : List D} (ha : μ a = some (.list xs)) (hb : μ b = some (.list [])) (ho : D.oks xs = true) (h : Q (.bool (!decide (xs = []))) μ) : Cmp C A .NotEq (.raw (.ref a)) (.raw (.ref b)) μ Q := by
 refine Cmp.neList ha hb ho rfl (hr.u ?_) ?_
 · simp only [D.pys, PyData.depth, PyData.depthAll]; omega
 · rw [eqv_nil]; exact h
theorem CompGo.none {tg elt : Expr} {ifs : List Expr} {scope : Scope} {R : List D → Mem → Prop} (h : R [] μ) : CompGo C A scope tg elt ifs ρ R [] μ μ :=
 ⟨Nat.zero_le _, fun _ acc μ' => acc = [] ∧ μ' = μ, ⟨rfl, rfl⟩, fun B hB hb cenv hc i d acc μ' hd => by simp at hd, fun acc μ' ⟨h1, h2⟩ => ⟨μ, by rw [rest_self, h2]; exact Sub.refl _, by rw [h1]; exact h⟩⟩
end
section
variable {C : Cx} {A : Around} {env : Env} {ρ : Str → Option D} {μ : Mem} {Q : D → Mem → Prop} {X : Xp}
theorem Cmp.in3 {x a b c : Str} {n : Nat} (hr : Rm A n) (ha : PyData.strOk a = true) (hb : PyData.strOk b = true) (hc : PyData.strOk c = true) (hx : PyData.strOk x = true) (h : Q (.bool ([a, b, c].contains x)) μ) : Cmp C A .In (.str x) (.tup [.str a, .str b, .str c]) μ Q :=
 Cmp.inStrs (l := [a, b, c]) (by simp [ha, hb, hc]) hx (hr.u (by decide)) h
theorem Cmp.eqBool {a b : Bool} {n : Nat} (hr : Rm A n) (h : Q (.bool (a == b)) μ) : Cmp C A .Eq (.bool a) (.bool b) μ Q :=
 Cmp.eqPy rfl rfl (hr.u (by simp [D.dep, D.py, PyData.depth])) (by simpa [D.py, PyData.eqv] using h)
theorem encs_snoc (l : List T) (t : T) : encs (l ++ [t]) = encs l ++ [enc t] := by rw [encs_eq, encs_eq]; simp
theorem encs_app (l m : List T) : encs (l ++ m) = encs l ++ encs m := by rw [encs_eq, encs_eq, encs_eq]; simp
end
theorem interactive_of {env : Env} {S : Scope} (hs : env.scope = S) (hb : (S.kind == .module) = false) : interactive env = false := by
 unfold interactive; rw [hs, hb]; rfl
section
theorem resolved_spec {x dx kn nu : Addr} {κ : List (Option T)} (hκ : κ.length = 5) : ∀ (n : Nat) {C : Cx} {A : Around} {μ : Mem} {Q : D → Mem → Prop} (hC : HK C) (hr : Rm A (n + 1)) (I : Inf μ x dx kn nu κ) {t r : T} (hres : Res κ n t r) (h : Q (enc r) μ),
 Call C A (.ref 114) [.raw (.ref x), enc t] μ Q := by
 intro n
 induction n with
 | zero => intro C A μ Q hC hr I t r hres; exact hres.elim
 | succ n ih =>
  intro C A μ Q hC hr I t r hres h
  obtain ⟨m, u, us, hsh, hw, hus, rfl⟩ := hres
  refine Call.def [PySem.Str.ofString "self", PySem.Str.ofString "told"] hC hr rfl rfl rfl rfl rfl (by rfl) ?_ rfl (by decide) rfl rfl rfl ?_
  · exact fun s => bind2 fun v0 v1 => BindsTo.of_eq rfl
  intro env A' hs hc hr' hfr hef
  dsimp only at hs hc
  show Ex _ _ _ (execs (_ :: _) _) _ _ _ _
  refine Ex.aC ?_ (by assumption) (by rfl) (by rfl)
  refine Ev.meth (pl := _) ?_ (by rfl) (by rfl) (by rfl)
  refine Ev.p ?_
  refine infMm (by assumption) (by assumption) (by rfl) (by rfl) (by rfl) (by rfl) (by rfl) ?_
  refine Es.p ?_
  refine shallow_spec hC (n := n) hr' I hsh hκ ?_
  refine Ex.retE ?_
  refine Ev.g ?_ (by assumption) (by rfl) (by assumption) (by rfl) (by rfl) (by rfl) (by rfl) (by rfl)
  refine Es.cons ?_
  refine Ev.p ?_
  refine Es.cons ?_
  refine Ev.comp ?_ (by intro _; rfl) (by exact CompScope.of (by assumption) (by assumption) (by rfl) (by rfl) (by rfl) (by rfl))
  refine Ei.tuple (l := []) hr'.hh ?_
  refine Ev.g ?_ (by assumption) (by rfl) (by assumption) (by rfl) (by rfl) (by rfl) (by rfl) (by rfl)
  refine Es.p ?_
  refine parts_of_spec (by assumption) (by assumption) _ (by assumption) ?_
  refine ⟨_, rfl, ?_⟩
  refine CompGo.name (by rw [encs_len]; exact Nat.le_trans (wf_len hw) (by decide)) (fun i acc μ' => acc = encs (us.take i) ∧ μ' = μ) ⟨rfl, rfl⟩ (by rfl) ?_ ?_
  · rintro B hB hb' cenv hce i d acc μ' hd' ⟨rfl, rfl⟩
    rw [encs_eq, List.getElem?_map] at hd'
    obtain ⟨c, hc', rfl⟩ := Option.map_eq_some_iff.mp hd'
    obtain ⟨r, hr1, hr2⟩ := hus.get hc'
    refine Ev.meth (pl := _) ?_ (by rfl) (by rfl) (by rfl)
    refine Ev.p ?_
    refine infMm (by assumption) (by assumption) (by rfl) (by rfl) (by rfl) (by rfl) (by rfl) ?_
    refine Es.p ?_
    refine ih (C := C.ban B hB) hC hr' I hr2 ⟨?_, rfl⟩
    rw [List.take_add_one, hr1]; simp [encs_eq]
  · rintro acc μ' ⟨rfl, rfl⟩
    refine ⟨μ', by rw [rest_self]; exact Sub.refl _, ?_⟩
    intro a ha
    refine Es.p ?_
    obtain ⟨hh, ch⟩ := u
    refine rebuilt_spec hC (n := n) hr' hh ch us hw.1 hus.length.symm (upd_self.trans (by rw [encs_len, hus.length, List.take_length])) ?_
    exact ⟨_, by exact Sub.new (by assumption), h⟩
end
theorem ln_y {y : Str} {S : Nat} (h : y.length ≤ 8 * S) : y.length ≤ 8 * S + 0 := h
theorem ln_lit {l : Str} {S k : Nat} (h : l.length ≤ k) : l.length ≤ 8 * S + k := Nat.le_trans h (Nat.le_add_left _ _)
theorem ln_app {s l : Str} {S j k : Nat} (h : s.length ≤ 8 * S + j) (h' : l.length ≤ k) : (s ++ l).length ≤ 8 * S + (j + k) := by rw [Str.length_append]; omega
theorem app_ln {s l : Str} {S j k : Nat} (h' : l.length ≤ j) (h : s.length ≤ 8 * S + k) : (l ++ s).length ≤ 8 * S + (j + k) := by rw [Str.length_append]; omega
theorem ln_fin {s : Str} {S k : Nat} (h : s.length ≤ 8 * S + k) (hk : Nat.ble k 8 = true) : s.length ≤ 8 * (S + 1) := Nat.le_trans h (Nat.add_le_add_left (Nat.le_of_ble_eq_true hk) _)
theorem ln_big {x y : Str} {S k : Nat} (hz : S + 1 ≤ 2 ^ 20) (h : (x ++ y).length ≤ 8 * S + k) (hk : Nat.ble k 8 = true) : x.length + y.length ≤ 16777216 := by have hk := Nat.le_of_ble_eq_true hk; rw [Str.length_append] at h; omega
theorem ln_join {ys : List Str} {S : Nat} (hs : (ys.map (·.length)).sum ≤ 8 * S) (hl : ys.length ≤ 2) : (Txt.join (PySem.Str.ofString ", ") ys).length ≤ 8 * S + 4 := Nat.le_trans (join_len _ _) (by rw [lit_cs]; omega)
theorem ln_join2 {ys : List Str} {S : Nat} (hs : (ys.map (·.length)).sum ≤ 8 * S) (hl : ys.length ≤ 2) (hz : S + 1 ≤ 2 ^ 20) : (ys.map (·.length)).sum + ys.length * (PySem.Str.ofString ", ").length ≤ 16777216 := by rw [lit_cs]; omega
section
noncomputable def tellP (c : T) (d : D) : Prop := ∃ y : Str, d = .str y ∧ PyData.strOk y = true ∧ y.length ≤ 8 * c.size
inductive TellAll (ch : List T) (acc : List D) : Prop
 | mk (ys : List Str) (e : acc = ys.map .str) (hk : ∀ y ∈ ys, PyData.strOk y = true) (hs : (ys.map (·.length)).sum ≤ 8 * T.sizes ch) (hl : ys.length = ch.length)
theorem tell_all {ch : List T} {acc : List D} (h : All2 tellP ch acc) : TellAll ch acc := by
 induction h with
 | nil => exact ⟨[], rfl, fun _ h => (nomatch h), Nat.le_refl _, rfl⟩
 | cons p _ ih =>
  obtain ⟨y, h1, hk, h2⟩ := p
  obtain ⟨ys, e, hks, h3, h4⟩ := ih
  refine ⟨y :: ys, by rw [h1, e]; rfl, fun z hz => ?_, ?_, congrArg Nat.succ h4⟩
  · rcases List.mem_cons.mp hz with rfl | hz; exact hk; exact hks z hz
  · simp only [List.map_cons, List.sum_cons, T.sizes]; omega
set_option maxHeartbeats 4000000 in
theorem type_text_spec : ∀ (n : Nat) {C : Cx} {A : Around} {μ : Mem} {Q : D → Mem → Prop} (hC : HK C) (hr : Rm A (n + 1)) (t : T) (hw : t.wf) (hv : t.vok) (hn : t.hgt < n) (hz : t.size ≤ 2 ^ 20) (h : ∀ y : Str, PyData.strOk y = true → y.length ≤ 8 * t.size → Q (.str y) μ),
 Call C A (.ref 73) [enc t] μ Q := by
 intro n
 induction n with
 | zero => intro C A μ Q hC hr t hw hv hn; omega
 | succ n ih =>
  intro C A μ Q hC hr t hw hv hn hz h
  refine Call.def [PySem.Str.ofString "told"] hC hr rfl rfl rfl rfl rfl (by rfl) ?_ rfl (by decide) rfl rfl rfl ?_
  · exact fun s => bind1 fun v0 => BindsTo.of_eq rfl
  intro env A' hs hc hr' hfr hef
  dsimp only at hs hc
  show Ex _ _ _ (execs (_ :: _) _) _ _ _ _
  obtain ⟨hh, ch⟩ := t
  have hsz : (T.node hh ch).size = T.sizes ch + 1 := rfl
  rw [hsz] at h hz
  have inner : ∀ {x : Str} {px p2 p3 : Pos} {tg iter elt : Expr} {scope : Scope} {ρ : Str → Option D} {R : List D → Mem → Prop}, Stmt.Assign [.Name x px] (.ListComp elt [⟨tg, iter, [], 0⟩] scope p2) p3 = (fnBody (nth 7)).getD 5 default → ρ (sS "told") = some (enc (.node hh ch)) →
   (∀ ys : List Str, (∀ y ∈ ys, PyData.strOk y = true) → (ys.map (·.length)).sum ≤ 8 * T.sizes ch → ys.length = ch.length → R (ys.map .str) μ) → Ei C A' env (eval iter env) tg ρ μ (CompGo C A' scope tg elt [] ρ R) := by
   intro x px p2 p3 tg iter elt scope ρ R he hρ hR
   have he : Stmt.Assign _ _ _ = Stmt.Assign [.Name _ _] (.ListComp _ [⟨_, _, _, _⟩] _ _) _ := he
   cases he
   refine Ei.tuple (l := []) hr'.hh ?_
   refine Ev.g ?_ (by assumption) (by rfl) (by assumption) (by rfl) (by rfl) (by rfl) (by rfl) (by rfl)
   refine Es.cons ?_
   refine Ev.n ?_ (by assumption) (by rfl) (by rfl)
   refine Es.p ?_
   refine parts_of_spec (by assumption) (by assumption) _ (by assumption) ?_
   refine ⟨_, rfl, ?_⟩
   refine CompGo.relT tellP (wf_len hw) rfl (Sub.refl _) (fun B hB _ cenv hce c hc' => ?_) fun acc hacc => ?_
   · refine Ev.callG (by assumption) (by rfl) (by exact CompEnv.names (by assumption) _ _ (by rfl) (by decide)) (by rfl) (by rfl) (by rfl) (by rfl) ?_
     refine Es.p ?_
     refine ih (C := C.ban B hB) hC hr' c ((wfs_iff _).mp hw.2 c hc') ((voks_iff _).mp hv.2 c hc') ?_ ?_ fun y hyk hy => ⟨⟨y, rfl, hyk, hy⟩, Sub.refl _⟩
     · have h1 : c.hgt + 1 ≤ T.hgts ch := hgts_mem hc'
       have h2 : T.hgts ch < n + 1 := hn
       exact Nat.lt_of_succ_le (Nat.le_trans h1 (Nat.le_of_lt_succ h2))
     · exact Nat.le_trans (size_mem hc') (Nat.le_trans (Nat.le_succ _) hz)
   obtain ⟨ys, rfl, hyk, hys, hyl⟩ := tell_all hacc
   exact hR ys hyk hys hyl
  unfold enc
  cases hh
  case var i =>
   refine Ex.aP ?_ (by with_unfolding_all rfl) (by assumption) (by rfl) (by rfl)
   refine Ex.skip3 ?_ (by with_unfolding_all exact ⟨rfl, rfl, rfl⟩)
   refine Ex.iteT ?_ (by with_unfolding_all rfl) (by first | rfl | assumption)
   refine Ex.retC ?_ (by with_unfolding_all rfl)
   exact ⟨_, Sub.refl _, h _ (by repeat' (first | with_reducible assumption | with_reducible refine strOk_app ?_ ?_ | kernel_rfl)) (ln_fin (ln_lit (Nat.le_refl _)) (by kernel_rfl))⟩
  case ivar i =>
   refine Ex.aP ?_ (by with_unfolding_all rfl) (by assumption) (by rfl) (by rfl)
   refine Ex.skip3 ?_ (by with_unfolding_all exact ⟨rfl, rfl, rfl⟩)
   refine Ex.iteT ?_ (by with_unfolding_all rfl) (by first | rfl | assumption)
   refine Ex.retC ?_ (by with_unfolding_all rfl)
   exact ⟨_, Sub.refl _, h _ (by repeat' (first | with_reducible assumption | with_reducible refine strOk_app ?_ ?_ | kernel_rfl)) (ln_fin (ln_lit (Nat.le_refl _)) (by kernel_rfl))⟩
  case bool =>
   refine Ex.aP ?_ (by with_unfolding_all rfl) (by assumption) (by rfl) (by rfl)
   refine Ex.skipIf ?_ (by with_unfolding_all rfl) (by first | rfl | assumption)
   refine Ex.iteT ?_ (by with_unfolding_all rfl) (by first | rfl | assumption)
   refine Ex.retC ?_ (by with_unfolding_all rfl)
   exact ⟨_, Sub.refl _, h _ (by repeat' (first | with_reducible assumption | with_reducible refine strOk_app ?_ ?_ | kernel_rfl)) (ln_fin (ln_lit (Nat.le_refl _)) (by kernel_rfl))⟩
  case param =>
   refine Ex.aP ?_ (by with_unfolding_all rfl) (by assumption) (by rfl) (by rfl)
   refine Ex.iteT ?_ (by with_unfolding_all rfl) (by first | rfl | assumption)
   refine Ex.retC ?_ (by with_unfolding_all rfl)
   exact ⟨_, Sub.refl _, h _ (by repeat' (first | with_reducible assumption | with_reducible refine strOk_app ?_ ?_ | kernel_rfl)) (ln_fin (ln_lit (Nat.le_refl _)) (by kernel_rfl))⟩
  case never =>
   refine Ex.aP ?_ (by with_unfolding_all rfl) (by assumption) (by rfl) (by rfl)
   refine Ex.skip2 ?_ (by with_unfolding_all exact ⟨rfl, rfl⟩)
   refine Ex.iteT ?_ (by with_unfolding_all rfl) (by first | rfl | assumption)
   refine Ex.retC ?_ (by with_unfolding_all rfl)
   exact ⟨_, Sub.refl _, h _ (by repeat' (first | with_reducible assumption | with_reducible refine strOk_app ?_ ?_ | kernel_rfl)) (ln_fin (ln_lit (Nat.le_refl _)) (by kernel_rfl))⟩
  case int b =>
   cases b
   · refine Ex.aP ?_ (by with_unfolding_all rfl) (by assumption) (by rfl) (by rfl)
     refine Ex.iteT ?_ (by with_unfolding_all rfl) (by first | rfl | assumption)
     refine Ex.retC ?_ (by with_unfolding_all rfl)
     exact ⟨_, Sub.refl _, h (PySem.Str.ofString "i32") (by repeat' (first | with_reducible assumption | with_reducible refine strOk_app ?_ ?_ | kernel_rfl)) (ln_fin (ln_lit (Nat.le_refl _)) (by kernel_rfl))⟩
   · refine Ex.aP ?_ (by with_unfolding_all rfl) (by assumption) (by rfl) (by rfl)
     refine Ex.iteT ?_ (by with_unfolding_all rfl) (by first | rfl | assumption)
     refine Ex.retC ?_ (by with_unfolding_all rfl)
     exact ⟨_, Sub.refl _, h (PySem.Str.ofString "u8") (by repeat' (first | with_reducible assumption | with_reducible refine strOk_app ?_ ?_ | kernel_rfl)) (ln_fin (ln_lit (Nat.le_refl _)) (by kernel_rfl))⟩
  case ref m =>
   refine Ex.aP ?_ (by with_unfolding_all rfl) (by assumption) (by rfl) (by rfl)
   refine Ex.skip4 ?_ (by with_unfolding_all exact ⟨rfl, rfl, rfl, rfl⟩)
   refine Ex.cons ?_
   refine Ex.aL ?_ (by exact CompScope.of (by assumption) (by assumption) (by rfl) (by rfl) (by rfl) (by rfl)) (by intro _; rfl) (by assumption) (by rfl) (by rfl) (by rfl) (by rfl)
   refine inner rfl rfl fun ys hyk hys hyl a ha => ?_
   obtain ⟨c, rfl⟩ := List.length_eq_one_iff.mp (show ch.length = 1 from hw.1)
   obtain ⟨y, rfl⟩ := List.length_eq_one_iff.mp hyl
   have hyk1 : PyData.strOk y = true := hyk y (.head _)
   have hy : y.length ≤ 8 * T.sizes [c] := by simpa using hys
   refine Ex.iteT ?_ (by with_unfolding_all rfl) (by first | rfl | assumption)
   refine Ex.aC ?_ (by assumption) (by rfl) (by rfl)
   refine Ev.g ?_ (by assumption) (by rfl) (by assumption) (by rfl) (by rfl) (by rfl) (by rfl) (by rfl)
   refine Es.p ?_
   refine region_spec hC (n := n) hr' ?_
   cases m
   · refine Ex.retE ?_
     refine Ev.binop ?_
     refine Ev.binop ?_
     refine Ev.binop ?_
     refine Ev.p ?_
     refine Ev.ifexp ?_
     refine Et.cmp ?_
     refine Ev.p ?_
     refine Ev.p ?_
     refine Cmp.neStr (by assumption) (by first | exact kds_ok _ | decide +kernel) (by first | exact kds_ok _ | decide +kernel) ?_
     refine Tru.bool ?_
     refine br_f (by first | rfl | assumption) ?_
     refine Ev.p ?_
     refine Bin.str (ln_big (by assumption) (ln_lit (Nat.le_refl _)) (by kernel_rfl)) ?_
     refine Ev.ip ?_ (by with_unfolding_all rfl)
     refine br_f (by first | rfl | assumption) ?_
     refine Ev.p ?_
     refine Bin.str (ln_big (by assumption) (ln_lit (Nat.le_refl _)) (by kernel_rfl)) ?_
     refine Ev.sub ?_
     refine Ev.p ?_
     refine Ev.p ?_
     refine Get.list (k := _) (d := _) (by exact upd_self) (by rfl) (by decide) ?_
     refine Bin.str (ln_big (by assumption) (app_ln (Nat.le_refl _) (ln_y (by assumption))) (by kernel_rfl)) ?_
     exact ⟨_, by exact Sub.new (by assumption), h _ (by repeat' (first | with_reducible assumption | with_reducible refine strOk_app ?_ ?_ | kernel_rfl)) (ln_fin (app_ln (Nat.le_refl _) (ln_y (by assumption))) (by kernel_rfl))⟩
   · refine Ex.retE ?_
     refine Ev.binop ?_
     refine Ev.binop ?_
     refine Ev.binop ?_
     refine Ev.p ?_
     refine Ev.ifexp ?_
     refine Et.cmp ?_
     refine Ev.p ?_
     refine Ev.p ?_
     refine Cmp.neStr (by assumption) (by first | exact kds_ok _ | decide +kernel) (by first | exact kds_ok _ | decide +kernel) ?_
     refine Tru.bool ?_
     refine br_f (by first | rfl | assumption) ?_
     refine Ev.p ?_
     refine Bin.str (ln_big (by assumption) (ln_lit (Nat.le_refl _)) (by kernel_rfl)) ?_
     refine Ev.ip ?_ (by with_unfolding_all rfl)
     refine br_t (by first | rfl | assumption) ?_
     refine Ev.p ?_
     refine Bin.str (ln_big (by assumption) (ln_lit (Nat.le_refl _)) (by kernel_rfl)) ?_
     refine Ev.sub ?_
     refine Ev.p ?_
     refine Ev.p ?_
     refine Get.list (k := _) (d := _) (by exact upd_self) (by rfl) (by decide) ?_
     refine Bin.str (ln_big (by assumption) (app_ln (Nat.le_refl _) (ln_y (by assumption))) (by kernel_rfl)) ?_
     exact ⟨_, by exact Sub.new (by assumption), h _ (by repeat' (first | with_reducible assumption | with_reducible refine strOk_app ?_ ?_ | kernel_rfl)) (ln_fin (app_ln (Nat.le_refl _) (ln_y (by assumption))) (by kernel_rfl))⟩
  case box =>
   refine Ex.aP ?_ (by with_unfolding_all rfl) (by assumption) (by rfl) (by rfl)
   refine Ex.skip4 ?_ (by with_unfolding_all exact ⟨rfl, rfl, rfl, rfl⟩)
   refine Ex.cons ?_
   refine Ex.aL ?_ (by exact CompScope.of (by assumption) (by assumption) (by rfl) (by rfl) (by rfl) (by rfl)) (by intro _; rfl) (by assumption) (by rfl) (by rfl) (by rfl) (by rfl)
   refine inner rfl rfl fun ys hyk hys hyl a ha => ?_
   obtain ⟨c, rfl⟩ := List.length_eq_one_iff.mp (show ch.length = 1 from hw.1)
   obtain ⟨y, rfl⟩ := List.length_eq_one_iff.mp hyl
   have hyk1 : PyData.strOk y = true := hyk y (.head _)
   have hy : y.length ≤ 8 * T.sizes [c] := by simpa using hys
   refine Ex.skipIf ?_ (by with_unfolding_all rfl) (by first | rfl | assumption)
   refine Ex.iteT ?_ (by with_unfolding_all rfl) (by first | rfl | assumption)
   refine Ex.retE ?_
   refine Ev.binop ?_
   refine Ev.binop ?_
   refine Ev.p ?_
   refine Ev.sub ?_
   refine Ev.p ?_
   refine Ev.p ?_
   refine Get.list (k := _) (d := _) (by exact upd_self) (by rfl) (by decide) ?_
   refine Bin.str (ln_big (by assumption) (app_ln (Nat.le_refl _) (ln_y (by assumption))) (by kernel_rfl)) ?_
   refine Ev.p ?_
   refine Bin.str (ln_big (by assumption) (ln_app (app_ln (Nat.le_refl _) (ln_y (by assumption))) (Nat.le_refl _)) (by kernel_rfl)) ?_
   exact ⟨_, by exact Sub.new (by assumption), h _ (by repeat' (first | with_reducible assumption | with_reducible refine strOk_app ?_ ?_ | kernel_rfl)) (ln_fin (ln_app (app_ln (Nat.le_refl _) (ln_y (by assumption))) (Nat.le_refl _)) (by kernel_rfl))⟩
  case arr k =>
   refine Ex.aP ?_ (by with_unfolding_all rfl) (by assumption) (by rfl) (by rfl)
   refine Ex.skip4 ?_ (by with_unfolding_all exact ⟨rfl, rfl, rfl, rfl⟩)
   refine Ex.cons ?_
   refine Ex.aL ?_ (by exact CompScope.of (by assumption) (by assumption) (by rfl) (by rfl) (by rfl) (by rfl)) (by intro _; rfl) (by assumption) (by rfl) (by rfl) (by rfl) (by rfl)
   refine inner rfl rfl fun ys hyk hys hyl a ha => ?_
   obtain ⟨c, rfl⟩ := List.length_eq_one_iff.mp (show ch.length = 1 from hw.1)
   obtain ⟨y, rfl⟩ := List.length_eq_one_iff.mp hyl
   have hyk1 : PyData.strOk y = true := hyk y (.head _)
   have hy : y.length ≤ 8 * T.sizes [c] := by simpa using hys
   have hk : k < 10 := hv.1
   have hk1 := lit_num k hk
   have hk2 := num_ok k hk
   refine Ex.skip2 ?_ (by with_unfolding_all exact ⟨rfl, rfl⟩)
   refine Ex.iteT ?_ (by with_unfolding_all rfl) (by first | rfl | assumption)
   refine Ex.retE ?_
   refine Ev.binop ?_
   refine Ev.binop ?_
   refine Ev.binop ?_
   refine Ev.binop ?_
   refine Ev.p ?_
   refine Ev.sub ?_
   refine Ev.p ?_
   refine Ev.p ?_
   refine Get.list (k := _) (d := _) (by exact upd_self) (by rfl) (by decide) ?_
   refine Bin.str (ln_big (by assumption) (app_ln (Nat.le_refl _) (ln_y (by assumption))) (by kernel_rfl)) ?_
   refine Ev.p ?_
   refine Bin.str (ln_big (by assumption) (ln_app (app_ln (Nat.le_refl _) (ln_y (by assumption))) (Nat.le_refl _)) (by kernel_rfl)) ?_
   refine Ev.b bv_str ?_ (by assumption) (by rfl) (by assumption) (by rfl) (by decide) (by rfl) (by rfl) (by rfl) (by rfl)
   refine Es.p ?_
   refine Call.strInt (by
    have : ((k : Int)).natAbs = k := rfl
    rw [this]
    exact Nat.lt_of_le_of_lt (Nat.log2_le_self k) (by omega)) ?_
   refine Bin.str (ln_big (by assumption) (ln_app (ln_app (app_ln (Nat.le_refl _) (ln_y (by assumption))) (Nat.le_refl _)) (Nat.le_of_eq (by assumption))) (by kernel_rfl)) ?_
   refine Ev.p ?_
   refine Bin.str (ln_big (by assumption) (ln_app (ln_app (ln_app (app_ln (Nat.le_refl _) (ln_y (by assumption))) (Nat.le_refl _)) (Nat.le_of_eq (by assumption))) (Nat.le_refl _)) (by kernel_rfl)) ?_
   exact ⟨_, by exact Sub.new (by assumption), h _ (by repeat' (first | with_reducible assumption | with_reducible refine strOk_app ?_ ?_ | kernel_rfl)) (ln_fin (ln_app (ln_app (ln_app (app_ln (Nat.le_refl _) (ln_y (by assumption))) (Nat.le_refl _)) (Nat.le_of_eq (by assumption))) (Nat.le_refl _)) (by kernel_rfl))⟩
  case tup =>
   refine Ex.aP ?_ (by with_unfolding_all rfl) (by assumption) (by rfl) (by rfl)
   refine Ex.skip4 ?_ (by with_unfolding_all exact ⟨rfl, rfl, rfl, rfl⟩)
   refine Ex.cons ?_
   refine Ex.aL ?_ (by exact CompScope.of (by assumption) (by assumption) (by rfl) (by rfl) (by rfl) (by rfl)) (by intro _; rfl) (by assumption) (by rfl) (by rfl) (by rfl) (by rfl)
   refine inner rfl rfl fun ys hyk hys hyl a ha => ?_
   have hl2 : ys.length ≤ 2 := by rw [hyl]; exact hw.1
   refine Ex.skip3 ?_ (by with_unfolding_all exact ⟨rfl, rfl, rfl⟩)
   refine Ex.iteT ?_ (by with_unfolding_all rfl) (by first | rfl | assumption)
   refine Ex.retE ?_
   refine Ev.ifexp ?_
   refine Et.cmp ?_
   refine Ev.b bv_len ?_ (by assumption) (by rfl) (by assumption) (by rfl) (by decide) (by rfl) (by rfl) (by rfl) (by rfl)
   refine Es.p ?_
   refine Call.lenList (by exact upd_self) (by exact Nat.lt_of_le_of_lt (m := 16777216) (by first | (simp; done) | (simp; omega) | omega) (by decide)) ?_
   refine Ev.p ?_
   refine Cmp.eqInt ?_
   refine Tru.bool ?_
   refine ⟨fun e => ?_, fun e => ?_⟩
   · match ys, hl2 with
     | [], _ => exact absurd e (by simp)
     | [y], _ =>
      have hyk1 : PyData.strOk y = true := hyk y (.head _)
      have hy : y.length ≤ 8 * T.sizes ch := by simpa using hys
      refine Ev.binop ?_
      refine Ev.binop ?_
      refine Ev.p ?_
      refine Ev.sub ?_
      refine Ev.p ?_
      refine Ev.p ?_
      refine Get.list (k := _) (d := _) (by exact upd_self) (by rfl) (by decide) ?_
      refine Bin.str (ln_big (by assumption) (app_ln (Nat.le_refl _) (ln_y (by assumption))) (by kernel_rfl)) ?_
      refine Ev.p ?_
      refine Bin.str (ln_big (by assumption) (ln_app (app_ln (Nat.le_refl _) (ln_y (by assumption))) (Nat.le_refl _)) (by kernel_rfl)) ?_
      exact ⟨_, by exact Sub.new (by assumption), h _ (by repeat' (first | with_reducible assumption | with_reducible refine strOk_app ?_ ?_ | kernel_rfl)) (ln_fin (ln_app (app_ln (Nat.le_refl _) (ln_y (by assumption))) (Nat.le_refl _)) (by kernel_rfl))⟩
     | [_, _], _ => exact absurd e (by simp)
   · have hjn := ln_join hys hl2
     have hjk := strOk_join (sep := PySem.Str.ofString ", ") (by kernel_rfl) hyk
     refine Ev.binop ?_
     refine Ev.binop ?_
     refine Ev.p ?_
     refine Ev.meth (pl := _) ?_ (by rfl) (by rfl) (by rfl)
     refine Ev.p ?_
     refine strJoin ?_
     refine Es.p ?_
     refine Call.join upd_self (ln_join2 hys hl2 hz) ?_
     refine Bin.str (ln_big (by assumption) (app_ln (Nat.le_refl _) (by assumption)) (by kernel_rfl)) ?_
     refine Ev.p ?_
     refine Bin.str (ln_big (by assumption) (ln_app (app_ln (Nat.le_refl _) (by assumption)) (Nat.le_refl _)) (by kernel_rfl)) ?_
     exact ⟨_, by exact Sub.new (by assumption), h _ (by repeat' (first | with_reducible assumption | with_reducible refine strOk_app ?_ ?_ | kernel_rfl)) (ln_fin (ln_app (app_ln (Nat.le_refl _) (by assumption)) (Nat.le_refl _)) (by kernel_rfl))⟩
  case adt b =>
   refine Ex.aP ?_ (by with_unfolding_all rfl) (by assumption) (by rfl) (by rfl)
   refine Ex.skip4 ?_ (by with_unfolding_all exact ⟨rfl, rfl, rfl, rfl⟩)
   refine Ex.cons ?_
   refine Ex.aL ?_ (by exact CompScope.of (by assumption) (by assumption) (by rfl) (by rfl) (by rfl) (by rfl)) (by intro _; rfl) (by assumption) (by rfl) (by rfl) (by rfl) (by rfl)
   refine inner rfl rfl fun ys hyk hys hyl a ha => ?_
   have hl2 : ys.length = 2 := by rw [hyl]; exact hw.1
   refine Ex.skip4 ?_ (by with_unfolding_all exact ⟨rfl, rfl, rfl, rfl⟩)
   refine Ex.aC ?_ (by assumption) (by rfl) (by rfl)
   refine Ev.binop ?_
   refine Ev.comp ?_ (by intro _; rfl) (by exact CompScope.of (by assumption) (by assumption) (by rfl) (by rfl) (by rfl) (by rfl))
   refine Ei.tuple (l := []) hr'.hh ?_
   refine Ev.p ?_
   refine ⟨[], rfl, ?_⟩
   refine CompGo.none ?_
   intro b' hb
   refine Ev.p ?_
   refine Bin.list (by exact upd_self) (by (refine Eq.trans (upd_other ?_) ?_; (exact ne_upd (by assumption)); exact upd_self)) (by (show _ ≤ 16777216; simp; omega)) ?_
   intro c hc
   have hab : (if b then PySem.Str.ofString "B" else PySem.Str.ofString "A").length = 1 := by cases b <;> kernel_rfl
   have hab2 : PyData.strOk (if b then PySem.Str.ofString "B" else PySem.Str.ofString "A") = true := by cases b <;> kernel_rfl
   refine Ex.retE ?_
   refine Ev.binop ?_
   refine Ev.p ?_
   refine Ev.ifexp ?_
   refine Et.cmp ?_
   refine Ev.p ?_
   refine Ev.list ?_
   refine Es.p ?_
   refine sz_and (by (show _ ≤ 16777216; simp; done)) ?_
   intro e he
   refine Cmp.neNilD hr' (xs := [] ++ List.map D.str ys) (by (refine Eq.trans (upd_other ?_) ?_; (exact ne_upd (by assumption)); exact upd_self)) upd_self (by rw [List.nil_append]; exact oks_strs' hyk) ?_
   refine Tru.bool (br_t (by match ys, hl2 with | [_, _], _ => simp) ?_)
   have hjn := ln_join hys (Nat.le_of_eq hl2)
   have hjk := strOk_join (sep := PySem.Str.ofString ", ") (by kernel_rfl) hyk
   refine Ev.binop ?_
   refine Ev.binop ?_
   refine Ev.p ?_
   refine Ev.meth (pl := _) ?_ (by rfl) (by rfl) (by rfl)
   refine Ev.p ?_
   refine strJoin ?_
   refine Es.p ?_
   refine Call.join (ys := ys) (by rw [List.nil_append]; (refine Eq.trans (upd_other ?_) ?_; (exact ne_upd (by assumption)); exact upd_self)) (ln_join2 hys (Nat.le_of_eq hl2) hz) ?_
   refine Bin.str (ln_big (by assumption) (app_ln (Nat.le_refl _) (by assumption)) (by kernel_rfl)) ?_
   refine Ev.p ?_
   refine Bin.str (ln_big (by assumption) (ln_app (app_ln (Nat.le_refl _) (by assumption)) (Nat.le_refl _)) (by kernel_rfl)) ?_
   refine Bin.str (ln_big (by assumption) (app_ln (Nat.le_of_eq (by assumption)) (ln_app (app_ln (Nat.le_refl _) (by assumption)) (Nat.le_refl _))) (by kernel_rfl)) ?_
   exact ⟨_, by (apply Sub.trans; rotate_left; (exact Sub.new (by assumption)); (apply Sub.trans; rotate_left; (exact Sub.new (by assumption)); (apply Sub.trans; rotate_left; (exact Sub.new (by assumption)); exact Sub.new (by assumption)))), h _ (by repeat' (first | with_reducible assumption | with_reducible refine strOk_app ?_ ?_ | kernel_rfl)) (ln_fin (app_ln (Nat.le_of_eq (by assumption)) (ln_app (app_ln (Nat.le_refl _) (by assumption)) (Nat.le_refl _))) (by kernel_rfl))⟩
end
section
set_option maxHeartbeats 4000000 in
theorem alike_spec {C : Cx} {A : Around} {μ : Mem} {Q : D → Mem → Prop} (hC : HK C) {n : Nat} (hr : Rm A (n + 2)) {x : Addr} (t u : T) (ht : t.wf) (hu : u.wf) (hi : t.hd.idx = none) (h : Q (.bool (isAlike t u)) μ) :
 Call C A (.ref 135) [.raw (.ref x), enc t, enc u] μ Q := by
 refine Call.def [PySem.Str.ofString "self", PySem.Str.ofString "one", PySem.Str.ofString "other"] hC hr rfl rfl rfl rfl rfl (by rfl) ?_ rfl (by decide) rfl rfl rfl ?_
 · exact fun s => bind3 fun v0 v1 v2 => BindsTo.of_eq rfl
 intro env A' hs hc hr' hfr hef
 dsimp only at hs hc
 show Ex _ _ _ (execs (_ :: _) _) _ _ _ _
 refine Ex.cons ?_
 refine Ex.ite ?_
 refine Et.or2 ?_
 refine Et.cmp ?_
 refine Ev.sub ?_
 refine Ev.p ?_
 refine Ev.p ?_
 refine Get.kd ?_
 refine Ev.sub ?_
 refine Ev.p ?_
 refine Ev.p ?_
 refine Get.kd ?_
 refine Cmp.neStr (by assumption) (by first | exact kds_ok _ | decide +kernel) (by first | exact kds_ok _ | decide +kernel) ?_
 refine Tru.bool ?_
 have hl1 : (encs t.ch).length ≤ 2 := by rw [encs_len]; obtain ⟨_, _⟩ := t; exact fits_len ht.1
 have hl2 : (encs u.ch).length ≤ 2 := by rw [encs_len]; obtain ⟨_, _⟩ := u; exact fits_len hu.1
 refine ⟨fun e => ?_, fun e => ?_⟩
 · have hk : kds t.hd = kds u.hd := by simpa using e
   refine Et.cmp ?_
   refine Ev.b bv_len ?_ (by assumption) (by rfl) (by assumption) (by rfl) (by decide) (by rfl) (by rfl) (by rfl) (by rfl)
   refine Es.cons ?_
   refine Ev.g ?_ (by assumption) (by rfl) (by assumption) (by rfl) (by rfl) (by rfl) (by rfl) (by rfl)
   refine Es.p ?_
   refine parts_of_spec (by assumption) (by assumption) _ (by assumption) ?_
   refine Es.p ?_
   refine Call.lenTup (by exact Nat.lt_of_le_of_lt (m := 16777216) (by first | omega | (simp; done) | (simp; omega)) (by decide)) ?_
   refine Ev.b bv_len ?_ (by assumption) (by rfl) (by assumption) (by rfl) (by decide) (by rfl) (by rfl) (by rfl) (by rfl)
   refine Es.cons ?_
   refine Ev.g ?_ (by assumption) (by rfl) (by assumption) (by rfl) (by rfl) (by rfl) (by rfl) (by rfl)
   refine Es.p ?_
   refine parts_of_spec (by assumption) (by assumption) _ (by assumption) ?_
   refine Es.p ?_
   refine Call.lenTup (by exact Nat.lt_of_le_of_lt (m := 16777216) (by first | omega | (simp; done) | (simp; omega)) (by decide)) ?_
   refine Cmp.neInt ?_
   refine Tru.bool ?_
   have hlen : (((encs t.ch).length : Int) != ((encs u.ch).length : Int)) = !decide (t.ch.length = u.ch.length) := by
    rw [encs_len, encs_len, Bool.eq_iff_iff]; simp; omega
   rw [hlen]
   refine ⟨fun e2 => ?_, fun e2 => ?_⟩
   · refine Ex.retC ?_ (by with_unfolding_all rfl)
     have : isAlike t u = false := by unfold isAlike; rw [show decide (t.ch.length = u.ch.length) = false by simpa using e2, Bool.and_false]
     rw [this] at h
     exact ⟨_, Sub.refl _, h⟩
   · have hal : isAlike t u = decide (t.hd = u.hd) := by unfold isAlike; rw [show decide (t.ch.length = u.ch.length) = true by simpa using e2, Bool.and_true]
     rw [hal] at h
     obtain ⟨th, tc⟩ := t
     obtain ⟨uh, uc⟩ := u
     unfold enc
     have hk2 := SameHd.of (tag_of_kds hk)
     cases hk2 with
     | var => simp [Hd.idx] at hi
     | ivar => simp [Hd.idx] at hi
     | int a b =>
      have h : Q (.bool ((if a then PySem.Str.ofString "u8" else PySem.Str.ofString "i32") == (if b then PySem.Str.ofString "u8" else PySem.Str.ofString "i32"))) μ := by
       have hz : decide (Hd.int a = Hd.int b) = ((if a then PySem.Str.ofString "u8" else PySem.Str.ofString "i32") == (if b then PySem.Str.ofString "u8" else PySem.Str.ofString "i32")) := by cases a <;> cases b <;> kernel_rfl
       rw [← hz]; exact h
      refine Ex.nil ?_
      refine Ex.cons ?_
      refine Ex.ite ?_
      refine Et.cmp ?_
      refine Ev.p ?_
      refine Ev.p ?_
      refine Cmp.in3 (by assumption) (by decide +kernel) (by decide +kernel) (by decide +kernel) (by first | exact kds_ok _ | decide +kernel) ?_
      refine Tru.bool ?_
      refine br_t (by first | rfl | assumption) ?_
      refine Ex.retC ?_ (by with_unfolding_all rfl)
      exact ⟨_, Sub.refl _, h⟩
     | adt a b =>
      have h : Q (.bool ((if a then PySem.Str.ofString "B" else PySem.Str.ofString "A") == (if b then PySem.Str.ofString "B" else PySem.Str.ofString "A"))) μ := by
       have hz : decide (Hd.adt a = Hd.adt b) = ((if a then PySem.Str.ofString "B" else PySem.Str.ofString "A") == (if b then PySem.Str.ofString "B" else PySem.Str.ofString "A")) := by cases a <;> cases b <;> kernel_rfl
       rw [← hz]; exact h
      refine Ex.nil ?_
      refine Ex.cons ?_
      refine Ex.ite ?_
      refine Et.cmp ?_
      refine Ev.p ?_
      refine Ev.p ?_
      refine Cmp.in3 (by assumption) (by decide +kernel) (by decide +kernel) (by decide +kernel) (by first | exact kds_ok _ | decide +kernel) ?_
      refine Tru.bool ?_
      refine br_t (by first | rfl | assumption) ?_
      refine Ex.retC ?_ (by with_unfolding_all rfl)
      exact ⟨_, Sub.refl _, h⟩
     | ref a b =>
      have h : Q (.bool (a == b)) μ := by
       have hz : decide (Hd.ref a = Hd.ref b) = (a == b) := by cases a <;> cases b <;> rfl
       rw [← hz]; exact h
      refine Ex.nil ?_
      refine Ex.cons ?_
      refine Ex.ite ?_
      refine Et.cmp ?_
      refine Ev.p ?_
      refine Ev.p ?_
      refine Cmp.in3 (by assumption) (by decide +kernel) (by decide +kernel) (by decide +kernel) (by first | exact kds_ok _ | decide +kernel) ?_
      refine Tru.bool ?_
      refine br_f (by first | rfl | assumption) ?_
      refine Ex.nil ?_
      refine Ex.retE ?_
      refine Ev.ifexp ?_
      refine Et.cmp ?_
      refine Ev.p ?_
      refine Ev.p ?_
      refine Cmp.in2 (by assumption) (by decide +kernel) (by decide +kernel) (by first | exact kds_ok _ | decide +kernel) ?_
      refine Tru.bool ?_
      refine br_t (by first | rfl | assumption) ?_
      refine Ev.cmp ?_
      refine Ev.p ?_
      refine Ev.p ?_
      refine Cmp.eqBool (by assumption) ?_
      exact ⟨_, Sub.refl _, h⟩
     | arr a b =>
      have hq : Q (.bool ((a : Int) == (b : Int))) μ := by
       have hz : decide (Hd.arr a = Hd.arr b) = ((a : Int) == (b : Int)) := (dec_eq (q := (a : Int) = (b : Int)) (Iff.trans (Iff.of_eq (Hd.arr.injEq a b)) Int.ofNat_inj.symm))
       rw [← hz]; exact h
      obtain ⟨c1, rfl⟩ := List.length_eq_one_iff.mp (show tc.length = 1 from ht.1)
      obtain ⟨c2, rfl⟩ := List.length_eq_one_iff.mp (show uc.length = 1 from hu.1)
      refine Ex.nil ?_
      refine Ex.cons ?_
      refine Ex.ite ?_
      refine Et.cmp ?_
      refine Ev.p ?_
      refine Ev.p ?_
      refine Cmp.in3 (by assumption) (by decide +kernel) (by decide +kernel) (by decide +kernel) (by first | exact kds_ok _ | decide +kernel) ?_
      refine Tru.bool ?_
      refine br_f (by first | rfl | assumption) ?_
      refine Ex.nil ?_
      refine Ex.retE ?_
      refine Ev.ifexp ?_
      refine Et.cmp ?_
      refine Ev.p ?_
      refine Ev.p ?_
      refine Cmp.in2 (by assumption) (by decide +kernel) (by decide +kernel) (by first | exact kds_ok _ | decide +kernel) ?_
      refine Tru.bool ?_
      refine br_t (by first | rfl | assumption) ?_
      refine Ev.p ?_
      exact ⟨_, Sub.refl _, hq⟩
     | bool =>
      refine Ex.nil ?_
      refine Ex.cons ?_
      refine Ex.ite ?_
      refine Et.cmp ?_
      refine Ev.p ?_
      refine Ev.p ?_
      refine Cmp.in3 (by assumption) (by decide +kernel) (by decide +kernel) (by decide +kernel) (by first | exact kds_ok _ | decide +kernel) ?_
      refine Tru.bool ?_
      ((with_reducible refine' br_f ?be ?_); (case be => first | rfl | assumption))
      refine Ex.nil ?_
      refine Ex.retE ?_
      refine Ev.ifexp ?_
      refine Et.cmp ?_
      refine Ev.p ?_
      refine Ev.p ?_
      refine Cmp.in2 (by assumption) (by decide +kernel) (by decide +kernel) (by first | exact kds_ok _ | decide +kernel) ?_
      refine Tru.bool ?_
      refine br_f (by first | rfl | assumption) ?_
      refine Ev.p ?_
      exact ⟨_, Sub.refl _, h⟩
     | param =>
      refine Ex.nil ?_
      refine Ex.cons ?_
      refine Ex.ite ?_
      refine Et.cmp ?_
      refine Ev.p ?_
      refine Ev.p ?_
      refine Cmp.in3 (by assumption) (by decide +kernel) (by decide +kernel) (by decide +kernel) (by first | exact kds_ok _ | decide +kernel) ?_
      refine Tru.bool ?_
      refine br_t (by first | rfl | assumption) ?_
      refine Ex.retC ?_ (by with_unfolding_all rfl)
      exact ⟨_, Sub.refl _, h⟩
     | never =>
      refine Ex.nil ?_
      refine Ex.cons ?_
      refine Ex.ite ?_
      refine Et.cmp ?_
      refine Ev.p ?_
      refine Ev.p ?_
      refine Cmp.in3 (by assumption) (by decide +kernel) (by decide +kernel) (by decide +kernel) (by first | exact kds_ok _ | decide +kernel) ?_
      refine Tru.bool ?_
      refine br_f (by first | rfl | assumption) ?_
      refine Ex.nil ?_
      refine Ex.retE ?_
      refine Ev.ifexp ?_
      refine Et.cmp ?_
      refine Ev.p ?_
      refine Ev.p ?_
      refine Cmp.in2 (by assumption) (by decide +kernel) (by decide +kernel) (by first | exact kds_ok _ | decide +kernel) ?_
      refine Tru.bool ?_
      refine br_f (by first | rfl | assumption) ?_
      refine Ev.p ?_
      exact ⟨_, Sub.refl _, h⟩
     | box =>
      refine Ex.nil ?_
      refine Ex.cons ?_
      refine Ex.ite ?_
      refine Et.cmp ?_
      refine Ev.p ?_
      refine Ev.p ?_
      refine Cmp.in3 (by assumption) (by decide +kernel) (by decide +kernel) (by decide +kernel) (by first | exact kds_ok _ | decide +kernel) ?_
      refine Tru.bool ?_
      refine br_f (by first | rfl | assumption) ?_
      refine Ex.nil ?_
      refine Ex.retE ?_
      refine Ev.ifexp ?_
      refine Et.cmp ?_
      refine Ev.p ?_
      refine Ev.p ?_
      refine Cmp.in2 (by assumption) (by decide +kernel) (by decide +kernel) (by first | exact kds_ok _ | decide +kernel) ?_
      refine Tru.bool ?_
      refine br_f (by first | rfl | assumption) ?_
      refine Ev.p ?_
      exact ⟨_, Sub.refl _, h⟩
     | tup =>
      refine Ex.nil ?_
      refine Ex.cons ?_
      refine Ex.ite ?_
      refine Et.cmp ?_
      refine Ev.p ?_
      refine Ev.p ?_
      refine Cmp.in3 (by assumption) (by decide +kernel) (by decide +kernel) (by decide +kernel) (by first | exact kds_ok _ | decide +kernel) ?_
      refine Tru.bool ?_
      refine br_f (by first | rfl | assumption) ?_
      refine Ex.nil ?_
      refine Ex.retE ?_
      refine Ev.ifexp ?_
      refine Et.cmp ?_
      refine Ev.p ?_
      refine Ev.p ?_
      refine Cmp.in2 (by assumption) (by decide +kernel) (by decide +kernel) (by first | exact kds_ok _ | decide +kernel) ?_
      refine Tru.bool ?_
      refine br_f (by first | rfl | assumption) ?_
      refine Ev.p ?_
      exact ⟨_, Sub.refl _, h⟩
 · have hne : t.hd ≠ u.hd := fun q => by rw [q] at e; simp at e
   have : isAlike t u = false := by unfold isAlike; rw [decide_eq_false hne]; rfl
   rw [this] at h
   refine br_t (by first | rfl | assumption) ?_
   refine Ex.retC ?_ (by with_unfolding_all rfl)
   exact ⟨_, Sub.refl _, h⟩
end
section
theorem occurs_spec {C : Cx} {A : Around} {μ : Mem} {Q : D → Mem → Prop} (hC : HK C) {n : Nat} (hr : Rm A (n + 2)) {x dx kn nu : Addr} {κ : List (Option T)} (hκ : κ.length = 5) (I : Inf μ x dx kn nu κ) {t u : T} {b : Bool} {m : Nat} (ho : Occ κ u [t] b m) (hu : u.wf) (hu1 : u.hgt ≤ 1) (h : Q (.bool b) μ) :
 Call C A (.ref 121) [.raw (.ref x), enc u, enc t] μ Q := by
 refine Call.def [PySem.Str.ofString "self", PySem.Str.ofString "unknown", PySem.Str.ofString "told"] hC hr rfl rfl rfl rfl rfl (by rfl) ?_ rfl (by decide) rfl rfl rfl ?_
 · exact fun s => bind3 fun v0 v1 v2 => BindsTo.of_eq rfl
 intro env A' hs hc hr' hfr hef
 dsimp only at hs hc
 show Ex _ _ _ (execs (_ :: _) _) _ _ _ _
 refine Ex.aC ?_ (by assumption) (by rfl) (by rfl)
 refine Ev.list ?_
 refine Es.p ?_
 refine sz_and (by (show _ ≤ 16777216; simp; done)) ?_
 intro a ha
 refine Ex.cons ?_
 refine (Ex.while (fun m ρ μ' => ρ (sS "self") = some (.raw (.ref x)) ∧ ρ (sS "unknown") = some (enc u) ∧ ρ (sS "left") = some (.raw (.ref a)) ∧ ∃ l, Occ κ u l b m ∧ l.length ≤ 2 ^ 20 ∧ μ' = upd μ a (.list (encs l))) m ?_ Thru.no ?_)
 · exact ⟨rfl, rfl, rfl, [t], ho, by simp, rfl⟩
 rintro m ρ μ' ⟨r1, r2, r3, l, hl, hz, rfl⟩
 refine Et.cmp ?_
 refine Ev.n ?_ (by assumption) (by rfl) (by rfl)
 refine Ev.list ?_
 refine Es.p ?_
 refine sz_and (by (show _ ≤ 16777216; simp; done)) ?_
 intro c hc1
 refine Cmp.neNil hr' (ts := l) (by (refine Eq.trans (upd_other ?_) ?_; (exact ne_upd (by assumption)); exact upd_self)) upd_self ?_
 refine Tru.bool ?_
 refine ⟨fun e => ?_, fun e => ?_⟩
 · have hl0 : l = [] := by simpa using e
   subst hl0
   have hb : b = false := by
    generalize hq : ([] : List T) = q at hl
    cases hl with
    | done => rfl
    | hit _ => simp at hq
    | go _ _ _ _ _ => simp at hq
   subst hb
   refine Ex.retC ?_ (by with_unfolding_all rfl)
   exact ⟨_, by (apply Sub.trans; rotate_left; (exact Sub.new (by assumption)); exact Sub.new (by assumption)), h⟩
 · refine Ex.forget (Sub.new hc1) ?_
   have hl0 : l ≠ [] := by simpa using e
   cases hl with
   | done => exact absurd rfl hl0
   | @hit l t' m' hsh =>
    rw [encs_snoc]
    have hlen : (encs l).length ≤ 2 ^ 20 := by rw [encs_len]; simp at hz; omega
    refine Ex.aC ?_ (by assumption) (by rfl) (by rfl)
    refine Ev.meth (pl := _) ?_ (by rfl) (by rfl) (by rfl)
    refine Ev.n ?_ (by assumption) (by rfl) (by rfl)
    refine infMm (by assumption) (by exact Inf.mono (Sub.new (by assumption)) (by assumption)) (by rfl) (by rfl) (by rfl) (by rfl) (by rfl) ?_
    refine Es.cons ?_
    refine Ev.meth0 (pl := _) ?_ (by rfl)
    refine Ev.n ?_ (by assumption) (by rfl) (by rfl)
    refine listPop (by exact upd_self) ?_
    refine Call.pop (by exact upd_self) (by (show _ ≤ 16777216); omega) ?_
    refine Es.p ?_
    rw [upd_upd]
    refine shallow_spec hC (n := n) hr' (by exact Inf.mono (Sub.new (by assumption)) (by assumption)) hsh hκ ?_
    refine Ex.cons ?_
    refine Ex.ite ?_
    refine Et.cmp ?_
    refine Ev.p ?_
    refine Ev.n ?_ (by assumption) (by rfl) (by rfl)
    refine Cmp.eqT (by assumption) (by assumption) (by assumption) (by first | assumption | omega) ?_
    refine Tru.bool ?_
    refine br_t (decide_eq_true rfl) ?_
    refine Ex.retC ?_ (by with_unfolding_all rfl)
    exact ⟨_, by exact Sub.new (by assumption), h⟩
   | @go l t' t2 m' n' _ hsh hne hw hz2 hl =>
    rw [encs_snoc]
    have hlen : (encs l).length ≤ 2 ^ 20 := by rw [encs_len]; simp at hz; omega
    have hlen2 : (encs l).length + (encs t2.ch).length ≤ 2 ^ 20 := by rw [encs_len, encs_len]; simpa using hz2
    refine Ex.aC ?_ (by assumption) (by rfl) (by rfl)
    refine Ev.meth (pl := _) ?_ (by rfl) (by rfl) (by rfl)
    refine Ev.n ?_ (by assumption) (by rfl) (by rfl)
    refine infMm (by assumption) (by exact Inf.mono (Sub.new (by assumption)) (by assumption)) (by rfl) (by rfl) (by rfl) (by rfl) (by rfl) ?_
    refine Es.cons ?_
    refine Ev.meth0 (pl := _) ?_ (by rfl)
    refine Ev.n ?_ (by assumption) (by rfl) (by rfl)
    refine listPop (by exact upd_self) ?_
    refine Call.pop (by exact upd_self) (by (show _ ≤ 16777216); omega) ?_
    refine Es.p ?_
    rw [upd_upd]
    refine shallow_spec hC (n := n) hr' (by exact Inf.mono (Sub.new (by assumption)) (by assumption)) hsh hκ ?_
    refine Ex.cons ?_
    refine Ex.ite ?_
    refine Et.cmp ?_
    refine Ev.p ?_
    refine Ev.n ?_ (by assumption) (by rfl) (by rfl)
    refine Cmp.eqT (by assumption) (by assumption) (by assumption) (by first | assumption | omega) ?_
    refine Tru.bool ?_
    refine br_f (decide_eq_false hne) ?_
    refine Ex.nil ?_
    refine Ex.cons ?_
    refine Ex.expr ?_ (by first | rfl | exact interactive_of (by assumption) (by rfl)) (by rfl)
    refine Ev.meth (pl := _) ?_ (by rfl) (by rfl) (by rfl)
    refine Ev.n ?_ (by assumption) (by rfl) (by rfl)
    refine listExtend (by exact upd_self) ?_
    refine Es.cons ?_
    refine Ev.g ?_ (by assumption) (by rfl) (by assumption) (by rfl) (by rfl) (by rfl) (by rfl) (by rfl)
    refine Es.p ?_
    refine parts_of_spec (by assumption) (by assumption) _ (by assumption) ?_
    refine Es.p ?_
    refine Call.extendTup (by exact upd_self) (by (show _ ≤ 16777216); omega) ?_
    rw [upd_upd]
    refine ⟨_, Sub.refl _, ?_⟩
    refine Ex.nil ?_
    exact ⟨n', by omega, r1, r2, r3, _, hl, by simpa using hz2, by rw [encs_app]⟩
end
section
theorem bv_exc : bootBuiltins (PySem.Str.ofString "Exception") = some (.type "Exception") := rfl
theorem excCls {C : Cx} (hC : HK C) : ExcCls C.K 45 32 29 := by
 rw [hC]
 exact ⟨⟨_, _, _, _, _, _, _, _, _, _, _, _, _, _, _, rfl⟩, rfl, rfl, rfl, rfl, rfl⟩
theorem fault_spec {C : Cx} {A : Around} {μ : Mem} {Q : D → Mem → Prop} (hC : HK C) {n : Nat} (hr : Rm A (n + 3)) {y : Str}
 (h : ∀ e dx f m t μ', μ e = none → μ' e = some (.obj (excIs 45 (some dx))) → μ' dx = some (.attrs f m) → f "message" = some (.str y t) → Sub μ μ' → Q (.raw (.ref e)) μ') : Call C A (.ref 45) [.str y] μ Q := by
 refine Call.exc (excCls hC) (by simp) ?_
 intro e A' he h1 h2 h3 h4
 have hr1 : Rm A' (n + 2) := hr.into h1 h2 h3
 refine CallC.fn [sS "self", sS "message", sS "spot"] [.int 0 201] [.int 0] (.cons (.int 0 201) .nil) (by rw [hC]; rfl) rfl rfl rfl rfl (by rw [hC]; rfl) hr1.room ?_ rfl (by decide) rfl rfl rfl ?_
 · intro s vs hv X
   match vs, hv with
   | [v0, v1], _ =>
    have hT := X 22 _ (by rw [hC]; rfl)
    apply BindsTo.of_defaults (T := 22) (hd := rfl) (ho := hT) (hs := rfl)
    · rfl
    · rfl
 intro env A2 hs hc g1 g2 g3 g4 g5
 dsimp only at hs hc
 have hr' : Rm A2 (n + 1) := hr1.into g1 (Nat.le_of_eq g2) (Nat.le_of_eq g3)
 refine Ex.cons (Ex.excInit (pl := _) (excCls hC) ?_ rfl rfl rfl (by rw [hC]; rfl) (interactive_of hs rfl) rfl)
 refine Ev.gbi hC rfl bv_exc (kf_local hs rfl) (by decide) rfl ⟨rfl, ?_⟩
 refine Es.p ?_
 refine ⟨e, _, rfl, upd_self, ?_⟩
 refine Ex.cons (Ex.excSet1 (excCls hC) (by rw [hC]; rfl) ?_ rfl)
 refine Ev.p ?_
 refine Ev.p ?_
 refine ⟨e, rfl, upd_self, ?_⟩
 intro dx v hne hdx hv
 refine Ex.cons (Ex.excSet2 (excCls hC) (by rw [hC]; rfl) ?_ rfl)
 refine Ev.p ?_
 refine Ev.p ?_
 refine ⟨e, dx, _, _, rfl, upd_self, (upd_other hne).trans upd_self, by decide, ?_⟩
 intro v2 hv2
 refine Ex.nil ?_
 obtain ⟨hp, hv⟩ := hv
 cases hv with
 | str _ t =>
  refine ⟨_, Sub.refl _, rfl, h e dx _ _ t _ he ?_ upd_self rfl ?_⟩
  · exact (upd_other hne.symm).trans upd_self
  · have hdx' := none_upd hdx
    exact Sub.other (Sub.other (Sub.other (Sub.other (Sub.refl _) he) hdx') he) hdx'
end
theorem scope_ind {env : Env} {S : Scope} {P : Env → Prop} (hs : env.scope = S) (h : ∀ e : Env, e.scope = S → P e) : P env := h env hs
theorem Ex.monoX {C : Cx} {A : Around} {env : Env} {ρ : Str → Option D} {μ : Mem} {Q : Out → (Str → Option D) → Mem → Prop} {X X' : Xp} {t : Sem Flow} (h : Ex C A env t ρ μ Q X) (q : ∀ a s ρ' μ', X a s ρ' μ' → X' a s ρ' μ') : Ex C A env t ρ μ Q X' :=
 fun s k F => wpAny_mono (h s k F) (fun _ _ x => x) (PE.after (.refl _ _ _) q)
theorem del_upd {μ : Mem} {a b : Addr} {m m' : MO} (h : μ a = none) (n : b ≠ a) : del (upd (upd μ a m) b m') a = upd μ b m' := by
 funext c; unfold del upd
 by_cases q : c = a
 · rw [if_pos q, q, if_neg n.symm, h]
 · rw [if_neg q]; by_cases r : c = b
   · rw [if_pos r, if_pos r]
   · rw [if_neg r, if_neg r, if_neg q]
noncomputable def pairD (p : T × T) : D := .tup [enc p.1, enc p.2]
noncomputable def pairs (l : List (T × T)) : List D := l.map pairD
theorem pairs_snoc (l : List (T × T)) (p : T × T) : pairs (l ++ [p]) = pairs l ++ [.tup [enc p.1, enc p.2]] := by unfold pairs; simp [pairD]
theorem pairs_ok : ∀ l : List (T × T), D.oks (pairs l) = true
 | [] => rfl
 | p :: l => by
  have := pairs_ok l
  unfold pairs at *
  simp [D.oks, pairD, D.ok, enc_ok, this]
theorem zipD_encs (c d : List T) : zipD (encs c) (encs d) = pairs (c.zip d) := by
 unfold zipD pairs pairD
 rw [encs_eq, encs_eq, List.zip_map, List.map_map]; rfl
theorem pairs_rev (l : List (T × T)) : (pairs l).reverse = pairs l.reverse := by unfold pairs; rw [List.map_reverse]
theorem pairs_app (l m : List (T × T)) : pairs l ++ pairs m = pairs (l ++ m) := by unfold pairs; simp
theorem pairs_len (l : List (T × T)) : (pairs l).length = l.length := by unfold pairs; simp
theorem Bnd.len {κ κ' : List (Option T)} {u t : T} (h : Bnd κ u t (some κ')) : κ'.length = κ.length := by
 cases h <;> simp
theorem idx_hgt {t : T} {i : Nat} (hw : t.wf) (e : t.hd.idx = some i) : t.hgt ≤ 1 := by
 obtain ⟨h, ch⟩ := t
 have h0 : ch = [] := by
  have := hw.1
  cases h <;> simp [Hd.idx] at e <;> exact List.length_eq_zero_iff.mp this
 subst h0; simp [T.hgt, T.hgts]
theorem idx_no {h : Hd} (e : h.idx = none) : (h.isVar || h.isIv) = false := by cases h <;> first | rfl | (simp [Hd.idx] at e)
section
variable {C : Cx} {A : Around} {env : Env} {ρ : Str → Option D} {μ : Mem} {Q : Out → (Str → Option D) → Mem → Prop} {X : Xp} {Cl : Addr} {outer : List Env} {μ0 : Mem}
theorem Ex.exprG {G : Prop} {o e : Expr} {name : Str} {apos pos p2 : Pos} {rest : List Expr} {pl : Sem Bool} (nb : ∀ b, ¬ C.B b) (hfr : A.frames = some (env :: outer)) (hf : env.frame = some env.locals) (fm : FrM outer μ0)
 (h : Ev C A env (eval o env) ρ μ fun d μ1 => ∃ fv, GetM C A d name μ1 fv ∧ keepOk C.K fv = true ∧ Es C A env (spliced (backTo pos (starEach (e :: rest) env))) ρ μ1 fun ds μ2 =>
  Sub μ0 μ2 ∧ ∀ P, slotsP P → μ2 env.locals = none → FrM (env :: outer) (upd μ0 env.locals (.obj P)) → CallX C A fv (d :: ds) (upd μ2 env.locals (.obj P)) (fun _ μ' => μ' env.locals = some (.obj P) ∧ Q .next ρ (del μ' env.locals)) (fun a μ' => G ∧ X0 Cl (upd μ0 env.locals (.obj P)) a μ'))
 (hc : eval (.Call (.Attribute o name apos) (e :: rest) [] pos) env = (do
  let ov ← eval o env
  standAt apos.atName
  let (f, first) ← holding [ov] (getMethod ov name pl)
  callWith pos f first (backTo pos (starEach (e :: rest) env)) (backToKw pos (keywordEach [] env))))
 (he : starEach (e :: rest) env = (false, eval e env) :: starEach rest env) (hp : (backTo pos (starEach rest env)).any (·.1) = false)
 (hi : interactive env = false) (hs : swapsWith (.Call (.Attribute o name apos) (e :: rest) [] pos) none p2.line env = pure false) :
 Ex C A env (exec (.Expr (.Call (.Attribute o name apos) (e :: rest) [] pos) p2) env) ρ μ Q (XF Cl μ0 (fun ρ' => ρ' = ρ ∧ G)) := by
 intro s k F
 refine wpAny_Expr_any ?_ hi hs
 rw [hc]
 refine wpAny_bind (wpAny_mono (h s k F) ?_ fun _ _ x => x.elim)
 rintro v s1 ⟨d, μ1, r1, k1, t1, fv, hm, hk, h1⟩
 refine wpAny_bind (wpAny_standAt (wpAny_bind (wpAny_holding (hm s1 v pl _ _ k1 r1 ?_))))
 have h2 := h1 s1 k1 (F.step t1 k)
 show wpAny _ _ (callWith pos fv [v] (backTo pos (starEach (e :: rest) env)) (backToKw pos (keywordEach [] env))) _ _ _
 rw [he] at h2 ⊢
 refine callWith_of (P := C.K.In) (by show ((false || (backTo pos (starEach rest env)).any (·.1)) || false) = false; rw [hp]; rfl) (keepOk.looks hk) (Calls.evalArgs_plain (wpAny_mono h2 ?_ fun _ _ x => x.elim))
 rintro vs s2 ⟨ds, μ2, r2, k2, t2, hsub, h3⟩
 have tt := t1.trans t2
 have F2 := F.step tt k
 obtain ⟨P, hP, kh, back⟩ := k2.hideOwn nb F2
 have z0 : μ0 env.locals = none := by
  cases e : μ0 env.locals with
  | none => rfl
  | some mo => have := hsub _ _ e; rw [F2.free.1] at this; cases this
 have fmh : FrM (env :: outer) (upd μ0 env.locals (.obj P)) := (fm.sub (Sub.new z0)).cons (by rw [F.kind]; decide) hf upd_self hP
 have cx := h3 P hP F2.free.1 fmh s2 (v :: vs) kh (.cons (t2.rep k1 r1) r2)
 refine ⟨k2.K, wpAny_call (codeAny_mono cx fun r s3 z => ?_)⟩
 cases r with
 | ok f =>
  cases f with
  | ret u =>
   obtain ⟨d', μ', r', k', t', hL, hq⟩ := z
   obtain ⟨k5, F5, t5⟩ := back _ _ t' k' hL
   exact ⟨.next, ρ, _, .next, k5, F5, (tt.f env).trans t5, hq⟩
  | _ => exact (z : False).elim
 | error x =>
  obtain ⟨a, μ', rfl, k', t', hG, x'⟩ := z
  have hL : μ' env.locals = some (.obj P) := x'.1 _ _ upd_self
  obtain ⟨k5, F5, t5⟩ := back _ _ t' k' hL
  refine ⟨a, ρ, _, rfl, k5, F5, (tt.f env).trans t5, ⟨rfl, hG⟩, ?_⟩
  have na : a ≠ env.locals := fun q => by
   have := x'.2.1; rw [q, upd_self] at this; cases this
  have x2 : X0 Cl μ0 a μ' := ⟨(Sub.new z0).trans x'.1, by have := x'.2.1; rwa [upd_other na] at this, x'.2.2⟩
  exact x2.del k' hL hP z0
theorem CallX.fnG {G : Prop} {a : Addr} {oc : Value} {od : Option Addr} {fd : FuncData} {osl : Array (Option Value)} {body : List Stmt} {ds : List D} {Q : D → Mem → Prop} (names : List Str)
 (ho : C.K.lookup a = some ⟨oc, od, .func fd, osl⟩) (hbody : fd.body = .stmts body) (hg : fd.globals = mainGlobals) (hb : fd.builtins = builtinsNs) (hcl : fd.closure = [])
 (hcd : codeIn C.K fd.code fd.qualname = true) (hroom : A.depth < recursionLimit)
 (hbind : ∀ s vs, vs.length = ds.length → BindsTo s fd ⟨vs, []⟩ (names.zip vs)) (hn : (names.all fun x => fd.scope.names.lookup x == some .local || fd.scope.names.lookup x == some .cell) = true) (nd : names.Nodup)
 (hk : fd.scope.kind = .function) (hco : fd.scope.isCoroutine = false) (hgen : fd.scope.isGenerator = false)
 (nb : ∀ b, ¬ C.B b) (hfr : A.frames = some outer) (fm : FrM outer μ0)
 (h : ∀ env A', env.scope = fd.scope → (∀ x, fd.scope.names.lookup x = some .cell → (env.cells.lookup x).isSome = true) → A'.handled = A.handled → A'.depth = A.depth + 1 → A'.units = A.units + 3 → A'.frames = some (env :: outer) → env.frame = some env.locals →
  Ex C A' env (execs body env) (args names ds) μ (FnQ Q) (XF Cl μ0 fun _ => G)) : CallX C A (.ref a) ds μ Q (fun a μ' => G ∧ X0 Cl μ0 a μ') := by
 by_cases g : G
 · intro s vs k r
   refine codeAny_mono (CallX.fn names ho hbody hg hb hcl hcd hroom hbind hn nd hk hco hgen nb hfr fm h s vs k r) fun r s' z => ?_
   cases r with
   | ok f => cases f with
    | ret u => exact z
    | _ => exact (z : False).elim
   | error e => obtain ⟨a, μ', e1, k', t', x⟩ := z; exact ⟨a, μ', e1, k', t', g, x⟩
 · have h2 := CallC.fn (C := C) (A := A) (a := a) (μ := μ) (Q := Q) names [] [] .nil ho hbody hg hb hcl hcd hroom (fun s vs hl _ => by rw [List.append_nil]; exact hbind s vs hl) hn nd hk hco hgen
    (by rw [List.append_nil]; exact fun env A' h1 h2 h3 h4 h5 h6 h7 => Ex.monoX (h env A' h1 h2 h3 h4 h5 (by rw [h6, hfr]; rfl) h7) fun _ _ _ _ x => g x.1)
   intro s vs k r
   refine codeAny_mono (h2 s vs k r) fun r s' z => ?_
   cases r with
   | ok f => cases f with
    | ret u => exact z
    | _ => exact (z : False).elim
   | error e => exact z.elim
end
inductive UCase (κ : List (Option T)) (l : List (T × T)) (r : Option (List (Option T))) (n : Nat) (c d : T) : Prop
 | skip {k : Nat} : c = d → k < n → URun κ l r k → UCase κ l r n c d
 | bindL {i : Nat} {r' : Option (List (Option T))} : c ≠ d → c.hd.idx = some i → Bnd κ c d r' → (r' = none → r = none) → (∀ κ', r' = some κ' → ∃ k, k < n ∧ URun κ' l r k) → UCase κ l r n c d
 | bindR {i : Nat} {r' : Option (List (Option T))} : c ≠ d → c.hd.idx = none → d.hd.idx = some i → Bnd κ d c r' → (r' = none → r = none) → (∀ κ', r' = some κ' → ∃ k, k < n ∧ URun κ' l r k) → UCase κ l r n c d
 | split {k : Nat} : c ≠ d → c.hd.idx = none → d.hd.idx = none → isAlike c d = true → l.length ≤ 2 ^ 20 → k < n → URun κ (l ++ (c.ch.zip d.ch).reverse) r k → UCase κ l r n c d
 | clash : c ≠ d → c.hd.idx = none → d.hd.idx = none → isAlike c d = false → Tells κ c → Tells κ d → r = none → UCase κ l r n c d
inductive UInv (κ : List (Option T)) (l : List (T × T)) (a b : T) (r : Option (List (Option T))) (n : Nat) : Prop
 | mk {c d : T} {m m' : Nat} : Shal κ a c m → Shal κ b d m' → c.wf → d.wf → min c.hgt d.hgt ≤ 1400 → UCase κ l r n c d → UInv κ l a b r n
inductive UAny (κ : List (Option T)) (L : List (T × T)) (r : Option (List (Option T))) (n : Nat) : Prop
 | nil : L = [] → r = some κ → UAny κ L r n
 | more {l : List (T × T)} {a b : T} : L = l ++ [(a, b)] → UInv κ l a b r n → UAny κ L r n
theorem URun.any {κ : List (Option T)} {L : List (T × T)} {r : Option (List (Option T))} {n : Nat} (h : URun κ L r n) : UAny κ L r n := by
 have w1 : ∀ {c d : T}, c.hgt ≤ 1000 → min c.hgt d.hgt ≤ 1400 := fun h => Nat.le_trans (Nat.min_le_left _ _) (Nat.le_trans h (by decide))
 have w2 : ∀ {c d : T}, d.hgt ≤ 1000 → min c.hgt d.hgt ≤ 1400 := fun h => Nat.le_trans (Nat.min_le_right _ _) (Nat.le_trans h (by decide))
 cases h with
 | done => exact .nil rfl rfl
 | skip h1 h2 h3 h4 h5 => exact .more rfl ⟨h1, h2, h3, h3, w1 h4, .skip rfl (Nat.lt_succ_self _) h5⟩
 | bindL h1 h2 h3 h4 h5 h6 h7 h8 h9 => exact .more rfl ⟨h1, h2, h4, h5, w2 h6, .bindL h3 h7 h8 (fun e => (nomatch e)) fun κ' e => ⟨_, Nat.lt_succ_self _, Option.some.inj e ▸ h9⟩⟩
 | bindL0 h1 h2 h3 h4 h5 h6 h7 h8 => exact .more rfl ⟨h1, h2, h4, h5, w2 h6, .bindL h3 h7 h8 (fun _ => rfl) fun κ' e => (nomatch e)⟩
 | bindR h1 h2 h3 h4 h5 h6 h7 h7' h8 h9 => exact .more rfl ⟨h1, h2, h4, h5, w1 h6, .bindR h3 h7 h7' h8 (fun e => (nomatch e)) fun κ' e => ⟨_, Nat.lt_succ_self _, Option.some.inj e ▸ h9⟩⟩
 | bindR0 h1 h2 h3 h4 h5 h6 h7 h7' h8 => exact .more rfl ⟨h1, h2, h4, h5, w1 h6, .bindR h3 h7 h7' h8 (fun _ => rfl) fun κ' e => (nomatch e)⟩
 | split h1 h2 h3 h4 h5 h6 h6' h7 h7' h8 h9 h10 => exact .more rfl ⟨h1, h2, h4, h5, w1 h6, .split h3 h7 h7' h8 h9 (Nat.lt_succ_self _) h10⟩
 | clash h1 h2 h3 h4 h5 h6 h6' h7 h7' h8 h9 h10 => exact .more rfl ⟨h1, h2, h4, h5, w1 h6, .clash h3 h7 h7' h8 h9 h10 rfl⟩
theorem URun.inv {κ : List (Option T)} {l : List (T × T)} {a b : T} {r : Option (List (Option T))} {n : Nat} (h : URun κ (l ++ [(a, b)]) r n) : UInv κ l a b r n := by
 cases h.any with
 | nil e => exact (List.append_ne_nil_of_right_ne_nil _ (List.cons_ne_nil _ _) e).elim
 | more e I => obtain ⟨rfl, e2⟩ := List.append_inj' e rfl; cases e2; exact I
theorem URun.nil {κ : List (Option T)} {r : Option (List (Option T))} {n : Nat} (h : URun κ [] r n) : r = some κ := by
 cases h.any with
 | nil _ e => exact e
 | more e => exact (List.append_ne_nil_of_right_ne_nil _ (List.cons_ne_nil _ _) e.symm).elim
theorem CallX.def {C : Cx} {A : Around} {μ μ0 : Mem} {Q : D → Mem → Prop} {n : Nat} {Cl a : Addr} {oc : Value} {od : Option Addr} {fd : FuncData} {osl : Array (Option Value)} {body : List Stmt} {ds : List D} {outer : List Env} {G : Prop} (names : List Str) (hC : HK C) (hr : Rm A (n + 1))
 (ho : (hd.heap_39 C.w.params).lookup a = some ⟨oc, od, .func fd, osl⟩) (hbody : fd.body = .stmts body) (hg : fd.globals = mainGlobals) (hb : fd.builtins = builtinsNs) (hcl : fd.closure = [])
 (hcd : codeIn (hd.heap_39 C.w.params) fd.code fd.qualname = true)
 (hbind : ∀ s vs, vs.length = ds.length → BindsTo s fd ⟨vs, []⟩ (names.zip vs)) (hn : (names.all fun x => fd.scope.names.lookup x == some .local || fd.scope.names.lookup x == some .cell) = true) (nd : names.Nodup)
 (hk : fd.scope.kind = .function) (hco : fd.scope.isCoroutine = false) (hgen : fd.scope.isGenerator = false)
 (nb : ∀ b, ¬ C.B b) (hfr : A.frames = some outer) (fm : FrM outer μ0)
 (h : ∀ env A', env.scope = fd.scope → (∀ x, fd.scope.names.lookup x = some .cell → (env.cells.lookup x).isSome = true) → Rm A' n → A'.frames = some (env :: outer) → env.frame = some env.locals →
  Ex C A' env (execs body env) (args names ds) μ (FnQ Q) (XF Cl μ0 fun _ => G)) : CallX C A (.ref a) ds μ Q (fun a μ' => G ∧ X0 Cl μ0 a μ') :=
 CallX.fnG names (by rw [hC]; exact ho) hbody hg hb hcl (by rw [hC]; exact hcd) hr.room hbind hn nd hk hco hgen nb hfr fm
  fun env A' h1 h2 h3 h4 h5 h6 h7 => h env A' h1 h2 (hr.into h3 (Nat.le_of_eq h4) (Nat.le_of_eq h5)) h6 h7
theorem SetI.at {C : Cx} {A : Around} {μ : Mem} {a : Addr} {xs : List D} {i : Nat} {d : D} {Q : Mem → Prop} (hm : μ a = some (.list xs)) (hi : i < xs.length) (hz : xs.length ≤ 5) (h : Q (upd μ a (.list (xs.set i d)))) : SetI C A (.raw (.ref a)) (.int (i : Int)) d μ Q :=
 SetI.list hm hi (Nat.le_trans hz (by decide)) h
theorem idx_var {t : T} {i : Nat} (e : t.hd = .var i) : t.hd.idx = some i := by rw [e]; rfl
section
set_option maxHeartbeats 4000000 in
theorem bind_spec {C : Cx} {A : Around} {μ μ0 : Mem} {Q : D → Mem → Prop} {outer : List Env} (hC : HK C) (nb : ∀ b, ¬ C.B b) {n : Nat} (hr : Rm A (n + 110)) (hfr : A.frames = some outer) (fm : FrM outer μ0) (hsub : Sub μ0 μ)
 {x dx kn nu : Addr} {κ : List (Option T)} (hκ : κ.length = 5) (I : Inf μ x dx kn nu κ) {u t : T} {r : Option (List (Option T))} (hb : Bnd κ u t r) (hu : u.wf) (hu1 : u.hgt ≤ 1)
 (h : ∀ κ', r = some κ' → Q .none (upd μ kn (.list (κ'.map slotD)))) :
 CallX C A (.ref 128) [.raw (.ref x), enc u, enc t] μ Q (fun a μ' => r = none ∧ X0 45 μ0 a μ') := by
 refine CallX.def (G := r = none) [PySem.Str.ofString "self", PySem.Str.ofString "unknown", PySem.Str.ofString "told"] hC hr rfl rfl rfl rfl rfl (by rfl) ?_ rfl (by decide) rfl rfl rfl nb hfr fm ?_
 · exact fun s => bind3 fun v0 v1 v2 => BindsTo.of_eq rfl
 intro env A' hs hc hr' hfr' hef
 dsimp only at hs hc
 show Ex _ _ _ (execs (_ :: _) _) _ _ _ _
 refine Ex.cons ?_
 refine Ex.ite ?_
 refine Et.and2 ?_
 refine Et.cmp ?_
 refine Ev.sub ?_
 refine Ev.p ?_
 refine Ev.p ?_
 refine Get.kd ?_
 refine Ev.p ?_
 refine Cmp.eqStr ?_
 refine Tru.bool ?_
 refine ⟨fun e => ?_, fun e => ?_⟩
 · rw [kds_iv] at e
   refine Et.cmp ?_
   refine Ev.sub ?_
   refine Ev.p ?_
   refine Ev.p ?_
   refine Get.kd ?_
   refine Ev.p ?_
   refine Cmp.notIn2 (by assumption) (by decide +kernel) (by decide +kernel) (by first | exact kds_ok _ | decide +kernel) ?_
   refine Tru.bool ?_
   refine ⟨fun e2 => ?_, fun e2 => ?_⟩
   · rw [kds_in_int_iv] at e2
     refine Ex.cons ?_
     refine Ex.ite ?_
     refine Et.cmp ?_
     refine Ev.sub ?_
     refine Ev.p ?_
     refine Ev.p ?_
     refine Get.kd ?_
     refine Ev.p ?_
     refine Cmp.eqStr ?_
     refine Tru.bool ?_
     refine ⟨fun e3 => ?_, fun e3 => ?_⟩
     · rw [kds_var] at e3
       cases hb with
       | @flip i h1 h2 h3 =>
        have hi := idx_var h2
        refine Ex.cons ?_
        refine Ex.assignSub ?_ (by rfl)
        refine Ev.p ?_
        refine infA (by assumption) (by exact rfl) (by assumption) (by rfl) (by rfl) (by rfl) (by rfl) (by rfl) (by rfl) (by rfl) ?_
        refine Ev.sub ?_
        refine Ev.p ?_
        refine Ev.p ?_
        refine Get.idx (by assumption) ?_
        refine SetI.at I.m1 (by simpa using h3) (by simp [hκ]) ?_
        refine Ex.cons ?_
        refine Ex.ret0 ?_
        refine ⟨_, Sub.refl _, ?_⟩
        have := h _ rfl
        rw [List.map_set] at this
        exact this
       | bad h1 h2 h3 h4 => rw [h3] at e3; cases e3
       | occ h1 => rw [e, e2] at h1; cases h1
       | ok h1 => rw [e, e2] at h1; cases h1
     · rw [kds_var] at e3
       cases hb with
       | @flip i h1 h2 h3 => rw [h2] at e3; cases e3
       | bad h1 h2 h3 h4 =>
        obtain ⟨m, r, g1, g2, g3, g4, g5, g6⟩ := h4
        refine Ex.nil ?_
        refine Ex.cons ?_
        refine Ex.raise (excCls (by assumption)) (Rm.hh (by assumption)) ?_
        refine Ev.g ?_ (by assumption) (by rfl) (by assumption) (by rfl) (by rfl) (by rfl) (by rfl) (by rfl)
        refine Es.cons ?_
        refine Ev.binop ?_
        refine Ev.p ?_
        refine Ev.g ?_ (by assumption) (by rfl) (by assumption) (by rfl) (by rfl) (by rfl) (by rfl) (by rfl)
        refine Es.cons ?_
        refine Ev.meth (pl := _) ?_ (by rfl) (by rfl) (by rfl)
        refine Ev.p ?_
        refine infMm (by assumption) (by assumption) (by rfl) (by rfl) (by rfl) (by rfl) (by rfl) ?_
        refine Es.p ?_
        refine resolved_spec hκ m hC (by exact Rm.le (by assumption) (by omega)) I g1 ?_
        refine Es.p ?_
        refine type_text_spec (r.hgt + 1) hC (by exact Rm.le (by assumption) (by omega)) r g3 g4 (Nat.lt_succ_self _) (by omega) ?_
        intro y hy1 hy2
        refine Bin.str (st1' hy2 g5 (by kernel_rfl)) ?_
        refine Es.p ?_
        refine fault_spec hC (n := n) (by exact Rm.ad (by assumption) rfl) ?_
        intro e' dx' f m' t' μ' g1 g2 g3 g4 g5
        exact ⟨e', dx', f, m', _, t', rfl, g2, g3, g4, hsub.trans g5, hsub.none g1, rfl⟩
       | occ h1 => rw [e, e2] at h1; cases h1
       | ok h1 => rw [e, e2] at h1; cases h1
   · rw [kds_in_int_iv] at e2
     have hcd : (u.hd.isIv && !(t.hd.isInt || t.hd.isIv)) = false := by
      have : (t.hd.isInt || t.hd.isIv) = true := by cases q : (t.hd.isInt || t.hd.isIv) with
       | true => rfl
       | false => rw [q] at e2; cases e2
      rw [this]; simp
     cases hb with
     | @flip i h1 h2 h3 => exact absurd hcd (by rw [h1, h2]; exact fun h => nomatch (show true = false from h))
     | bad h1 h2 h3 h4 => exact absurd hcd (by rw [h1, h2]; decide)
     | @occ m h1 h2 =>
      refine Ex.nil ?_
      refine Ex.cons ?_
      refine Ex.ite ?_
      refine Et.value ?_ (by rfl)
      refine Ev.meth (pl := _) ?_ (by rfl) (by rfl) (by rfl)
      refine Ev.p ?_
      refine infMm (by assumption) (by assumption) (by rfl) (by rfl) (by rfl) (by rfl) (by rfl) ?_
      refine Es.p ?_
      refine occurs_spec hC (n := n) (by exact Rm.ad (by assumption) rfl) hκ I h2 hu hu1 ?_
      refine Tru.bool ?_
      refine br_t (by first | rfl | assumption) ?_
      refine Ex.cons ?_
      refine Ex.raise (excCls (by assumption)) (Rm.hh (by assumption)) ?_
      refine Ev.g ?_ (by assumption) (by rfl) (by assumption) (by rfl) (by rfl) (by rfl) (by rfl) (by rfl)
      refine Es.p ?_
      refine fault_spec hC (n := n) (by exact Rm.ad (by assumption) rfl) ?_
      intro e' dx' f m' t' μ' g1 g2 g3 g4 g5
      exact ⟨e', dx', f, m', _, t', rfl, g2, g3, g4, hsub.trans g5, hsub.none g1, rfl⟩
     | @ok i m h1 h2 h3 h4 =>
      refine Ex.nil ?_
      refine Ex.cons ?_
      refine Ex.ite ?_
      refine Et.value ?_ (by rfl)
      refine Ev.meth (pl := _) ?_ (by rfl) (by rfl) (by rfl)
      refine Ev.p ?_
      refine infMm (by assumption) (by assumption) (by rfl) (by rfl) (by rfl) (by rfl) (by rfl) ?_
      refine Es.p ?_
      refine occurs_spec hC (n := n) (by exact Rm.ad (by assumption) rfl) hκ I h2 hu hu1 ?_
      refine Tru.bool ?_
      refine br_f (by first | rfl | assumption) ?_
      refine Ex.nil ?_
      refine Ex.cons ?_
      refine Ex.assignSub ?_ (by rfl)
      refine Ev.p ?_
      refine infA (by assumption) (by exact rfl) (by assumption) (by rfl) (by rfl) (by rfl) (by rfl) (by rfl) (by rfl) (by rfl) ?_
      refine Ev.sub ?_
      refine Ev.p ?_
      refine Ev.p ?_
      refine Get.idx (by assumption) ?_
      refine SetI.at I.m1 (by simpa using h4) (by simp [hκ]) ?_
      refine Ex.nil ?_
      refine ⟨_, Sub.refl _, ?_⟩
      have := h _ rfl
      rw [List.map_set] at this
      exact this
 · rw [kds_iv] at e
   have hcd : (u.hd.isIv && !(t.hd.isInt || t.hd.isIv)) = false := by rw [e]; rfl
   cases hb with
   | @flip i h1 h2 h3 => exact absurd hcd (by rw [h1, h2]; exact fun h => nomatch (show true = false from h))
   | bad h1 h2 h3 h4 => exact absurd hcd (by rw [h1, h2]; decide)
   | @occ m h1 h2 =>
    refine br_f (by first | rfl | assumption) ?_
    refine Ex.nil ?_
    refine Ex.cons ?_
    refine Ex.ite ?_
    refine Et.value ?_ (by rfl)
    refine Ev.meth (pl := _) ?_ (by rfl) (by rfl) (by rfl)
    refine Ev.p ?_
    refine infMm (by assumption) (by assumption) (by rfl) (by rfl) (by rfl) (by rfl) (by rfl) ?_
    refine Es.p ?_
    refine occurs_spec hC (n := n) (by exact Rm.ad (by assumption) rfl) hκ I h2 hu hu1 ?_
    refine Tru.bool ?_
    refine br_t (by first | rfl | assumption) ?_
    refine Ex.cons ?_
    refine Ex.raise (excCls (by assumption)) (Rm.hh (by assumption)) ?_
    refine Ev.g ?_ (by assumption) (by rfl) (by assumption) (by rfl) (by rfl) (by rfl) (by rfl) (by rfl)
    refine Es.p ?_
    refine fault_spec hC (n := n) (by exact Rm.ad (by assumption) rfl) ?_
    intro e' dx' f m' t' μ' g1 g2 g3 g4 g5
    exact ⟨e', dx', f, m', _, t', rfl, g2, g3, g4, hsub.trans g5, hsub.none g1, rfl⟩
   | @ok i m h1 h2 h3 h4 =>
    refine br_f (by first | rfl | assumption) ?_
    refine Ex.nil ?_
    refine Ex.cons ?_
    refine Ex.ite ?_
    refine Et.value ?_ (by rfl)
    refine Ev.meth (pl := _) ?_ (by rfl) (by rfl) (by rfl)
    refine Ev.p ?_
    refine infMm (by assumption) (by assumption) (by rfl) (by rfl) (by rfl) (by rfl) (by rfl) ?_
    refine Es.p ?_
    refine occurs_spec hC (n := n) (by exact Rm.ad (by assumption) rfl) hκ I h2 hu hu1 ?_
    refine Tru.bool ?_
    refine br_f (by first | rfl | assumption) ?_
    refine Ex.nil ?_
    refine Ex.cons ?_
    refine Ex.assignSub ?_ (by rfl)
    refine Ev.p ?_
    refine infA (by assumption) (by exact rfl) (by assumption) (by rfl) (by rfl) (by rfl) (by rfl) (by rfl) (by rfl) (by rfl) ?_
    refine Ev.sub ?_
    refine Ev.p ?_
    refine Ev.p ?_
    refine Get.idx (by assumption) ?_
    refine SetI.at I.m1 (by simpa using h4) (by simp [hκ]) ?_
    refine Ex.nil ?_
    refine ⟨_, Sub.refl _, ?_⟩
    have := h _ rfl
    rw [List.map_set] at this
    exact this
end
section
set_option maxHeartbeats 4000000 in
theorem bind_stmt {C : Cx} {A : Around} {env : Env} {ρ : Str → Option D} {S : Scope} {μ μ0 : Mem} {Q : Out → (Str → Option D) → Mem → Prop} {outer : List Env} (hC : HK C) (nb : ∀ b, ¬ C.B b) {n : Nat} (hr : Rm A (n + 110)) (hs : env.scope = S) (hS : (S.kind == .module) = false) (hfr : A.frames = some (env :: outer)) (hef : env.frame = some env.locals) (fm : FrM outer μ0) (hsub : Sub μ0 μ)
 {x dx kn nu : Addr} {κ : List (Option T)} (hκ : κ.length = 5) (I : Inf μ x dx kn nu κ) {u t : T} {r : Option (List (Option T))} (hb : Bnd κ u t r) (hu : u.wf) (hu1 : u.hgt ≤ 1) {X Y : Str} {p1 p2 p3 p4 p5 p6 : Pos}
 (hx : ρ (sS "self") = some (.raw (.ref x))) (hX : ρ X = some (enc u)) (hY : ρ Y = some (enc t)) (d1 : (X == ("__debug__" : Str)) = false) (d2 : (X == ("__classdict__" : Str)) = false) (d3 : (Y == ("__debug__" : Str)) = false) (d4 : (Y == ("__classdict__" : Str)) = false)
 (hkn : μ0 kn = none) {pl : Sem Bool} (hc : eval (.Call (.Attribute (.Name (sS "self") p1) (sS "bind") p2) [.Name X p3, .Name Y p4] [] p5) env = (do
  let ov ← eval (.Name (sS "self") p1) env
  standAt p2.atName
  let (f, first) ← holding [ov] (getMethod ov (sS "bind") pl)
  callWith p5 f first (backTo p5 (starEach [.Name X p3, .Name Y p4] env)) (backToKw p5 (keywordEach [] env))))
 (h : ∀ κ', r = some κ' → Q .next ρ (upd μ kn (.list (κ'.map slotD)))) :
 Ex C A env (exec (.Expr (.Call (.Attribute (.Name (sS "self") p1) (sS "bind") p2) [.Name X p3, .Name Y p4] [] p5) p6) env) ρ μ Q (XF 45 μ0 fun _ => r = none) := by
 refine Ex.monoX (Ex.exprG (G := r = none) (Cl := 45) (pl := pl) nb hfr hef fm ?_ hc rfl rfl (interactive_of hs hS) rfl) fun a s ρ' μ' hx => ⟨hx.1.2, hx.2⟩
 refine Ev.name hx ?_ rfl rfl
 refine infM hC I rfl rfl rfl rfl rfl ?_
 refine Es.cons (Ev.name hX ?_ d1 d2) rfl
 refine Es.cons (Ev.name hY ?_ d3 d4) rfl
 refine Es.nil ⟨hsub, fun P hP hL hfm => ?_⟩
 have hLk : kn ≠ env.locals := fun e => by rw [← e, I.m1] at hL; cases hL
 refine bind_spec hC nb hr hfr hfm (Sub.both hsub _ _) hκ (I.mono (Sub.new hL)) hb hu hu1 ?_
 intro κ' hr'
 refine ⟨(upd_other hLk.symm).trans upd_self, ?_⟩
 rw [del_upd hL hLk]
 exact h κ' hr'
inductive UnJ (x a kn : Addr) (μ : Mem) (r : Option (List (Option T))) (m : Nat) (ρ : Str → Option D) (μ' : Mem) : Prop
 | mk (r1 : ρ (sS "self") = some (.raw (.ref x))) (r2 : ρ (sS "left") = some (.raw (.ref a))) (κ : List (Option T)) (l : List (T × T)) (hκ : κ.length = 5) (hl : l.length ≤ 2 ^ 21) (h : URun κ l r m) (e : μ' = upd (upd μ kn (.list (κ.map slotD))) a (.list (pairs l)))
set_option maxHeartbeats 4000000 in
theorem unify_spec {C : Cx} {A : Around} {μ μ0 : Mem} {Q : D → Mem → Prop} {outer : List Env} (hC : HK C) (nb : ∀ b, ¬ C.B b) {n : Nat} (hr : Rm A (n + 120)) (hfr : A.frames = some outer) (fm : FrM outer μ0) (hsub : Sub μ0 μ)
 {x dx kn nu : Addr} (hkn : μ0 kn = none) {κ : List (Option T)} (hκ : κ.length = 5) (I : Inf μ x dx kn nu κ) {t u : T} {r : Option (List (Option T))} {m : Nat} (hb : URun κ [(t, u)] r m)
 (h : ∀ κ', r = some κ' → κ'.length = 5 → Q .none (upd μ kn (.list (κ'.map slotD)))) :
 CallX C A (.ref 142) [.raw (.ref x), enc t, enc u] μ Q (fun a μ' => r = none ∧ X0 45 μ0 a μ') := by
 refine CallX.def (G := r = none) [PySem.Str.ofString "self", PySem.Str.ofString "one", PySem.Str.ofString "other"] hC hr rfl rfl rfl rfl rfl (by rfl) ?_ rfl (by decide) rfl rfl rfl nb hfr fm ?_
 · exact fun s => bind3 fun v0 v1 v2 => BindsTo.of_eq rfl
 intro env A' hs hc hr' hfr' hef
 dsimp only at hs hc
 show Ex _ _ _ (execs (_ :: _) _) _ _ _ _
 have th := Thru.fly (Cl := 45) (R := fun _ => r = none) nb hfr' hef fm
 refine Ex.aC ?_ (by assumption) (by rfl) (by rfl)
 refine Ev.list ?_
 refine Es.p ?_
 refine sz_and (by (show _ ≤ 16777216; simp; done)) ?_
 intro a ha
 refine Ex.cons ?_
 have hak : a ≠ kn := fun e => by rw [e, I.m1] at ha; cases ha
 have hsk : ∀ κ' : List (Option T), Sub μ0 (upd μ kn (.list (κ'.map slotD))) := fun κ' => Sub.other hsub hkn
 refine Ex.while (UnJ x a kn μ r) m ?_ th ?_
 · exact ⟨rfl, rfl, κ, [(t, u)], hκ, by simp, hb, by rw [upd_same I.m1]; rfl⟩
 rintro m ρ μ' ⟨r1, r2, κ1, l, hκ1, hl, hrun, rfl⟩
 generalize hμ1 : upd μ kn (.list (κ1.map slotD)) = μ1
 have ha1 : μ1 a = none := by rw [← hμ1, upd_other hak]; exact ha
 have I1 : Inf μ1 x dx kn nu κ1 := by rw [← hμ1]; exact I.set
 refine Et.cmp ?_
 refine Ev.n ?_ (by assumption) (by rfl) (by rfl)
 refine Ev.list ?_
 refine Es.p ?_
 refine sz_and (by (show _ ≤ 16777216; simp; done)) ?_
 intro c hc1
 refine Cmp.neNilD hr' (xs := pairs l) (by (refine Eq.trans (upd_other ?_) ?_; (exact ne_upd (by assumption)); exact upd_self)) upd_self (pairs_ok l) ?_
 refine Tru.bool ?_
 refine ⟨fun e => ?_, fun e => ?_⟩
 · have hl0 : l = [] := by unfold pairs at e; simpa using e
   subst hl0
   refine Ex.nil ?_
   refine ⟨μ1, by (apply Sub.trans; rotate_left; (exact Sub.new (by assumption)); exact Sub.new (by assumption)), ?_⟩
   rw [← hμ1]; exact h _ hrun.nil hκ1
 refine Ex.forget (Sub.new hc1) ?_
 have hl0 : l ≠ [] := fun q => by rw [q] at e; cases e
 obtain ⟨l, ⟨p1, p2⟩, rfl⟩ : ∃ l' p, l = l' ++ [p] := ⟨l.dropLast, l.getLast hl0, (List.dropLast_concat_getLast hl0).symm⟩
 rw [pairs_snoc]
 have hz0 : l.length ≤ 2 ^ 21 := by simp at hl; omega
 have hlen : (pairs l).length ≤ 2 ^ 21 := by rw [pairs_len]; exact hz0
 refine Ex.cons ?_
 refine Ex.assignTup ?_ (by rfl) (by rfl)
 refine Ev.meth0 (pl := _) ?_ (by rfl)
 refine Ev.n ?_ (by assumption) (by rfl) (by rfl)
 refine listPop (by exact upd_self) ?_
 refine Call.pop (by exact upd_self) (by (show _ ≤ 16777216); omega) ?_
 refine Asg.tuple (Rm.hh (by assumption)) (by rfl) (by rfl) ?_
 refine Assigns.cons ?_ (by rfl)
 refine Asg.name (Or.inl (kf_local (by assumption) (by rfl))) (kc_loc (by assumption) (by rfl)) ?_
 refine Assigns.cons ?_ (by rfl)
 refine Asg.name (Or.inl (kf_local (by assumption) (by rfl))) (kc_loc (by assumption) (by rfl)) ?_
 refine Assigns.nil ?_
 refine Ex.cons ?_
 rw [upd_upd]
 refine Ex.assignSwap [sS "here", sS "there"] hr'.hh ?_ ?_ rfl ?_
 rotate_left
 · intro n hn
   simp only [List.mem_cons, List.not_mem_nil, or_false] at hn
   rcases hn with rfl | rfl <;> exact kf_local hs rfl
 · exact scope_ind hs (P := fun e => swappedStores _ _ e = pure (some _)) fun e he => by cases e; cases he; rfl
 have I2 : Inf (upd μ1 a (MO.list (pairs l))) x dx kn nu κ1 := I1.mono (Sub.new ha1)
 have hs2 : Sub μ0 (upd μ1 a (MO.list (pairs l))) := Sub.other (by rw [← hμ1]; exact hsk κ1) (hsub.none ha)
 obtain @⟨c, d, m1, m2, s1, s2, h4, h5, hz1, hcase⟩ := hrun.inv
 refine Ev.tuple ?_
 refine Es.cons ?_
 refine Ev.meth (pl := _) ?_ (by rfl) (by rfl) (by rfl)
 refine Ev.n ?_ (by assumption) (by rfl) (by rfl)
 refine infMm (by assumption) (by assumption) (by rfl) (by rfl) (by rfl) (by rfl) (by rfl) ?_
 refine Es.p ?_
 refine shallow_spec hC (n := n + 118) hr' I2 s1 hκ1 ?_
 refine Es.cons ?_
 refine Ev.meth (pl := _) ?_ (by rfl) (by rfl) (by rfl)
 refine Ev.n ?_ (by assumption) (by rfl) (by rfl)
 refine infMm (by assumption) (by assumption) (by rfl) (by rfl) (by rfl) (by rfl) (by rfl) ?_
 refine Es.p ?_
 refine shallow_spec hC (n := n + 118) hr' I2 s2 hκ1 ?_
 refine Es.p ?_
 refine sz_and (by (show _ ≤ 16777216; simp; done)) ?_
 refine ⟨_, rfl, rfl, ?_⟩
 have hnext : ∀ {k : Nat} {κ' : List (Option T)} {l' : List (T × T)}, k < m → κ'.length = 5 → l'.length ≤ 2 ^ 21 → URun κ' l' r k → ∀ {ρ' : Str → Option D} {μ' : Mem}, ρ' (sS "self") = some (.raw (.ref x)) → ρ' (sS "left") = some (.raw (.ref a)) → μ' = upd (upd μ kn (.list (κ'.map slotD))) a (.list (pairs l')) → ∃ m', m' < m ∧ UnJ x a kn μ r m' ρ' μ' :=
  fun {k κ' l'} h1 h2 h3 h4 {ρ' μ'} g1 g2 g3 => ⟨k, h1, g1, g2, κ', l', h2, h3, h4, g3⟩
 have hbound : ∀ κ' : List (Option T), upd (upd μ1 a (.list (pairs l))) kn (.list (κ'.map slotD)) = upd (upd μ kn (.list (κ'.map slotD))) a (.list (pairs l)) := fun κ' => by rw [upd_comm hak, ← hμ1, upd_upd]
 refine Ex.cons ?_
 refine Ex.ite ?_
 refine Et.cmp ?_
 refine Ev.p ?_
 refine Ev.p ?_
 refine Cmp.eqT (by assumption) (by assumption) (by assumption) (by first | assumption | omega) ?_
 refine Tru.bool ?_
 refine ⟨fun hcd => ?_, fun hcd => ?_⟩
 · have hcd := of_decide_eq_true hcd
   refine Ex.cons ?_
   refine Ex.cont ?_
   cases hcase with
   | skip e hk h => exact hnext hk hκ1 hz0 h r1 r2 (by rw [hμ1])
   | bindL h3 | bindR h3 | split h3 | clash h3 => exact absurd hcd h3
 have hcd := of_decide_eq_false hcd
 refine Ex.nil ?_
 refine Ex.cons ?_
 refine Ex.ite ?_
 refine Et.cmp ?_
 refine Ev.sub ?_
 refine Ev.p ?_
 refine Ev.p ?_
 refine Get.kd ?_
 refine Ev.p ?_
 refine Cmp.in2 (by assumption) (by decide +kernel) (by decide +kernel) (by first | exact kds_ok _ | decide +kernel) ?_
 refine Tru.bool ?_
 rw [kds_in_var_iv]
 refine ⟨fun hci => ?_, fun hci => ?_⟩
 · obtain ⟨i, h7⟩ := idx_some hci
   cases hcase with
   | skip e => exact absurd e hcd
   | @bindL i r' h3 h7 h8 h9 h10 =>
    refine Ex.cons ?_
    refine Ex.monoX (X := XF 45 μ0 (fun _ => r' = none)) ?_ (fun _ _ _ _ x => ⟨h9 x.1, x.2⟩)
    refine bind_stmt (n := n) (u := c) (t := d) (x := x) (κ := κ1) hC nb (by exact Rm.ad (by assumption) rfl) hs rfl hfr' hef fm hs2 hκ1 I2 h8 h4 (idx_hgt h4 h7) r1 rfl rfl rfl rfl rfl rfl hkn rfl ?_
    intro κ2 e2
    obtain ⟨k, hk, hrun'⟩ := h10 κ2 e2
    subst e2
    refine Ex.nil ?_
    refine Ex.nil ?_
    exact hnext hk (h8.len.trans hκ1) hz0 hrun' r1 r2 (hbound κ2)
   | bindR _ h7' | split _ h7' | clash _ h7' => rw [h7'] at h7; cases h7
 have hci := idx_none hci
 refine Ex.cons ?_
 refine Ex.ite ?_
 refine Et.cmp ?_
 refine Ev.sub ?_
 refine Ev.p ?_
 refine Ev.p ?_
 refine Get.kd ?_
 refine Ev.p ?_
 refine Cmp.in2 (by assumption) (by decide +kernel) (by decide +kernel) (by first | exact kds_ok _ | decide +kernel) ?_
 refine Tru.bool ?_
 rw [kds_in_var_iv]
 refine ⟨fun hdi => ?_, fun hdi => ?_⟩
 · obtain ⟨i, h7⟩ := idx_some hdi
   cases hcase with
   | skip e => exact absurd e hcd
   | bindL _ h7' => rw [hci] at h7'; cases h7'
   | @bindR i r' h3 h7' h7 h8 h9 h10 =>
    refine Ex.cons ?_
    refine Ex.monoX (X := XF 45 μ0 (fun _ => r' = none)) ?_ (fun _ _ _ _ x => ⟨h9 x.1, x.2⟩)
    refine bind_stmt (n := n) (u := d) (t := c) (x := x) (κ := κ1) hC nb (by exact Rm.ad (by assumption) rfl) hs rfl hfr' hef fm hs2 hκ1 I2 h8 h5 (idx_hgt h5 h7) r1 rfl rfl rfl rfl rfl rfl hkn rfl ?_
    intro κ2 e2
    obtain ⟨k, hk, hrun'⟩ := h10 κ2 e2
    subst e2
    refine Ex.nil ?_
    refine Ex.nil ?_
    refine Ex.nil ?_
    exact hnext hk (h8.len.trans hκ1) hz0 hrun' r1 r2 (hbound κ2)
   | split _ _ h7' | clash _ _ h7' => rw [h7'] at h7; cases h7
 have hdi := idx_none hdi
 refine Ex.cons ?_
 refine Ex.ite ?_
 refine Et.value ?_ (by rfl)
 refine Ev.meth (pl := _) ?_ (by rfl) (by rfl) (by rfl)
 refine Ev.n ?_ (by assumption) (by rfl) (by rfl)
 refine infMm (by assumption) (by assumption) (by rfl) (by rfl) (by rfl) (by rfl) (by rfl) ?_
 refine Es.p ?_
 refine alike_spec hC (n := n + 117) hr' c d h4 h5 hci ?_
 refine Tru.bool ⟨fun h8 => ?_, fun h8 => ?_⟩
 · cases hcase with
   | skip e => exact absurd e hcd
   | bindL _ h7' => rw [hci] at h7'; cases h7'
   | bindR _ _ h7' => rw [hdi] at h7'; cases h7'
   | clash _ _ _ h8' => rw [h8] at h8'; cases h8'
   | @split k _ _ _ _ h9 hk h10 =>
    have hcl : c.ch.length ≤ 2 := by obtain ⟨_, _⟩ := c; exact fits_len h4.1
    have hll : c.ch.length = d.ch.length := by unfold isAlike at h8; simp at h8; exact h8.2
    refine Ex.cons ?_
    refine Ex.expr ?_ (by first | rfl | exact interactive_of (by assumption) (by rfl)) (by rfl)
    refine Ev.meth (pl := _) ?_ (by rfl) (by rfl) (by rfl)
    refine Ev.n ?_ (by assumption) (by rfl) (by rfl)
    refine listExtend (by exact upd_self) ?_
    refine Es.cons ?_
    refine Ev.rev (fun _ _ _ _ _ _ h => Ev.unop (Ev.cint (Una.neg h))) ?_
    refine Ev.listZip (Rm.hh (by assumption)) ?_ (by rfl) (by rfl) (by rfl)
    refine Ev.gbi (by assumption) (by rfl) (by with_reducible exact bv_list) (by exact kf_local (by assumption) (by rfl)) (by decide) (by rfl) ?_
    refine ⟨rfl, ?_⟩
    refine Ev.gbi (by assumption) (by rfl) (by with_reducible exact bv_zip) (by exact kf_local (by assumption) (by rfl)) (by decide) (by rfl) ?_
    refine ⟨rfl, ?_⟩
    refine Es.cons ?_
    refine Ev.g ?_ (by assumption) (by rfl) (by assumption) (by rfl) (by rfl) (by rfl) (by rfl) (by rfl)
    refine Es.p ?_
    refine parts_of_spec (by assumption) (by assumption) _ (by assumption) ?_
    refine Es.cons ?_
    refine Ev.g ?_ (by assumption) (by rfl) (by assumption) (by rfl) (by rfl) (by rfl) (by rfl) (by rfl)
    refine Es.p ?_
    refine parts_of_spec (by assumption) (by assumption) _ (by assumption) ?_
    refine Es.p ?_
    refine ⟨encs c.ch, encs d.ch, .inr rfl, by rw [encs_len, encs_len, hll], by rw [encs_len]; exact Nat.le_trans hcl (by decide), ?_⟩
    intro z1 hz1'
    rw [zipD_encs]
    refine ⟨z1, pairs (c.ch.zip d.ch), rfl, upd_self, by rw [pairs_len, List.length_zip]; exact Nat.le_trans (Nat.min_le_left _ _) (Nat.le_trans hcl (by decide)), ?_⟩
    intro z2 hz2'
    rw [pairs_rev]
    have hl3 : (pairs (c.ch.zip d.ch).reverse).length ≤ 2 := by rw [pairs_len, List.length_reverse, List.length_zip]; omega
    refine Es.p ?_
    refine Call.extendList (by (refine Eq.trans (upd_other ?_) ?_; (exact ne_upd (none_upd (by assumption))); (refine Eq.trans (upd_other ?_) ?_; (exact ne_upd (by assumption)); exact upd_self))) (by exact upd_self) (by (show _ ≤ 16777216); omega) ?_
    rw [pairs_app]
    refine ⟨upd μ1 a (.list (pairs (l ++ (c.ch.zip d.ch).reverse))), ?_, ?_⟩
    · exact sub_over (m := MO.list (pairs l)) ((Sub.new hz1').trans (Sub.new hz2'))
    refine Ex.nil ?_
    refine Ex.nil ?_
    refine Ex.nil ?_
    refine Ex.nil ?_
    exact hnext hk hκ1 (by rw [pairs_len] at hl3; simp only [List.length_append]; omega) h10 r1 r2 (by rw [hμ1])
 · cases hcase with
   | skip e => exact absurd e hcd
   | bindL _ h7' => rw [hci] at h7'; cases h7'
   | bindR _ _ h7' => rw [hdi] at h7'; cases h7'
   | split _ _ _ h8' => rw [h8] at h8'; cases h8'
   | clash _ _ _ _ h9 h10 hr0 =>
    obtain ⟨k1, rc, g1, g2, g3, g4, g5, g6⟩ := h9
    obtain ⟨k2, rd, f1, f2, f3, f4, f5, f6⟩ := h10
    refine Ex.aC ?_ (by assumption) (by rfl) (by rfl)
    refine Ev.binop ?_
    refine Ev.binop ?_
    refine Ev.g ?_ (by assumption) (by rfl) (by assumption) (by rfl) (by rfl) (by rfl) (by rfl) (by rfl)
    refine Es.cons ?_
    refine Ev.meth (pl := _) ?_ (by rfl) (by rfl) (by rfl)
    refine Ev.n ?_ (by assumption) (by rfl) (by rfl)
    refine infMm (by assumption) (by assumption) (by rfl) (by rfl) (by rfl) (by rfl) (by rfl) ?_
    refine Es.p ?_
    refine resolved_spec hκ1 k1 hC (by exact Rm.le (by assumption) (by omega)) I2 g1 ?_
    refine Es.p ?_
    refine type_text_spec (rc.hgt + 1) hC (by exact Rm.le (by assumption) (by omega)) rc g3 g4 (Nat.lt_succ_self _) (by omega) ?_
    intro y hy1 hy2
    refine Ev.p ?_
    refine Bin.str (st1 hy2 g5 (by kernel_rfl)) ?_
    refine Ev.g ?_ (by assumption) (by rfl) (by assumption) (by rfl) (by rfl) (by rfl) (by rfl) (by rfl)
    refine Es.cons ?_
    refine Ev.meth (pl := _) ?_ (by rfl) (by rfl) (by rfl)
    refine Ev.n ?_ (by assumption) (by rfl) (by rfl)
    refine infMm (by assumption) (by assumption) (by rfl) (by rfl) (by rfl) (by rfl) (by rfl) ?_
    refine Es.p ?_
    refine resolved_spec hκ1 k2 hC (by exact Rm.le (by assumption) (by omega)) I2 f1 ?_
    refine Es.p ?_
    refine type_text_spec (rd.hgt + 1) hC (by exact Rm.le (by assumption) (by omega)) rd f3 f4 (Nat.lt_succ_self _) (by omega) ?_
    intro y' hy1' hy2'
    have hst := st2 (l := PySem.Str.ofString " and ") hy2 g5 (by kernel_rfl) hy2' f5
    refine Bin.str (Nat.le_trans hst (by decide)) ?_
    refine Ex.cons ?_
    refine Ex.raise (excCls (by assumption)) (Rm.hh (by assumption)) ?_
    refine Ev.g ?_ (by assumption) (by rfl) (by assumption) (by rfl) (by rfl) (by rfl) (by rfl) (by rfl)
    refine Es.cons ?_
    refine Ev.binop ?_
    refine Ev.p ?_
    refine Ev.p ?_
    refine Bin.str (st3 hst (by kernel_rfl)) ?_
    refine Es.p ?_
    refine fault_spec hC (n := n) (by exact Rm.ad (by assumption) rfl) ?_
    intro e' dx' f m' t' μ' q1 q2 q3 q4 q5
    exact ⟨e', dx', f, m', _, t', rfl, q2, q3, q4, hs2.trans q5, hs2.none q1, hr0⟩
end
structure Inf0 (μ : Mem) (x dx kn nu : Addr) (ks ns : List D) : Prop where
 hx : μ x = some (.inst 152 dx)
 hd : μ dx = some (.attrs (infF kn nu) 2)
 m1 : μ kn = some (.list ks)
 m2 : μ nu = some (.list ns)
 ne : kn ≠ nu
section
variable {C : Cx} {A : Around} {env : Env} {ρ : Str → Option D} {μ : Mem} {Q : D → Mem → Prop} {X : Xp}
theorem infM0 {name : Str} {fa x dx kn nu : Addr} {ks ns : List D} {P : Value → Prop} (hC : HK C) (I : Inf0 μ x dx kn nu ks ns) (hg : plainGet (hd.heap_39 C.w.params) 152 name = true) (hf : findIn (hd.heap_39 C.w.params) (.ref 152) name = some (some (.ref fa)))
 (ht : isFn (hd.heap_39 C.w.params) (.ref fa) = true) (hl : infF kn nu name = none) (hk : keepOk (hd.heap_39 C.w.params) (.ref fa) = true) (h : P (.ref fa)) : ∃ fv, GetM C A (.raw (.ref x)) name μ fv ∧ keepOk C.K fv = true ∧ P fv :=
 ⟨.ref fa, GetM.inst I.hx I.hd (by rw [hC]; exact hg) (by rw [hC]; exact hf) (by rw [hC]; exact ht) hl, by rw [hC]; exact hk, h⟩
theorem infA0 {name y : Str} {py pos : Pos} {x dx kn nu v : Addr} {ks ns : List D} (hC : HK C) (hy : ρ y = some (.raw (.ref x))) (I : Inf0 μ x dx kn nu ks ns) (hv : infF kn nu name = some (.ref v)) (hg : plainGet (hd.heap_39 C.w.params) 152 name = true)
 (ha : findIn (hd.heap_39 C.w.params) (.ref 152) name = some none) (hh : hasDictIn (hd.heap_39 C.w.params) 152 = true)
 (hc : eval (.Attribute (.Name y py) name pos) env = (do
  let o' ← eval (.Name y py) env
  standAt pos.atName
  let r ← holding [o'] (getAttr o' name true)
  letTemporaryGo (.Name y py) o' r
  pure r))
 (hd0 : (y == ("__debug__" : Str)) = false) (hc0 : (y == ("__classdict__" : Str)) = false)
 (h : Q (.raw (.ref v)) μ) : Ev C A env (eval (.Attribute (.Name y py) name pos) env) ρ μ Q :=
 Ev.attr (Cl := 152) (dx := dx) (f := infF kn nu) (m := 2) (v := .ref v) (Ev.name hy ⟨rfl, I.hx, I.hd, hv, h⟩ hd0 hc0) (by rw [hC]; exact hg) (by rw [hC]; exact hh) (by rw [hC]; exact ha) rfl hc
end
section
variable {C : Cx} {A : Around} {μ : Mem} {Q : D → Mem → Prop}
theorem infer_new {n : Nat} (hC : HK C) (hr : Rm A (n + 2)) (h : ∀ x dx kn nu μ', Inf0 μ' x dx kn nu [] [] → Sub μ μ' → μ kn = none → μ nu = none → Q (.raw (.ref x)) μ') : Call C A (.ref 152) [] μ Q := by
 refine Call.cls (by rw [hC]; rfl) (fI := 88) (by rw [hC]; rfl) (by rw [hC]; rfl) ?_
 intro x dx A2 hne hx hdx h1 h2 h3 h4
 have hr : Rm A2 (n + 1) := hr.into h1 h2 h3
 refine CallC.def [PySem.Str.ofString "self"] hC hr rfl rfl rfl rfl rfl (by rfl) ?_ rfl (by decide) rfl rfl rfl ?_
 · exact fun s => bind1 fun v0 => BindsTo.of_eq rfl
 intro env A' hs hc hr' hfr hef
 dsimp only at hs hc
 show Ex _ _ _ (execs (_ :: _) _) _ _ _ _
 refine Ex.cons (Ex.assignAttr ?_ rfl)
 refine Ev.list ?_
 refine Es.p ?_
 refine sz_and (by (show _ ≤ 16777216; simp; done)) ?_
 intro kn hkn
 refine Ev.p ?_
 refine ⟨x, 152, dx, _, _, .ref kn, rfl, rfl, by (refine Eq.trans (upd_other ?_) ?_; (exact ne_upd (by assumption)); exact upd_self), by (refine Eq.trans (upd_other ?_) ?_; (exact ne_upd (none_upd (by assumption))); (refine Eq.trans (upd_other ?_) ?_; (exact Ne.symm (by assumption)); exact upd_self)), by decide, by rw [hC]; rfl, ?_⟩
 refine Ex.cons (Ex.assignAttr ?_ rfl)
 refine Ev.list ?_
 refine Es.p ?_
 refine sz_and (by (show _ ≤ 16777216; simp; done)) ?_
 intro nu hnu
 refine Ev.p ?_
 have a1 : dx ≠ nu := ne_upd hnu
 have a2 : kn ≠ nu := ne_upd (none_upd hnu)
 have a3 : x ≠ nu := ne_upd (none_upd (none_upd hnu))
 have a4 : x ≠ kn := ne_upd hkn
 have a5 : dx ≠ kn := ne_upd (none_upd hkn)
 have b1 : μ kn = none := none_upd (none_upd hkn)
 have b2 : μ nu = none := none_upd (none_upd (none_upd (none_upd hnu)))
 refine ⟨x, 152, dx, attrUpd (fun _ => none) (sS "known") (.ref kn), 1, .ref nu, rfl, rfl, ?_, ?_, by decide, by rw [hC]; rfl, ?_⟩
 · rw [upd_other a3, upd_other hne, upd_other a4, upd_self]
 · rw [upd_other a1, upd_self]
 refine Ex.nil ?_
 refine ⟨_, Sub.refl _, rfl, h x dx kn nu _ ⟨?_, ?_, ?_, ?_, a2⟩ ?_ b1 b2⟩
 · rw [upd_other hne, upd_other a3, upd_other hne, upd_other a4, upd_self]
 · rw [upd_self]; rfl
 · rw [upd_other a5.symm, upd_other a2, upd_other a5.symm, upd_self]
 · rw [upd_other a1.symm, upd_self]
 · exact Sub.other (Sub.other (Sub.other (Sub.other (Sub.other (Sub.other (Sub.refl _) hdx) hx) b1) hdx) b2) hdx
theorem fresh_spec {n : Nat} (hC : HK C) (hr : Rm A (n + 1)) {x dx kn nu : Addr} {ks ns : List D} (I : Inf0 μ x dx kn nu ks ns) {μ0 : Mem} (hsm : Sub μ0 μ) (h1 : μ0 kn = none) (h2 : μ0 nu = none) (hz : ks.length ≤ 5 ∧ ns.length ≤ 5)
 (h : ∀ μ', Inf0 μ' x dx kn nu (ks ++ [.none]) (ns ++ [.bool false]) → Sub μ0 μ' → Q (.tup [.str (sS "var"), .int (ks.length : Int)]) μ') : Call C A (.ref 95) [.raw (.ref x)] μ Q := by
 refine Call.def [PySem.Str.ofString "self"] hC hr rfl rfl rfl rfl rfl (by rfl) ?_ rfl (by decide) rfl rfl rfl ?_
 · exact fun s => bind1 fun v0 => BindsTo.of_eq rfl
 intro env A' hs hc hr' hfr hef
 dsimp only at hs hc
 show Ex _ _ _ (execs (_ :: _) _) _ _ _ _
 have I0 : x ≠ kn := fun e => by have := I.hx; rw [e, I.m1] at this; cases this
 have I0' : x ≠ nu := fun e => by have := I.hx; rw [e, I.m2] at this; cases this
 have I1 : dx ≠ kn := fun e => by have := I.hd; rw [e, I.m1] at this; cases this
 have I2 : dx ≠ nu := fun e => by have := I.hd; rw [e, I.m2] at this; cases this
 have hm1 := I.m1
 have hm2 := I.m2
 have I3 := I.ne
 refine Ex.cons ?_
 refine Ex.expr ?_ (by first | rfl | exact interactive_of (by assumption) (by rfl)) (by rfl)
 refine Ev.meth (pl := _) ?_ (by rfl) (by rfl) (by rfl)
 refine infA0 (by assumption) (by exact rfl) (by assumption) (by rfl) (by rfl) (by rfl) (by rfl) (by rfl) (by rfl) (by rfl) ?_
 refine listAppend (by assumption) ?_
 refine Es.p ?_
 refine Call.append (by assumption) (by (show _ ≤ 16777216); omega) ?_
 refine ⟨_, Sub.refl _, ?_⟩
 have J : Inf0 (upd μ kn (MO.list (ks ++ [D.none]))) x dx kn nu (ks ++ [.none]) ns := ⟨(upd_other I0).trans I.hx, (upd_other I1).trans I.hd, upd_self, (upd_other I.ne.symm).trans hm2, I.ne⟩
 have hm3 := J.m2
 refine Ex.cons ?_
 refine Ex.expr ?_ (by first | rfl | exact interactive_of (by assumption) (by rfl)) (by rfl)
 refine Ev.meth (pl := _) ?_ (by rfl) (by rfl) (by rfl)
 refine infA0 (by assumption) (by exact rfl) (by assumption) (by rfl) (by rfl) (by rfl) (by rfl) (by rfl) (by rfl) (by rfl) ?_
 refine listAppend (by assumption) ?_
 refine Es.p ?_
 refine Call.append (by assumption) (by (show _ ≤ 16777216); omega) ?_
 refine ⟨_, Sub.refl _, ?_⟩
 have J2 : Inf0 (upd (upd μ kn (MO.list (ks ++ [D.none]))) nu (MO.list (ns ++ [D.bool false]))) x dx kn nu (ks ++ [.none]) (ns ++ [.bool false]) := ⟨(upd_other I0').trans J.hx, (upd_other I2).trans J.hd, (upd_other I.ne).trans J.m1, upd_self, I.ne⟩
 refine Ex.retE ?_
 refine Ev.tuple ?_
 refine Es.cons ?_
 refine Ev.p ?_
 refine Es.cons ?_
 refine Ev.binop ?_
 refine Ev.b bv_len ?_ (by assumption) (by rfl) (by assumption) (by rfl) (by decide) (by rfl) (by rfl) (by rfl) (by rfl)
 refine Es.cons ?_
 refine infA0 (by assumption) (by exact rfl) (by assumption) (by rfl) (by rfl) (by rfl) (by rfl) (by rfl) (by rfl) (by rfl) ?_
 refine Es.p ?_
 refine Call.lenList (by (refine Eq.trans (upd_other ?_) ?_; (assumption); exact upd_self)) (by exact Nat.lt_of_le_of_lt (m := 16777216) (by first | omega | (simp; done) | (simp; omega)) (by decide)) ?_
 refine Ev.p ?_
 refine Bin.sub ?_
 refine Es.p ?_
 refine sz_and (by (show _ ≤ 16777216; simp; done)) ?_
 have e : ((ks ++ [D.none]).length : Int) - 1 = (ks.length : Int) := by simp
 rw [e]
 exact ⟨_, Sub.refl _, h _ J2 (Sub.other (Sub.other hsm h1) h2)⟩
theorem fresh_int_spec {n : Nat} (hC : HK C) (hr : Rm A (n + 1)) {x dx kn nu : Addr} {ks ns : List D} (I : Inf0 μ x dx kn nu ks ns) {μ0 : Mem} (hsm : Sub μ0 μ) (h1 : μ0 kn = none) (h2 : μ0 nu = none) (hz : ks.length ≤ 5 ∧ ns.length ≤ 5)
 (h : ∀ μ', Inf0 μ' x dx kn nu (ks ++ [.none]) (ns ++ [.bool true]) → Sub μ0 μ' → Q (.tup [.str (sS "intvar"), .int (ks.length : Int)]) μ') : Call C A (.ref 102) [.raw (.ref x)] μ Q := by
 refine Call.def [PySem.Str.ofString "self"] hC hr rfl rfl rfl rfl rfl (by rfl) ?_ rfl (by decide) rfl rfl rfl ?_
 · exact fun s => bind1 fun v0 => BindsTo.of_eq rfl
 intro env A' hs hc hr' hfr hef
 dsimp only at hs hc
 show Ex _ _ _ (execs (_ :: _) _) _ _ _ _
 have I0 : x ≠ kn := fun e => by have := I.hx; rw [e, I.m1] at this; cases this
 have I0' : x ≠ nu := fun e => by have := I.hx; rw [e, I.m2] at this; cases this
 have I1 : dx ≠ kn := fun e => by have := I.hd; rw [e, I.m1] at this; cases this
 have I2 : dx ≠ nu := fun e => by have := I.hd; rw [e, I.m2] at this; cases this
 have hm1 := I.m1
 have hm2 := I.m2
 have I3 := I.ne
 refine Ex.cons ?_
 refine Ex.expr ?_ (by first | rfl | exact interactive_of (by assumption) (by rfl)) (by rfl)
 refine Ev.meth (pl := _) ?_ (by rfl) (by rfl) (by rfl)
 refine infA0 (by assumption) (by exact rfl) (by assumption) (by rfl) (by rfl) (by rfl) (by rfl) (by rfl) (by rfl) (by rfl) ?_
 refine listAppend (by assumption) ?_
 refine Es.p ?_
 refine Call.append (by assumption) (by (show _ ≤ 16777216); omega) ?_
 refine ⟨_, Sub.refl _, ?_⟩
 have J : Inf0 (upd μ kn (MO.list (ks ++ [D.none]))) x dx kn nu (ks ++ [.none]) ns := ⟨(upd_other I0).trans I.hx, (upd_other I1).trans I.hd, upd_self, (upd_other I.ne.symm).trans hm2, I.ne⟩
 have hm3 := J.m2
 refine Ex.cons ?_
 refine Ex.expr ?_ (by first | rfl | exact interactive_of (by assumption) (by rfl)) (by rfl)
 refine Ev.meth (pl := _) ?_ (by rfl) (by rfl) (by rfl)
 refine infA0 (by assumption) (by exact rfl) (by assumption) (by rfl) (by rfl) (by rfl) (by rfl) (by rfl) (by rfl) (by rfl) ?_
 refine listAppend (by assumption) ?_
 refine Es.p ?_
 refine Call.append (by assumption) (by (show _ ≤ 16777216); omega) ?_
 refine ⟨_, Sub.refl _, ?_⟩
 have J2 : Inf0 (upd (upd μ kn (MO.list (ks ++ [D.none]))) nu (MO.list (ns ++ [D.bool true]))) x dx kn nu (ks ++ [.none]) (ns ++ [.bool true]) := ⟨(upd_other I0').trans J.hx, (upd_other I2).trans J.hd, (upd_other I.ne).trans J.m1, upd_self, I.ne⟩
 refine Ex.retE ?_
 refine Ev.tuple ?_
 refine Es.cons ?_
 refine Ev.p ?_
 refine Es.cons ?_
 refine Ev.binop ?_
 refine Ev.b bv_len ?_ (by assumption) (by rfl) (by assumption) (by rfl) (by decide) (by rfl) (by rfl) (by rfl) (by rfl)
 refine Es.cons ?_
 refine infA0 (by assumption) (by exact rfl) (by assumption) (by rfl) (by rfl) (by rfl) (by rfl) (by rfl) (by rfl) (by rfl) ?_
 refine Es.p ?_
 refine Call.lenList (by (refine Eq.trans (upd_other ?_) ?_; (assumption); exact upd_self)) (by exact Nat.lt_of_le_of_lt (m := 16777216) (by first | omega | (simp; done) | (simp; omega)) (by decide)) ?_
 refine Ev.p ?_
 refine Bin.sub ?_
 refine Es.p ?_
 refine sz_and (by (show _ ≤ 16777216; simp; done)) ?_
 have e : ((ks ++ [D.none]).length : Int) - 1 = (ks.length : Int) := by simp
 rw [e]
 exact ⟨_, Sub.refl _, h _ J2 (Sub.other (Sub.other hsm h1) h2)⟩
noncomputable def unks : List T := [.node (.var 0) [], .node (.var 1) [], .node (.var 2) [], .node (.ivar 3) [], .node (.ivar 4) []]
theorem unknowns_spec {n : Nat} (hC : HK C) (hr : Rm A (n + 1)) (h : ∀ a, μ a = none → Q (.raw (.ref a)) (upd μ a (.list (encs unks)))) : Call C A (.ref 233) [] μ Q := by
 refine Call.def [] hC hr rfl rfl rfl rfl rfl (by rfl) ?_ rfl (by decide) rfl rfl rfl ?_
 · exact fun s => bind0 fun _ => BindsTo.of_eq rfl
 intro env A' hs hc hr' hfr hef
 dsimp only at hs hc
 show Ex _ _ _ (execs (_ :: _) _) _ _ _ _
 refine Ex.retE ?_
 refine Ev.list ?_
 with_reducible refine Es.p ?_
 refine sz_and (by (show _ ≤ 16777216; simp; done)) ?_
 intro a ha
 exact ⟨_, Sub.refl _, h a ha⟩
theorem unks_wf : T.wfs unks := by simp [unks, T.wfs, T.wf, fits]
theorem begun_spec {n : Nat} (hC : HK C) (hr : Rm A (n + 4)) (h : ∀ x dx kn nu μ', Inf μ' x dx kn nu [none, none, none, none, none] → Sub μ μ' → μ kn = none → Q (.raw (.ref x)) μ') : Call C A (.ref 240) [] μ Q := by
 refine Call.def [] hC hr rfl rfl rfl rfl rfl (by rfl) ?_ rfl (by decide) rfl rfl rfl ?_
 · exact fun s => bind0 fun _ => BindsTo.of_eq rfl
 intro env A' hs hc hr' hfr hef
 dsimp only at hs hc
 show Ex _ _ _ (execs (_ :: _) _) _ _ _ _
 refine Ex.aC ?_ (by assumption) (by rfl) (by rfl)
 refine Ev.callG0 (by assumption) (by rfl) (by exact kf_local (by assumption) (by rfl)) (by rfl) (by rfl) ?_
 refine infer_new (n := n) hC (by exact Rm.ad (by assumption) rfl) ?_
 intro x dx kn nu μ1 I hs1 hk hn
 refine Ex.aC ?_ (by assumption) (by rfl) (by rfl)
 refine Ev.list ?_
 refine Es.cons ?_
 refine Ev.meth0 (pl := _) ?_ (by rfl)
 refine Ev.p ?_
 refine infM0 (by assumption) (by assumption) (by rfl) (by rfl) (by rfl) (by rfl) (by rfl) ?_
 refine fresh_spec (n := n) hC (by exact Rm.ad (by assumption) rfl) I hs1 hk hn (by decide) ?_
 intro μ2 I2 hs2
 refine Es.cons ?_
 refine Ev.meth0 (pl := _) ?_ (by rfl)
 refine Ev.p ?_
 refine infM0 (by assumption) (by assumption) (by rfl) (by rfl) (by rfl) (by rfl) (by rfl) ?_
 refine fresh_spec (n := n) hC (by exact Rm.ad (by assumption) rfl) I2 hs2 hk hn (by decide) ?_
 intro μ3 I3 hs3
 refine Es.cons ?_
 refine Ev.meth0 (pl := _) ?_ (by rfl)
 refine Ev.p ?_
 refine infM0 (by assumption) (by assumption) (by rfl) (by rfl) (by rfl) (by rfl) (by rfl) ?_
 refine fresh_spec (n := n) hC (by exact Rm.ad (by assumption) rfl) I3 hs3 hk hn (by decide) ?_
 intro μ4 I4 hs4
 refine Es.cons ?_
 refine Ev.meth0 (pl := _) ?_ (by rfl)
 refine Ev.p ?_
 refine infM0 (by assumption) (by assumption) (by rfl) (by rfl) (by rfl) (by rfl) (by rfl) ?_
 refine fresh_int_spec (n := n) hC (by exact Rm.ad (by assumption) rfl) I4 hs4 hk hn (by decide) ?_
 intro μ5 I5 hs5
 refine Es.cons ?_
 refine Ev.meth0 (pl := _) ?_ (by rfl)
 refine Ev.p ?_
 refine infM0 (by assumption) (by assumption) (by rfl) (by rfl) (by rfl) (by rfl) (by rfl) ?_
 refine fresh_int_spec (n := n) hC (by exact Rm.ad (by assumption) rfl) I5 hs5 hk hn (by decide) ?_
 intro μ6 I6 hs6
 refine Es.p ?_
 refine sz_and (by (show _ ≤ 16777216; simp; done)) ?_
 intro a ha
 refine Ex.retE ?_
 refine Ev.ifexp ?_
 refine Et.cmp ?_
 refine Ev.p ?_
 refine Ev.callG0 (by assumption) (by rfl) (by exact kf_local (by assumption) (by rfl)) (by rfl) (by rfl) ?_
 refine unknowns_spec (n := n) hC (by exact Rm.ad (by assumption) rfl) ?_
 intro b hb
 refine Cmp.eqList (xs := encs unks) (ys := encs unks) (by (refine Eq.trans (upd_other ?_) ?_; (exact ne_upd (by assumption)); exact upd_self)) upd_self (encs_ok _) (encs_ok _) (hr'.u ?_) ?_
 · have := encs_dep' unks
   simp only [PyData.depth]
   have h2 : T.hgts unks = 1 := by simp [unks, T.hgts, T.hgt]
   omega
 have e : PyData.eqv (.list (D.pys (encs unks))) (.list (D.pys (encs unks))) = true := by
  show PyData.eqvAll _ _ = true
  rw [eqvs_enc _ _ unks_wf unks_wf]; simp
 rw [e]
 refine Tru.bool ?_
 refine br_t (by first | rfl | assumption) ?_
 refine Ev.p ?_
 refine ⟨μ6, (Sub.new ha).trans (Sub.new hb), h x dx kn nu _ ⟨I6.hx, I6.hd, I6.m1, I6.m2, I6.ne⟩ hs6 hk⟩
end
noncomputable def EvF (C : Cx) (A : Around) (env : Env) (t : Sem Value) (ρ : Str → Option D) (μ : Mem) (Q : D → Mem → Prop) : Prop :=
 ∀ s, Ok C s μ → FrameOk C s.heap μ env ρ → wpAny (model C.prog C.w) A t (fun v s' => ∃ d μ', Rep C.B s'.heap v d ∧ Ok C s' μ' ∧ FrameOk C s'.heap μ' env ρ ∧ StepF env s μ s' μ' ∧ Q d μ') No s
section
variable {C : Cx} {A : Around} {env : Env} {ρ : Str → Option D} {μ : Mem} {Q : D → Mem → Prop} {X : Xp}
theorem EvF.and2 {x y : Expr} {pos : Pos} (h : EvF C A env (eval x env) ρ μ fun d μ1 => Tru C A d μ1 fun b μ2 => Br' b (Q d μ2) (EvF C A env (eval y env) ρ μ2 Q)) : EvF C A env (eval (.BoolOp .And [x, y] pos) env) ρ μ Q := by
 intro s k F
 refine wpAny_And2 (wpAny_mono (h s k F) ?_ fun _ _ x => x)
 rintro v s1 ⟨d, μ1, r1, k1, F1, t1, h1⟩
 refine wpAny_mono (h1 s1 v k1 r1) ?_ fun _ _ x => x
 rintro b s2 ⟨μ2, k2, t2, h2, h3⟩
 have F2 := F1.step t2 k1
 have tt := t1.trans (t2.f env)
 cases b with
 | false => exact ⟨d, μ2, t2.rep k1 r1, k2, F2, tt, h2 rfl⟩
 | true =>
  refine wpAny_mono (h3 rfl s2 k2 F2) ?_ fun _ _ x => x
  rintro v s3 ⟨d, μ3, r3, k3, F3, t3, q⟩
  exact ⟨d, μ3, r3, k3, F3, tt.trans t3, q⟩
theorem Ex.retF {Q : Out → (Str → Option D) → Mem → Prop} {e : Expr} {pos : Pos} (h : EvF C A env (eval e env) ρ μ (RetQ Q ρ)) : Ex C A env (exec (.Return (some e) pos) env) ρ μ Q X := by
 intro s k F
 refine wpAny_Return_some (wpAny_mono (h s k F) ?_ fun _ _ x => x.elim)
 rintro v s1 ⟨d, μ1, r, k1, F1, t1, h1⟩
 exact ⟨.ret d, ρ, μ1, .ret r, k1, F1, t1, h1⟩
theorem EvF.call {x : Str} {p pos : Pos} {e : Expr} {rest : List Expr} {fv : Value} (nb : ∀ b, ¬ C.B b)
 (h : Ev C A env (eval (.Name x p) env) ρ μ fun d μ1 => d = .raw fv ∧ Es C A env (spliced (backTo pos (starEach (e :: rest) env))) ρ μ1 fun ds μ2 => ∀ P, slotsP P → μ2 env.locals = none →
  Call C A fv ds (upd μ2 env.locals (.obj P)) fun d μ' => μ' env.locals = some (.obj P) ∧ Q d (del μ' env.locals))
 (hk : keepOk C.K fv = true) (he : starEach (e :: rest) env = (false, eval e env) :: starEach rest env) (hp : (backTo pos (starEach rest env)).any (·.1) = false) :
 EvF C A env (eval (.Call (.Name x p) (e :: rest) [] pos) env) ρ μ Q := by
 intro s k F
 refine wpAny_Call_NameR (wpAny_mono (h s k F) ?_ fun _ _ x => x)
 rintro f s1 ⟨d, μ1, r1, k1, t1, rfl, h1⟩
 (first | (replace r1 := r1.inv; obtain rfl := r1) | (replace r1 := r1.inv; obtain ⟨_, rfl⟩ := r1) | cases r1)
 have h2 := h1 s1 k1 (F.step t1 k)
 rw [he] at h2 ⊢
 refine callWith_of (P := C.K.In) (by show ((false || (backTo pos (starEach rest env)).any (·.1)) || false) = false; rw [hp]; rfl) (keepOk.looks hk) (Calls.evalArgs_plain (wpAny_mono h2 ?_ fun _ _ x => x))
 rintro vs s2 ⟨ds, μ2, r2, k2, t2, h3⟩
 have tt := t1.trans t2
 have F2 := F.step tt k
 obtain ⟨P, hP, kh, back⟩ := k2.hideOwn nb F2
 refine ⟨k2.K, wpAny_mono (h3 P hP F2.free.1 s2 vs kh r2) ?_ fun _ _ x => x⟩
 rintro v s3 ⟨d, μ', r', k', t', hL, hq⟩
 obtain ⟨k5, F5, t5⟩ := back _ _ t' k' hL
 exact ⟨d, _, r', k5, F5, (tt.f env).trans t5, hq⟩
end
noncomputable abbrev tI32 : T := .node (.int false) []
noncomputable def dfl (κ : List (Option T)) : List (Option T) := match κ with
 | [a, b, c, d, e] => [a, b, c, some (d.getD tI32), some (e.getD tI32)]
 | l => l
noncomputable def dflAt (i : Nat) (κ : List (Option T)) : List (Option T) := match κ with
 | [a, b, c, d, e] => [a, b, c, if 4 ≤ i then some (d.getD tI32) else d, if 5 ≤ i then some (e.getD tI32) else e]
 | l => l
section
variable {C : Cx} {A : Around} {env : Env} {ρ : Str → Option D} {μ : Mem} {Q : D → Mem → Prop} {X : Xp}
theorem dint_rep (hC : HK C) : Rep C.B C.h0 (.ref 74) (enc tI32) := by
 have h := C.X 74 _ (by rw [hC]; rfl)
 exact .tup (C.hB 74 _ h) h (.cons (.str _ _) (.cons (.str _ _) .nil))
theorem Ev.dint {pos : Pos} (hC : HK C) (hx : env.kindOf (sS "DEFAULT_INT") = some .globalImplicit) (h : Q (enc tI32) μ) : Ev C A env (eval (.Name (sS "DEFAULT_INT") pos) env) ρ μ Q :=
 Ev.glob (v := .ref 74) (by rw [hC]; rfl) (dint_rep hC) h hx rfl
end
section
variable {C : Cx} {A : Around} {μ : Mem} {Q : D → Mem → Prop}
set_option maxHeartbeats 4000000 in
theorem default_spec {n : Nat} (hC : HK C) (hr : Rm A (n + 1)) {x dx kn nu : Addr} {κ : List (Option T)} (hκ : κ.length = 5) (I : Inf μ x dx kn nu κ) (h : Q .none (upd μ kn (.list ((dfl κ).map slotD)))) : Call C A (.ref 149) [.raw (.ref x)] μ Q := by
 refine Call.def [PySem.Str.ofString "self"] hC hr rfl rfl rfl rfl rfl (by rfl) ?_ rfl (by decide) rfl rfl rfl ?_
 · exact fun s => bind1 fun v0 => BindsTo.of_eq rfl
 intro env A' hs hc hr' hfr hef
 dsimp only at hs hc
 show Ex _ _ _ (execs (_ :: _) _) _ _ _ _
 refine Ex.cons (Ex.for ?_ fun _ => rfl)
 refine Ei.range hr'.hh ?_
 have hm1 := I.m1
 refine Ev.b bv_range ?_ (by assumption) (by rfl) (by assumption) (by rfl) (by decide) (by rfl) (by rfl) (by rfl) (by rfl)
 refine Es.cons ?_
 refine Ev.b bv_len ?_ (by assumption) (by rfl) (by assumption) (by rfl) (by decide) (by rfl) (by rfl) (by rfl) (by rfl)
 refine Es.cons ?_
 refine infA (by assumption) (by exact rfl) (by assumption) (by rfl) (by rfl) (by rfl) (by rfl) (by rfl) (by rfl) (by rfl) ?_
 refine Es.p ?_
 refine Call.lenList (by assumption) (by exact Nat.lt_of_le_of_lt (m := 16777216) (by first | omega | (simp; done) | (simp; omega)) (by decide)) ?_
 refine Es.p ?_
 rw [List.length_map, hκ]
 refine Call.range (n := 5) ?_
 intro r hr0
 refine ⟨r, 5, rfl, upd_self, by decide, ?_⟩
 have hrk : kn ≠ r := ne_mem hm1 hr0
 generalize hμ1 : upd μ r (MO.obj (rangeOf 5)) = μ1
 have hs1 : Sub μ μ1 := by rw [← hμ1]; exact Sub.new hr0
 have I1 := I.mono hs1
 match κ, hκ with
 | [a, b, c, d, e], _ =>
 refine ⟨fun i ρ μ' => ρ (sS "self") = some (.raw (.ref x)) ∧ μ' = upd μ1 kn (.list ((dflAt i [a, b, c, d, e]).map slotD)), ⟨rfl, (upd_same I1.m1).symm⟩, fun B hB hb => ⟨Thru.no, ?_⟩, ?_⟩
 · rintro i dd ρ μ' hd ⟨r1, rfl⟩
   have hi : i < 5 := by
    rcases Nat.lt_or_ge i 5 with q | q
    · exact q
    · rw [List.getElem?_eq_none (by rw [rgs_length]; exact q)] at hd; cases hd
   rw [rgs_get 0 5 i hi] at hd
   cases hd
   refine Asg.name (.inl (kf_local hs rfl)) (fun h9 => by rw [kf_local hs rfl] at h9; cases h9) ?_
   match i, hi with
   | 0, _ =>
    have I2 : Inf (upd μ1 kn (MO.list (List.map slotD (dflAt 0 [a, b, c, d, e])))) x dx kn nu (dflAt 0 [a, b, c, d, e]) := I1.set
    have hn2 := I2.m2
    refine Ex.cons ?_
    refine Ex.ite ?_
    refine Et.and2 ?_
    refine Et.value ?_ (by rfl)
    refine Ev.sub ?_
    refine infA (by assumption) (by assumption) (by assumption) (by rfl) (by rfl) (by rfl) (by rfl) (by rfl) (by rfl) (by rfl) ?_
    refine Ev.p ?_
    refine Get.list (k := _) (d := _) (by assumption) (by rfl) (by decide) ?_
    refine Tru.bool ?_
    refine br_f (by first | rfl | assumption) ?_
    refine br_f (by first | rfl | assumption) ?_
    refine Ex.nil ?_
    refine Ex.nil ?_
    exact ⟨r1, rfl⟩
   | 1, _ =>
    have I2 : Inf (upd μ1 kn (MO.list (List.map slotD (dflAt 1 [a, b, c, d, e])))) x dx kn nu (dflAt 1 [a, b, c, d, e]) := I1.set
    have hn2 := I2.m2
    refine Ex.cons ?_
    refine Ex.ite ?_
    refine Et.and2 ?_
    refine Et.value ?_ (by rfl)
    refine Ev.sub ?_
    refine infA (by assumption) (by assumption) (by assumption) (by rfl) (by rfl) (by rfl) (by rfl) (by rfl) (by rfl) (by rfl) ?_
    refine Ev.p ?_
    refine Get.list (k := _) (d := _) (by assumption) (by rfl) (by decide) ?_
    refine Tru.bool ?_
    refine br_f (by first | rfl | assumption) ?_
    refine br_f (by first | rfl | assumption) ?_
    refine Ex.nil ?_
    refine Ex.nil ?_
    exact ⟨r1, rfl⟩
   | 2, _ =>
    have I2 : Inf (upd μ1 kn (MO.list (List.map slotD (dflAt 2 [a, b, c, d, e])))) x dx kn nu (dflAt 2 [a, b, c, d, e]) := I1.set
    have hn2 := I2.m2
    refine Ex.cons ?_
    refine Ex.ite ?_
    refine Et.and2 ?_
    refine Et.value ?_ (by rfl)
    refine Ev.sub ?_
    refine infA (by assumption) (by assumption) (by assumption) (by rfl) (by rfl) (by rfl) (by rfl) (by rfl) (by rfl) (by rfl) ?_
    refine Ev.p ?_
    refine Get.list (k := _) (d := _) (by assumption) (by rfl) (by decide) ?_
    refine Tru.bool ?_
    refine br_f (by first | rfl | assumption) ?_
    refine br_f (by first | rfl | assumption) ?_
    refine Ex.nil ?_
    refine Ex.nil ?_
    exact ⟨r1, rfl⟩
   | 3, _ =>
    have I2 : Inf (upd μ1 kn (MO.list (List.map slotD (dflAt 3 [a, b, c, d, e])))) x dx kn nu (dflAt 3 [a, b, c, d, e]) := I1.set
    have hn2 := I2.m2
    have hk2 := I2.m1
    refine Ex.cons ?_
    refine Ex.ite ?_
    refine Et.and2 ?_
    refine Et.value ?_ (by rfl)
    refine Ev.sub ?_
    refine infA (by assumption) (by assumption) (by assumption) (by rfl) (by rfl) (by rfl) (by rfl) (by rfl) (by rfl) (by rfl) ?_
    refine Ev.p ?_
    refine Get.list (k := _) (d := _) (by assumption) (by rfl) (by decide) ?_
    refine Tru.bool ?_
    refine br_t (by first | rfl | assumption) ?_
    refine Et.cmp ?_
    refine Ev.sub ?_
    refine infA (by assumption) (by assumption) (by assumption) (by rfl) (by rfl) (by rfl) (by rfl) (by rfl) (by rfl) (by rfl) ?_
    refine Ev.p ?_
    refine Get.list (k := _) (d := _) (by assumption) (by rfl) (by decide) ?_
    refine Ev.p ?_
    refine Cmp.isNone ?_
    refine Tru.bool ?_
    refine ⟨fun e1 => ?_, fun e1 => ?_⟩
    · have e2 : d = none := by
       rw [slot_none] at e1
       exact Option.isNone_iff_eq_none.mp e1
      subst e2
      refine Ex.cons ?_
      refine Ex.assignSub ?_ (by rfl)
      refine Ev.dint (by assumption) (by exact kf_local (by assumption) (by rfl)) ?_
      refine infA (by assumption) (by assumption) (by assumption) (by rfl) (by rfl) (by rfl) (by rfl) (by rfl) (by rfl) (by rfl) ?_
      refine Ev.p ?_
      refine SetI.at (i := 3) hk2 (show _ < 5 by decide) (Nat.le_refl 5) ?_
      refine Ex.nil ?_
      refine Ex.nil ?_
      refine ⟨r1, ?_⟩
      rw [upd_upd]; rfl
    · obtain ⟨t, e2⟩ : ∃ t, d = some t := by
       cases d with
       | some t => exact ⟨t, rfl⟩
       | none => cases e1
      subst e2
      refine Ex.nil ?_
      refine Ex.nil ?_
      exact ⟨r1, rfl⟩
   | 4, _ =>
    have I2 : Inf (upd μ1 kn (MO.list (List.map slotD (dflAt 4 [a, b, c, d, e])))) x dx kn nu (dflAt 4 [a, b, c, d, e]) := I1.set
    have hn2 := I2.m2
    have hk2 := I2.m1
    refine Ex.cons ?_
    refine Ex.ite ?_
    refine Et.and2 ?_
    refine Et.value ?_ (by rfl)
    refine Ev.sub ?_
    refine infA (by assumption) (by assumption) (by assumption) (by rfl) (by rfl) (by rfl) (by rfl) (by rfl) (by rfl) (by rfl) ?_
    refine Ev.p ?_
    refine Get.list (k := _) (d := _) (by assumption) (by rfl) (by decide) ?_
    refine Tru.bool ?_
    refine br_t (by first | rfl | assumption) ?_
    refine Et.cmp ?_
    refine Ev.sub ?_
    refine infA (by assumption) (by assumption) (by assumption) (by rfl) (by rfl) (by rfl) (by rfl) (by rfl) (by rfl) (by rfl) ?_
    refine Ev.p ?_
    refine Get.list (k := _) (d := _) (by assumption) (by rfl) (by decide) ?_
    refine Ev.p ?_
    refine Cmp.isNone ?_
    refine Tru.bool ?_
    refine ⟨fun e1 => ?_, fun e1 => ?_⟩
    · have e2 : e = none := by
       rw [slot_none] at e1
       exact Option.isNone_iff_eq_none.mp e1
      subst e2
      refine Ex.cons ?_
      refine Ex.assignSub ?_ (by rfl)
      refine Ev.dint (by assumption) (by exact kf_local (by assumption) (by rfl)) ?_
      refine infA (by assumption) (by assumption) (by assumption) (by rfl) (by rfl) (by rfl) (by rfl) (by rfl) (by rfl) (by rfl) ?_
      refine Ev.p ?_
      refine SetI.at (i := 4) hk2 (show _ < 5 by decide) (Nat.le_refl 5) ?_
      refine Ex.nil ?_
      refine Ex.nil ?_
      refine ⟨r1, ?_⟩
      rw [upd_upd]; rfl
    · obtain ⟨t, e2⟩ : ∃ t, e = some t := by
       cases e with
       | some t => exact ⟨t, rfl⟩
       | none => cases e1
      subst e2
      refine Ex.nil ?_
      refine Ex.nil ?_
      exact ⟨r1, rfl⟩
 · rintro ρ μ' ⟨r1, rfl⟩
   rw [rest_self]
   refine ⟨upd μ kn (MO.list ((dfl [a, b, c, d, e]).map slotD)), ?_, ?_⟩
   · exact Sub.both hs1 _ _
   · refine Ex.nil ?_
     exact ⟨_, Sub.refl _, h⟩
end
noncomputable def pre (α : List T) (i : Nat) (t : T) : T := ((unks.zip α).take i).foldl (fun t p => T.put p.1 p.2 t) t
noncomputable abbrev putAll (α : List T) (t : T) : T := pre α 5 t
noncomputable def Fine (t : T) : Prop := t.wf ∧ t.hgt < 550
noncomputable def Side (α : List T) (t : T) : Prop := ∀ i, i ≤ 5 → Fine (pre α i t)
inductive SRun : List T → List (T × T) → Option (List T) → Nat → Prop
 | done {α : List T} : SRun α [] (some α) 0
 | skip {α : List T} {l : List (T × T)} {a b : T} {n : Nat} {r : Option (List T)} : Side α a → Side α b → putAll α a = putAll α b → SRun α l r n → SRun α (l ++ [(a, b)]) r (n + 1)
 | bind {α : List T} {l : List (T × T)} {a b u v : T} {n : Nat} {r : Option (List T)} : Side α a → Side α b → putAll α a ≠ putAll α b → ((putAll α a).hd.idx.isSome || (putAll α b).hd.idx.isSome) = true → T.bound (putAll α a) (putAll α b) = some (u, v) →
  (∀ t ∈ α, Fine t) → u.wf → u.hgt ≤ 1 → SRun (α.map (T.put u v)) l r n → SRun α (l ++ [(a, b)]) r (n + 1)
 | fail {α : List T} {l : List (T × T)} {a b : T} : Side α a → Side α b → putAll α a ≠ putAll α b → ((putAll α a).hd.idx.isSome || (putAll α b).hd.idx.isSome) = true → T.bound (putAll α a) (putAll α b) = none → SRun α (l ++ [(a, b)]) none 0
 | split {α : List T} {l : List (T × T)} {a b : T} {n : Nat} {r : Option (List T)} : Side α a → Side α b → putAll α a ≠ putAll α b → ((putAll α a).hd.idx.isSome || (putAll α b).hd.idx.isSome) = false → isAlike (putAll α a) (putAll α b) = true → l.length ≤ 2 ^ 20 →
  SRun α (l ++ (putAll α a).ch.zip (putAll α b).ch) r n → SRun α (l ++ [(a, b)]) r (n + 1)
 | clash {α : List T} {l : List (T × T)} {a b : T} : Side α a → Side α b → putAll α a ≠ putAll α b → ((putAll α a).hd.idx.isSome || (putAll α b).hd.idx.isSome) = false → isAlike (putAll α a) (putAll α b) = false → SRun α (l ++ [(a, b)]) none 0
noncomputable def headT (t : T) : T := .node t.hd (t.ch.map fun _ => .node .bool [])
theorem headT_wf {t : T} (h : t.wf) : (headT t).wf := by
 obtain ⟨hh, ch⟩ := t
 refine ⟨by simpa [headT] using h.1, (wfs_iff _).mpr fun c hc => ?_⟩
 obtain ⟨_, _, rfl⟩ := List.mem_map.mp hc
 exact ⟨rfl, trivial⟩
theorem headT_hgt (t : T) : (headT t).hgt ≤ 1 := by
 unfold headT
 refine hgts_le fun c hc => ?_
 obtain ⟨_, _, rfl⟩ := List.mem_map.mp hc
 simp [T.hgt, T.hgts]
theorem headT_eq (t u : T) : decide (headT t = headT u) = isAlike t u := by
 unfold headT isAlike
 rw [dnode]
 congr 1
 rw [Bool.eq_iff_iff]; simp only [decide_eq_true_eq]
 constructor
 · intro h; have := congrArg List.length h; simpa using this
 · intro h
   exact List.ext_getElem (by simpa using h) fun i h1 h2 => by simp
theorem isIdx (h : Hd) : h.idx.isSome = (h.isVar || h.isIv) := by cases h <;> rfl
noncomputable def unkT (i : Nat) : T := if i < 3 then .node (.var i) [] else .node (.ivar i) []
theorem unks_at : ∀ {i : Nat}, i < 5 → unks[i]? = some (unkT i)
 | 0, _ => rfl
 | 1, _ => rfl
 | 2, _ => rfl
 | 3, _ => rfl
 | 4, _ => rfl
 | i + 5, h => absurd h (by omega)
theorem pre_succ {α : List T} {i : Nat} (hi : i < 5) {v : T} (hv : α[i]? = some v) (t : T) : pre α (i + 1) t = T.put (unkT i) v (pre α i t) := by
 have hz : (unks.zip α)[i]? = some (unkT i, v) := List.getElem?_zip_eq_some.mpr ⟨unks_at hi, hv⟩
 unfold pre
 rw [List.take_add_one, hz, List.foldl_append]; rfl
inductive SCase (α : List T) (l : List (T × T)) (r : Option (List T)) (n : Nat) (c d : T) : Prop
 | skip {k : Nat} : c = d → k < n → SRun α l r k → SCase α l r n c d
 | bind {u v : T} {k : Nat} : c ≠ d → (c.hd.idx.isSome || d.hd.idx.isSome) = true → T.bound c d = some (u, v) → (∀ t ∈ α, Fine t) → u.wf → u.hgt ≤ 1 → k < n → SRun (α.map (T.put u v)) l r k → SCase α l r n c d
 | fail : c ≠ d → (c.hd.idx.isSome || d.hd.idx.isSome) = true → T.bound c d = none → r = none → SCase α l r n c d
 | split {k : Nat} : c ≠ d → (c.hd.idx.isSome || d.hd.idx.isSome) = false → isAlike c d = true → l.length ≤ 2 ^ 20 → k < n → SRun α (l ++ c.ch.zip d.ch) r k → SCase α l r n c d
 | clash : c ≠ d → (c.hd.idx.isSome || d.hd.idx.isSome) = false → isAlike c d = false → r = none → SCase α l r n c d
inductive SAny (α : List T) (L : List (T × T)) (r : Option (List T)) (n : Nat) : Prop
 | nil : L = [] → r = some α → SAny α L r n
 | more {l : List (T × T)} {a b : T} : L = l ++ [(a, b)] → Side α a → Side α b → SCase α l r n (putAll α a) (putAll α b) → SAny α L r n
theorem SRun.any {α : List T} {L : List (T × T)} {r : Option (List T)} {n : Nat} (h : SRun α L r n) : SAny α L r n := by
 cases h with
 | done => exact .nil rfl rfl
 | skip h1 h2 h3 h4 => exact .more rfl h1 h2 (.skip h3 (Nat.lt_succ_self _) h4)
 | bind h1 h2 h3 h4 h5 h6 h7 h8 h9 => exact .more rfl h1 h2 (.bind h3 h4 h5 h6 h7 h8 (Nat.lt_succ_self _) h9)
 | fail h1 h2 h3 h4 h5 => exact .more rfl h1 h2 (.fail h3 h4 h5 rfl)
 | split h1 h2 h3 h4 h5 h6 h7 => exact .more rfl h1 h2 (.split h3 h4 h5 h6 (Nat.lt_succ_self _) h7)
 | clash h1 h2 h3 h4 h5 => exact .more rfl h1 h2 (.clash h3 h4 h5 rfl)
theorem SRun.inv {α : List T} {l : List (T × T)} {a b : T} {n : Nat} {r : Option (List T)} (h : SRun α (l ++ [(a, b)]) r n) : Side α a ∧ Side α b ∧ SCase α l r n (putAll α a) (putAll α b) := by
 cases h.any with
 | nil e => exact (List.append_ne_nil_of_right_ne_nil _ (List.cons_ne_nil _ _) e).elim
 | more e h1 h2 h3 => obtain ⟨rfl, e2⟩ := List.append_inj' e rfl; cases e2; exact ⟨h1, h2, h3⟩
theorem SRun.nil {α : List T} {n : Nat} {r : Option (List T)} (h : SRun α [] r n) : r = some α := by
 cases h.any with
 | nil _ e => exact e
 | more e => exact (List.append_ne_nil_of_right_ne_nil _ (List.cons_ne_nil _ _) e.symm).elim
theorem cont_var (h h' : Hd) : [kds h, kds h'].contains (PySem.Str.ofString "var") = (h.isVar || h'.isVar) := by cases h <;> cases h' <;> rfl
theorem cont_iv (h h' : Hd) : [kds h, kds h'].contains (PySem.Str.ofString "intvar") = (h.isIv || h'.isIv) := by cases h <;> cases h' <;> rfl
section
variable {C : Cx} {A : Around} {env : Env} {ρ : Str → Option D} {μ : Mem} {X : Xp}
theorem Et.orP {x y : Expr} {pos : Pos} {Q : Bool → Mem → Prop} {whole : Sem Value} (b1 b2 : Bool) (h1 : Et C A env (isTrue x env (eval x env)) ρ μ fun b μ1 => b = b1 ∧ μ1 = μ) (h2 : Et C A env (isTrue y env (eval y env)) ρ μ fun b μ1 => b = b2 ∧ μ1 = μ)
 (h : Q (b1 || b2) μ) : Et C A env (isTrue (.BoolOp .Or [x, y] pos) env whole) ρ μ Q := by
 refine Et.or2 fun s k F => wpAny_mono (h1 s k F) ?_ fun _ _ x => x
 rintro b s' ⟨μ1, k1, t1, rfl, rfl⟩
 refine ⟨μ1, k1, t1, fun e => ?_, fun e => ?_⟩
 · subst e
   intro s k F
   refine wpAny_mono (h2 s k F) ?_ fun _ _ x => x
   rintro b s2 ⟨μ2, k2, t2, e1, e2⟩
   subst e1 e2
   exact ⟨_, k2, t2, by simpa using h⟩
 · rw [e, Bool.true_or] at h; exact h
end
section
variable {C : Cx} {A : Around} {μ : Mem} {Q : D → Mem → Prop}
set_option maxHeartbeats 4000000 in
theorem refused_spec {n : Nat} (hC : HK C) (nb : ∀ b, ¬ C.B b) (hr : Rm A (n + 130)) {outer : List Env} (hfrA : A.frames = some outer) (fm : FrM outer μ) {t u : T} {r : Option (List (Option T))} {m : Nat} (hrun : URun [none, none, none, none, none] [(t, u)] r m)
 (h : Q (.bool r.isNone) μ) : Call C A (.ref 247) [enc t, enc u] μ Q := by
 refine Call.def [PySem.Str.ofString "one", PySem.Str.ofString "other"] hC hr rfl rfl rfl rfl rfl (by rfl) ?_ rfl (by decide) rfl rfl rfl ?_
 · exact fun s => bind2 fun v0 v1 => BindsTo.of_eq rfl
 intro env A' hs hc hr' hfr hef
 dsimp only at hs hc
 show Ex _ _ _ (execs (_ :: _) _) _ _ _ _
 have hfr2 : A'.frames = some (env :: outer) := by rw [hfr, hfrA]; rfl
 refine Ex.aC ?_ (by assumption) (by rfl) (by rfl)
 refine Ev.callG0 (by assumption) (by rfl) (by exact kf_local (by assumption) (by rfl)) (by rfl) (by rfl) ?_
 refine begun_spec (n := n) hC (by exact Rm.ad (by assumption) rfl) ?_
 intro x dx kn nu μ1 I hs1 hk
 refine Ex.cons (Ex.try (μ0 := μ) (R := fun ρ => ρ = bnd (args [sS "one", sS "other"] [enc t, enc u]) (sS "found") (.raw (.ref x)) ∧ r = none) (excCls hC) nb hfr2 hef fm ?_ ?_)
 · refine Ex.cons (Ex.exprG (G := r = none) (Cl := 45) (pl := _) nb hfr2 hef fm ?_ rfl rfl rfl (interactive_of hs rfl) rfl)
   refine Ev.p ?_
   refine infM (by assumption) (by assumption) (by rfl) (by rfl) (by rfl) (by rfl) (by rfl) ?_
   refine Es.p ?_
   refine ⟨hs1, fun P hP hL hfm => ?_⟩
   have hLk : kn ≠ env.locals := fun e => by rw [← e, I.m1] at hL; cases hL
   refine unify_spec (n := n) hC nb (by exact Rm.ad (by assumption) rfl) hfr2 hfm (Sub.both hs1 _ _) (by rw [upd_other hLk]; exact hk) rfl (I.mono (Sub.new hL)) hrun ?_
   intro κ' e1 e2
   refine ⟨(upd_other hLk.symm).trans upd_self, ?_⟩
   rw [del_upd hL hLk]
   refine Ex.nil ?_
   refine Ex.retC ?_ (by with_unfolding_all rfl)
   rw [e1] at h
   exact ⟨_, Sub.other hs1 hk, h⟩
 · rintro e ρ1 μ2 ⟨rfl, hr0⟩ hx
   refine Ev.gfn hC rfl (kf_local hs rfl) rfl ⟨rfl, hx, ?_⟩
   refine Ex.retC ?_ (by with_unfolding_all rfl)
   rw [hr0] at h
   exact ⟨_, hx.1, h⟩
end
section
inductive SoJ (aa0 : Addr) (μ : Mem) (r : Option (List T)) (m : Nat) (ρ : Str → Option D) (μ' : Mem) : Prop
 | mk (w aa : Addr) (α : List T) (l : List (T × T)) (hfr : aa = aa0 ∨ μ aa = none) (r1 : ρ (sS "waiting") = some (.raw (.ref w))) (r2 : ρ (sS "answer") = some (.raw (.ref aa))) (hs : Sub μ μ') (hw : μ w = none) (hwa : w ≠ aa) (hmw : μ' w = some (.list (pairs l))) (hma : μ' aa = some (.list (encs α))) (hα : α.length = 5) (hl : l.length ≤ 2 ^ 21) (h : SRun α l r m)
inductive SoI (w aa : Addr) (α : List T) (p1 p2 : T) (μ3 : Mem) (i : Nat) (ρ : Str → Option D) (μ' : Mem) : Prop
 | mk (q1 : ρ (sS "waiting") = some (.raw (.ref w))) (q2 : ρ (sS "answer") = some (.raw (.ref aa))) (q3 : ρ (sS "one") = some (enc (pre α i p1))) (q4 : ρ (sS "other") = some (enc (pre α i p2))) (e : μ' = μ3)
theorem unkT_wf0 (i : Nat) : (unkT i).wf ∧ (unkT i).hgt ≤ 1 := by unfold unkT; split <;> exact ⟨⟨rfl, trivial⟩, by simp [T.hgt, T.hgts]⟩
theorem enc_unkT {i : Nat} : enc (unkT i) = .tup [.str (if i < 3 then PySem.Str.ofString "var" else PySem.Str.ofString "intvar"), .int (i : Int)] := by unfold unkT; split <;> rfl
set_option maxHeartbeats 4000000 in
theorem solved_spec {C : Cx} {A : Around} {μ : Mem} {Q : D → Mem → Prop} {n : Nat} (hC : HK C) (hr : Rm A (n + 560)) {aa : Addr} {α : List T} (hα : α.length = 5) (hm : μ aa = some (.list (encs α))) {a b : T} {r : Option (List T)} {m : Nat} (hrun : SRun α [(a, b)] r m)
 (h0 : r = none → Q .none μ) (h : ∀ a' α' μ', r = some α' → α'.length = 5 → (a' = aa ∨ μ a' = none) → Sub μ μ' → μ' a' = some (.list (encs α')) → Q (.raw (.ref a')) μ') : Call C A (.ref 221) [.raw (.ref aa), .tup [enc a, enc b]] μ Q := by
 refine Call.def [PySem.Str.ofString "answer", PySem.Str.ofString "pair"] hC hr rfl rfl rfl rfl rfl (by rfl) ?_ rfl (by decide) rfl rfl rfl ?_
 · exact fun s => bind2 fun v0 v1 => BindsTo.of_eq rfl
 intro env A' hs hc hr' hfr hef
 dsimp only at hs hc
 show Ex _ _ _ (execs (_ :: _) _) _ _ _ _
 refine Ex.aC ?_ (by assumption) (by rfl) (by rfl)
 refine Ev.list ?_
 refine Es.p ?_
 refine sz_and (by (show _ ≤ 16777216; simp; done)) ?_
 intro w0 hw0
 refine Ex.cons ?_
 refine Ex.while (SoJ aa μ r) m ?_ Thru.no ?_
 · exact ⟨w0, aa, α, [(a, b)], .inl rfl, rfl, rfl, Sub.new hw0, hw0, (ne_mem hm hw0).symm, upd_self, by (refine Eq.trans (upd_other ?_) ?_; (exact ne_mem (by assumption) (by assumption)); assumption), hα, by simp, hrun⟩
 rintro m ρ μ1 ⟨w, aa, α, l, hfr0, r1, r2, hs1, hw, hwa, hmw, hma, hα, hl, hrun⟩
 refine Et.cmp ?_
 refine Ev.n ?_ (by assumption) (by rfl) (by rfl)
 refine Ev.list ?_
 refine Es.p ?_
 refine sz_and (by (show _ ≤ 16777216; simp; done)) ?_
 intro c hc1
 refine Cmp.neNilD hr' (xs := pairs l) (by (refine Eq.trans (upd_other ?_) ?_; (exact ne_mem (by assumption) (by assumption)); assumption)) upd_self (pairs_ok l) ?_
 refine Tru.bool ?_
 refine ⟨fun e => ?_, fun e => ?_⟩
 · have hl0 : l = [] := by unfold pairs at e; simpa using e
   subst hl0
   refine Ex.retE ?_
   refine Ev.n ?_ (by assumption) (by rfl) (by rfl)
   exact ⟨μ1, by exact Sub.new (by assumption), h aa α μ1 hrun.nil hα hfr0 hs1 hma⟩
 refine Ex.forget (Sub.new hc1) ?_
 have hl0 : l ≠ [] := fun q => by rw [q] at e; cases e
 obtain ⟨l, ⟨p1, p2⟩, rfl⟩ : ∃ l' p, l = l' ++ [p] := ⟨l.dropLast, l.getLast hl0, (List.dropLast_concat_getLast hl0).symm⟩
 rw [pairs_snoc] at hmw
 have hl2 : l.length ≤ 2 ^ 21 := by simp at hl; omega
 have hlen : (pairs l).length ≤ 2 ^ 21 := by rw [pairs_len]; exact hl2
 refine Ex.cons ?_
 refine Ex.assignTup ?_ (by rfl) (by first | rfl | exact scope_ind (by assumption) (P := fun e => swappedStores _ _ e = pure none) (fun e he => by cases e; cases he; rfl))
 refine Ev.meth0 (pl := _) ?_ (by rfl)
 refine Ev.n ?_ (by assumption) (by rfl) (by rfl)
 refine listPop (by assumption) ?_
 refine Call.pop (by assumption) (by (show _ ≤ 16777216); omega) ?_
 refine Asg.tuple (Rm.hh (by assumption)) (by rfl) (by rfl) ?_
 refine Assigns.cons ?_ (by rfl)
 refine Asg.name (Or.inl (kf_local (by assumption) (by rfl))) (kc_loc (by assumption) (by rfl)) ?_
 refine Assigns.cons ?_ (by rfl)
 refine Asg.name (Or.inl (kf_local (by assumption) (by rfl))) (kc_loc (by assumption) (by rfl)) ?_
 refine Assigns.nil ?_
 refine Ex.cons ?_
 obtain ⟨sd1, sd2, hcase⟩ := hrun.inv
 refine Ex.for ?_ fun _ => rfl
 refine Ei.range hr'.hh ?_
 refine Ev.b bv_range ?_ (by assumption) (by rfl) (by assumption) (by rfl) (by decide) (by rfl) (by rfl) (by rfl) (by rfl)
 refine Es.p ?_
 refine Call.range (n := 5) ?_
 intro rg hrg
 refine ⟨rg, 5, rfl, upd_self, by decide, ?_⟩
 generalize hμ2 : upd μ1 w (MO.list (pairs l)) = μ2 at hrg
 have hma2 : μ2 aa = some (.list (encs α)) := by rw [← hμ2]; exact (upd_other hwa.symm).trans hma
 have hmw2 : μ2 w = some (.list (pairs l)) := by rw [← hμ2]; exact upd_self
 have hs2 : Sub μ μ2 := by rw [← hμ2]; exact Sub.other hs1 hw
 have hsr : Sub μ2 (upd μ2 rg (MO.obj (rangeOf 5))) := Sub.new hrg
 clear hrun e hl0 hl
 generalize hμ3 : upd μ2 rg (MO.obj (rangeOf 5)) = μ3 at hsr
 have hma3 := hsr _ _ hma2
 refine ⟨SoI w aa α p1 p2 μ3, ⟨r1, r2, rfl, rfl, rfl⟩, fun B hB hb => ⟨Thru.no, ?_⟩, ?_⟩
 · rintro i dd ρ2 μ' hd ⟨q1, q2, q3, q4, rfl⟩
   have hi : i < 5 := by
    rcases Nat.lt_or_ge i 5 with q | q
    · exact q
    · rw [List.getElem?_eq_none (by rw [rgs_length]; exact q)] at hd; cases hd
   rw [rgs_get 0 5 i hi] at hd
   cases hd
   have f1 := sd1 i (Nat.le_of_lt hi)
   have f2 := sd2 i (Nat.le_of_lt hi)
   obtain ⟨v, hv⟩ : ∃ v, α[i]? = some v := ⟨_, List.getElem?_eq_getElem (by omega)⟩
   have hget : (encs α)[0 + i]? = some (enc v) := by rw [Nat.zero_add]; rw [encs_eq, List.getElem?_map, hv]; rfl
   have hk62 : 0 + i < 2 ^ 62 := by omega
   obtain ⟨wu, zu⟩ := unkT_wf0 i
   refine Asg.name (.inl (kf_local hs rfl)) (fun h9 => by rw [kf_local hs rfl] at h9; cases h9) ?_
   refine Ex.cons (Ex.assign (Ev.mono (Q := fun d μ1 => d = enc (unkT i) ∧ μ1 = μ') ?_ ?_) (.inl (kf_local hs rfl)) (fun h9 => by rw [kf_local hs rfl] at h9; cases h9) rfl)
   · refine Ev.tuple ?_
     refine Es.cons ?_
     refine Ev.ip ?_ (by with_unfolding_all rfl)
     rw [enc_unkT]
     refine ⟨fun e3 => ?_, fun e3 => ?_⟩
     · refine Ev.p ?_
       refine Es.p ?_
       refine sz_and (by (show _ ≤ 16777216; simp; done)) ?_
       exact ⟨by rw [if_pos (by have := of_decide_eq_true e3; omega), Int.zero_add], rfl⟩
     · refine Ev.p ?_
       refine Es.p ?_
       refine sz_and (by (show _ ≤ 16777216; simp; done)) ?_
       exact ⟨by rw [if_neg (by have := of_decide_eq_false e3; omega), Int.zero_add], rfl⟩
   rintro _ _ ⟨rfl, rfl⟩
   refine Ex.cons ?_
   refine Ex.assignSwap [sS "one", sS "other"] hr'.hh ?_ ?_ rfl ?_
   rotate_left
   · intro n hn
     simp only [List.mem_cons, List.not_mem_nil, or_false] at hn
     rcases hn with rfl | rfl <;> exact kf_local hs rfl
   · exact scope_ind hs (P := fun e => swappedStores _ _ e = pure (some _)) fun e he => by cases e; cases he; rfl
   refine Ev.tuple ?_
   refine Es.cons ?_
   refine Ev.g ?_ (by assumption) (by rfl) (by assumption) (by rfl) (by rfl) (by rfl) (by rfl) (by rfl)
   refine Es.cons ?_
   refine Ev.n ?_ (by assumption) (by rfl) (by rfl)
   refine Es.cons ?_
   refine Ev.p ?_
   refine Es.cons ?_
   refine Ev.sub ?_
   refine Ev.n ?_ (by assumption) (by rfl) (by rfl)
   refine Ev.p ?_
   refine Get.list hma3 hget hk62 ?_
   refine Es.p ?_
   refine law_put_spec (unkT i) v wu zu (n := 550) (C := C.ban B hB) hC (by exact Rm.le (by assumption) (by omega)) (pre α i p1) f1.1 f1.2 ?_
   refine Es.cons ?_
   refine Ev.g ?_ (by assumption) (by rfl) (by assumption) (by rfl) (by rfl) (by rfl) (by rfl) (by rfl)
   refine Es.cons ?_
   refine Ev.n ?_ (by assumption) (by rfl) (by rfl)
   refine Es.cons ?_
   refine Ev.p ?_
   refine Es.cons ?_
   refine Ev.sub ?_
   refine Ev.n ?_ (by assumption) (by rfl) (by rfl)
   refine Ev.p ?_
   refine Get.list hma3 hget hk62 ?_
   refine Es.p ?_
   refine law_put_spec (unkT i) v wu zu (n := 550) (C := C.ban B hB) hC (by exact Rm.le (by assumption) (by omega)) (pre α i p2) f2.1 f2.2 ?_
   refine Es.p ?_
   refine sz_and (by (show _ ≤ 16777216; simp; done)) ?_
   refine ⟨_, rfl, rfl, ?_⟩
   rw [← pre_succ hi hv, ← pre_succ hi hv]
   refine Ex.nil ?_
   exact ⟨q1, q2, rfl, rfl, rfl⟩
 rintro ρ2 μ' ⟨q1, q2, q3, q4, rfl⟩
 rw [rest_self]
 refine ⟨μ2, hsr, ?_⟩
 rw [rgs_length] at q3 q4
 have fc := sd1 5 (Nat.le_refl _)
 have fd := sd2 5 (Nat.le_refl _)
 simp only [putAll] at hcase
 generalize pre α 5 p1 = c at q3 fc hcase
 generalize pre α 5 p2 = d at q4 fd hcase
 obtain ⟨wc, zc⟩ := fc
 obtain ⟨wd, zd⟩ := fd
 have hz1 : min c.hgt d.hgt ≤ 1400 := by omega
 have hor : (c.hd.isVar || d.hd.isVar || (c.hd.isIv || d.hd.isIv)) = (c.hd.idx.isSome || d.hd.idx.isSome) := by
  rw [isIdx, isIdx]
  cases c.hd.isVar <;> cases d.hd.isVar <;> cases c.hd.isIv <;> cases d.hd.isIv <;> rfl
 clear hsr hma3 sd1 sd2 hμ3
 refine Ex.cons ?_
 refine Ex.ite ?_
 refine Et.cmp ?_
 refine Ev.n ?_ (by assumption) (by rfl) (by rfl)
 refine Ev.n ?_ (by assumption) (by rfl) (by rfl)
 refine Cmp.eqT (by assumption) (by assumption) (by assumption) (by first | assumption | omega) ?_
 refine Tru.bool ?_
 refine ⟨fun g1 => ?_, fun g1 => ?_⟩
 · have g1 := of_decide_eq_true g1
   refine Ex.cons ?_
   refine Ex.cont ?_
   cases hcase with
   | skip _ hk g2 => exact ⟨_, hk, w, aa, α, l, hfr0, q1, q2, hs2, hw, hwa, hmw2, hma2, hα, hl2, g2⟩
   | bind h | fail h | split h | clash h => exact absurd g1 h
 have g1 := of_decide_eq_false g1
 refine Ex.nil ?_
 refine Ex.cons (Ex.ite (Et.orP (c.hd.isVar || d.hd.isVar) (c.hd.isIv || d.hd.isIv) ?_ ?_ ⟨fun g2 => ?_, fun g2 => ?_⟩))
 · refine Et.cmp ?_
   refine Ev.p ?_
   refine Ev.tuple ?_
   refine Es.cons ?_
   refine Ev.sub ?_
   refine Ev.n ?_ (by assumption) (by rfl) (by rfl)
   refine Ev.p ?_
   refine Get.kd ?_
   refine Es.cons ?_
   refine Ev.sub ?_
   refine Ev.n ?_ (by assumption) (by rfl) (by rfl)
   refine Ev.p ?_
   refine Get.kd ?_
   refine Es.p ?_
   refine sz_and (by (show _ ≤ 16777216; simp; done)) ?_
   refine Cmp.in2 (by assumption) (by first | exact kds_ok _ | decide +kernel) (by first | exact kds_ok _ | decide +kernel) (by first | exact kds_ok _ | decide +kernel) ?_
   refine Tru.bool ?_
   exact ⟨cont_var _ _, rfl⟩
 · refine Et.cmp ?_
   refine Ev.p ?_
   refine Ev.tuple ?_
   refine Es.cons ?_
   refine Ev.sub ?_
   refine Ev.n ?_ (by assumption) (by rfl) (by rfl)
   refine Ev.p ?_
   refine Get.kd ?_
   refine Es.cons ?_
   refine Ev.sub ?_
   refine Ev.n ?_ (by assumption) (by rfl) (by rfl)
   refine Ev.p ?_
   refine Get.kd ?_
   refine Es.p ?_
   refine sz_and (by (show _ ≤ 16777216; simp; done)) ?_
   refine Cmp.in2 (by assumption) (by first | exact kds_ok _ | decide +kernel) (by first | exact kds_ok _ | decide +kernel) (by first | exact kds_ok _ | decide +kernel) ?_
   refine Tru.bool ?_
   exact ⟨cont_iv _ _, rfl⟩
 · rw [hor] at g2
   refine Ex.asC ?_ (by exact Or.inr (kf_local (by assumption) (by rfl))) (by (intro h9; refine (show ∀ x : Str, _ → Option.isSome (List.lookup x _) = true by assumption) _ ?_; rfl)) (by first | rfl | exact swaps_comp (by assumption) (by rfl) (by rfl) (by rfl) (by rfl))
   refine Ev.g ?_ (by assumption) (by rfl) (by assumption) (by rfl) (by rfl) (by rfl) (by rfl) (by rfl)
   refine Es.cons ?_
   refine Ev.n ?_ (by assumption) (by rfl) (by rfl)
   refine Es.cons ?_
   refine Ev.n ?_ (by assumption) (by rfl) (by rfl)
   refine Es.p ?_
   refine law_bound_spec hC (n := 550) (by exact Rm.le (by assumption) (by omega)) c d wc wd (by omega) (by omega) ?_
   cases hcase with
   | skip h => exact absurd h g1
   | split _ h | clash _ h => rw [g2] at h; cases h
   | fail _ _ g3 hr0 =>
    rw [g3]
    refine Ex.iteT ?_ (by with_unfolding_all rfl) (by first | rfl | assumption)
    refine Ex.retC ?_ (by with_unfolding_all rfl)
    exact ⟨_, hs2, h0 hr0⟩
   | @bind u v k _ _ g3 g4 g5 g6 hk g7 =>
    rw [g3]
    refine Ex.skipIf ?_ (by with_unfolding_all rfl) (by first | rfl | assumption)
    refine Ex.cons ?_
    refine Ex.aL ?_ (by exact CompScope.of (by assumption) (by assumption) (by rfl) (by rfl) (by rfl) (by rfl)) (by intro _; rfl) (by assumption) (by rfl) (by rfl) (by rfl) (by rfl)
    refine Ei.list hr'.hh ?_
    refine Ev.n ?_ (by assumption) (by rfl) (by rfl)
    refine ⟨aa, encs α, rfl, hma2, ?_⟩
    refine CompGo.mapT (fun t => enc (T.put u v t)) (by rw [hα]; decide) rfl (Sub.hide _ _) ?_ ?_
    · intro B hB hb cenv hce t ht
      refine Ev.callG (by assumption) (by rfl) (by exact CompEnv.names (by assumption) _ _ (by rfl) (by decide)) (by rfl) (by rfl) (by rfl) (by rfl) ?_
      refine Es.p ?_
      have ft := g4 t ht
      exact law_put_spec u v g5 g6 (n := 550) (C := C.ban B hB) hC (by exact Rm.le (by assumption) (by omega)) t ft.1 ft.2 ⟨rfl, Sub.refl _⟩
    intro a' ha'
    refine Ex.nil ?_
    refine Ex.nil ?_
    refine ⟨k, hk, w, a', α.map (T.put u v), l, .inr (hs2.none ha'), q1, rfl, hs2.trans (Sub.new ha'), hw, ne_mem hmw2 ha', (Sub.new ha') _ _ hmw2, ?_, by rw [List.length_map]; exact hα, hl2, g7⟩
    rw [upd_self, encs_eq, List.map_map]; rfl
 rw [hor] at g2
 have w1 : (T.node c.hd (c.ch.map fun _ => .node .bool [])).wf := headT_wf wc
 have w2 : (T.node d.hd (d.ch.map fun _ => .node .bool [])).wf := headT_wf wd
 have hz2 : min (T.node c.hd (c.ch.map fun _ => .node .bool [])).hgt (T.node d.hd (d.ch.map fun _ => .node .bool [])).hgt ≤ 1400 := by have := headT_hgt c; unfold headT at this; omega
 refine Ex.cons ?_
 refine Ex.ite ?_
 refine Et.cmp ?_
 refine Ev.g ?_ (by assumption) (by rfl) (by assumption) (by rfl) (by rfl) (by rfl) (by rfl) (by rfl)
 refine Es.cons ?_
 refine Ev.n ?_ (by assumption) (by rfl) (by rfl)
 refine Es.p ?_
 refine law_head_spec hC (n := 0) (by exact Rm.le (by assumption) (by omega)) c wc ?_
 refine Ev.g ?_ (by assumption) (by rfl) (by assumption) (by rfl) (by rfl) (by rfl) (by rfl) (by rfl)
 refine Es.cons ?_
 refine Ev.n ?_ (by assumption) (by rfl) (by rfl)
 refine Es.p ?_
 refine law_head_spec hC (n := 0) (by exact Rm.le (by assumption) (by omega)) d wd ?_
 refine Cmp.eqT (by assumption) (by assumption) (by assumption) (by first | assumption | omega) ?_
 refine Tru.bool ?_
 refine ⟨fun g3 => ?_, fun g3 => ?_⟩
 · have g3 := (headT_eq c d).symm.trans g3
   cases hcase with
   | skip h => exact absurd h g1
   | bind _ h | fail _ h => rw [g2] at h; cases h
   | clash _ _ h => rw [g3] at h; cases h
   | @split k _ _ _ g4 hk g5 =>
    have hcl : c.ch.length ≤ 2 := by obtain ⟨_, _⟩ := c; exact fits_len wc.1
    have hll : c.ch.length = d.ch.length := by unfold isAlike at g3; simp at g3; exact g3.2
    refine Ex.aC ?_ (by assumption) (by rfl) (by rfl)
    refine Ev.binop ?_
    refine Ev.n ?_ (by assumption) (by rfl) (by rfl)
    refine Ev.listZip (Rm.hh (by assumption)) ?_ (by rfl) (by rfl) (by rfl)
    refine Ev.gbi (by assumption) (by rfl) (by with_reducible exact bv_list) (by exact kf_local (by assumption) (by rfl)) (by decide) (by rfl) ?_
    refine ⟨rfl, ?_⟩
    refine Ev.gbi (by assumption) (by rfl) (by with_reducible exact bv_zip) (by exact kf_local (by assumption) (by rfl)) (by decide) (by rfl) ?_
    refine ⟨rfl, ?_⟩
    refine Es.cons ?_
    refine Ev.g ?_ (by assumption) (by rfl) (by assumption) (by rfl) (by rfl) (by rfl) (by rfl) (by rfl)
    refine Es.cons ?_
    refine Ev.n ?_ (by assumption) (by rfl) (by rfl)
    refine Es.p ?_
    refine law_within_spec (by assumption) (by assumption) _ (by assumption) ?_
    intro z1 hz1'
    refine Es.cons ?_
    refine Ev.g ?_ (by assumption) (by rfl) (by assumption) (by rfl) (by rfl) (by rfl) (by rfl) (by rfl)
    refine Es.cons ?_
    refine Ev.n ?_ (by assumption) (by rfl) (by rfl)
    refine Es.p ?_
    refine law_within_spec (by assumption) (by assumption) _ (by assumption) ?_
    intro z2 hz2'
    refine Es.p ?_
    have hzl : (c.ch.zip d.ch).length ≤ 2 := by rw [List.length_zip]; omega
    refine ⟨encs c.ch, encs d.ch, .inl ⟨z1, z2, rfl, (upd_other (ne_upd hz2')).trans upd_self, upd_self⟩, by rw [encs_len, encs_len, hll], by rw [encs_len]; exact Nat.le_trans hcl (by decide), ?_⟩
    intro z3 hz3'
    rw [zipD_encs]
    have hss : Sub μ2 (upd (upd (upd μ2 z1 (MO.list (encs c.ch))) z2 (MO.list (encs d.ch))) z3 (MO.list (pairs (c.ch.zip d.ch)))) := (Sub.new hz1').trans ((Sub.new hz2').trans (Sub.new hz3'))
    refine Bin.list (xs := pairs l) (ys := pairs (c.ch.zip d.ch)) (hss _ _ hmw2) upd_self (show _ ≤ 16777216 by rw [pairs_len, pairs_len]; omega) ?_
    intro z4 hz4'
    have hn4 := none_upd (none_upd (none_upd hz4'))
    refine Ex.nil ?_
    refine Ex.nil ?_
    refine Ex.nil ?_
    have hss4 := hss.trans (Sub.new (mo := MO.list (pairs l ++ pairs (c.ch.zip d.ch))) hz4')
    refine ⟨k, hk, z4, aa, α, l ++ c.ch.zip d.ch, hfr0, rfl, q2, hs2.trans hss4, hs2.none hn4, (ne_mem hma2 hn4).symm, upd_self.trans (by rw [pairs_app]), hss4 _ _ hma2, hα, by rw [List.length_append]; omega, g5⟩
 · have g3 := (headT_eq c d).symm.trans g3
   refine Ex.retC ?_ (by with_unfolding_all rfl)
   cases hcase with
   | skip h => exact absurd h g1
   | bind _ h | fail _ h => rw [g2] at h; cases h
   | split _ _ h => rw [g3] at h; cases h
   | clash _ _ _ hr0 => exact ⟨_, hs2, h0 hr0⟩
end
noncomputable def mark (wr : List Addr) (μ : Mem) : Mem := fun b => if b ∈ wr then some (.list []) else μ b
theorem mark_in {wr : List Addr} {μ : Mem} {b : Addr} (h : b ∈ wr) : mark wr μ b ≠ none := by unfold mark; rw [if_pos h]; simp
theorem mark_out {wr : List Addr} {μ : Mem} {b : Addr} (h : b ∉ wr) : mark wr μ b = μ b := by unfold mark; rw [if_neg h]
theorem mark_none {wr : List Addr} {μ : Mem} {b : Addr} (h : mark wr μ b = none) : b ∉ wr ∧ μ b = none := by
 by_cases q : b ∈ wr
 · exact absurd h (mark_in q)
 · exact ⟨q, by rwa [mark_out q] at h⟩
section
variable {C : Cx} {A : Around} {env : Env} {ρ : Str → Option D} {μ : Mem} {X : Xp}
theorem FrameOk.move {h h' : Heap} {μ' : Mem} (F : FrameOk C h μ env ρ) (own : ∀ b o, Own env b → h.get? b = some o → h'.get? b = some o) (hm : ∀ b, Own env b → μ' b = none) (tp : ∀ a vs n, ¬ C.B a → IsT h a vs n → IsT h' a vs n) : FrameOk C h' μ' env ρ := by
 obtain ⟨m, hn, hv⟩ := F.ns
 obtain ⟨o, es, ep, ho, r⟩ := id hn
 have cl : ∀ x c v, env.cells.lookup x = some c → h.IsCell c v → h'.IsCell c v := fun y c v hy ⟨oc, hoc, hd⟩ => ⟨oc, own c oc (.inr ⟨y, hy⟩) hoc, hd⟩
 refine ⟨F.kind, F.globals, F.builtins, ⟨hm _ (.inl rfl), F.free.2⟩, ⟨m, ⟨o, es, ep, own _ _ (.inl rfl) ho, r⟩, fun y d hy => ?_⟩, fun y c hy => ?_, F.inj⟩
 · rcases hv y d hy with ⟨h1, v, h2, h3⟩ | ⟨h1, c, v, h2, h3, h4⟩
   · exact .inl ⟨h1, v, h2, h3.mono tp⟩
   · exact .inr ⟨h1, c, v, h2, cl y c _ h2 h3, h4.mono tp⟩
 · obtain ⟨f, g, n, v, hc⟩ := F.cells y c hy
   exact ⟨hm _ (.inr ⟨y, hy⟩), g, n, v, cl y c v hy hc⟩
theorem Ex.letZip {x : Str} {px p pos spos rpos cpos lpos p2 p3 : Pos} {zn : Str} {e1 e2 elt : Expr} {elts : List Expr} {x1} {ifs : List Expr} {scope : Scope} {Q : Out → (Str → Option D) → Mem → Prop} (hh : A.handled = none)
 (h : Ev C A env (eval (.Name zn p) env) ρ μ fun d μ1 => d = .raw (.type "zip") ∧ Es C A env (spliced (backTo pos (starEach [e1, e2] env))) ρ μ1 fun ds μ2 =>
  ∃ a b xs ys, ds = [.raw (.ref a), .raw (.ref b)] ∧ μ2 a = some (.list xs) ∧ μ2 b = some (.list ys) ∧ ∀ z, CompGo C A scope (.Tuple elts x1 p3) elt ifs (bnd ρ x (.raw (.ref z))) (fun acc μ3 => ∀ c, μ3 c = none →
   Ev C A env (eval (.List [] lpos) env) (bnd ρ x (.raw (.ref z))) (upd μ3 c (.list acc)) fun d μ4 => Cmp C A .Eq (.raw (.ref c)) d μ4 fun d μ5 => Q (.ret d) (bnd ρ x (.raw (.ref z))) μ5) (zipD xs ys) (hide (hide μ2 a) b) (hide (hide μ2 a) b))
 (he : starEach (e1 :: [e2]) env = (false, eval e1 env) :: starEach [e2] env) (hp : (backTo pos (starEach [e2] env)).any (·.1) = false)
 (hl : env.kindOf x = some .local) (hd : (x == ("__debug__" : Str)) = false)
 (hs1 : swapsWith (.Call (.Name zn p) [e1, e2] [] pos) (some (.Name x px)) spos.line env = pure false)
 (hfs : ∀ v, foldedSetIterable (.Name x p2) env v = pure v) (S : CompScope scope env) {sp2 : Pos}
 (hm : behindInMarks .Eq (.List [] lpos) = false) :
 Ex C A env (execs [.Assign [.Name x px] (.Call (.Name zn p) [e1, e2] [] pos) spos, .Return (some (.Compare (.ListComp elt [⟨.Tuple elts x1 p3, .Name x p2, ifs, 0⟩] scope sp2) [.Eq] [.List [] lpos] cpos)) rpos] env) ρ μ Q X := by
 intro s k F
 refine wpAny_execs_cons (wpAny_Assign_Name ?_ hs1)
 refine wpAny_mono (Q := fun v s1 => wpAny (model C.prog C.w) A (storeName env x v) (fun _ s3 => wpAny (model C.prog C.w) A (execs [.Return (some (.Compare (.ListComp elt [⟨.Tuple elts x1 p3, .Name x p2, ifs, 0⟩] scope sp2) [.Eq] [.List [] lpos] cpos)) rpos] env) (Px C env s μ Q) (PE C env s μ X) s3) (PE C env s μ X) s1) (E := No) (zip_args k F h (fun s2 vs ds μ2 k2 r2 t2 hQ => ?_) he hp) (fun _ _ x => x) (fun _ _ x => x.elim)
 obtain ⟨a, b, xs, ys, rfl, ha, hb, hP⟩ := hQ
 replace r2 := r2.inv
 obtain ⟨_, _, rfl, ra, r2⟩ := r2
 replace r2 := r2.inv
 obtain ⟨_, _, rfl, rb, r2⟩ := r2
 (first | (replace r2 := r2.inv; obtain rfl := r2) | (replace r2 := r2.inv; obtain ⟨_, rfl⟩ := r2) | cases r2); (first | (replace ra := ra.inv; obtain rfl := ra) | (replace ra := ra.inv; obtain ⟨_, rfl⟩ := ra) | cases ra); (first | (replace rb := rb.inv; obtain rfl := rb) | (replace rb := rb.inv; obtain ⟨_, rfl⟩ := rb) | cases rb)
 obtain ⟨us, n, ua, ra⟩ := k2.mem a _ ha
 obtain ⟨vs, m, ub, rb⟩ := k2.mem b _ hb
 refine call_zip_lists ⟨_, ua, rfl, n, rfl⟩ ⟨_, ub, rfl, m, rfl⟩ fun h' st hsz kp => ?_
 obtain ⟨fp, wr, B, hB, St, W, K, T, F2, hBC, nown, hf⟩ := zipReady hh elts x1 p3 k2 (F.step t2 k) t2 ha hb ua ub ra rb st hsz kp
 have hP := hP (s2.heap.objs.size + 4)
 generalize hz : s2.heap.objs.size + 4 = z at *
 generalize hμh : hide (hide μ2 a) b = μh at *
 refine wpAny_mono (Eu.store (C := C.ban B hB) (Qu := fun ρ' μ' => ρ' = bnd ρ x (.raw (.ref z)) ∧ μ' = μh) W.ok W.fr (.raw (.ref z)) ⟨rfl, rfl⟩ (.inl hl) (fun q => by rw [hl] at q; cases q)) ?_ fun _ _ x => x.elim
 rintro _ s3 ⟨ρ', μ', k3, F3, t3, e1, e2⟩
 rw [e2] at k3 F3 t3
 rw [e1] at F3
 clear e1 e2
 have st3 : St 0 s3.heap := W.it.frame 0 _ _ W.st (fun b hb o ho => by
  obtain ⟨o', ho', d1, d2⟩ := W.it.kind 0 _ W.st b hb
  exact (t3.keep b o ho (W.fpm b hb) (W.fr.kindOwn ho' d1 d2)).2) (fun a vs n nb t => t3.tuple (C := C.ban B hB) W.ok W.fr a vs n t)
 have W3 : IterOk C A env (bnd ρ x (.raw (.ref z))) μh (mark wr μh) s3 s3 z (.Tuple elts x1 p3) fp wr B hB (zipD xs ys) St := ⟨W.it, k3, F3, st3, W.fpm, fun b hb => ⟨fun o ho e => mark_in hb e, (W.wr0 b hb).2⟩⟩
 have T3 : Step s3 (mark wr μh) s3 μh := ⟨rfl, fun b o h1 h2 => ⟨(mark_none h2).2, h1⟩⟩
 refine wpAny_execs_cons (wpAny_Return_some (wpAny_Compare1 ?_ hm))
 rw [eval_ListComp]
 refine wpAny_mono (comp_all (C := C) (env := env) (ρ := bnd ρ x (.raw (.ref z))) (μ := mark wr μh) (use := none) (s := s3) (s0 := s3) (P := fun ds μ1 μh' => ds = zipD xs ys ∧ μ1 = μh ∧ μh' = μh) ?_ hfs S fun ds μ1 μh' hP' => ?_) (fun _ _ x => x) (fun _ _ x => x.elim)
 · obtain ⟨m3, hn3, hv3⟩ := F3.ns
   rcases hv3 x (.raw (.ref z)) (by unfold bnd; rw [if_pos rfl]) with ⟨g1, v, g2, g3⟩ | ⟨g1, _⟩
   · cases g3
     exact wpAny_Name (wpAny_loadName_local F3.kind g1 hn3 g2 (W.it.self 0 s3 _ _ st3 ⟨z, fp, wr, B, hB, _, St, μh, μh, rfl, W3, k3, T3, Sub.refl _, fun b q1 q2 => absurd q1 q2, rfl, rfl, rfl⟩)) hd
   · rw [hl] at g1; rcases g1 with g1 | g1 <;> cases g1
 · obtain ⟨rfl, e1, e2⟩ := hP'
   rw [e1, e2]
   clear e1 e2
   obtain ⟨hz0, J, j0, turn, fin⟩ := hP
   refine ⟨hz0, J, j0, turn, ?_⟩
   rintro sx s' μ' acc us' n' m' Da L hn ⟨t1, k', t', hD, rD, hne, hDm, hLm, hD0, hL0, fD, fL, nD, nL⟩ jn
   obtain ⟨μ3, sub, hq⟩ := fin acc μ' jn
   rw [rest_self] at k' t' hDm hLm sub
   refine ⟨m', hn, fun h2 hs' => ?_⟩
   have k4 := k'.sub sub
   obtain ⟨k5, kp5, kt5⟩ := k4.letGo hn (sub.none hLm) hL0 nL hs'
   have hD' : h2.get? Da = some (listOf (List.toArray us') n') := kp5 _ _ hne hD
   have k6 : Ok C { s' with heap := h2 } (upd μ3 Da (.list acc)) := k5.listAt (us := us') hD' (rD.mono fun a vs n _ t => kt5 a vs n t) hD0 nD
   have keep : ∀ b o, s3.heap.get? b = some o → b ∉ wr → μh b = none → upd μ3 Da (.list acc) b = none ∧ h2.get? b = some o := fun b o h1 hw h3 => by
    have hmk : mark wr μh b = none := by rw [mark_out hw]; exact h3
    obtain ⟨q1, q2⟩ := t'.keep b o h1 hmk
    refine ⟨?_, kp5 b o (fun q : b = L => fL o (q ▸ h1) (q ▸ hmk)) q2⟩
    rw [upd_other (fun q : b = Da => fD o (q ▸ h1) (q ▸ hmk))]
    exact sub.none q1
   have ownw : ∀ b, Own env b → b ∉ wr := fun b hb hw => nown b hw hb
   have F6 : FrameOk (C.ban B hB) h2 (upd μ3 Da (.list acc)) env (bnd ρ x (.raw (.ref z))) := by
    refine F3.move (fun b o hb ho => (keep b o ho (ownw b hb) (F3.ownOk hb).1).2) (fun b hb => ?_) (fun a vs n nb t => ?_)
    · obtain ⟨o, ho⟩ := F3.exists hb
      exact (keep b o ho (ownw b hb) (F3.ownOk hb).1).1
    · have hw : a ∉ wr := fun q => W.it.notT 0 _ st3 a q nb vs n t
      have hn2 : μh a = none := by
       cases e : μh a with
       | none => rfl
       | some mo => exact ((k3.mem a mo e).notTuple t).elim
      exact (keep a _ t hw hn2).2
   have F7 : FrameOk C h2 (upd μ3 Da (.list acc)) env (bnd ρ x (.raw (.ref z))) := F6.change (C := C.ban B hB) (C' := C) rfl fun v d r => r.weak hBC
   have T7 : StepF env s μ { s' with heap := h2 } (upd μ3 Da (.list acc)) := by
    refine ⟨?_, fun b o h1 h2' h3 => ?_⟩
    · show ({ s' with heap := h2 } : Shared) = { s with heap := h2, toks := s'.toks }
      rw [t'.eq, t3.eq, t2.eq]
    · obtain ⟨q1, q2⟩ := t2.keep b o h1 h2'
      have q3 : μh b = none := by rw [← hμh]; exact ((Sub.hide _ _).trans (Sub.hide _ _)).none q1
      obtain ⟨q4, q5⟩ := t3.keep b o (kp b o q2) q3 h3
      have hw : b ∉ wr := fun q => (W.wr0 b q).1 o h1 h2'
      exact keep b o q5 hw q4
   refine wpAny_mono (hq Da (sub.none hDm) _ k6 F7) ?_ fun _ _ x => x.elim
   rintro v2 s6 ⟨d2, μ6, r6, k8, t6, h6⟩
   have F8 := F7.step t6 k6
   refine wpAny_mono (h6 s6 (.ref Da) v2 k8 (.raw _) r6) ?_ fun _ _ x => x.elim
   rintro v3 s7 ⟨d3, μ7, r7, k9, t7, h7⟩
   exact ⟨.ret d3, _, μ7, .ret r7, k9, F8.step t7 k8, (T7.trans (t6.f env)).trans (t7.f env), h7⟩
end
noncomputable def keyK (t : T) : List KK := [.inl (kds t.hd), .inr ((t.hd.idx.getD 0 : Nat) : Int)]
theorem enc_key {t : T} {i : Nat} (e : t.hd.idx = some i) : enc t = keyD (keyK t) := by
 rw [enc_idx e]; unfold keyD keyK; rw [e]; rfl
theorem unks_idx {t : T} (h : t ∈ unks) : ∃ i, t.hd.idx = some i ∧ i < 5 := by
 simp only [unks, List.mem_cons, List.not_mem_nil, or_false] at h
 rcases h with rfl | rfl | rfl | rfl | rfl <;> exact ⟨_, rfl, by decide⟩
theorem unks_inj {t u : T} (h : t ∈ unks) (h' : u ∈ unks) (e : t.hd.idx = u.hd.idx) : t = u := by
 simp only [unks, List.mem_cons, List.not_mem_nil, or_false] at h h'
 rcases h with rfl | rfl | rfl | rfl | rfl <;> rcases h' with rfl | rfl | rfl | rfl | rfl <;> first | rfl | (simp [T.hd, Hd.idx] at e)
theorem key_inj {t u : T} (h : t ∈ unks) (h' : u ∈ unks) (e : keyK t = keyK u) : t = u := by
 obtain ⟨i, hi, _⟩ := unks_idx h
 obtain ⟨j, hj, _⟩ := unks_idx h'
 refine unks_inj h h' ?_
 unfold keyK at e
 rw [hi, hj] at e
 simp at e
 have e2 := e.2
 rw [hi, hj, show i = j by omega]
theorem pigeon {α : Type} [DecidableEq α] : ∀ {l m : List α}, l.Nodup → (∀ a ∈ l, a ∈ m) → l.length ≤ m.length
 | [], m, _, _ => Nat.zero_le _
 | a :: l, m, nd, h => by
  obtain ⟨n1, n2⟩ := List.nodup_cons.mp nd
  have ha := h a (.head _)
  have := pigeon (l := l) (m := m.erase a) n2 fun b hb => (List.mem_erase_of_ne (fun e => n1 (by rw [← e]; exact hb))).mpr (h b (.tail _ hb))
  rw [List.length_erase_of_mem ha] at this
  have hp : 0 < m.length := List.length_pos_of_mem ha
  simp only [List.length_cons]; omega
structure DInv (f : T → T) (ps : PS) : Prop where
 nd : (ps.map (·.1)).Nodup
 ent : ∀ p ∈ ps, ∃ t, t ∈ unks ∧ p.1 = keyK t ∧ p.2 = enc (f t)
theorem DInv.nil (f : T → T) : DInv f [] := ⟨by simp, by simp⟩
theorem DInv.len {f : T → T} {ps : PS} (h : DInv f ps) : ps.length ≤ 5 := by
 have := pigeon (m := unks.map keyK) h.nd fun a ha => by
  obtain ⟨p, hp, rfl⟩ := List.mem_map.mp ha
  obtain ⟨t, ht, e, _⟩ := h.ent p hp
  rw [e]; exact List.mem_map_of_mem ht
 simpa [unks] using this
theorem DInv.get {f : T → T} {ps : PS} (h : DInv f ps) {t : T} (ht : t ∈ unks) : (psGet ps (keyK t)).getD (enc (f t)) = enc (f t) := by
 unfold psGet
 cases e : ps.find? (fun p => decide (p.1 = keyK t)) with
 | none => rfl
 | some p =>
  have h1 := List.find?_some e
  have h2 := List.mem_of_find?_eq_some e
  obtain ⟨u, hu, e1, e2⟩ := h.ent p h2
  have : t = u := key_inj ht hu ((of_decide_eq_true h1).symm.trans e1)
  subst this
  exact e2
theorem DInv.store {f : T → T} {ps : PS} (h : DInv f ps) {t : T} (ht : t ∈ unks) : DInv f (storeP ps (keyK t) (enc (f t))) := by
 refine ⟨?_, fun p hp => ?_⟩
 · rw [storeP_keys]
   split
   · exact h.nd
   · rename_i q
     refine List.nodup_append.mpr ⟨h.nd, by simp, ?_⟩
     intro a ha b hb e
     rw [List.mem_singleton.mp hb] at e
     apply q
     unfold psGet
     obtain ⟨p, hp, rfl⟩ := List.mem_map.mp ha
     cases e2 : ps.find? (fun p => decide (p.1 = keyK t)) with
     | some _ => rfl
     | none =>
      have := List.find?_eq_none.mp e2 p hp
      simp [e] at this
 · unfold storeP at hp
   split at hp
   · obtain ⟨q, hq, rfl⟩ := List.mem_map.mp hp
     obtain ⟨u, hu, e1, e2⟩ := h.ent q hq
     by_cases c : q.1 = keyK t
     · rw [if_pos c]; exact ⟨t, ht, c, rfl⟩
     · rw [if_neg c]; exact ⟨u, hu, e1, e2⟩
   · rcases List.mem_append.mp hp with hp | hp
     · exact h.ent p hp
     · rw [List.mem_singleton.mp hp]; exact ⟨t, ht, rfl, rfl⟩
noncomputable def Alk (f g : T → T) : Nat → T → T → Prop
 | 0, _, _ => False
 | n + 1, t, u => t.wf ∧ u.wf ∧ ((t ∈ unks ∧ u ∈ unks ∧ kds t.hd = kds u.hd ∧ f t = u ∧ g u = t) ∨ (t.hd.idx = none ∧ isAlike t u = true ∧ All2 (Alk f g n) t.ch u.ch))
noncomputable abbrev HS (C : Cx) : Prop := ∃ o, C.h0.get? sysModules = some o
section
variable {C : Cx} {A : Around} {env : Env} {ρ : Str → Option D} {μ : Mem} {X : Xp} {Q : D → Mem → Prop}
theorem Call.alkGet {n : Nat} (hr : Rm A n) (hs : HS C) {a : Addr} {ps : PS} {f : T → T} (hm : μ a = some (dictMO C ps)) (hd : DInv f ps) {t u : T} (ht : t ∈ unks) (hf : f t = u) (h : Q (enc u) μ) : Call C A (.builtin "dict.get") [.raw (.ref a), enc t, enc u] μ Q := by
 obtain ⟨i, hi, _⟩ := unks_idx ht
 rw [enc_key hi]
 refine Call.dictGet hs hm hd.nd (by rw [units_in1]; have := hr.uni; have : cLine = 9900 := rfl; omega) ?_
 subst hf
 rw [hd.get ht]; exact h
theorem SetI.alk {n : Nat} (hr : Rm A n) {a : Addr} {ps : PS} {f : T → T} (hm : μ a = some (dictMO C ps)) (hd : DInv f ps) {t u : T} (ht : t ∈ unks) (hf : f t = u) {Q : Mem → Prop} (h : DInv f (storeP ps (keyK t) (enc u)) → Q (upd μ a (dictMO C (storeP ps (keyK t) (enc u))))) : SetI C A (.raw (.ref a)) (enc t) (enc u) μ Q := by
 obtain ⟨i, hi, _⟩ := unks_idx ht
 rw [enc_key hi]
 refine SetI.dict hm hd.nd (Nat.le_trans hd.len (by decide)) (by rw [units_in1]; have := hr.uni; have : cLine = 9900 := rfl; omega) ?_
 subst hf
 exact h (hd.store ht)
end
theorem upd4 {μ : Mem} {a b : Addr} {m1 m2 m3 m4 : MO} (h : a ≠ b) : upd (upd (upd (upd μ a m1) b m2) a m3) b m4 = upd (upd μ a m3) b m4 := by
 funext c; by_cases q : c = b
 · simp [upd, q]
 · by_cases r : c = a <;> simp [upd, q, r]
theorem sub_hide2 {μ : Mem} {a b : Addr} {m1 m2 : MO} (ha : μ a = none) (hb : μ b = none) : Sub μ (hide (hide (upd (upd μ a m1) b m2) a) b) := fun c m e => by
 have h1 : c ≠ a := fun q => by rw [q, ha] at e; cases e
 have h2 : c ≠ b := fun q => by rw [q, hb] at e; cases e
 unfold hide; rw [if_neg h2, if_neg h1, upd_other h2, upd_other h1]; exact e
theorem cr_keep2 {scope : Scope} {ρ : Str → Option D} {x y : Str} {d1 d2 : D} (hx : scope.names.lookup x = some .local) (hy : scope.names.lookup y = some .local) : ∀ z d, cr scope ρ z = some d → bnd (bnd (cr scope ρ) x d1) y d2 z = some d := fun z d hz => by
 unfold bnd
 by_cases q : z = y
 · subst q; unfold cr at hz; rw [hy] at hz; simp at hz
 · rw [if_neg q]; by_cases r : z = x
   · subst r; unfold cr at hz; rw [hx] at hz; simp at hz
   · rw [if_neg r]; exact hz
section
set_option maxHeartbeats 4000000 in
theorem alike_T_spec (f g : T → T) {m : Nat} : ∀ (k : Nat) {C : Cx} {A : Around} {μ : Mem} {Q : D → Mem → Prop} (hC : HK C) (hsys : HS C) (hr : Rm A (k + 3)) {th bk : Addr} {ps qs : PS} (hth : μ th = some (dictMO C ps)) (hbk : μ bk = some (dictMO C qs)) (hne : th ≠ bk)
 (hp : DInv f ps) (hq : DInv g qs) {t u : T} (ha : Alk f g k t u)
 (h : ∀ ps' qs', DInv f ps' → DInv g qs' → Q (.bool true) (upd (upd μ th (dictMO C ps')) bk (dictMO C qs'))), Call C A (.ref 226) [enc t, enc u, .raw (.ref th), .raw (.ref bk)] μ Q := by
 intro k
 induction k with
 | zero => intro C A μ Q hC hsys hr th bk ps qs hth hbk hne hp hq t u ha; exact ha.elim
 | succ k ih =>
  intro C A μ Q hC hsys hr th bk ps qs hth hbk hne hp hq t u ha h
  obtain ⟨wt, wu, ha⟩ := ha
  refine Call.def [PySem.Str.ofString "one", PySem.Str.ofString "other", PySem.Str.ofString "there", PySem.Str.ofString "back"] hC hr rfl rfl rfl rfl rfl (by rfl) ?_ rfl (by decide) rfl rfl rfl ?_
  · exact fun s => bind4 fun v0 v1 v2 v3 => BindsTo.of_eq rfl
  intro env A' hs hc hr' hfr hef
  dsimp only at hs hc
  show Ex _ _ _ (execs (_ :: _) _) _ _ _ _
  refine Ex.cons ?_
  refine Ex.ite ?_
  refine Et.cmp ?_
  refine Ev.sub ?_
  refine Ev.p ?_
  refine Ev.p ?_
  refine Get.kd ?_
  refine Ev.p ?_
  refine Cmp.in2 (by assumption) (by first | exact kds_ok _ | decide +kernel) (by first | exact kds_ok _ | decide +kernel) (by first | exact kds_ok _ | decide +kernel) ?_
  refine Tru.bool ?_
  rcases ha with ⟨ht, hu, hk, hf, hg⟩ | ⟨hi, hal, hch⟩
  · obtain ⟨i, hi, _⟩ := unks_idx ht
    have hz1 : min u.hgt u.hgt ≤ 1400 := by have := idx_hgt wu (unks_idx hu).choose_spec.1; omega
    have hz2 : min t.hgt t.hgt ≤ 1400 := by have := idx_hgt wt hi; omega
    refine br_t (by rw [kds_in_var_iv]; exact idx_is hi) ?_
    refine Ex.cons ?_
    refine Ex.ite ?_
    refine Et.or3 ?_
    refine Et.cmp ?_
    refine Ev.sub ?_
    refine Ev.p ?_
    refine Ev.p ?_
    refine Get.kd ?_
    refine Ev.sub ?_
    refine Ev.p ?_
    refine Ev.p ?_
    refine Get.kd ?_
    refine Cmp.neStr (by assumption) (by first | exact kds_ok _ | decide +kernel) (by first | exact kds_ok _ | decide +kernel) ?_
    refine Tru.bool ?_
    refine br_f' (by rw [hk]; simp) ?_
    refine Et.cmp ?_
    refine Ev.meth (pl := _) ?_ (by rfl) (by rfl) (by rfl)
    refine Ev.p ?_
    refine dictGetM (by assumption) ?_
    refine Es.p ?_
    refine Call.alkGet (by assumption) (by assumption) (by assumption) (by assumption) (by assumption) (by assumption) ?_
    refine Ev.p ?_
    refine Cmp.neT (by assumption) (by assumption) (by assumption) (by first | assumption | omega) ?_
    refine Tru.bool ?_
    refine br_f' (by simp) ?_
    refine Et.cmp ?_
    refine Ev.meth (pl := _) ?_ (by rfl) (by rfl) (by rfl)
    refine Ev.p ?_
    refine dictGetM (by assumption) ?_
    refine Es.p ?_
    refine Call.alkGet (by assumption) (by assumption) (by assumption) (by assumption) (by assumption) (by assumption) ?_
    refine Ev.p ?_
    refine Cmp.neT (by assumption) (by assumption) (by assumption) (by first | assumption | omega) ?_
    refine Tru.bool ?_
    refine br_f (by simp) ?_
    refine Ex.nil ?_
    refine Ex.cons ?_
    refine Ex.assignTup ?_ (by rfl) (by first | rfl | exact scope_ind (by assumption) (P := fun e => swappedStores _ _ e = pure none) (fun e he => by cases e; cases he; rfl))
    refine Ev.p ?_
    refine Asg.tuple (Rm.hh (by assumption)) (by rfl) (by rfl) ?_
    refine Assigns.cons ?_ (by rfl)
    refine Asg.sub ?_
    refine Ev.p ?_
    refine Ev.p ?_
    refine SetI.alk hr' hth hp ht hf fun hp' => ?_
    refine Assigns.cons ?_ (by rfl)
    refine Asg.sub ?_
    refine Ev.p ?_
    refine Ev.p ?_
    have hbk' : upd μ th (dictMO C (storeP ps (keyK t) (enc u))) bk = some (dictMO C qs) := (upd_other hne.symm).trans hbk
    refine SetI.alk hr' hbk' hq hu hg fun hq' => ?_
    refine Assigns.nil ?_
    refine Ex.retC ?_ (by with_unfolding_all rfl)
    exact ⟨_, Sub.refl _, h _ _ hp' hq'⟩
  · refine br_f (by rw [kds_in_var_iv]; exact idx_no hi) ?_
    have w1 : (T.node t.hd (t.ch.map fun _ => .node .bool [])).wf := headT_wf wt
    have w2 : (T.node u.hd (u.ch.map fun _ => .node .bool [])).wf := headT_wf wu
    have hz2 : min (T.node t.hd (t.ch.map fun _ => .node .bool [])).hgt (T.node u.hd (u.ch.map fun _ => .node .bool [])).hgt ≤ 1400 := by have := headT_hgt t; unfold headT at this; omega
    refine Ex.nil ?_
    refine Ex.cons ?_
    refine Ex.ite ?_
    refine Et.cmp ?_
    refine Ev.g ?_ (by assumption) (by rfl) (by assumption) (by rfl) (by rfl) (by rfl) (by rfl) (by rfl)
    refine Es.p ?_
    refine law_head_spec hC (n := k) (by exact Rm.ad (by assumption) rfl) t wt ?_
    refine Ev.g ?_ (by assumption) (by rfl) (by assumption) (by rfl) (by rfl) (by rfl) (by rfl) (by rfl)
    refine Es.p ?_
    refine law_head_spec hC (n := k) (by exact Rm.ad (by assumption) rfl) u wu ?_
    refine Cmp.neT (by assumption) (by assumption) (by assumption) (by first | assumption | omega) ?_
    refine Tru.bool ?_
    refine br_f (by have q := headT_eq t u; rw [hal] at q; unfold headT at q; rw [q]; rfl) ?_
    refine Ex.nil ?_
    refine Ex.letZip hr'.hh ?_ rfl rfl (kf_local hs rfl) rfl rfl (fun _ => rfl) (CompScope.of hs hc rfl rfl rfl rfl) rfl
    refine Ev.gbi (by assumption) (by rfl) (by with_reducible exact bv_zip) (by exact kf_local (by assumption) (by rfl)) (by decide) (by rfl) ?_
    refine ⟨rfl, ?_⟩
    refine Es.cons ?_
    refine Ev.g ?_ (by assumption) (by rfl) (by assumption) (by rfl) (by rfl) (by rfl) (by rfl) (by rfl)
    refine Es.p ?_
    refine law_within_spec (by assumption) (by assumption) _ (by assumption) ?_
    intro z1 hz1'
    refine Es.cons ?_
    refine Ev.g ?_ (by assumption) (by rfl) (by assumption) (by rfl) (by rfl) (by rfl) (by rfl) (by rfl)
    refine Es.p ?_
    refine law_within_spec (by assumption) (by assumption) _ (by assumption) ?_
    intro z2 hz2'
    refine Es.p ?_
    refine ⟨z1, z2, encs t.ch, encs u.ch, rfl, (upd_other (ne_upd hz2')).trans upd_self, upd_self, fun z => ?_⟩
    have hsh := sub_hide2 (m1 := MO.list (encs t.ch)) (m2 := MO.list (encs u.ch)) hz1' (none_upd hz2')
    generalize hide (hide (upd (upd μ z1 (MO.list (encs t.ch))) z2 (MO.list (encs u.ch))) z1) z2 = μh at hsh
    have htl : t.ch.length ≤ 2 := by obtain ⟨_, _⟩ := t; exact fits_len wt.1
    refine ⟨?_, fun i acc μ' => acc = [] ∧ ∃ ps qs, DInv f ps ∧ DInv g qs ∧ μ' = upd (upd μh th (dictMO C ps)) bk (dictMO C qs), ?_, ?_, ?_⟩
    · unfold zipD; rw [List.length_map, List.length_zip, encs_len, encs_len]; exact Nat.le_trans (Nat.min_le_left _ _) (Nat.le_trans htl (by decide))
    · exact ⟨rfl, ps, qs, hp, hq, by rw [upd_same (hsh _ _ hth), upd_same (hsh _ _ hbk)]⟩
    · rintro B hB hb cenv hce i d acc μ' hd ⟨rfl, ps', qs', hp', hq', rfl⟩
      obtain ⟨x, y, e1, e2, rfl⟩ := zipD_get hd
      rw [encs_eq, List.getElem?_map] at e1 e2
      obtain ⟨c, hc1, rfl⟩ := Option.map_eq_some_iff.mp e1
      obtain ⟨c', hc2, rfl⟩ := Option.map_eq_some_iff.mp e2
      obtain ⟨c'', hc3, hal'⟩ := hch.get hc1
      rw [hc2] at hc3
      cases hc3
      refine AsgL.tuple hr'.hh rfl rfl (AssignsL.cons (AsgL.name (hce.names _ _ rfl (by decide)) (AssignsL.cons (AsgL.name (hce.names _ _ rfl (by decide)) (AssignsL.nil ⟨cr_keep2 rfl rfl, Ets.one ?_⟩)) rfl)) rfl)
      refine Et.not ?_
      refine Et.value ?_ (by rfl)
      refine Ev.callG (by assumption) (by rfl) (by exact CompEnv.names (by assumption) _ _ (by rfl) (by decide)) (by rfl) (by rfl) (by rfl) (by rfl) ?_
      refine Es.p ?_
      refine ih (C := C.ban B hB) hC hsys hr' ((upd_other hne).trans upd_self) upd_self hne hp' hq' hal' fun ps'' qs'' h1 h2 => ?_
      refine Tru.bool ⟨fun q => (nomatch q), fun _ => ⟨rfl, ps'', qs'', h1, h2, ?_⟩⟩
      exact upd4 hne
    · rintro acc μ' ⟨rfl, ps', qs', hp', hq', rfl⟩
      rw [rest_self]
      refine ⟨_, Sub.both (Sub.both hsh _ _) _ _, fun c hc => ?_⟩
      refine Ev.list ?_
      refine Es.p ?_
      refine sz_and (by (show _ ≤ 16777216; simp; done)) ?_
      intro e he
      refine Cmp.eqList (xs := []) (ys := []) ((upd_other (ne_upd he)).trans upd_self) upd_self rfl rfl (hr'.u (by simp [D.pys, PyData.depth, PyData.depthAll])) ?_
      exact ⟨_, (Sub.new hc).trans (Sub.new he), h _ _ hp' hq'⟩
end
noncomputable abbrev p3 (t : T) : T := T.put (.node (.ivar 3) []) tI32 t
noncomputable abbrev p4 (t : T) : T := T.put (.node (.ivar 4) []) tI32 t
structure Right (κ : List (Option T)) (α : List T) (ps : List (T × T)) : Prop where
 lk : κ.length = 5
 la : α.length = 5
 lp : ps.length ≤ 2 ^ 20
 one : ∀ p ∈ ps, ∃ r, Res κ 100 p.1 r ∧ Res κ 100 p.2 r ∧ r.wf ∧ r.hgt ≤ 1000
 two : ∃ f g rs, All2 (Res κ 100) unks rs ∧ All2 (Alk f g 500) α rs
 fine : ∀ t ∈ α, Fine t
 fine2 : ∀ t ∈ α.map p3, Fine t
 three : ∃ f g rs, All2 (Res (dfl κ) 100) unks rs ∧ All2 (Alk f g 500) ((α.map p3).map p4) rs
theorem sub_rest2 {μ1 μh : Mem} {a b : Addr} {m1 m2 : MO} (h : Sub μh μ1) (ha : μh a ≠ none) (hb : μh b ≠ none) : Sub (upd (upd μ1 a m1) b m2) (rest μ1 μh (upd (upd μh a m1) b m2)) := fun x m e => by
 unfold rest
 by_cases q : x = b
 · subst q
   rw [upd_self] at e ⊢
   cases r : μh x with
   | none => exact absurd r hb
   | some _ => exact e
 · rw [upd_other q] at e ⊢
   by_cases r : x = a
   · subst r
     rw [upd_self] at e ⊢
     cases r : μh x with
     | none => exact absurd r ha
     | some _ => exact e
   · rw [upd_other r] at e ⊢
     cases r : μh x with
     | none => rw [e]; rfl
     | some m' => have := h _ _ r; rw [e] at this; cases this; rfl
theorem pairs_nums {l : List (T × T)} (h : nums = pairs l) : False := by
 cases l with
 | nil => simp [pairs] at h
 | cons p l => simp [pairs, pairD] at h
section
variable {C : Cx} {A : Around} {env : Env} {ρ : Str → Option D} {μ : Mem} {X : Xp}
inductive ForP2 (C : Cx) (A : Around) (env : Env) (tg : Expr) (body : List Stmt) (ρ : Str → Option D) (X : Xp) (Q : Out → (Str → Option D) → Mem → Prop) (ds : List D) (μ1 μh : Mem) : Prop
 | mk (J : Nat → (Str → Option D) → Mem → Prop) (j0 : J 0 ρ μh)
  (turn : ∀ B hB, (∀ b, C.B b → B b) → Thru (C.ban B hB) A env X ∧ ∀ i d ρ μ, ds[i]? = some d → J i ρ μ → Asg (C.ban B hB) A env tg d ρ μ fun ρ1 μ1' => Ex (C.ban B hB) A env (execs body env) ρ1 μ1' (ForQ J i Q μ1 μh) X)
  (fin : ∀ ρ μ', J ds.length ρ μ' → (∀ b, μh b = none → μ1 b ≠ none → μ' b = none) → Fg (Q .next ρ) (rest μ1 μh μ'))
theorem Ex.for2 {tg iter : Expr} {body : List Stmt} {pos : Pos} {Q : Out → (Str → Option D) → Mem → Prop}
 (h : Ei C A env (eval iter env) tg ρ μ (ForP2 C A env tg body ρ X Q))
 (hs : ∀ x, foldedSetIterable iter env x = pure x) : Ex C A env (exec (.For tg iter body [] pos) env) ρ μ Q X := by
 intro s k F
 refine wpAny_For (wpAny_mono (h s k F) (fun xv s1 h1 => wpAny_mono h1 ?_ fun _ _ x => x.elim) fun _ _ x => x.elim) hs
 rintro it s2 ⟨I, fp, wr, B, hB, ds, St, μ1, μh, rfl, W, k1, t1, sub, hf, J, j0, turn, fin⟩
 obtain ⟨T, turn⟩ := turn B hB W.it.ban
 have t0 : StepF env s μ s2 μh := by
  refine ⟨t1.eq, fun b o h1 h2 _ => ⟨?_, (t1.keep b o h1 h2).2⟩⟩
  cases q : μh b with
  | none => rfl
  | some mo => have := sub b mo q; rw [(t1.keep b o h1 h2).1] at this; cases this
 refine codeAny_mono (for_core (Q := fun o ρ' μ' => Fg (Q o ρ') (Mine.rest μ1 μh μ') ∨ (o = .next ∧ J ds.length ρ' μ')) W t0 J j0 T (fun i d ρ μ hd hj s v k F r => wpAny_mono (turn i d ρ μ hd hj s v k F r) (fun _ s' ⟨ρ', μ', k', F', t', h⟩ => ⟨ρ', μ', k', F', t', Ex.mono h fun o ρ2 μ2 x => by cases o <;> first | exact x | exact .inl x⟩) fun _ _ x => x) fun ρ μ x => .inr ⟨rfl, x⟩) ?_
 rintro r s' hr
 cases r with
 | ok f =>
  obtain ⟨o, ρ', μ', ro, k', F', t', kf, kt, hq0⟩ := hr
  have hq1 : Fg (Q o ρ') (Mine.rest μ1 μh μ') := by
   rcases hq0 with q | ⟨rfl, q⟩
   · exact q
   · exact fin _ _ q fun b h1 h2 => (kf b (hf b h1 h2).1 (hf b h1 h2).2).1
  obtain ⟨μ3, hs3, hq⟩ := hq1
  have kr := Ok.rest W.it.ban k1 k' hf kf kt
  have Fr : FrameOk C s'.heap (Mine.rest μ1 μh μ') env ρ' := FrameOk.rest F t1 (FrameOk.change (C := C.ban B hB) (C' := C) rfl (fun _ _ r => r.weak W.it.ban) F')
  refine ⟨o, ρ', μ3, ?_, kr.sub hs3, Fr.sub hs3, ?_, hq⟩
  · cases ro with
    | next => exact .next
    | brk => exact .brk
    | cont => exact .cont
    | ret r => exact .ret (r.weak W.it.ban)
  · refine ⟨t'.eq, fun b o h1 h2 h3 => ⟨?_, (t'.keep b o h1 h2 h3).2⟩⟩
    have := ((StepF.rest (μh := μh) t1 t').keep b o h1 h2 h3).1
    cases q : μ3 b with
    | none => rfl
    | some mo => rw [hs3 b mo q] at this; cases this
 | error e =>
  refine cameBackBy.mono hr fun e s3 he => ?_
  obtain ⟨a, ρ', μ', rfl, k', F', t', x⟩ := he
  exact ⟨a, ρ', μ', rfl, k'.weak W.it.ban, FrameOk.change (C := C.ban B hB) (C' := C) rfl (fun _ _ r => r.weak W.it.ban) F', t', x⟩
end
theorem encs_nums {l : List T} (h : nums = encs l) : False := by
 cases l with
 | nil => simp [encs] at h
 | cons t l => obtain ⟨r, e⟩ := enc_kd t; simp [encs, e] at h
theorem Inf.hide1 {μ : Mem} {x dx kn nu a : Addr} {κ : List (Option T)} {l : List D} (I : Inf μ x dx kn nu κ) (h : μ a = some (.list l)) (hk : a ≠ kn) (hn : nums ≠ l) : Inf (Mine.hide μ a) x dx kn nu κ := by
 have e1 : ∀ b mo, μ b = some mo → b ≠ a → Mine.hide μ a b = some mo := fun b mo e q => by unfold Mine.hide; rw [if_neg q]; exact e
 refine ⟨e1 _ _ I.hx ?_, e1 _ _ I.hd ?_, e1 _ _ I.m1 hk.symm, e1 _ _ I.m2 ?_, I.ne⟩
 · intro e; rw [← e, I.hx] at h; cases h
 · intro e; rw [← e, I.hd] at h; cases h
 · intro e; rw [← e, I.m2] at h; injection h with q; injection q with q; exact hn q
theorem Inf.updD {μ : Mem} {x dx kn nu a : Addr} {κ : List (Option T)} {hsh : D → Int} {l : List (D × D)} {m : MO} (I : Inf μ x dx kn nu κ) (h : μ a = some (.dict hsh l)) : Inf (upd μ a m) x dx kn nu κ := by
 refine ⟨(upd_other ?_).trans I.hx, (upd_other ?_).trans I.hd, (upd_other ?_).trans I.m1, (upd_other ?_).trans I.m2, I.ne⟩ <;> intro e
 · rw [← e, I.hx] at h; cases h
 · rw [← e, I.hd] at h; cases h
 · rw [← e, I.m1] at h; cases h
 · rw [← e, I.m2] at h; cases h
theorem hide_other {μ : Mem} {a b : Addr} (h : b ≠ a) : hide μ a b = μ b := by unfold hide; rw [if_neg h]
theorem rest_l {μ μ' : Mem} {l b : Addr} {m : MO} (h : b ≠ l) : rest (upd μ l m) (hide (upd μ l m) l) μ' b = μ' b := by
 unfold rest
 rw [hide_other h, upd_other h]
 cases μ b <;> rfl
theorem dfl_len {κ : List (Option T)} (h : κ.length = 5) : (dfl κ).length = 5 := by
 match κ, h with
 | [a, b, c, d, e], _ => rfl
inductive RJ1 (x aa th bk : Addr) (μh : Mem) (i : Nat) (ρ : Str → Option D) (μ' : Mem) : Prop
 | mk (r1 : ρ (sS "found") = some (.raw (.ref x))) (r2 : ρ (sS "answer") = some (.raw (.ref aa))) (r3 : ρ (sS "there") = some (.raw (.ref th))) (r4 : ρ (sS "back") = some (.raw (.ref bk))) (e : μ' = μh)
inductive DJ (C : Cx) (f g : T → T) (th bk : Addr) (μh μ' : Mem) : Prop
 | mk (ps qs : PS) (hp : DInv f ps) (hq : DInv g qs) (e : μ' = upd (upd μh th (dictMO C ps)) bk (dictMO C qs))
inductive RJ2 (C : Cx) (f g : T → T) (x aa th bk : Addr) (μh : Mem) (i : Nat) (ρ : Str → Option D) (μ' : Mem) : Prop
 | mk (r1 : ρ (sS "found") = some (.raw (.ref x))) (r2 : ρ (sS "answer") = some (.raw (.ref aa))) (r3 : ρ (sS "there") = some (.raw (.ref th))) (r4 : ρ (sS "back") = some (.raw (.ref bk))) (d : DJ C f g th bk μh μ')
noncomputable def ansAt (α : List T) : Nat → List T
 | 0 => α
 | 1 => α.map p3
 | _ => (α.map p3).map p4
inductive RJ3 (x : Addr) (μ4 : Mem) (α : List T) (i : Nat) (ρ : Str → Option D) (μ' : Mem) : Prop
 | mk (r1 : ρ (sS "found") = some (.raw (.ref x))) (hs : Sub μ4 μ') (a' : Addr) (r2 : ρ (sS "answer") = some (.raw (.ref a'))) (hm : μ' a' = some (.list (encs (ansAt α i))))
inductive RJ4 (rs : List T) (μ4 : Mem) (i : Nat) (acc : List D) (μ' : Mem) : Prop
 | mk (e1 : acc = encs (rs.take i)) (e2 : μ' = μ4)
inductive RJ5 (C : Cx) (f g : T → T) (th bk : Addr) (μh : Mem) (i : Nat) (acc : List D) (μ' : Mem) : Prop
 | mk (e : acc = []) (d : DJ C f g th bk μh μ')
inductive TwoNew (μ : Mem) (th bk : Addr) (m1 m2 : MO) (μ1 : Mem) : Prop
 | mk (e : upd (upd μ th m1) bk m2 = μ1) (hs : Sub μ μ1) (h1 : μ1 th = some m1) (h2 : μ1 bk = some m2) (ne : th ≠ bk) (n1 : μ th = none) (n2 : μ bk = none)
theorem two_new {μ : Mem} {th bk : Addr} {m1 m2 : MO} (h1 : μ th = none) (h2 : upd μ th m1 bk = none) : ∃ μ1, TwoNew μ th bk m1 m2 μ1 :=
 ⟨_, rfl, (Sub.new h1).trans (Sub.new h2), (upd_other (ne_upd h2)).trans upd_self, upd_self, ne_upd h2, h1, none_upd h2⟩
section
set_option maxHeartbeats 8000000 in
theorem right_spec {C : Cx} {A : Around} {μ μ0 : Mem} {Q : D → Mem → Prop} {n : Nat} (hC : HK C) (hsys : HS C) (hr : Rm A (n + 600)) {x dx kn nu aa pp : Addr} {κ : List (Option T)} {α : List T} {ps : List (T × T)} (R : Right κ α ps) (I : Inf μ x dx kn nu κ)
 (ha : μ aa = some (.list (encs α))) (hpp : μ pp = some (.list (pairs ps))) (hak : aa ≠ kn) (hpk : pp ≠ kn) (hsub : Sub μ0 μ) (hkn : μ0 kn = none) (h : Q (.bool true) μ0) : Call C A (.ref 252) [.raw (.ref x), .raw (.ref aa), .raw (.ref pp)] μ Q := by
 refine Call.def [PySem.Str.ofString "found", PySem.Str.ofString "answer", PySem.Str.ofString "pairs"] hC hr rfl rfl rfl rfl rfl (by rfl) ?_ rfl (by decide) rfl rfl rfl ?_
 · exact fun s => bind3 fun v0 v1 v2 => BindsTo.of_eq rfl
 intro env A' hs hc hr' hfr hef
 dsimp only at hs hc
 show Ex _ _ _ (execs (_ :: _) _) _ _ _ _
 refine Ex.cons ?_
 refine Ex.assignTup ?_ (by rfl) (by first | rfl | exact scope_ind (by assumption) (P := fun e => swappedStores _ _ e = pure none) (fun e he => by cases e; cases he; rfl))
 refine Ev.tuple ?_
 refine Es.cons ?_
 refine Ev.dict0 ?_
 intro th hth
 refine Es.cons ?_
 refine Ev.dict0 ?_
 intro bk hbk
 refine Es.p ?_
 refine sz_and (by (show _ ≤ 16777216; simp; done)) ?_
 refine Asg.tuple (Rm.hh (by assumption)) (by rfl) (by rfl) ?_
 refine Assigns.cons ?_ (by rfl)
 refine Asg.name (by exact Or.inr (kf_local (by assumption) (by rfl))) (by (intro h9; refine (show ∀ x : Str, _ → Option.isSome (List.lookup x _) = true by assumption) _ ?_; rfl)) ?_
 refine Assigns.cons ?_ (by rfl)
 refine Asg.name (by exact Or.inr (kf_local (by assumption) (by rfl))) (by (intro h9; refine (show ∀ x : Str, _ → Option.isSome (List.lookup x _) = true by assumption) _ ?_; rfl)) ?_
 refine Assigns.nil ?_
 refine Ex.cons ?_
 obtain ⟨μ1, hμ1, hs1, hmt, hmb, hne, nth, nbk⟩ := two_new (m2 := dictMO C []) hth hbk
 rw [hμ1]
 clear hμ1 hth hbk
 have I1 := I.mono hs1
 refine Ex.for ?_ fun _ => rfl
 refine Ei.list hr'.hh ?_
 refine Ev.p ?_
 refine ⟨pp, _, rfl, hs1 _ _ hpp, ?_⟩
 have hhs := Sub.hide μ1 pp
 have Ih : Inf (hide μ1 pp) x dx kn nu κ := by
  have e1 : ∀ b mo, μ1 b = some mo → b ≠ pp → hide μ1 pp b = some mo := fun b mo e q => by unfold hide; rw [if_neg q]; exact e
  have pm := hs1 _ _ hpp
  refine ⟨e1 _ _ I1.hx ?_, e1 _ _ I1.hd ?_, e1 _ _ I1.m1 hpk.symm, e1 _ _ I1.m2 ?_, I1.ne⟩
  · intro e; rw [← e, I1.hx] at pm; cases pm
  · intro e; rw [← e, I1.hd] at pm; cases pm
  · intro e; rw [← e, I1.m2] at pm; injection pm with q; injection q with q; exact pairs_nums q
 generalize hide μ1 pp = μh at hhs Ih
 refine ⟨RJ1 x aa th bk μh, ⟨rfl, rfl, rfl, rfl, rfl⟩, fun B hB hb => ⟨Thru.no, ?_⟩, ?_⟩
 · rintro i d ρ μ' hd ⟨r1, r2, r3, r4, rfl⟩
   unfold pairs at hd
   rw [List.getElem?_map] at hd
   obtain ⟨p, hp, rfl⟩ := Option.map_eq_some_iff.mp hd
   obtain ⟨r, h1, h2, h3, h4⟩ := R.one p (List.mem_of_getElem? hp)
   have hz : min r.hgt r.hgt ≤ 1400 := by omega
   unfold pairD
   refine Asg.tuple (Rm.hh (by assumption)) (by rfl) (by rfl) ?_
   refine Assigns.cons ?_ (by rfl)
   refine Asg.name (Or.inl (kf_local (by assumption) (by rfl))) (kc_loc (by assumption) (by rfl)) ?_
   refine Assigns.cons ?_ (by rfl)
   refine Asg.name (Or.inl (kf_local (by assumption) (by rfl))) (kc_loc (by assumption) (by rfl)) ?_
   refine Assigns.nil ?_
   refine Ex.cons ?_
   refine Ex.ite ?_
   refine Et.cmp ?_
   refine Ev.meth (pl := _) ?_ (by rfl) (by rfl) (by rfl)
   refine Ev.n ?_ (by assumption) (by rfl) (by rfl)
   refine infMm (by assumption) (by assumption) (by rfl) (by rfl) (by rfl) (by rfl) (by rfl) ?_
   refine Es.p ?_
   refine resolved_spec (C := C.ban B hB) R.lk 100 hC (by exact Rm.le (by assumption) (by omega)) Ih h1 ?_
   refine Ev.meth (pl := _) ?_ (by rfl) (by rfl) (by rfl)
   refine Ev.n ?_ (by assumption) (by rfl) (by rfl)
   refine infMm (by assumption) (by assumption) (by rfl) (by rfl) (by rfl) (by rfl) (by rfl) ?_
   refine Es.p ?_
   refine resolved_spec (C := C.ban B hB) R.lk 100 hC (by exact Rm.le (by assumption) (by omega)) Ih h2 ?_
   refine Cmp.neT (by assumption) (by assumption) (by assumption) (by first | assumption | omega) ?_
   refine Tru.bool ?_
   refine br_f (by simp) ?_
   refine Ex.nil ?_
   refine Ex.nil ?_
   exact ⟨r1, r2, r3, r4, rfl⟩
 rintro ρ μ' ⟨r1, r2, r3, r4, rfl⟩
 refine ⟨μ1, Sub.rest hhs (Sub.refl _), ?_⟩
 clear hhs Ih
 refine Ex.cons ?_
 obtain ⟨f, g, rs, hrs, hal⟩ := R.two
 refine Ex.for ?_ fun _ => rfl
 refine Ei.zip hr'.hh ?_ rfl rfl
 refine Ev.gbi (by assumption) (by rfl) (by with_reducible exact bv_zip) (by exact kf_local (by assumption) (by rfl)) (by decide) (by rfl) ?_
 refine ⟨rfl, ?_⟩
 refine Es.cons ?_
 refine Ev.callG0 (by assumption) (by rfl) (by exact kf_local (by assumption) (by rfl)) (by rfl) (by rfl) ?_
 refine unknowns_spec (n := n) hC (by exact Rm.ad (by assumption) rfl) ?_
 intro z hz
 refine Es.cons ?_
 refine Ev.n ?_ (by assumption) (by rfl) (by rfl)
 refine Es.p ?_
 have hma := hs1 _ _ ha
 have haz : aa ≠ z := ne_mem hma hz
 refine ⟨z, aa, encs unks, encs α, rfl, upd_self, (upd_other haz).trans hma, ?_⟩
 have hzs : Sub μ1 (upd μ1 z (MO.list (encs unks))) := Sub.new hz
 have hhs : Sub (hide (hide (upd μ1 z (MO.list (encs unks))) z) aa) (upd μ1 z (MO.list (encs unks))) := (Sub.hide _ _).trans (Sub.hide _ _)
 have Ih : Inf (hide (hide (upd μ1 z (MO.list (encs unks))) z) aa) x dx kn nu κ := by
  have I2 : Inf (hide (upd μ1 z (MO.list (encs unks))) z) x dx kn nu κ := I1.mono (sub_hideNew hz)
  exact I2.hide1 (by rw [hide_other haz]; exact (upd_other haz).trans hma) hak encs_nums
 have hth1 : hide (hide (upd μ1 z (MO.list (encs unks))) z) aa th = some (dictMO C []) := by
  have q1 : th ≠ z := ne_mem hmt hz
  have q2 : th ≠ aa := fun e => by rw [e, hma] at hmt; cases hmt
  rw [hide_other q2, hide_other q1, upd_other q1]; exact hmt
 have hbk1 : hide (hide (upd μ1 z (MO.list (encs unks))) z) aa bk = some (dictMO C []) := by
  have q1 : bk ≠ z := ne_mem hmb hz
  have q2 : bk ≠ aa := fun e => by rw [e, hma] at hmb; cases hmb
  rw [hide_other q2, hide_other q1, upd_other q1]; exact hmb
 generalize hide (hide (upd μ1 z (MO.list (encs unks))) z) aa = μh at hhs Ih hth1 hbk1
 refine ⟨RJ2 C f g x aa th bk μh, ⟨r1, r2, r3, r4, [], [], DInv.nil f, DInv.nil g, by rw [upd_same hth1, upd_same hbk1]⟩, fun B hB hb => ⟨Thru.no, ?_⟩, ?_⟩
 · rintro i d ρ μ' hd ⟨r1, r2, r3, r4, ps', qs', hp', hq', rfl⟩
   obtain ⟨x1, y1, e1, e2, rfl⟩ := zipD_get hd
   rw [encs_eq, List.getElem?_map] at e1 e2
   obtain ⟨u, hu, rfl⟩ := Option.map_eq_some_iff.mp e1
   obtain ⟨t, ht, rfl⟩ := Option.map_eq_some_iff.mp e2
   obtain ⟨r, hr1, hres⟩ := hrs.get hu
   obtain ⟨r', hr2, halk⟩ := hal.get ht
   rw [hr1] at hr2
   cases hr2
   have Id : Inf (upd (upd μh th (dictMO C ps')) bk (dictMO C qs')) x dx kn nu κ := (Ih.updD hth1).updD ((upd_other hne.symm).trans hbk1)
   refine Asg.tuple (Rm.hh (by assumption)) (by rfl) (by rfl) ?_
   refine Assigns.cons ?_ (by rfl)
   refine Asg.name (Or.inl (kf_local (by assumption) (by rfl))) (kc_loc (by assumption) (by rfl)) ?_
   refine Assigns.cons ?_ (by rfl)
   refine Asg.name (Or.inl (kf_local (by assumption) (by rfl))) (kc_loc (by assumption) (by rfl)) ?_
   refine Assigns.nil ?_
   refine Ex.cons ?_
   refine Ex.ite ?_
   refine Et.not ?_
   refine Et.value ?_ (by rfl)
   refine Ev.g ?_ (by assumption) (by rfl) (by assumption) (by rfl) (by rfl) (by rfl) (by rfl) (by rfl)
   refine Es.cons ?_
   refine Ev.p ?_
   refine Es.cons ?_
   refine Ev.meth (pl := _) ?_ (by rfl) (by rfl) (by rfl)
   refine Ev.n ?_ (by assumption) (by rfl) (by rfl)
   refine infMm (by assumption) (by assumption) (by rfl) (by rfl) (by rfl) (by rfl) (by rfl) ?_
   refine Es.p ?_
   refine resolved_spec (C := C.ban B hB) R.lk 100 hC (by exact Rm.le (by assumption) (by omega)) Id hres ?_
   refine Es.cons ?_
   refine Ev.n ?_ (by assumption) (by rfl) (by rfl)
   refine Es.cons ?_
   refine Ev.n ?_ (by assumption) (by rfl) (by rfl)
   refine Es.p ?_
   refine alike_T_spec f g (m := 0) 500 (C := C.ban B hB) hC hsys (by exact Rm.le (by assumption) (by omega)) ((upd_other hne).trans upd_self) upd_self hne hp' hq' halk fun ps'' qs'' h1 h2 => ?_
   refine Tru.bool ?_
   refine br_f (by first | rfl | assumption) ?_
   refine Ex.nil ?_
   refine Ex.nil ?_
   exact ⟨r1, r2, r3, r4, ps'', qs'', h1, h2, upd4 hne⟩
 rintro ρ μ' ⟨r1, r2, r3, r4, ps', qs', hp', hq', rfl⟩
 refine ⟨upd (upd μ1 th (dictMO C ps')) bk (dictMO C qs'), ?_, ?_⟩
 · exact (Sub.both (Sub.both hzs _ _) _ _).trans (sub_rest2 hhs (by rw [hth1]; simp) (by rw [hbk1]; simp))
 have I3 : Inf (upd (upd μ1 th (dictMO C ps')) bk (dictMO C qs')) x dx kn nu κ := (I1.updD hmt).updD ((upd_other hne.symm).trans hmb)
 have ha3 : upd (upd μ1 th (dictMO C ps')) bk (dictMO C qs') aa = some (.list (encs α)) := by
  have q1 : aa ≠ th := fun e => by rw [← e, hma] at hmt; cases hmt
  have q2 : aa ≠ bk := fun e => by rw [← e, hma] at hmb; cases hmb
  rw [upd_other q2, upd_other q1]; exact hma
 have hs3 : Sub μ0 (upd (upd μ1 th (dictMO C ps')) bk (dictMO C qs')) := Sub.other (Sub.other (hsub.trans hs1) (hsub.none nth)) (hsub.none nbk)
 generalize upd (upd μ1 th (dictMO C ps')) bk (dictMO C qs') = μ3 at I3 ha3 hs3
 clear hhs Ih hth1 hbk1 hzs hz hmt hmb hs1 nbk nth hne I1
 refine Ex.cons ?_
 refine Ex.expr ?_ (by first | rfl | exact interactive_of (by assumption) (by rfl)) (by rfl)
 refine Ev.meth0 (pl := _) ?_ (by rfl)
 refine Ev.n ?_ (by assumption) (by rfl) (by rfl)
 refine infM (by assumption) (by assumption) (by rfl) (by rfl) (by rfl) (by rfl) (by rfl) ?_
 refine default_spec (n := n) hC (by exact Rm.ad (by assumption) rfl) R.lk I3 ?_
 refine ⟨_, Sub.refl _, ?_⟩
 have I4 : Inf (upd μ3 kn (.list ((dfl κ).map slotD))) x dx kn nu (dfl κ) := I3.set
 have ha4 : upd μ3 kn (.list ((dfl κ).map slotD)) aa = some (.list (encs α)) := (upd_other hak).trans ha3
 have hs4 : Sub μ0 (upd μ3 kn (.list ((dfl κ).map slotD))) := Sub.other hs3 hkn
 generalize upd μ3 kn (.list ((dfl κ).map slotD)) = μ4 at I4 ha4 hs4
 refine Ex.cons (Ex.for2 ?_ fun _ => rfl)
 refine Ei.list hr'.hh ?_
 refine Ev.list ?_
 refine Es.p ?_
 refine sz_and (by (show _ ≤ 16777216; simp; done)) ?_
 intro l hl
 refine ⟨l, _, rfl, upd_self, ?_⟩
 have hs5 := sub_hideNew (mo := MO.list [D.int 3, D.int 4]) hl
 have hhl : ∀ μ' : Mem, (∀ b, hide (upd μ4 l (MO.list [D.int 3, D.int 4])) l b = none → upd μ4 l (MO.list [D.int 3, D.int 4]) b ≠ none → μ' b = none) → μ' l = none := fun μ' q => q l (by unfold hide; rw [if_pos rfl]) (by rw [upd_self]; simp)
 refine ⟨RJ3 x μ4 α, ⟨r1, hs5, aa, r2, hs5 _ _ ha4⟩, fun B hB hb => ⟨Thru.no, ?_⟩, ?_⟩
 · rintro i d ρ μ' hd ⟨r1, hsx, a', r2, hma'⟩
   match i, hd with
   | 0, hd =>
    have hd : D.int 3 = d := by simpa using hd
    subst hd
    refine Asg.name (.inr (kf_local hs rfl)) (fun _ => hc _ rfl) ?_
    refine Ex.cons ?_
    refine Ex.aL ?_ (by exact CompScope.of (by assumption) (by assumption) (by rfl) (by rfl) (by rfl) (by rfl)) (by intro _; rfl) (by assumption) (by rfl) (by rfl) (by rfl) (by rfl)
    refine Ei.list hr'.hh ?_
    refine Ev.n ?_ (by assumption) (by rfl) (by rfl)
    have hma0 : μ' a' = some (.list (encs α)) := hma'
    refine ⟨a', _, rfl, hma0, ?_⟩
    refine CompGo.mapT (ts := α) (fun t => enc (p3 t)) (by rw [R.la]; decide) rfl (Sub.hide _ _) ?_ ?_
    · intro B' hB' hb' cenv hce t ht
      refine Ev.callG (by assumption) (by rfl) (by exact CompEnv.names (by assumption) _ _ (by rfl) (by decide)) (by rfl) (by rfl) (by rfl) (by rfl) ?_
      refine Es.p ?_
      have ft := R.fine t ht
      exact law_put_spec (.node (.ivar 3) []) tI32 ⟨rfl, trivial⟩ (by simp [T.hgt, T.hgts]) (n := 550) (C := (C.ban B hB).ban B' hB') hC (by exact Rm.le (by assumption) (by omega)) t ft.1 ft.2 ⟨rfl, Sub.refl _⟩
    intro b' hb'
    refine Ex.nil ?_
    refine ⟨r1, hsx.trans (Sub.new hb'), b', rfl, ?_⟩
    show _ = some (MO.list (encs (α.map p3)))
    rw [upd_self, encs_eq, List.map_map]; rfl
   | 1, hd =>
    have hd : D.int 4 = d := by simpa using hd
    subst hd
    refine Asg.name (.inr (kf_local hs rfl)) (fun _ => hc _ rfl) ?_
    refine Ex.cons ?_
    refine Ex.aL ?_ (by exact CompScope.of (by assumption) (by assumption) (by rfl) (by rfl) (by rfl) (by rfl)) (by intro _; rfl) (by assumption) (by rfl) (by rfl) (by rfl) (by rfl)
    refine Ei.list hr'.hh ?_
    refine Ev.n ?_ (by assumption) (by rfl) (by rfl)
    have hma0 : μ' a' = some (.list (encs (α.map p3))) := hma'
    refine ⟨a', _, rfl, hma0, ?_⟩
    refine CompGo.mapT (ts := α.map p3) (fun t => enc (p4 t)) (by rw [List.length_map, R.la]; decide) rfl (Sub.hide _ _) ?_ ?_
    · intro B' hB' hb' cenv hce t ht
      refine Ev.callG (by assumption) (by rfl) (by exact CompEnv.names (by assumption) _ _ (by rfl) (by decide)) (by rfl) (by rfl) (by rfl) (by rfl) ?_
      refine Es.p ?_
      have ft := R.fine2 t ht
      exact law_put_spec (.node (.ivar 4) []) tI32 ⟨rfl, trivial⟩ (by simp [T.hgt, T.hgts]) (n := 550) (C := (C.ban B hB).ban B' hB') hC (by exact Rm.le (by assumption) (by omega)) t ft.1 ft.2 ⟨rfl, Sub.refl _⟩
    intro b' hb'
    refine Ex.nil ?_
    refine ⟨r1, hsx.trans (Sub.new hb'), b', rfl, ?_⟩
    show _ = some (MO.list (encs ((α.map p3).map p4)))
    rw [upd_self, encs_eq, List.map_map (f := p4)]; rfl
   | i + 2, hd => simp at hd
 rintro ρ μ' ⟨r1, hs6, a', r2, hma'⟩ hnl
 have hl0 := hhl μ' hnl
 have hma' : μ' a' = some (.list (encs ((α.map p3).map p4))) := hma'
 have hal' : a' ≠ l := fun e => by rw [e, hl0] at hma'; cases hma'
 refine ⟨_, Sub.refl _, ?_⟩
 have hs7 : Sub μ4 (rest (upd μ4 l (MO.list [D.int 3, D.int 4])) (hide (upd μ4 l (MO.list [D.int 3, D.int 4])) l) μ') := fun b m e => by
  rw [rest_l (ne_mem e hl)]; exact hs6 b m e
 have ha5 : rest (upd μ4 l (MO.list [D.int 3, D.int 4])) (hide (upd μ4 l (MO.list [D.int 3, D.int 4])) l) μ' a' = some (.list (encs ((α.map p3).map p4))) := by rw [rest_l hal']; exact hma'
 generalize rest (upd μ4 l (MO.list [D.int 3, D.int 4])) (hide (upd μ4 l (MO.list [D.int 3, D.int 4])) l) μ' = μ5 at hs7 ha5
 have I5 := I4.mono hs7
 have hs5' := hs4.trans hs7
 clear hma' hs6 hnl hl0 hhl hs5
 obtain ⟨f2, g2, rs2, hrs2, hal2⟩ := R.three
 refine Ex.cons ?_
 refine Ex.assignTup ?_ (by rfl) (by first | rfl | exact scope_ind (by assumption) (P := fun e => swappedStores _ _ e = pure none) (fun e he => by cases e; cases he; rfl))
 refine Ev.tuple ?_
 refine Es.cons ?_
 refine Ev.dict0 ?_
 intro th2 hth2
 refine Es.cons ?_
 refine Ev.dict0 ?_
 intro bk2 hbk2
 refine Es.p ?_
 refine sz_and (by (show _ ≤ 16777216; simp; done)) ?_
 refine Asg.tuple (Rm.hh (by assumption)) (by rfl) (by rfl) ?_
 refine Assigns.cons ?_ (by rfl)
 refine Asg.name (by exact Or.inr (kf_local (by assumption) (by rfl))) (by (intro h9; refine (show ∀ x : Str, _ → Option.isSome (List.lookup x _) = true by assumption) _ ?_; rfl)) ?_
 refine Assigns.cons ?_ (by rfl)
 refine Asg.name (by exact Or.inr (kf_local (by assumption) (by rfl))) (by (intro h9; refine (show ∀ x : Str, _ → Option.isSome (List.lookup x _) = true by assumption) _ ?_; rfl)) ?_
 refine Assigns.nil ?_
 refine Ex.cons ?_
 refine Ex.aL ?_ (by exact CompScope.of (by assumption) (by assumption) (by rfl) (by rfl) (by rfl) (by rfl)) (by intro _; rfl) (by assumption) (by rfl) (by rfl) (by rfl) (by rfl)
 obtain ⟨μ6, hμ6, hs8, hmt, hmb, hne2, n1', n2'⟩ := two_new (m2 := dictMO C []) hth2 hbk2
 rw [hμ6]
 clear hμ6 hth2 hbk2
 have n1 : μ0 th2 = none := hs5'.none n1'
 have n2 : μ0 bk2 = none := hs5'.none n2'
 have hs9 := hs5'.trans hs8
 have ha6 := hs8 _ _ ha5
 have I6 := I5.mono hs8
 clear hs8 hs5' ha5 I5 hs7 n1' n2'
 refine Ei.list hr'.hh ?_
 refine Ev.callG0 (by assumption) (by rfl) (by exact kf_local (by assumption) (by rfl)) (by rfl) (by rfl) ?_
 refine unknowns_spec (n := n) hC (by exact Rm.ad (by assumption) rfl) ?_
 intro z2 hz2
 refine ⟨z2, _, rfl, upd_self, ?_⟩
 have hsh := sub_hideNew (mo := MO.list (encs unks)) hz2
 have hsr := Sub.hide (upd μ6 z2 (MO.list (encs unks))) z2
 have Ih := I6.mono hsh
 refine CompGo.name (by rw [encs_len]; decide) (RJ4 rs2 (hide (upd μ6 z2 (MO.list (encs unks))) z2)) ⟨rfl, rfl⟩ (by rfl) ?_ ?_
 · rintro B hB hb' cenv hce i d acc μ' hd' ⟨rfl, rfl⟩
   rw [encs_eq, List.getElem?_map] at hd'
   obtain ⟨c, hc', rfl⟩ := Option.map_eq_some_iff.mp hd'
   obtain ⟨r, hr1, hr2⟩ := hrs2.get hc'
   refine Ev.meth (pl := _) ?_ (by rfl) (by rfl) (by rfl)
   refine Ev.n ?_ (by assumption) (by rfl) (by rfl)
   refine infMm (by assumption) (by assumption) (by rfl) (by rfl) (by rfl) (by rfl) (by rfl) ?_
   refine Es.p ?_
   refine resolved_spec (C := C.ban B hB) (dfl_len R.lk) 100 hC (by exact Rm.le (by assumption) (by omega)) Ih hr2 ⟨?_, rfl⟩
   rw [List.take_add_one, hr1]; simp [encs_eq]
 rintro acc μ' ⟨rfl, rfl⟩
 refine ⟨μ6, (Sub.new hz2).trans (Sub.rest hsr (Sub.refl _)), ?_⟩
 clear hsh hsr Ih hz2
 have hrl : rs2.length = 5 := by rw [← hrs2.length]; rfl
 rw [encs_len, show unks.length = rs2.length by rw [hrl]; rfl, List.take_length]
 intro tl htl
 refine Ex.retE ?_
 refine Ev.cmp ?_
 refine Ev.comp ?_ (by intro _; rfl) (by exact CompScope.of (by assumption) (by assumption) (by rfl) (by rfl) (by rfl) (by rfl))
 refine Ei.zip hr'.hh ?_ rfl rfl
 refine Ev.gbi (by assumption) (by rfl) (by with_reducible exact bv_zip) (by exact kf_local (by assumption) (by rfl)) (by decide) (by rfl) ?_
 refine ⟨rfl, ?_⟩
 refine Es.cons ?_
 refine Ev.n ?_ (by assumption) (by rfl) (by rfl)
 refine Es.p ?_
 have hat : a' ≠ tl := ne_mem ha6 htl
 refine ⟨a', tl, encs ((α.map p3).map p4), encs rs2, rfl, (upd_other hat).trans ha6, upd_self, ?_⟩
 have hst : Sub μ6 (upd μ6 tl (MO.list (encs rs2))) := Sub.new htl
 have hhs : Sub (hide (hide (upd μ6 tl (MO.list (encs rs2))) a') tl) (upd μ6 tl (MO.list (encs rs2))) := (Sub.hide _ _).trans (Sub.hide _ _)
 have hth1 : hide (hide (upd μ6 tl (MO.list (encs rs2))) a') tl th2 = some (dictMO C []) := by
  have q1 : th2 ≠ tl := ne_mem hmt htl
  have q2 : th2 ≠ a' := fun e => by rw [e, ha6] at hmt; cases hmt
  rw [hide_other q1, hide_other q2, upd_other q1]; exact hmt
 have hbk1 : hide (hide (upd μ6 tl (MO.list (encs rs2))) a') tl bk2 = some (dictMO C []) := by
  have q1 : bk2 ≠ tl := ne_mem hmb htl
  have q2 : bk2 ≠ a' := fun e => by rw [e, ha6] at hmb; cases hmb
  rw [hide_other q1, hide_other q2, upd_other q1]; exact hmb
 generalize hide (hide (upd μ6 tl (MO.list (encs rs2))) a') tl = μh at hhs hth1 hbk1
 refine ⟨?_, RJ5 C f2 g2 th2 bk2 μh, ?_, ?_, ?_⟩
 · unfold zipD; rw [List.length_map, List.length_zip, encs_len, encs_len, hrl]; exact Nat.le_trans (Nat.min_le_right _ _) (by decide)
 · exact ⟨rfl, [], [], DInv.nil _, DInv.nil _, by rw [upd_same hth1, upd_same hbk1]⟩
 · rintro B hB hb cenv hce i d acc μ' hd ⟨rfl, ps', qs', hp', hq', rfl⟩
   obtain ⟨x1, y1, e1, e2, rfl⟩ := zipD_get hd
   rw [encs_eq, List.getElem?_map] at e1 e2
   obtain ⟨t, ht, rfl⟩ := Option.map_eq_some_iff.mp e1
   obtain ⟨r, hr1, rfl⟩ := Option.map_eq_some_iff.mp e2
   obtain ⟨r', hr2, halk⟩ := hal2.get ht
   rw [hr1] at hr2
   cases hr2
   refine AsgL.tuple hr'.hh rfl rfl (AssignsL.cons (AsgL.name (hce.names _ _ rfl (by decide)) (AssignsL.cons (AsgL.name (hce.names _ _ rfl (by decide)) (AssignsL.nil ⟨cr_keep2 rfl rfl, Ets.one ?_⟩)) rfl)) rfl)
   refine Et.not ?_
   refine Et.value ?_ (by rfl)
   refine Ev.callG (by assumption) (by rfl) (by exact CompEnv.names (by assumption) _ _ (by rfl) (by decide)) (by rfl) (by rfl) (by rfl) (by rfl) ?_
   refine Es.p ?_
   refine alike_T_spec f2 g2 (m := 0) 500 (C := C.ban B hB) hC hsys (by exact Rm.le (by assumption) (by omega)) ((upd_other hne2).trans upd_self) upd_self hne2 hp' hq' halk fun ps'' qs'' h1 h2 => ?_
   refine Tru.bool ⟨fun q => (nomatch q), fun _ => ⟨rfl, ps'', qs'', h1, h2, ?_⟩⟩
   exact upd4 hne2
 · rintro acc μ' ⟨rfl, ps', qs', hp', hq', rfl⟩
   refine ⟨μ0, (Sub.other (Sub.other (hs9.trans hst) n1) n2).trans (sub_rest2 hhs (by rw [hth1]; simp) (by rw [hbk1]; simp)), fun c hc => ?_⟩
   refine Ev.list ?_
   refine Es.p ?_
   refine sz_and (by (show _ ≤ 16777216; simp; done)) ?_
   intro e he
   refine Cmp.eqList (xs := []) (ys := []) ((upd_other (ne_upd he)).trans upd_self) upd_self rfl rfl (hr'.u (by simp [D.pys, PyData.depth, PyData.depthAll])) ?_
   exact ⟨_, (Sub.new hc).trans (Sub.new he), h⟩
end
structure LSt (μ : Mem) (x dx kn nu src aa pp : Addr) (κ : List (Option T)) (α : List T) (ps : List (T × T)) (a b : Int) : Prop where
 I : Inf μ x dx kn nu κ
 hs : μ src = some (srcMO a b)
 ha : μ aa = some (.list (encs α))
 hp : μ pp = some (.list (pairs ps))
 n1 : src ≠ kn
 n2 : src ≠ nu
 n3 : src ≠ aa
 n4 : src ≠ pp
 n5 : aa ≠ kn
 n6 : pp ≠ kn
 n7 : pp ≠ nu
 n8 : aa ≠ pp
theorem Inf.updL {μ : Mem} {x dx kn nu a : Addr} {κ : List (Option T)} {l : List D} {m : MO} (I : Inf μ x dx kn nu κ) (h : μ a = some (.list l)) (h1 : a ≠ kn) (h2 : a ≠ nu) : Inf (upd μ a m) x dx kn nu κ := by
 refine ⟨(upd_other ?_).trans I.hx, (upd_other ?_).trans I.hd, (upd_other h1.symm).trans I.m1, (upd_other h2.symm).trans I.m2, I.ne⟩ <;> intro e
 · rw [← e, I.hx] at h; cases h
 · rw [← e, I.hd] at h; cases h
section
variable {μ : Mem} {x dx kn nu src aa pp : Addr} {κ : List (Option T)} {α : List T} {ps : List (T × T)} {a b : Int}
theorem LSt.draw (L : LSt μ x dx kn nu src aa pp κ α ps a b) (a' b' : Int) : LSt (upd μ src (srcMO a' b')) x dx kn nu src aa pp κ α ps a' b' :=
 ⟨L.I.updL (l := [.int a, .int b]) L.hs L.n1 L.n2, upd_self, (upd_other L.n3.symm).trans L.ha, (upd_other L.n4.symm).trans L.hp, L.n1, L.n2, L.n3, L.n4, L.n5, L.n6, L.n7, L.n8⟩
theorem LSt.bind (L : LSt μ x dx kn nu src aa pp κ α ps a b) (κ' : List (Option T)) : LSt (upd μ kn (.list (κ'.map slotD))) x dx kn nu src aa pp κ' α ps a b :=
 ⟨L.I.set, (upd_other L.n1).trans L.hs, (upd_other L.n5).trans L.ha, (upd_other L.n6).trans L.hp, L.n1, L.n2, L.n3, L.n4, L.n5, L.n6, L.n7, L.n8⟩
theorem LSt.more (L : LSt μ x dx kn nu src aa pp κ α ps a b) (q : List (T × T)) : LSt (upd μ pp (.list (pairs q))) x dx kn nu src aa pp κ α q a b :=
 ⟨L.I.updL L.hp L.n6 L.n7, (upd_other L.n4).trans L.hs, (upd_other L.n8).trans L.ha, upd_self, L.n1, L.n2, L.n3, L.n4, L.n5, L.n6, L.n7, L.n8⟩
theorem LSt.ans {μ' : Mem} {a' : Addr} {α' : List T} (L : LSt μ x dx kn nu src aa pp κ α ps a b) (hs : Sub μ μ') (h : a' = aa ∨ μ a' = none) (hm : μ' a' = some (.list (encs α'))) : LSt μ' x dx kn nu src a' pp κ α' ps a b := by
 refine ⟨L.I.mono hs, hs _ _ L.hs, hm, hs _ _ L.hp, L.n1, L.n2, ?_, L.n4, ?_, L.n6, L.n7, ?_⟩ <;> rcases h with rfl | h
 · exact L.n3
 · exact ne_mem L.hs h
 · exact L.n5
 · exact (ne_mem L.I.m1 h).symm
 · exact L.n8
 · exact (ne_mem L.hp h).symm
end
structure Plain (Inv : List (Option T) → List T → List (T × T) → Prop) : Prop where
 begin : Inv [none, none, none, none, none] unks []
 len : ∀ κ α ps, Inv κ α ps → κ.length = 5 ∧ α.length = 5
 turn : ∀ κ α ps a b, Inv κ α ps → ps.length ≤ 2 → a.good 3 → b.good 3 → ∃ r r' m m', URun κ [(a, b)] r m ∧ SRun α [(a, b)] r' m' ∧ ((r = none ∧ r' = none) ∨ ∃ κ' α', r = some κ' ∧ r' = some α' ∧ Inv κ' α' (ps ++ [(a, b)]))
 right : ∀ κ α ps, Inv κ α ps → ps.length ≤ 3 → Right κ α ps
 ref1 : ∃ m, URun [none, none, none, none, none] [(.node (.var 1) [], .node .box [.node (.var 1) []])] none m
 ref2 : ∃ m, URun [none, none, none, none, none] [(.node .tup [.node (.var 1) [], .node (.var 1) []], .node .tup [.node .bool [], .node (.ivar 3) []])] none m
inductive EiCP (C : Cx) (A : Around) (env : Env) (tg : Expr) (ρ : Str → Option D) (s0 : Shared) (μ : Mem) (P : List D → Mem → Mem → Prop) (it : Value) (s2 : Shared) : Prop
 | mk (I : Addr) (fp wr : List Addr) (ds : List D) (St : Nat → Heap → Prop) (μ1 μh : Mem) (e : it = .ref I) (W : IterOk C A env ρ μh μ s0 s2 I tg fp wr C.B C.hB ds St)
  (k : Ok C s2 μ1) (t : Step s0 μ s2 μ1) (sub : Sub μh μ1) (hf : ∀ b, μh b = none → μ1 b ≠ none → b ∈ fp ∧ b ∉ wr) (p : P ds μ1 μh)
noncomputable def EiC (C : Cx) (A : Around) (env : Env) (t : Sem Value) (tg : Expr) (ρ : Str → Option D) (μ : Mem) (P : List D → Mem → Mem → Prop) : Prop :=
 ∀ s, Ok C s μ → FrameOk C s.heap μ env ρ → wpAny (model C.prog C.w) A t (fun xv s1 => wpAny (model C.prog C.w) A (pyIter xv) (EiCP C A env tg ρ s μ P) No s1) No s
inductive ForPC (C : Cx) (A : Around) (env : Env) (tg : Expr) (body : List Stmt) (ρ : Str → Option D) (X : Xp) (Q : Out → (Str → Option D) → Mem → Prop) (ds : List D) (μ1 μh : Mem) : Prop
 | mk (J : Nat → (Str → Option D) → Mem → Prop) (j0 : J 0 ρ μh)
  (turn : Thru C A env X ∧ ∀ i d ρ μ, ds[i]? = some d → J i ρ μ → Asg C A env tg d ρ μ fun ρ1 μ1' => Ex C A env (execs body env) ρ1 μ1' (ForQ J i Q μ1 μh) X)
  (fin : ∀ ρ μ', J ds.length ρ μ' → Fg (Q .next ρ) (rest μ1 μh μ'))
section
variable {C : Cx} {A : Around} {env : Env} {ρ : Str → Option D} {μ : Mem} {X : Xp}
theorem Ex.forC {tg iter : Expr} {body : List Stmt} {pos : Pos} {Q : Out → (Str → Option D) → Mem → Prop}
 (h : EiC C A env (eval iter env) tg ρ μ (ForPC C A env tg body ρ X Q))
 (hs : ∀ x, foldedSetIterable iter env x = pure x) : Ex C A env (exec (.For tg iter body [] pos) env) ρ μ Q X := by
 intro s k F
 refine wpAny_For (wpAny_mono (h s k F) (fun xv s1 h1 => wpAny_mono h1 ?_ fun _ _ x => x.elim) fun _ _ x => x.elim) hs
 rintro it s2 ⟨I, fp, wr, ds, St, μ1, μh, rfl, W, k1, t1, sub, hf, J, j0, turn, fin⟩
 obtain ⟨T, turn⟩ := turn
 have t0 : StepF env s μ s2 μh := by
  refine ⟨t1.eq, fun b o h1 h2 _ => ⟨?_, (t1.keep b o h1 h2).2⟩⟩
  cases q : μh b with
  | none => rfl
  | some mo => have := sub b mo q; rw [(t1.keep b o h1 h2).1] at this; cases this
 refine codeAny_mono (for_core (Q := fun o ρ' μ' => Fg (Q o ρ') (Mine.rest μ1 μh μ')) W t0 J j0 T turn fin) ?_
 rintro r s' hr
 cases r with
 | ok f =>
  obtain ⟨o, ρ', μ', ro, k', F', t', kf, kt, μ3, hs3, hq⟩ := hr
  have kr := Ok.rest W.it.ban k1 k' hf kf kt
  have Fr : FrameOk C s'.heap (Mine.rest μ1 μh μ') env ρ' := FrameOk.rest F t1 (FrameOk.change (C := C) (C' := C) rfl (fun _ _ r => r.weak W.it.ban) F')
  refine ⟨o, ρ', μ3, ?_, kr.sub hs3, Fr.sub hs3, ?_, hq⟩
  · cases ro with
    | next => exact .next
    | brk => exact .brk
    | cont => exact .cont
    | ret r => exact .ret (r.weak W.it.ban)
  · refine ⟨t'.eq, fun b o h1 h2 h3 => ⟨?_, (t'.keep b o h1 h2 h3).2⟩⟩
    have := ((StepF.rest (μh := μh) t1 t').keep b o h1 h2 h3).1
    cases q : μ3 b with
    | none => rfl
    | some mo => rw [hs3 b mo q] at this; cases this
 | error e =>
  refine cameBackBy.mono hr fun e s3 he => ?_
  obtain ⟨a, ρ', μ', rfl, k', F', t', x⟩ := he
  exact ⟨a, ρ', μ', rfl, k'.weak W.it.ban, FrameOk.change (C := C) (C' := C) rfl (fun _ _ r => r.weak W.it.ban) F', t', x⟩
theorem EiC.range (hh : A.handled = none) {iter tg : Expr} {P : List D → Mem → Mem → Prop}
 (h : Ev C A env (eval iter env) ρ μ (EiR P)) : EiC C A env (eval iter env) tg ρ μ P := by
 intro s k F
 refine wpAny_mono (h s k F) ?_ fun _ _ x => x
 rintro v s1 ⟨d, μ1, r1, k1, t1, a, n, rfl, hm, hn, hP⟩
 (first | (replace r1 := r1.inv; obtain rfl := r1) | (replace r1 := r1.inv; obtain ⟨_, rfl⟩ := r1) | cases r1)
 obtain ⟨o, ho, ⟨a1, a2, a3, rfl⟩, _⟩ := k1.mem a _ hm
 refine wpAny_pyIter_range ho (small_one (by decide) (by decide) (by omega) (by omega)) ?_
 rw [rangeSize_one]
 have e : (if (0 : Int) < (n : Int) then (n : Int) - 0 else 0) = (n : Int) := by split <;> omega
 rw [e]
 generalize ho : ({ cls := .type "range_iterator", data := .fields #[rawInt 0, rawInt (n : Int), rawInt 1] } : Obj) = ob
 have k2 := k1.push ob
 have t2 := t1.trans (Step.push k1 ob)
 refine ⟨_, [s1.heap.objs.size], [s1.heap.objs.size], _, _, μ1, μ1, rfl, ⟨Iter.range hh s1.heap.objs.size k1.noBan tg 0 n, k2, F.step t2 k, ⟨Nat.zero_le _, ?_⟩, ?_, ?_⟩, k2, t2, Sub.refl _, fun b h1 h2 => absurd h1 h2, hP⟩
 · subst ho
   show (s1.heap.push _).get? _ = _
   rw [Heap.get?_push_size _ rfl]
   simp
 · intro b hb; rw [List.mem_singleton.mp hb]; exact k1.fresh
 · intro b hb; rw [List.mem_singleton.mp hb]; exact ⟨fresh_new t1 (Nat.le_refl _), k1.lt0 (Nat.le_refl _)⟩
end
inductive LwJ (Inv : List (Option T) → List T → List (T × T) → Prop) (x dx kn nu src pp : Addr) (i : Nat) (ρ : Str → Option D) (μ' : Mem) : Prop
 | mk (r1 : ρ (sS "source") = some (.raw (.ref src))) (r2 : ρ (sS "found") = some (.raw (.ref x))) (r3 : ρ (sS "pairs") = some (.raw (.ref pp))) (aa : Addr) (κ : List (Option T)) (α : List T) (ps : List (T × T)) (a b : Int)
  (r4 : ρ (sS "answer") = some (.raw (.ref aa))) (L : LSt μ' x dx kn nu src aa pp κ α ps a b) (inv : Inv κ α ps) (hl : ps.length = i) (ha : 0 ≤ a) (hb : 0 ≤ b ∧ b < 2147483647)
inductive OtherP (src : Addr) (μ : Mem) (d : D) (μ' : Mem) : Prop
 | mk (u : T) (a b : Int) (hd : d = enc u) (hu : u.good 3) (ha : 0 ≤ a) (hb : 0 ≤ b ∧ b < 2147483647) (e : μ' = upd μ src (srcMO a b))
section
set_option maxHeartbeats 8000000 in
theorem law_call {Inv : List (Option T) → List T → List (T × T) → Prop} (PL : Plain Inv) {C : Cx} {A : Around} {μ : Mem} (hC : HK C) (hsys : HS C) (nb : ∀ b, ¬ C.B b) (hr : Rm A 660) (hfrA : A.frames = some []) {sa : Addr} {vs : List Value} {ns : List Int}
 (hl : C.h0.IsList sa vs.toArray) (hi : IntsAre vs ns) (hz : ns.length ≤ 63) (hb : ∀ x ∈ ns, Builtin.Int.intBits x ≤ 1048576) : CallC C A (.ref 259) [.raw (.ref sa)] μ (fun d _ => d = .bool true) := by
 refine CallC.def [PySem.Str.ofString "script"] hC hr rfl rfl rfl rfl rfl (by rfl) ?_ rfl (by decide) rfl rfl rfl ?_
 · exact fun s => bind1 fun v0 => BindsTo.of_eq rfl
 intro env A' hs hc hr' hfr hef
 dsimp only at hs hc
 show Ex _ _ _ (execs (_ :: _) _) _ _ _ _
 have se : ∀ μ : Mem, Sub (fun _ => none) μ := fun μ _ _ e => (nomatch e)
 have hfr2 : A'.frames = some [env] := by rw [hfr, hfrA]; rfl
 refine Ex.aC ?_ (by assumption) (by rfl) (by rfl)
 refine Ev.g ?_ (by assumption) (by rfl) (by assumption) (by rfl) (by rfl) (by rfl) (by rfl) (by rfl)
 refine Es.p ?_
 refine law_pool_spec hC (n := 0) (by exact Rm.le (by assumption) (by decide)) hl hi hz hb ?_
 intro src a b hsrc ha hb
 refine Ex.cons ?_
 refine Ex.assignSwap [sS "found", sS "answer", sS "pairs"] hr'.hh ?_ ?_ rfl ?_
 rotate_left
 · intro n hn
   simp only [List.mem_cons, List.not_mem_nil, or_false] at hn
   rcases hn with rfl | rfl | rfl <;> exact kf_local hs rfl
 · exact scope_ind hs (P := fun e => swappedStores _ _ e = pure (some _)) fun e he => by cases e; cases he; rfl
 refine Ev.tuple ?_
 refine Es.cons ?_
 refine Ev.callG0 (by assumption) (by rfl) (by exact kf_local (by assumption) (by rfl)) (by rfl) (by rfl) ?_
 refine begun_spec (n := 0) hC (by exact Rm.le (by assumption) (by decide)) ?_
 intro x dx kn nu μ1 I hs1 hk
 refine Es.cons ?_
 refine Ev.callG0 (by assumption) (by rfl) (by exact kf_local (by assumption) (by rfl)) (by rfl) (by rfl) ?_
 refine unknowns_spec (n := 0) hC (by exact Rm.le (by assumption) (by decide)) ?_
 intro aa haa
 refine Es.cons ?_
 refine Ev.list ?_
 refine Es.p ?_
 refine sz_and (by (show _ ≤ 16777216; simp; done)) ?_
 intro pp hpp
 refine Es.p ?_
 refine sz_and (by (show _ ≤ 16777216; simp; done)) ?_
 refine ⟨_, rfl, rfl, ?_⟩
 refine Ex.skipIf ?_ (by with_unfolding_all rfl) (by first | rfl | assumption)
 refine Ex.cons ?_
 have hsrc1 : μ1 src = some (srcMO a b) := hs1 _ _ upd_self
 have q1 : src ≠ kn := fun e => by rw [← e, upd_self] at hk; cases hk
 have q2 : src ≠ nu := fun e => by
  have := I.m2; rw [← e, hsrc1] at this; unfold srcMO at this; injection this with q; injection q with q; simp at q
 have q3 : src ≠ aa := ne_mem hsrc1 haa
 have q4 : src ≠ pp := ne_mem hsrc1 (none_upd hpp)
 have L0 : LSt (upd (upd μ1 aa (MO.list (encs unks))) pp (MO.list [])) x dx kn nu src aa pp [none, none, none, none, none] unks [] a b :=
  ⟨I.mono ((Sub.new haa).trans (Sub.new hpp)), (upd_other q4).trans ((upd_other q3).trans hsrc1), (upd_other (ne_upd hpp)).trans upd_self, upd_self, q1, q2, q3, q4, (ne_mem I.m1 haa).symm, (ne_mem I.m1 (none_upd hpp)).symm, (ne_mem I.m2 (none_upd hpp)).symm, ne_upd hpp⟩
 generalize upd (upd μ1 aa (MO.list (encs unks))) pp (MO.list []) = μ2 at L0
 clear q1 q2 q3 q4 hsrc1 hpp haa hk hs1 I hsrc
 refine Ex.forC ?_ fun _ => rfl
 refine EiC.range hr'.hh ?_
 have hms := L0.hs
 refine Ev.b bv_range ?_ (by assumption) (by rfl) (by assumption) (by rfl) (by decide) (by rfl) (by rfl) (by rfl) (by rfl)
 refine Es.cons ?_
 refine Ev.binop ?_
 refine Ev.p ?_
 refine Ev.g ?_ (by assumption) (by rfl) (by assumption) (by rfl) (by rfl) (by rfl) (by rfl) (by rfl)
 refine Es.p ?_
 refine law_take_spec (by assumption) (by assumption) (src := _) (by assumption) (by assumption) (by assumption) (by decide) ?_
 intro v a2 b2 v0 v1 ha2 hb2
 obtain ⟨n, rfl⟩ := Int.eq_ofNat_of_zero_le v0
 have L1 := L0.draw a2 b2
 refine Bin.add ?_
 refine Es.p ?_
 refine Call.range (n := 2 + n) ?_
 intro rg hrg
 refine ⟨rg, 2 + n, rfl, upd_self, Nat.le_trans (show 2 + n ≤ 10 by omega) (by decide), ?_⟩
 have L2 := L1.ans (Sub.new (mo := MO.obj (rangeOf (2 + n))) hrg) (.inl rfl) ((Sub.new (mo := MO.obj (rangeOf (2 + n))) hrg) _ _ L1.ha)
 generalize upd (upd μ2 src (srcMO a2 b2)) rg (MO.obj (rangeOf (2 + n))) = μ3 at L2
 clear hrg L1 L0 hms
 refine ⟨LwJ Inv x dx kn nu src pp,
  ⟨rfl, rfl, rfl, aa, _, _, [], a2, b2, rfl, L2, PL.begin, rfl, ha2, hb2⟩, ⟨Thru.no, ?_⟩, ?_⟩
 · rintro i d ρ μ' hd ⟨r1, r2, r3, aa', κ, α, ps, a3, b3, r4, L, inv, hlen, ha3, hb3⟩
   have hi3 : i < 2 + n := by
    rcases Nat.lt_or_ge i (2 + n) with q | q
    · exact q
    · rw [List.getElem?_eq_none (by rw [rgs_length]; exact q)] at hd; cases hd
   refine Asg.name (.inl (kf_local hs rfl)) (fun h9 => by rw [kf_local hs rfl] at h9; cases h9) ?_
   refine Ex.aC ?_ (by assumption) (by rfl) (by rfl)
   refine Ev.g ?_ (by assumption) (by rfl) (by assumption) (by rfl) (by rfl) (by rfl) (by rfl) (by rfl)
   refine Es.cons ?_
   refine Ev.n ?_ (by assumption) (by rfl) (by rfl)
   refine Es.p ?_
   refine law_type_spec 3 hC (by exact Rm.le (by assumption) (by decide)) L.hs ha3 hb3 ?_
   intro t a4 b4 ht ha4 hb4
   have L4 := L.draw a4 b4
   refine Ex.cons (Ex.assign (Ev.mono (Q := OtherP src μ') ?_ ?_) (.inl (kf_local hs rfl)) (fun h9 => by rw [kf_local hs rfl] at h9; cases h9) rfl)
   · refine Ev.ifexp ?_
     refine Et.cmp ?_
     refine Ev.g ?_ (by assumption) (by rfl) (by assumption) (by rfl) (by rfl) (by rfl) (by rfl) (by rfl)
     refine Es.cons ?_
     refine Ev.n ?_ (by assumption) (by rfl) (by rfl)
     refine Es.p ?_
     refine law_take_spec (by assumption) (by assumption) (src := _) (by exact upd_self) (by assumption) (by assumption) (by decide) ?_
     intro v a5 b5 v0' v1' ha5 hb5
     rw [upd_upd]
     have L5 := L.draw a5 b5
     refine Ev.p ?_
     refine Cmp.gtInt ?_
     refine Tru.bool ?_
     refine ⟨fun ec => ?_, fun ec => ?_⟩
     · refine Ev.g ?_ (by assumption) (by rfl) (by assumption) (by rfl) (by rfl) (by rfl) (by rfl) (by rfl)
       refine Es.cons ?_
       refine Ev.n ?_ (by assumption) (by rfl) (by rfl)
       refine Es.p ?_
       refine law_copy_spec 3 C A' _ _ hC (by exact Rm.le (by assumption) (by decide)) src a5 b5 L5.hs ha5 hb5 t ht ?_
       intro u a6 b6 hu ha6 hb6
       exact ⟨u, a6, b6, rfl, hu, ha6, hb6, upd_upd⟩
     · refine Ev.g ?_ (by assumption) (by rfl) (by assumption) (by rfl) (by rfl) (by rfl) (by rfl) (by rfl)
       refine Es.cons ?_
       refine Ev.n ?_ (by assumption) (by rfl) (by rfl)
       refine Es.p ?_
       refine law_type_spec 2 hC (by exact Rm.le (by assumption) (by decide)) L5.hs ha5 hb5 ?_
       intro u a6 b6 hu ha6 hb6
       exact ⟨u, a6, b6, rfl, hu.le (by decide), ha6, hb6, upd_upd⟩
   rintro _ _ ⟨u, a6, b6, rfl, hu, ha6, hb6, rfl⟩
   have L5 := L.draw a6 b6
   generalize upd μ' src (srcMO a6 b6) = μ5 at L5
   refine Ex.aC ?_ (by assumption) (by rfl) (by rfl)
   refine Ev.g ?_ (by assumption) (by rfl) (by assumption) (by rfl) (by rfl) (by rfl) (by rfl) (by rfl)
   refine Es.cons ?_
   refine Ev.n ?_ (by assumption) (by rfl) (by rfl)
   refine Es.p ?_
   obtain ⟨r, r', m, m', run1, run2, hres⟩ := PL.turn κ α ps t u inv (by omega) ht hu
   refine solved_spec (n := 0) hC (by exact Rm.le (by assumption) (by decide)) (PL.len κ α ps inv).2 L5.ha run2 ?_ ?_
   · intro hr0
     have hrn : r = none := by
      rcases hres with ⟨q, _⟩ | ⟨_, _, _, q, _⟩
      · exact q
      · rw [hr0] at q; cases q
     refine Ex.cons ?_
     refine Ex.tryAs (μ0 := fun _ => none) (R := fun ρ' => ρ' = bnd (bnd (bnd (bnd ρ "turn" d) "one" (enc t)) "other" (enc u)) "answer" .none ∧ r = none) (excCls hC) nb hfr2 hef (fun ev h => by cases h) (kf_local hs rfl) ?_ ?_
     · refine Ex.cons (Ex.exprG (G := r = none) (Cl := 45) (pl := _) nb hfr2 hef (fun ev h => by cases h) ?_ rfl rfl rfl (interactive_of hs rfl) rfl)
       have I5 := L5.I
       refine Ev.n ?_ (by assumption) (by rfl) (by rfl)
       refine infM (by assumption) (by assumption) (by rfl) (by rfl) (by rfl) (by rfl) (by rfl) ?_
       refine Es.p ?_
       refine ⟨se _, fun P hP hL hfm => ?_⟩
       have hLk : kn ≠ env.locals := fun e => by rw [← e, L5.I.m1] at hL; cases hL
       refine unify_spec (n := 0) hC nb (by exact Rm.le (by assumption) (by decide)) hfr2 hfm (Sub.both (se _) _ _) (by rw [upd_other hLk]) (PL.len κ α ps inv).1 (L5.I.mono (Sub.new hL)) run1 ?_
       intro κ' e1
       rw [hrn] at e1; cases e1
     · rintro e ρ1 μ7 ⟨rfl, _⟩ hx
       refine Ev.gfn hC rfl (kf_local hs rfl) rfl ⟨rfl, hx, ?_⟩
       obtain ⟨g1, g2, dx', f', m'', y, t', fly, hat, hmsg⟩ := hx
       refine Ex.retE ?_
       refine Ev.and2 ?_
       refine Ev.p ?_
       refine Tru.bool ?_
       refine br_t' (by first | rfl | assumption) ?_
       refine Ev.b bv_isi ?_ (by assumption) (by rfl) (by assumption) (by rfl) (by decide) (by rfl) (by rfl) (by rfl) (by rfl)
       refine Es.cons ?_
       refine Ev.excAttr (x := e) (y := y) (excCls hC) ?_ (by rw [hC]; rfl) (by rw [hC]; rfl) (by rw [hC]; rfl) (by rw [hC]; rfl) rfl
       refine Ev.p ?_
       refine ⟨dx', f', m'', t', rfl, fly, hat, hmsg, ?_⟩
       refine Es.cons ?_
       refine Ev.gbi (by assumption) (by rfl) (by with_reducible exact bv_str) (by exact kf_local (by assumption) (by rfl)) (by decide) (by rfl) ?_
       refine Es.p ?_
       refine Call.isStr ?_
       exact ⟨_, Sub.refl _, _, Sub.refl _, rfl⟩
   · intro a' α' μ6 e1 e2 e3 e4 e5
     obtain ⟨κ', hrs, inv'⟩ : ∃ κ', r = some κ' ∧ Inv κ' α' (ps ++ [(t, u)]) := by
      rcases hres with ⟨_, q⟩ | ⟨κ', α'', q1, q2, q3⟩
      · rw [q] at e1; cases e1
      · rw [q2] at e1; cases e1; exact ⟨κ', q1, q3⟩
     have L6 := L5.ans e4 e3 e5
     refine Ex.cons ?_
     refine Ex.tryAs (μ0 := fun _ => none) (R := fun ρ' => r = none) (excCls hC) nb hfr2 hef (fun ev h => by cases h) (kf_local hs rfl) ?_ ?_
     · refine Ex.monoX (Ex.cons (Ex.exprG (G := r = none) (Cl := 45) (pl := _) nb hfr2 hef (fun ev h => by cases h) ?_ rfl rfl rfl (interactive_of hs rfl) rfl)) fun _ _ _ _ x => ⟨x.1.2, x.2⟩
       have I6 := L6.I
       refine Ev.n ?_ (by assumption) (by rfl) (by rfl)
       refine infM (by assumption) (by assumption) (by rfl) (by rfl) (by rfl) (by rfl) (by rfl) ?_
       refine Es.p ?_
       refine ⟨se _, fun P hP hL hfm => ?_⟩
       have hLk : kn ≠ env.locals := fun e => by rw [← e, L6.I.m1] at hL; cases hL
       refine unify_spec (n := 0) hC nb (by exact Rm.le (by assumption) (by decide)) hfr2 hfm (Sub.both (se _) _ _) (by rw [upd_other hLk]) (PL.len κ α ps inv).1 (L6.I.mono (Sub.new hL)) run1 ?_
       intro κ2 e6 e7
       rw [hrs] at e6; cases e6
       refine ⟨(upd_other hLk.symm).trans upd_self, ?_⟩
       rw [del_upd hL hLk]
       have L7 := L6.bind κ'
       have hp7 := L7.hp
       have hl7 : (pairs ps).length ≤ 2 := by rw [pairs_len]; omega
       refine Ex.nil ?_
       refine Ex.skipIf ?_ (by with_unfolding_all rfl) (by first | rfl | assumption)
       refine Ex.cons ?_
       refine Ex.expr ?_ (by first | rfl | exact interactive_of (by assumption) (by rfl)) (by rfl)
       refine Ev.meth (pl := _) ?_ (by rfl) (by rfl) (by rfl)
       refine Ev.n ?_ (by assumption) (by rfl) (by rfl)
       refine listAppend (by assumption) ?_
       refine Es.p ?_
       refine Call.append (by assumption) (by (show _ ≤ 16777216); omega) ?_
       refine ⟨_, Sub.refl _, ?_⟩
       refine Ex.nil ?_
       refine ⟨r1, r2, r3, a', κ', α', ps ++ [(t, u)], a6, b6, rfl, ?_, inv', by simp [hlen], ha6, hb6⟩
       have := L7.more (ps ++ [(t, u)])
       rw [pairs_snoc] at this
       exact this
     · rintro e ρ1 μ7 hr0 hx
       rw [hrs] at hr0; cases hr0
 rintro ρ μ' ⟨r1, r2, r3, aa', κ, α, ps, a3, b3, r4, L, inv, hlen, ha3, hb3⟩
 rw [rest_self]
 refine ⟨_, Sub.refl _, ?_⟩
 rw [rgs_length] at hlen
 refine Ex.cons ?_
 refine Ex.ite ?_
 refine Et.not ?_
 refine Et.value ?_ (by rfl)
 refine Ev.g ?_ (by assumption) (by rfl) (by assumption) (by rfl) (by rfl) (by rfl) (by rfl) (by rfl)
 refine Es.cons ?_
 refine Ev.n ?_ (by assumption) (by rfl) (by rfl)
 refine Es.cons ?_
 refine Ev.n ?_ (by assumption) (by rfl) (by rfl)
 refine Es.cons ?_
 refine Ev.n ?_ (by assumption) (by rfl) (by rfl)
 refine Es.p ?_
 refine right_spec (μ0 := fun _ => none) (n := 0) hC hsys (by exact Rm.le (by assumption) (by decide)) (PL.right κ α ps inv (by omega)) L.I L.ha L.hp L.n5 L.n6 (fun _ _ e => nomatch e) rfl ?_
 obtain ⟨m1, ref1⟩ := PL.ref1
 obtain ⟨m2, ref2⟩ := PL.ref2
 refine Tru.bool ?_
 refine br_f (by first | rfl | assumption) ?_
 refine Ex.nil ?_
 refine Ex.aP ?_ (by with_unfolding_all rfl) (by assumption) (by rfl) (by rfl)
 refine Ex.aP ?_ (by with_unfolding_all rfl) (by assumption) (by rfl) (by rfl)
 refine Ex.cons ?_
 have fm : ∀ (μ : Mem) P, slotsP P → FrM [env] (upd μ env.locals (.obj P)) := fun μ P hP => FrM.cons (env := env) (l := []) (fun ev h => by cases h) (by rw [hs]; decide) hef upd_self hP
 refine Ex.retF (EvF.and2 (EvF.call (fv := .ref 247) nb ?_ (by rw [hC]; rfl) rfl rfl))
 refine Ev.gfn hC rfl (kf_local hs rfl) rfl ⟨rfl, ?_⟩
 refine Es.p ?_
 intro P hP hL
 refine refused_spec (t := .node (.var 1) []) (u := .node .box [.node (.var 1) []]) (r := none) (n := 0) hC nb (by exact Rm.le (by assumption) (by decide)) hfr2 (fm _ P hP) ref1 ⟨upd_self, ?_⟩
 refine Tru.bool (br_t' rfl ?_)
 refine EvF.call (fv := .ref 247) nb ?_ (by rw [hC]; rfl) rfl rfl
 refine Ev.gfn hC rfl (kf_local hs rfl) rfl ⟨rfl, ?_⟩
 refine Es.p ?_
 intro P2 hP2 hL2
 refine refused_spec (t := .node .tup [.node (.var 1) [], .node (.var 1) []]) (u := .node .tup [.node .bool [], .node (.ivar 3) []]) (r := none) (n := 0) hC nb (by exact Rm.le (by assumption) (by decide)) hfr2 (fm _ P2 hP2) ref2 ⟨upd_self, ?_⟩
 exact ⟨_, Sub.refl _, rfl⟩
end
theorem post_ok (ns : List Int) : PySem.Challenge.rw_nu0378_01.row.claim.post [ofPy (PyData.list (List.map PyData.int ns))] (WData.bool true) [ofPy (PyData.list (List.map PyData.int ns))] = true := by
 show (WShape.has [] (WData.bool true) .bool && _) = true
 rw [Bool.and_eq_true]
 constructor
 · rfl
 · show WTm.holds [] (.eq .res (.lit (.bool true))) _ = true
   first
   | rfl
   | with_unfolding_all rfl
   | (simp [WTm.holds, WTm.value]; done)
theorem law_end {prog : Program} {w : World} {s₁ : Shared} {c : ClaimW} {cl : Str → Option Addr} {mean : ExcName → Option Value} {args : List WData} {C : Cx} {sa : Addr} (hp : C.prog = prog) (hw : C.w = w) (hok : Ok C s₁ (fun _ => none)) (hg : s₁.gens = #[])
 (hr : ∀ cls, c.raises args cls = false) (hpost : c.post args (.bool true) args = true) (h : CallC C callerA (.ref 259) [.raw (.ref sa)] (fun _ => none) (fun d _ => d = .bool true)) :
 codeAny (model prog w) callerA (.call (.ref 259) ⟨[.ref sa], []⟩) (GoodWG c cl mean args s₁) s₁ := by
 subst hp hw
 refine codeAny_mono (h s₁ [.ref sa] hok (.cons (.raw _) .nil)) fun r s' z => GoodW.toG ?_
 cases r with
 | error e => exact z.elim
 | ok f =>
  cases f with
  | ret v =>
   obtain ⟨d, μ', r, k, t, rfl⟩ := z
   cases r
   refine ⟨.inl ⟨.bool true, .bool true, [], rfl, hr, ?_, hpost, fun _ => ⟨List.nodup_nil, by simp⟩⟩, fun b o hb => (t.keep b o hb rfl).2, ?_, ?_⟩
   · constructor
   · rw [t.eq]
   · rw [t.eq]; exact hg
  | _ => exact (z : False).elim
set_option maxHeartbeats 8000000 in
theorem law_join {Inv : List (Option T) → List T → List (T × T) → Prop} (PL : Plain Inv) : PySem.Challenge.rw_nu0378_01.Holds := hd (by
 intro w s₀ s₁ mg mb G Y fa o pm cd doc dV kV ho hd' hcd hD hmg hg args vals as hpre hlay hrd hwl hlo
 have KX := kIn_of Y
 have X := (Ground.X G).1
 have V := (Ground.X G).2
 refine Ground.open G ?_
 intro T B D TE TW
 wrow_args hpre hlay hrd hwl hlo
 all_goals (
  first | refine callC_kw (enter_call ?_) | refine enter_call ?_ | refine callC_kw (enter_callW ?_) | refine enter_callW ?_ | w_how
  have hfa := mg_of KX T.g (n := PySem.Str.ofString "law") (v := .ref 259) rfl
  have hfa2 : some (Value.ref fa) = some (.ref 259) := hmg.symm.trans hfa
  cases hfa2
  rename_i ns hs1 hlay0 hlay3 hr1 hl2 l4 l3 sa vsx l0 hLs ra w1 r0 hIa hr2 hcond1 hcond2
  have hsys : ∃ o, s₁.heap.get? sysModules = some o := by
   obtain ⟨mm, ⟨oo, es, ep, hoo, _⟩, _⟩ := (T.seer (by decide +kernel)).mods
   exact ⟨oo, hoo⟩
  refine law_end (C := ⟨s₁.heap, Challenge.rw_nu0378_01.row.prog, w, hd.heap_39 w.params, KX, ⟨_, _, _, _, topRead_of T⟩, fun _ => False, fun _ _ _ h => h⟩) rfl rfl ⟨fun _ _ e => (nomatch e), fun b o e => ⟨rfl, e⟩, fun b h => h.elim⟩ hg (fun _ => rfl) ?_
   (law_call PL rfl hsys (fun _ h => h) ⟨rfl, by decide, by decide⟩ rfl hLs hIa ?_ (fun x hx => intBits_le_of_item hx hlay3))
  · exact post_ok ns
  · omega))
theorem ar1 {x y z s w n : Nat} (h1 : w ≤ n + 1) (h2 : w = x + s) (h3 : z ≤ y) (h4 : y + 1 = s) : x + z ≤ n := by omega
theorem ar2 {j l c d g h r : Nat} (q : l ≤ j) (hj : j - l < min c d) (h2 : c ≤ 2) (h3 : l + h ≤ r) (h4 : g + 1 ≤ h) : j + g ≤ r := by
 have : j - l < 2 := Nat.lt_of_lt_of_le (Nat.lt_of_lt_of_le hj (Nat.min_le_left _ _)) h2
 obtain ⟨e, rfl⟩ := Nat.exists_eq_add_of_le q
 rw [Nat.add_sub_cancel_left] at this
 clear hj h2 q
 omega
theorem ar3 {x s w n : Nat} (h1 : w ≤ n + 1) (h2 : w = x + s) (h3 : 1 ≤ s) : x ≤ n := by omega
noncomputable abbrev Sb := Nat → T
mutual
noncomputable def sub (θ : Sb) : T → T
 | .node h ch => match h.idx with
  | some i => θ i
  | none => .node h (subs θ ch)
noncomputable def subs (θ : Sb) : List T → List T
 | [] => []
 | t :: ts => sub θ t :: subs θ ts
end
theorem subs_eq (θ : Sb) : ∀ l : List T, subs θ l = l.map (sub θ)
 | [] => rfl
 | t :: ts => congrArg (List.cons _) (subs_eq θ ts)
theorem sub_some {θ : Sb} {h : Hd} {ch : List T} {i : Nat} (e : h.idx = some i) : sub θ (.node h ch) = θ i := by unfold sub; rw [e]
theorem sub_none {θ : Sb} {h : Hd} {ch : List T} (e : h.idx = none) : sub θ (.node h ch) = .node h (ch.map (sub θ)) := by unfold sub; rw [e, ← subs_eq]
mutual
noncomputable def occ (i : Nat) : T → Bool
 | .node h ch => match h.idx with
  | some j => i == j
  | none => occs i ch
noncomputable def occs (i : Nat) : List T → Bool
 | [] => false
 | t :: ts => occ i t || occs i ts
end
theorem occs_eq (i : Nat) : ∀ l : List T, occs i l = l.any (occ i)
 | [] => rfl
 | t :: ts => congrArg (occ i t || ·) (occs_eq i ts)
theorem occ_some {h : Hd} {ch : List T} {i j : Nat} (e : h.idx = some j) : occ i (.node h ch) = (i == j) := by unfold occ; rw [e]
theorem occ_none {h : Hd} {ch : List T} {i : Nat} (e : h.idx = none) : occ i (.node h ch) = ch.any (occ i) := by unfold occ; rw [e, ← occs_eq]
theorem countP_le {α : Type} {p q : α → Bool} (h : ∀ x, p x = true → q x = true) : ∀ l : List α, l.countP p ≤ l.countP q := fun l => List.countP_mono_left fun x _ => h x
theorem countP_lt {α : Type} {p q : α → Bool} (h : ∀ x, p x = true → q x = true) {l : List α} {a : α} (ha : a ∈ l) (hq : q a = true) (hp : p a = false) : l.countP p < l.countP q := by
 obtain ⟨l1, l2, rfl⟩ := List.append_of_mem ha
 rw [List.countP_append, List.countP_append, List.countP_cons_of_neg (by rw [hp]; decide), List.countP_cons_of_pos hq]
 exact Nat.add_lt_add_of_le_of_lt (countP_le h l1) (Nat.lt_succ_of_le (countP_le h l2))
theorem T.ind {P : T → Prop} (h : ∀ hd ch, (∀ c ∈ ch, P c) → P (.node hd ch)) : ∀ t, P t := by
 intro t
 have key : ∀ n, ∀ t : T, t.size ≤ n → P t := by
  intro n
  induction n with
  | zero => intro t ht; obtain ⟨hd, ch⟩ := t; simp [T.size] at ht
  | succ n ih =>
   intro t ht
   obtain ⟨hd, ch⟩ := t
   refine h hd ch fun c hc => ih c ?_
   have := size_mem hc
   simp only [T.size] at ht; omega
 exact key t.size t (Nat.le_refl _)
theorem sub_congr {θ η : Sb} : ∀ t : T, (∀ i, occ i t = true → θ i = η i) → sub θ t = sub η t := by
 apply T.ind
 intro hd ch ih h
 cases e : hd.idx with
 | some j => rw [sub_some e, sub_some e]; exact h j (by rw [occ_some e]; simp)
 | none =>
  rw [sub_none e, sub_none e]
  congr 1
  refine List.map_congr_left fun c hc => ih c hc fun i hi => h i ?_
  rw [occ_none e]; exact List.any_eq_true.mpr ⟨c, hc, hi⟩
theorem sub_sub (θ η : Sb) : ∀ t : T, sub θ (sub η t) = sub (fun i => sub θ (η i)) t := by
 apply T.ind
 intro hd ch ih
 cases e : hd.idx with
 | some j => rw [sub_some e, sub_some e]
 | none =>
  rw [sub_none e, sub_none e, sub_none e, List.map_map]
  congr 1
  exact List.map_congr_left fun c hc => ih c hc
theorem unkT_idx {i : Nat} : (unkT i).hd.idx = some i := by unfold unkT; split <;> rfl
theorem leaf_unk {h : Hd} {ch : List T} {i : Nat} (e : h.idx = some i) (hf : fits h ch.length) (hv : hok h) : T.node h ch = unkT i := by
 rw [leaf_nil e hf]
 unfold unkT
 rcases idx_inv e with rfl | rfl
 · rw [if_pos (show i < 3 from hv)]
 · rw [if_neg (Nat.not_lt_of_le hv.1)]
theorem sub_unk : ∀ t : T, t.wf → t.vok → sub unkT t = t := by
 apply T.ind
 intro hd ch ih hw hv
 cases e : hd.idx with
 | some j => rw [sub_some e]; exact (leaf_unk e hw.1 hv.1).symm
 | none =>
  rw [sub_none e]
  congr 1
  have : ch.map (sub unkT) = ch.map id := List.map_congr_left fun c hc => ih c hc ((wfs_iff _).mp hw.2 c hc) ((voks_iff _).mp hv.2 c hc)
  rw [this, List.map_id]
theorem sub_unkT (θ : Sb) (i : Nat) : sub θ (unkT i) = θ i := by unfold unkT; split <;> exact sub_some rfl
theorem occ_unkT (i j : Nat) : occ i (unkT j) = (i == j) := by unfold unkT; split <;> exact occ_some rfl
theorem occ_lt : ∀ t : T, t.vok → ∀ i, occ i t = true → i < 5 := by
 apply T.ind
 intro hd ch ih hv i hi
 cases e : hd.idx with
 | some j =>
  rw [occ_some e] at hi
  have : i = j := by simpa using hi
  subst this
  have := hv.1
  rcases idx_inv e with rfl | rfl
  · exact Nat.lt_trans (show i < 3 from this) (by decide)
  · exact this.2
 | none =>
  rw [occ_none e] at hi
  obtain ⟨c, hc, h⟩ := List.any_eq_true.mp hi
  exact ih c hc ((voks_iff _).mp hv.2 c hc) i h
theorem occ_sub {θ : Sb} {i : Nat} : ∀ t : T, occ i (sub θ t) = true ↔ ∃ j, occ j t = true ∧ occ i (θ j) = true := by
 apply T.ind
 intro hd ch ih
 cases e : hd.idx with
 | some j =>
  rw [sub_some e]
  constructor
  · intro h; exact ⟨j, by rw [occ_some e]; simp, h⟩
  · rintro ⟨k, h1, h2⟩
    rw [occ_some e] at h1
    have : k = j := by simpa using h1
    exact this ▸ h2
 | none =>
  rw [sub_none e, occ_none e]
  constructor
  · intro h
    obtain ⟨c', hc', h'⟩ := List.any_eq_true.mp h
    obtain ⟨c, hc, rfl⟩ := List.mem_map.mp hc'
    obtain ⟨j, h1, h2⟩ := (ih c hc).mp h'
    exact ⟨j, by rw [occ_none e]; exact List.any_eq_true.mpr ⟨c, hc, h1⟩, h2⟩
  · rintro ⟨j, h1, h2⟩
    rw [occ_none e] at h1
    obtain ⟨c, hc, h3⟩ := List.any_eq_true.mp h1
    exact List.any_eq_true.mpr ⟨sub θ c, List.mem_map_of_mem hc, (ih c hc).mpr ⟨j, h3, h2⟩⟩
theorem sizes_map (f : T → T) : ∀ l : List T, T.sizes (l.map f) = (l.map fun c => (f c).size).sum
 | [] => rfl
 | t :: ts => by simp [T.sizes, sizes_map f ts]
theorem size_pos (t : T) : 1 ≤ t.size := by obtain ⟨h, ch⟩ := t; simp [T.size]
theorem size_occ {θ : Sb} {i : Nat} : ∀ t : T, occ i t = true → (θ i).size ≤ (sub θ t).size ∧ (t.hd.idx = none → (θ i).size < (sub θ t).size) := by
 apply T.ind
 intro hd ch ih hi
 cases e : hd.idx with
 | some j =>
  rw [occ_some e] at hi
  have : i = j := by simpa using hi
  subst this
  rw [sub_some e]
  exact ⟨Nat.le_refl _, fun h => by simp [T.hd, e] at h⟩
 | none =>
  rw [occ_none e] at hi
  obtain ⟨c, hc, h⟩ := List.any_eq_true.mp hi
  have h1 := (ih c hc h).1
  have h2 : (sub θ c).size ≤ T.sizes (ch.map (sub θ)) := size_mem (List.mem_map_of_mem hc)
  rw [sub_none e]
  simp only [T.size]
  exact ⟨by omega, fun _ => by omega⟩
theorem hgt_sub_le {θ : Sb} {B : Nat} : ∀ t : T, (∀ i, occ i t = true → (θ i).hgt ≤ B) → (sub θ t).hgt ≤ t.hgt + B := by
 apply T.ind
 intro hd ch ih h
 cases e : hd.idx with
 | some j => rw [sub_some e]; exact Nat.le_trans (h j (by rw [occ_some e]; simp)) (Nat.le_add_left _ _)
 | none =>
  rw [sub_none e]
  simp only [T.hgt]
  refine hgts_le fun c' hc' => ?_
  obtain ⟨c, hc, rfl⟩ := List.mem_map.mp hc'
  have h1 := ih c hc fun i hi => h i (by rw [occ_none e]; exact List.any_eq_true.mpr ⟨c, hc, hi⟩)
  have h2 := hgts_mem hc
  omega
theorem hgt_le_sub {θ : Sb} : ∀ t : T, t.wf → t.hgt ≤ (sub θ t).hgt := by
 apply T.ind
 intro hd ch ih hw
 cases e : hd.idx with
 | some j =>
  have : ch = [] := leaf_nil e hw.1
  subst this; simp [T.hgt, T.hgts]
 | none =>
  rw [sub_none e]
  simp only [T.hgt]
  refine hgts_le fun c hc => ?_
  have h1 := ih c hc ((wfs_iff _).mp hw.2 c hc)
  have h2 : (sub θ c).hgt + 1 ≤ T.hgts (ch.map (sub θ)) := hgts_mem (List.mem_map_of_mem hc)
  omega
theorem wf_sub {θ : Sb} : ∀ t : T, t.wf → (∀ i, occ i t = true → (θ i).wf) → (sub θ t).wf := by
 apply T.ind
 intro hd ch ih hw h
 cases e : hd.idx with
 | some j => rw [sub_some e]; exact h j (by rw [occ_some e]; simp)
 | none =>
  rw [sub_none e]
  refine ⟨by rw [List.length_map]; exact hw.1, (wfs_iff _).mpr fun c' hc' => ?_⟩
  obtain ⟨c, hc, rfl⟩ := List.mem_map.mp hc'
  exact ih c hc ((wfs_iff _).mp hw.2 c hc) fun i hi => h i (by rw [occ_none e]; exact List.any_eq_true.mpr ⟨c, hc, hi⟩)
theorem vok_sub {θ : Sb} : ∀ t : T, t.vok → (∀ i, occ i t = true → (θ i).vok) → (sub θ t).vok := by
 apply T.ind
 intro hd ch ih hw h
 cases e : hd.idx with
 | some j => rw [sub_some e]; exact h j (by rw [occ_some e]; simp)
 | none =>
  rw [sub_none e]
  refine ⟨hw.1, (voks_iff _).mpr fun c' hc' => ?_⟩
  obtain ⟨c, hc, rfl⟩ := List.mem_map.mp hc'
  exact ih c hc ((voks_iff _).mp hw.2 c hc) fun i hi => h i (by rw [occ_none e]; exact List.any_eq_true.mpr ⟨c, hc, hi⟩)
theorem unkT_wf (i : Nat) : (unkT i).wf := by unfold unkT; split <;> exact ⟨rfl, trivial⟩
theorem unkT_vok {i : Nat} (h : i < 5) : (unkT i).vok := by
 unfold unkT; split
 · exact ⟨by assumption, trivial⟩
 · exact ⟨⟨by omega, h⟩, trivial⟩
theorem unkT_hgt (i : Nat) : (unkT i).hgt = 0 := by unfold unkT; split <;> rfl
theorem unkT_inj {i j : Nat} (h : unkT i = unkT j) : i = j := by
 have := congrArg (fun t : T => t.hd.idx) h
 simpa [unkT_idx] using this
noncomputable def single (i : Nat) (v : T) : Sb := fun j => if j = i then v else unkT j
theorem put_sub {i : Nat} {v : T} : ∀ t : T, t.wf → t.vok → T.put (unkT i) v t = sub (single i v) t := by
 apply T.ind
 intro hd ch ih hw hv
 unfold T.put
 cases e : hd.idx with
 | some j =>
  rw [sub_some e, leaf_unk e hw.1 hv.1]
  unfold single
  by_cases q : j = i
  · subst q; rw [if_pos rfl, if_pos rfl]
  · rw [if_neg (fun h => q (unkT_inj h)), if_neg q]
    have hc : ch = [] := leaf_nil e hw.1
    subst hc
    exact leaf_unk e hw.1 hv.1
 | none =>
  rw [sub_none e, if_neg (fun h => by have := congrArg (fun t : T => t.hd.idx) h; simp [unkT_idx, T.hd, e] at this), puts_eq]
  congr 1
  exact List.map_congr_left fun c hc => ih c hc ((wfs_iff _).mp hw.2 c hc) ((voks_iff _).mp hv.2 c hc)
theorem has_occ {i : Nat} : ∀ t : T, t.wf → t.vok → T.has (unkT i) t = occ i t := by
 apply T.ind
 intro hd ch ih hw hv
 unfold T.has
 cases e : hd.idx with
 | some j =>
  have hc : ch = [] := leaf_nil e hw.1
  subst hc
  rw [occ_some e, leaf_unk e hw.1 hv.1, Bool.eq_iff_iff]
  simp only [T.hass, Bool.or_false, decide_eq_true_eq, beq_iff_eq]
  exact ⟨fun h => (unkT_inj h).symm, fun h => by rw [h]⟩
 | none =>
  rw [occ_none e, hass_eq, decide_eq_false (fun h => by have := congrArg (fun t : T => t.hd.idx) h; simp [unkT_idx, T.hd, e] at this), Bool.false_or]
  rw [Bool.eq_iff_iff, List.any_eq_true, List.any_eq_true]
  constructor <;> rintro ⟨c, hc, h⟩ <;> refine ⟨c, hc, ?_⟩
  · rwa [ih c hc ((wfs_iff _).mp hw.2 c hc) ((voks_iff _).mp hv.2 c hc)] at h
  · rwa [ih c hc ((wfs_iff _).mp hw.2 c hc) ((voks_iff _).mp hv.2 c hc)]
noncomputable def Srt (θ : Sb) : Prop := ∀ i, 3 ≤ i → i < 5 → ((θ i).hd.isInt || (θ i).hd.isIv) = true
noncomputable def Sol (κ : List (Option T)) (θ : Sb) : Prop := ∀ i t, κ[i]? = some (some t) → θ i = sub θ t
structure Good (κ : List (Option T)) (σ : Sb) (rk : Nat → Nat) : Prop where
 len : κ.length = 5
 free : ∀ i, κ[i]? = some none → σ i = unkT i
 bound : ∀ i t, κ[i]? = some (some t) → σ i = sub σ t ∧ t.good 3 ∧ (3 ≤ i → (t.hd.isInt || t.hd.isIv) = true) ∧ ∀ j, occ j t = true → rk j < rk i
 rk4 : ∀ i, i < 5 → rk i ≤ 4
section
variable {κ : List (Option T)} {σ : Sb} {rk : Nat → Nat} (G : Good κ σ rk)
include G
theorem Good.slot {i : Nat} (h : i < 5) : κ[i]? = some none ∨ ∃ t, κ[i]? = some (some t) := by
 have hl := G.len
 cases e : κ[i]? with
 | none => have := List.getElem?_eq_none_iff.mp e; omega
 | some o => cases o with
  | none => exact .inl rfl
  | some t => exact .inr ⟨t, rfl⟩
theorem Good.sol : Sol κ σ := fun i t h => (G.bound i t h).1
theorem Good.ind {P : Nat → Prop} (h1 : ∀ i, i < 5 → κ[i]? = some none → P i) (h2 : ∀ i t, i < 5 → κ[i]? = some (some t) → (∀ j, occ j t = true → P j) → P i) : ∀ i, i < 5 → P i := by
 have key : ∀ n i, i < 5 → rk i < n → P i := by
  intro n
  induction n with
  | zero => intro i _ h; omega
  | succ n ih =>
   intro i hi hr
   rcases G.slot hi with h | ⟨t, h⟩
   · exact h1 i hi h
   · obtain ⟨_, g, _, r⟩ := G.bound i t h
     exact h2 i t hi h fun j hj => ih j (occ_lt t g.vok j hj) (by have := r j hj; omega)
 exact fun i hi => key _ i hi (Nat.lt_succ_self _)
theorem Good.mgu {θ : Sb} (h : Sol κ θ) : ∀ i, i < 5 → θ i = Mine.sub θ (σ i) := by
 refine G.ind (fun i hi e => ?_) fun i t hi e ih => ?_
 · rw [G.free i e, sub_unkT]
 · obtain ⟨e1, g, _, _⟩ := G.bound i t e
   rw [e1, sub_sub, h i t e]
   exact sub_congr t fun j hj => ih j hj
theorem Good.mguT {θ : Sb} (h : Sol κ θ) {t : T} (hv : t.vok) : Mine.sub θ t = Mine.sub θ (Mine.sub σ t) := by
 rw [sub_sub]
 exact sub_congr t fun j hj => G.mgu h j (occ_lt t hv j hj)
theorem Good.wfs : ∀ i, i < 5 → (σ i).wf ∧ (σ i).vok := by
 refine G.ind (fun i hi e => ?_) fun i t hi e ih => ?_
 · rw [G.free i e]; exact ⟨unkT_wf i, unkT_vok hi⟩
 · obtain ⟨e1, g, _, _⟩ := G.bound i t e
   rw [e1]
   exact ⟨wf_sub t g.wf fun j hj => (ih j hj).1, vok_sub t g.vok fun j hj => (ih j hj).2⟩
theorem Good.hgt1 : ∀ n i, i < 5 → rk i ≤ n → (σ i).hgt ≤ 3 * n + 3 := by
 intro n
 induction n with
 | zero =>
  intro i hi hr
  rcases G.slot hi with h | ⟨t, h⟩
  · rw [G.free i h, unkT_hgt]; omega
  · obtain ⟨e1, g, _, r⟩ := G.bound i t h
    rw [e1]
    have := hgt_sub_le (θ := σ) (B := 0) t fun j hj => by have := r j hj; omega
    have := g.hgt; omega
 | succ n ih =>
  intro i hi hr
  rcases G.slot hi with h | ⟨t, h⟩
  · rw [G.free i h, unkT_hgt]; omega
  · obtain ⟨e1, g, _, r⟩ := G.bound i t h
    rw [e1]
    have := hgt_sub_le (θ := σ) (B := 3 * n + 3) t fun j hj => ih j (occ_lt t g.vok j hj) (by have := r j hj; omega)
    have := g.hgt; omega
theorem Good.hgt15 {i : Nat} (hi : i < 5) : (σ i).hgt ≤ 15 := by
 have h4 := G.rk4 i hi
 have := G.hgt1 4 i hi h4
 omega
theorem Good.hgt18 {t : T} (h : t.good 3) : (Mine.sub σ t).hgt ≤ 18 := by
 have := hgt_sub_le (θ := σ) (B := 15) t fun j hj => G.hgt15 (occ_lt t h.vok j hj)
 have := h.hgt; omega
theorem Good.wfT {t : T} (h : t.wf) (hv : t.vok) : (Mine.sub σ t).wf := wf_sub t h fun j hj => (G.wfs j (occ_lt t hv j hj)).1
theorem Good.vokT {t : T} (hv : t.vok) : (Mine.sub σ t).vok := vok_sub t hv fun j hj => (G.wfs j (occ_lt t hv j hj)).2
theorem Good.srt : Srt σ := by
 have key : ∀ i, i < 5 → 3 ≤ i → ((σ i).hd.isInt || (σ i).hd.isIv) = true := by
  refine G.ind (fun i hi e h3 => ?_) fun i t hi e ih h3 => ?_
  · rw [G.free i e]; unfold unkT; rw [if_neg (by omega)]; rfl
  · obtain ⟨e1, g, s, _⟩ := G.bound i t e
    rw [e1]
    have hs := s h3
    obtain ⟨hh, ch⟩ := t
    cases q : hh.idx with
    | none => rw [sub_none q]; exact hs
    | some j =>
     rw [sub_some q]
     refine ih j (by rw [occ_some q]; simp) ?_
     have hv := g.vok.1
     rcases idx_inv q with rfl | rfl
     · exact nomatch (show false = true from hs)
     · exact hv.1
 exact fun i h3 h5 => key i h5 h3
theorem Good.shal {t : T} (ht : t.good 3) : ∃ c m, Shal κ t c m ∧ c.good 3 ∧ (∀ θ, Sol κ θ → Mine.sub θ t = Mine.sub θ c) ∧ (c.hd.idx = none ∨ ∃ i, i < 5 ∧ c = unkT i ∧ κ[i]? = some none) := by
 have key : ∀ i, i < 5 → ∃ c m, Shal κ (unkT i) c m ∧ c.good 3 ∧ (∀ θ, Sol κ θ → Mine.sub θ (unkT i) = Mine.sub θ c) ∧ (c.hd.idx = none ∨ ∃ i, i < 5 ∧ c = unkT i ∧ κ[i]? = some none) := by
  refine G.ind (fun i hi e => ?_) fun i t hi e ih => ?_
  · exact ⟨unkT i, 0, .free unkT_idx e, ⟨unkT_wf i, unkT_vok hi, by rw [unkT_hgt]; omega⟩, fun _ _ => rfl, .inr ⟨i, hi, rfl, e⟩⟩
  · obtain ⟨e1, g, _, _⟩ := G.bound i t e
    obtain ⟨hh, ch⟩ := t
    cases q : hh.idx with
    | none => exact ⟨_, 1, .step unkT_idx e (.leaf q), g, fun θ hθ => by rw [sub_unkT]; exact hθ i _ e, .inl q⟩
    | some j =>
     have ej : T.node hh ch = unkT j := leaf_unk q g.wf.1 g.vok.1
     obtain ⟨c, m, h1, h2, h3, h4⟩ := ih j (by rw [occ_some q]; simp)
     refine ⟨c, m + 1, .step unkT_idx e (ej ▸ h1), h2, fun θ hθ => ?_, h4⟩
     rw [sub_unkT, hθ i _ e, ej]; exact h3 θ hθ
 obtain ⟨hh, ch⟩ := t
 cases q : hh.idx with
 | none => exact ⟨_, 0, .leaf q, ht, fun _ _ => rfl, .inl q⟩
 | some j =>
  have ej : T.node hh ch = unkT j := leaf_unk q ht.wf.1 ht.vok.1
  rw [ej]
  exact key j (occ_lt _ ht.vok j (by rw [occ_some q]; simp))
end
noncomputable def cmp (K : Nat → Nat) (x : Nat) : Nat := (List.range 5).countP fun y => decide (K y < K x)
theorem cmp_lt {K : Nat → Nat} {x y : Nat} (hy : y < 5) (h : K y < K x) : cmp K y < cmp K x :=
 countP_lt (fun z q => decide_eq_true (Nat.lt_trans (of_decide_eq_true q) h)) (List.mem_range.mpr hy) (decide_eq_true h) (decide_eq_false (Nat.lt_irrefl _))
theorem cmp_le {K : Nat → Nat} {x : Nat} (hx : x < 5) : cmp K x ≤ 4 := by
 have h1 := countP_lt (l := List.range 5) (p := fun y => decide (K y < K x)) (q := fun _ => true) (fun _ _ => rfl) (List.mem_range.mpr hx) rfl (decide_eq_false (Nat.lt_irrefl _))
 exact Nat.le_of_lt_succ h1
theorem sub_single_out {u : Nat} {v t : T} (hw : t.wf) (hv : t.vok) (h : occ u t = false) : sub (single u v) t = t := by
 rw [sub_congr (η := unkT) t fun i hi => ?_, sub_unk t hw hv]
 unfold single
 rw [if_neg fun e => by rw [e, h] at hi; cases hi]
theorem Sol.set {κ : List (Option T)} {θ : Sb} {u : Nat} {t : T} (hu : κ[u]? = some none) : Sol (κ.set u (some t)) θ ↔ Sol κ θ ∧ θ u = Mine.sub θ t := by
 have hl : u < κ.length := by
  rcases Nat.lt_or_ge u κ.length with h | h
  · exact h
  · rw [List.getElem?_eq_none h] at hu; cases hu
 constructor
 · intro h
   refine ⟨fun i s hi => h i s ?_, h u t ?_⟩
   · have : u ≠ i := fun e => by rw [← e, hu] at hi; cases hi
     rw [List.getElem?_set_ne this]; exact hi
   · rw [List.getElem?_set_self hl]
 · rintro ⟨h1, h2⟩ i s hi
   by_cases e : u = i
   · subst e
     rw [List.getElem?_set_self hl] at hi
     cases hi; exact h2
   · rw [List.getElem?_set_ne e] at hi; exact h1 i s hi
theorem Good.bind {κ : List (Option T)} {σ : Sb} {rk : Nat → Nat} (G : Good κ σ rk) {u : Nat} {t : T} (hu5 : u < 5) (hu : κ[u]? = some none) (ht : t.good 3) (hs : 3 ≤ u → (t.hd.isInt || t.hd.isIv) = true) (ho : occ u (Mine.sub σ t) = false) :
 ∃ σ' rk', Good (κ.set u (some t)) σ' rk' := by
 have hl : u < κ.length := by rw [G.len]; exact hu5
 have hσu : σ u = unkT u := G.free u hu
 refine ⟨fun i => Mine.sub (single u (Mine.sub σ t)) (σ i), cmp fun x => rk x + if occ u (σ x) = true then 5 else 0, by rw [List.length_set]; exact G.len, fun i hi => ?_, fun i s hi => ?_, fun i hi => cmp_le hi⟩
 · have : u ≠ i := fun e => by subst e; rw [List.getElem?_set_self hl] at hi; cases hi
   rw [List.getElem?_set_ne this] at hi
   show Mine.sub _ (σ i) = _
   rw [G.free i hi, sub_unkT]
   unfold single; rw [if_neg this.symm]
 · by_cases e : u = i
   · subst e
     rw [List.getElem?_set_self hl] at hi
     cases hi
     refine ⟨?_, ht, hs, fun j hj => ?_⟩
     · show Mine.sub _ (σ u) = _
       rw [hσu, sub_unkT, ← sub_sub, sub_single_out (G.wfT ht.wf ht.vok) (G.vokT ht.vok) ho]
       unfold single; rw [if_pos rfl]
     · have hj5 := occ_lt t ht.vok j hj
       have h1 : occ u (σ j) = false := by
        cases q : occ u (σ j) with
        | false => rfl
        | true => rw [(occ_sub t).mpr ⟨j, hj, q⟩] at ho; cases ho
       refine cmp_lt hj5 ?_
       show rk j + (if occ u (σ j) = true then 5 else 0) < rk u + (if occ u (σ u) = true then 5 else 0)
       rw [h1, if_neg (by decide), if_pos (by rw [hσu, occ_unkT]; simp)]
       have := G.rk4 j hj5; omega
   · rw [List.getElem?_set_ne e] at hi
     obtain ⟨e1, g, s1, r⟩ := G.bound i s hi
     refine ⟨?_, g, s1, fun j hj => ?_⟩
     · show Mine.sub _ (σ i) = _
       rw [e1, sub_sub]
     · refine cmp_lt (occ_lt s g.vok j hj) ?_
       show rk j + (if occ u (σ j) = true then 5 else 0) < rk i + (if occ u (σ i) = true then 5 else 0)
       have := r j hj
       by_cases q : occ u (σ j) = true
       · rw [if_pos q, if_pos (by rw [e1]; exact (occ_sub s).mpr ⟨j, hj, q⟩)]; omega
       · rw [if_neg q]; omega
theorem size_le : ∀ t : T, t.wf → t.size + 1 ≤ 2 ^ (t.hgt + 1) := by
 apply T.ind
 intro hd ch ih hw
 have hl := fits_len hw.1
 have hc : ∀ c ∈ ch, c.size + 1 ≤ 2 ^ T.hgts ch := fun c hc => Nat.le_trans (ih c hc ((wfs_iff _).mp hw.2 c hc)) (Nat.pow_le_pow_right (by decide) (hgts_mem hc))
 have hp : 1 ≤ 2 ^ T.hgts ch := Nat.one_le_two_pow
 simp only [T.hgt, T.size, Nat.pow_succ]
 match ch, hl with
 | [], _ => simp only [T.sizes]; omega
 | [a], _ => have := hc a (.head _); simp only [T.sizes]; omega
 | [a, b], _ => have h1 := hc a (.head _); have h2 := hc b (.tail _ (.head _)); simp only [T.sizes]; omega
section
variable {κ : List (Option T)} {σ : Sb} {rk : Nat → Nat} (G : Good κ σ rk)
include G
theorem Good.size19 {t : T} (h : t.good 3) : (Mine.sub σ t).size ≤ 2 ^ 19 := by
 have h1 := size_le _ (G.wfT h.wf h.vok)
 have h2 := G.hgt18 h
 have h3 : 2 ^ ((Mine.sub σ t).hgt + 1) ≤ 2 ^ 19 := Nat.pow_le_pow_right (by decide) (by omega)
 omega
theorem good_ch {c : T} {n : Nat} (h : c.good n) : ∀ x ∈ c.ch, x.good n := fun x hx => by
 obtain ⟨hd, ch⟩ := c
 have h1 : x.hgt + 1 ≤ T.hgts ch := hgts_mem hx
 have h2 : T.hgts ch ≤ n := h.hgt
 exact ⟨(wfs_iff _).mp h.wf.2 x hx, (voks_iff _).mp h.vok.2 x hx, by omega⟩
theorem Good.res : ∀ (n : Nat) {t : T}, t.good 3 → (Mine.sub σ t).hgt < n → Res κ n t (Mine.sub σ t) := by
 intro n
 induction n with
 | zero => intro t _ h; omega
 | succ n ih =>
  intro t ht hn
  obtain ⟨c, m, h1, h2, h3, h4⟩ := G.shal ht
  have h5 := h3 σ G.sol
  rcases h4 with h4 | ⟨i, hi, rfl, h4⟩
  · obtain ⟨hd, ch⟩ := c
    have e : hd.idx = none := h4
    rw [h5, sub_none e] at hn ⊢
    refine ⟨m, _, ch.map (Mine.sub σ), h1, h2.wf, ?_, rfl⟩
    have : ∀ l : List T, (∀ x ∈ l, x ∈ ch) → All2 (Res κ n) l (l.map (Mine.sub σ)) := by
     intro l
     induction l with
     | nil => intro _; exact .nil
     | cons x l ihl =>
      intro hl
      have hx := hl x (.head _)
      refine .cons (ih (good_ch G h2 x hx) ?_) (ihl fun y hy => hl y (.tail _ hy))
      have := hgts_mem (List.mem_map_of_mem (f := Mine.sub σ) hx)
      simp only [T.hgt] at hn; omega
    exact this ch fun x hx => hx
  · rw [h5, sub_unkT, G.free i h4]
    have hch : (unkT i).ch = [] := by unfold unkT; split <;> rfl
    refine ⟨m, unkT i, [], h1, h2.wf, by rw [hch]; exact .nil, ?_⟩
    unfold unkT; split <;> rfl
theorem Good.tells {t : T} (h : t.good 3) : Tells κ t := by
 have h1 := G.hgt18 h
 exact ⟨_, _, G.res ((Mine.sub σ t).hgt + 1) h (Nat.lt_succ_self _), by omega, G.wfT h.wf h.vok, G.vokT h.vok, G.size19 h, by omega⟩
end
noncomputable def wt (σ : Sb) (l : List T) : Nat := (l.map fun t => (Mine.sub σ t).size).sum
theorem wt_app (σ : Sb) (l m : List T) : wt σ (l ++ m) = wt σ l + wt σ m := by unfold wt; simp
theorem wt_len (σ : Sb) : ∀ l : List T, l.length ≤ wt σ l
 | [] => Nat.zero_le _
 | t :: ts => by have := wt_len σ ts; have := size_pos (Mine.sub σ t); unfold wt at *; simp; omega
theorem wt_ch {σ : Sb} {hd : Hd} {ch : List T} (e : hd.idx = none) : wt σ ch + 1 = (Mine.sub σ (.node hd ch)).size := by
 rw [sub_none e]; simp only [T.size, sizes_map]; rfl
theorem unkT_ch (i : Nat) : (unkT i).ch = [] := by unfold unkT; split <;> rfl
theorem snoc_of {α : Type} : ∀ {l : List α}, l ≠ [] → ∃ l' p, l = l' ++ [p] := fun {l} h => ⟨l.dropLast, l.getLast h, (List.dropLast_concat_getLast h).symm⟩
theorem Good.occRun {κ : List (Option T)} {σ : Sb} {rk : Nat → Nat} (G : Good κ σ rk) {u : Nat} (hu5 : u < 5) (hu : κ[u]? = some none) :
 ∀ (n : Nat) (l : List T), wt σ l ≤ n → wt σ l ≤ 2 ^ 19 → (∀ t ∈ l, t.good 3) → ∃ k, Occ κ (unkT u) l (l.any fun t => occ u (Mine.sub σ t)) k := by
 intro n
 induction n with
 | zero =>
  intro l hl _ _
  have := wt_len σ l
  have : l = [] := List.length_eq_zero_iff.mp (by omega)
  subst this; exact ⟨0, .done⟩
 | succ n ih =>
  intro l hl hz hg
  by_cases hne : l = []
  · subst hne; exact ⟨0, .done⟩
  obtain ⟨l, t, rfl⟩ := snoc_of hne
  have ht := hg t (by simp)
  obtain ⟨c, m, h1, h2, h3, h4⟩ := G.shal ht
  have h5 := h3 σ G.sol
  have hw1 : wt σ (l ++ [t]) = wt σ l + (Mine.sub σ t).size := by rw [wt_app]; unfold wt; simp
  rw [List.any_append]
  simp only [List.any_cons, List.any_nil, Bool.or_false]
  rw [h5] at hw1 ⊢
  by_cases hcu : c = unkT u
  · subst hcu
    rw [sub_unkT, G.free u hu, occ_unkT]
    simp only [beq_self_eq_true, Bool.or_true]
    exact ⟨0, .hit h1⟩
  · have hch : wt σ c.ch + 1 ≤ (Mine.sub σ c).size := by
     rcases h4 with h4 | ⟨i, hi, rfl, h4⟩
     · obtain ⟨hd, ch⟩ := c; exact Nat.le_of_eq (wt_ch h4)
     · rw [unkT_ch]; exact size_pos _
    have hw2 : wt σ (l ++ c.ch) = wt σ l + wt σ c.ch := wt_app _ _ _
    have hg2 : ∀ x ∈ l ++ c.ch, x.good 3 := fun x hx => by
     rcases List.mem_append.mp hx with hx | hx
     · exact hg x (by simp [hx])
     · exact good_ch G h2 x hx
    obtain ⟨k, hk⟩ := ih (l ++ c.ch) (by omega) (by omega) hg2
    have hlen := wt_len σ (l ++ c.ch)
    have e : ((l ++ c.ch).any fun t => occ u (Mine.sub σ t)) = (l.any (fun t => occ u (Mine.sub σ t)) || occ u (Mine.sub σ c)) := by
     rw [List.any_append]
     congr 1
     rcases h4 with h4 | ⟨i, hi, rfl, h4⟩
     · obtain ⟨hd, ch⟩ := c
       have q : hd.idx = none := h4
       rw [sub_none q, occ_none q, List.any_map]; rfl
     · rw [unkT_ch, sub_unkT, G.free i h4, occ_unkT]
       have : u ≠ i := fun e => hcu (by rw [e])
       simp [this]
    rw [e] at hk
    have hp : (2:Nat) ^ 19 ≤ 2 ^ 20 := by decide
    exact ⟨k + 1, .go h1 hcu h2.wf (by omega) hk⟩
theorem Good.occ1 {κ : List (Option T)} {σ : Sb} {rk : Nat → Nat} (G : Good κ σ rk) {u : Nat} (hu5 : u < 5) (hu : κ[u]? = some none) {t : T} (ht : t.good 3) : ∃ k, Occ κ (unkT u) [t] (occ u (Mine.sub σ t)) k := by
 have hw : wt σ [t] = (Mine.sub σ t).size := by unfold wt; simp
 obtain ⟨k, hk⟩ := G.occRun hu5 hu _ [t] (Nat.le_refl _) (by rw [hw]; exact G.size19 ht) (by simpa using ht)
 simp only [List.any_cons, List.any_nil, Bool.or_false] at hk
 exact ⟨k, hk⟩
noncomputable def opens (κ : List (Option T)) : Nat := κ.countP Option.isNone
theorem opens_set : ∀ {κ : List (Option T)} {u : Nat} {t : T}, κ[u]? = some none → opens (κ.set u (some t)) + 1 = opens κ
 | [], u, t, h => by simp at h
 | o :: l, 0, t, h => by
  have : o = none := by simpa using h
  subst this
  simp [opens, List.countP_cons]
 | o :: l, u + 1, t, h => by
  have := opens_set (κ := l) (u := u) (t := t) (by simpa using h)
  simp only [opens, List.set_cons_succ, List.countP_cons] at *
  omega
theorem unk_iv {i : Nat} (h : i < 5) : (unkT i).hd.isIv = decide (3 ≤ i) := by
 unfold unkT; split
 · rename_i q; rw [decide_eq_false (by omega)]; rfl
 · rename_i q; rw [decide_eq_true (by omega)]; rfl
theorem unk_var {i : Nat} (h : i < 5) : (unkT i).hd.isVar = decide (i < 3) := by
 unfold unkT; split
 · rename_i q; rw [decide_eq_true q]; rfl
 · rename_i q; rw [decide_eq_false q]; rfl
theorem unk_int (i : Nat) : (unkT i).hd.isInt = false := by unfold unkT; split <;> rfl
theorem Good.bnd {κ : List (Option T)} {σ : Sb} {rk : Nat → Nat} (G : Good κ σ rk) {i : Nat} (hi : i < 5) (ho : κ[i]? = some none) {d : T} (hd : d.good 3) (hne : unkT i ≠ d) (hdo : d.hd.idx = none ∨ ∃ j, j < 5 ∧ d = unkT j ∧ κ[j]? = some none) :
 ∃ r, Bnd κ (unkT i) d r ∧ (r = none → ∀ θ, Srt θ → Sol κ θ → Mine.sub θ (unkT i) = Mine.sub θ d → False) ∧
  (∀ κ', r = some κ' → opens κ' < opens κ ∧ ∃ σ' rk', Good κ' σ' rk' ∧ ∀ θ, Sol κ' θ ↔ Sol κ θ ∧ Mine.sub θ (unkT i) = Mine.sub θ d) := by
 have hil : i < κ.length := by rw [G.len]; exact hi
 by_cases hc : ((unkT i).hd.isIv && !(d.hd.isInt || d.hd.isIv)) = true
 · rw [Bool.and_eq_true] at hc
   obtain ⟨hc1, hc2⟩ := hc
   have h3 : 3 ≤ i := by rw [unk_iv hi] at hc1; exact of_decide_eq_true hc1
   have hc3 : (d.hd.isInt || d.hd.isIv) = false := by simpa using hc2
   rcases hdo with hdn | ⟨j, hj, rfl, hjo⟩
   · refine ⟨none, .bad hc1 hc3 ?_ (G.tells hd), fun _ θ hs hsol he => ?_, fun κ' e => by cases e⟩
     · obtain ⟨hh, ch⟩ := d; cases hh <;> first | rfl | exact nomatch (show some _ = (none : Option Nat) from hdn)
     · rw [sub_unkT] at he
       have := hs i h3 hi
       rw [he] at this
       obtain ⟨hh, ch⟩ := d
       have q : hh.idx = none := hdn
       rw [sub_none q] at this
       have this : (hh.isInt || hh.isIv) = true := this
       rw [show (hh.isInt || hh.isIv) = false from hc3] at this; cases this
   · have hj3 : j < 3 := by
      rw [unk_iv hj, unk_int] at hc3
      have := of_decide_eq_false (by simpa using hc3 : decide (3 ≤ j) = false)
      omega
     have hji : i ≠ j := by omega
     have hjl : j < κ.length := by rw [G.len]; exact hj
     have hgi : (unkT i).good 3 := ⟨unkT_wf i, unkT_vok hi, by rw [unkT_hgt]; omega⟩
     obtain ⟨σ', rk', G'⟩ := G.bind hj hjo hgi (fun h => by omega) (by rw [sub_unkT, G.free i ho, occ_unkT]; simpa using hji.symm)
     refine ⟨_, .flip (i := j) hc1 (by unfold unkT; rw [if_pos hj3]) hjl, fun e => (nomatch e), fun κ' e => ?_⟩
     cases e
     refine ⟨by have := opens_set (t := unkT i) hjo; omega, σ', rk', G', fun θ => ?_⟩
     rw [Sol.set hjo, sub_unkT, sub_unkT]
     exact ⟨fun ⟨a, b⟩ => ⟨a, b.symm⟩, fun ⟨a, b⟩ => ⟨a, b.symm⟩⟩
 · have hc' : ((unkT i).hd.isIv && !(d.hd.isInt || d.hd.isIv)) = false := by simpa using hc
   obtain ⟨k, hk⟩ := G.occ1 hi ho hd
   cases q : occ i (Mine.sub σ d) with
   | true =>
    rw [q] at hk
    refine ⟨none, .occ hc' hk, fun _ θ hs hsol he => ?_, fun κ' e => by cases e⟩
    rcases hdo with hdn | ⟨j, hj, rfl, hjo⟩
    · rw [sub_unkT, G.mguT hsol hd.vok] at he
      have h1 := (size_occ (θ := θ) (Mine.sub σ d) q).2 (by obtain ⟨hh, ch⟩ := d; have z : hh.idx = none := hdn; rw [sub_none z]; exact z)
      rw [he] at h1; exact Nat.lt_irrefl _ h1
    · rw [sub_unkT, G.free j hjo, occ_unkT] at q
      have : i = j := by simpa using q
      exact hne (by rw [this])
   | false =>
    rw [q] at hk
    have hs3 : 3 ≤ i → (d.hd.isInt || d.hd.isIv) = true := fun h3 => by
     rw [unk_iv hi, decide_eq_true h3, Bool.true_and] at hc'
     cases z : (d.hd.isInt || d.hd.isIv) with
     | true => rfl
     | false => rw [z] at hc'; cases hc'
    obtain ⟨σ', rk', G'⟩ := G.bind hi ho hd hs3 q
    refine ⟨_, .ok hc' hk unkT_idx hil, fun e => (nomatch e), fun κ' e => ?_⟩
    cases e
    refine ⟨by have := opens_set (t := d) ho; omega, σ', rk', G', fun θ => ?_⟩
    rw [Sol.set ho, sub_unkT]
noncomputable def Eqs (θ : Sb) (l : List (T × T)) : Prop := ∀ p ∈ l, Mine.sub θ p.1 = Mine.sub θ p.2
theorem eqs_snoc {θ : Sb} {l : List (T × T)} {a b : T} : Eqs θ (l ++ [(a, b)]) ↔ Eqs θ l ∧ Mine.sub θ a = Mine.sub θ b := by
 unfold Eqs
 constructor
 · intro h; exact ⟨fun p hp => h p (by simp [hp]), h (a, b) (by simp)⟩
 · rintro ⟨h1, h2⟩ p hp
   rcases List.mem_append.mp hp with hp | hp
   · exact h1 p hp
   · rw [List.mem_singleton.mp hp]; exact h2
theorem eqs_app {θ : Sb} {l m : List (T × T)} : Eqs θ (l ++ m) ↔ Eqs θ l ∧ Eqs θ m := by
 unfold Eqs
 constructor
 · intro h; exact ⟨fun p hp => h p (by simp [hp]), fun p hp => h p (by simp [hp])⟩
 · rintro ⟨h1, h2⟩ p hp
   rcases List.mem_append.mp hp with hp | hp
   · exact h1 p hp
   · exact h2 p hp
theorem eqs_rev {θ : Sb} {l : List (T × T)} : Eqs θ l.reverse ↔ Eqs θ l := by unfold Eqs; simp
theorem eqs_zip {θ : Sb} : ∀ {a b : List T}, a.length = b.length → (Eqs θ (a.zip b) ↔ a.map (Mine.sub θ) = b.map (Mine.sub θ))
 | [], [], _ => by simp [Eqs]
 | [], _ :: _, h => by simp at h
 | _ :: _, [], h => by simp at h
 | x :: a, y :: b, h => by
  have ih := eqs_zip (θ := θ) (a := a) (b := b) (by simpa using h)
  simp only [List.zip_cons_cons, List.map_cons, List.cons.injEq]
  rw [← ih]
  unfold Eqs
  simp
theorem eq_heads {θ : Sb} {c d : T} (h1 : c.hd.idx = none) (h2 : d.hd.idx = none) : Mine.sub θ c = Mine.sub θ d ↔ isAlike c d = true ∧ Eqs θ (c.ch.zip d.ch) := by
 obtain ⟨hc, cc⟩ := c
 obtain ⟨hd, cd⟩ := d
 have q1 : hc.idx = none := h1
 have q2 : hd.idx = none := h2
 rw [sub_none q1, sub_none q2]
 unfold isAlike
 simp only [T.node.injEq, Bool.and_eq_true, decide_eq_true_eq]
 constructor
 · rintro ⟨e1, e2⟩
   have hl : cc.length = cd.length := by have := congrArg List.length e2; simpa using this
   exact ⟨⟨e1, hl⟩, (eqs_zip hl).mpr e2⟩
 · rintro ⟨⟨e1, hl⟩, e2⟩
   exact ⟨e1, (eqs_zip hl).mp e2⟩
noncomputable def Stk (κ : List (Option T)) (l : List (T × T)) (root : T) : Prop := ∀ j p, l[j]? = some p → ∀ θ, Sol κ θ → j + (Mine.sub θ p.1).hgt ≤ (Mine.sub θ root).hgt
noncomputable def wtp (σ : Sb) (l : List (T × T)) : Nat := wt σ (l.map Prod.fst)
theorem wtp_app (σ : Sb) (l m : List (T × T)) : wtp σ (l ++ m) = wtp σ l + wtp σ m := by unfold wtp; rw [List.map_append, wt_app]
theorem wtp_one (σ : Sb) (a b : T) : wtp σ [(a, b)] = (Mine.sub σ a).size := by simp [wtp, wt]
theorem wtp_rev (σ : Sb) (l : List (T × T)) : wtp σ l.reverse = wtp σ l := by unfold wtp wt; simp [List.map_reverse, List.sum_reverse]
theorem wtp_zip (σ : Sb) : ∀ a b : List T, wtp σ (a.zip b) ≤ wt σ a
 | [], b => by simp [wtp, wt]
 | x :: a, [] => by simp [wtp, wt]
 | x :: a, y :: b => by have := wtp_zip σ a b; simp only [wtp, wt, List.zip_cons_cons, List.map_cons, List.sum_cons] at *; omega
structure UFin (κ : List (Option T)) (l : List (T × T)) (r : Option (List (Option T))) : Prop where
 no : r = none → ∀ θ, Srt θ → Sol κ θ → Eqs θ l → False
 yes : ∀ κ', r = some κ' → ∃ σ' rk', Good κ' σ' rk' ∧ ∀ θ, Sol κ' θ ↔ Sol κ θ ∧ Eqs θ l
theorem Stk.mono {κ κ' : List (Option T)} {l l' : List (T × T)} {root : T} (h : Stk κ (l ++ l') root) (hs : ∀ θ, Sol κ' θ → Sol κ θ) : Stk κ' l root := fun j p hj θ hθ =>
 h j p (by rw [List.getElem?_append_left]; exact hj; rcases Nat.lt_or_ge j l.length with q | q; exact q; rw [List.getElem?_eq_none q] at hj; cases hj) θ (hs θ hθ)
theorem Good.urun (root : T) (hroot : root.good 3) : ∀ (N : Nat) (M : Nat) (κ : List (Option T)) (σ : Sb) (rk : Nat → Nat) (l : List (T × T)), Good κ σ rk → opens κ = N → wtp σ l ≤ M → (∀ p ∈ l, p.1.good 3 ∧ p.2.good 3) → Stk κ l root →
 ∃ r n, URun κ l r n ∧ UFin κ l r := by
 intro N
 induction N using Nat.strongRecOn with
 | _ N ihN =>
 intro M
 induction M with
 | zero =>
  intro κ σ rk l G hN hM hg hst
  have hl : l = [] := by
   have := wt_len σ (l.map Prod.fst)
   have h2 : wt σ (l.map Prod.fst) ≤ 0 := hM
   have : (l.map Prod.fst).length = 0 := by omega
   simpa using this
  subst hl
  exact ⟨some κ, 0, .done, ⟨fun e => (nomatch e), fun κ' e => by cases e; exact ⟨σ, rk, G, fun θ => ⟨fun h => ⟨h, fun p hp => by cases hp⟩, fun h => h.1⟩⟩⟩⟩
 | succ M ihM =>
  intro κ σ rk l G hN hM hg hst
  by_cases hne : l = []
  · subst hne
    exact ⟨some κ, 0, .done, ⟨fun e => (nomatch e), fun κ' e => by cases e; exact ⟨σ, rk, G, fun θ => ⟨fun h => ⟨h, fun p hp => by cases hp⟩, fun h => h.1⟩⟩⟩⟩
  obtain ⟨l, ⟨a, b⟩, rfl⟩ := snoc_of hne
  have hab := hg (a, b) (by simp)
  have hgl : ∀ p ∈ l, p.1.good 3 ∧ p.2.good 3 := fun p hp => hg p (by simp [hp])
  obtain ⟨c, m1, c1, c2, c3, c4⟩ := G.shal hab.1
  obtain ⟨d, m2, d1, d2, d3, d4⟩ := G.shal hab.2
  have hw : wtp σ (l ++ [(a, b)]) = wtp σ l + (Mine.sub σ a).size := by rw [wtp_app, wtp_one]
  have hpos := size_pos (Mine.sub σ a)
  have hc1000 : c.hgt ≤ 1000 := by have := c2.hgt; omega
  have hd1000 : d.hgt ≤ 1000 := by have := d2.hgt; omega
  have iffA : ∀ θ, Sol κ θ → (Eqs θ (l ++ [(a, b)]) ↔ Eqs θ l ∧ Mine.sub θ c = Mine.sub θ d) := fun θ hθ => by
   rw [eqs_snoc, c3 θ hθ, d3 θ hθ]
  by_cases hcd : c = d
  · subst hcd
    obtain ⟨r, n, hr, hf⟩ := ihM κ σ rk l G hN (by omega) hgl (hst.mono fun _ h => h)
    refine ⟨r, n + 1, .skip c1 d1 c2.wf hc1000 hr, ⟨fun e θ h1 h2 h3 => hf.no e θ h1 h2 ((iffA θ h2).mp h3).1, fun κ' e => ?_⟩⟩
    obtain ⟨σ', rk', G', h⟩ := hf.yes κ' e
    refine ⟨σ', rk', G', fun θ => ?_⟩
    rw [h θ]
    exact ⟨fun ⟨x, y⟩ => ⟨x, (iffA θ x).mpr ⟨y, rfl⟩⟩, fun ⟨x, y⟩ => ⟨x, ((iffA θ x).mp y).1⟩⟩
  have after : ∀ κ', opens κ' < opens κ → (∃ σ' rk', Good κ' σ' rk' ∧ ∀ θ, Sol κ' θ ↔ Sol κ θ ∧ Mine.sub θ c = Mine.sub θ d) → ∃ r n, URun κ' l r n ∧ UFin κ (l ++ [(a, b)]) r := by
   rintro κ' ho ⟨σ', rk', G', hs⟩
   obtain ⟨r, n, hr, hf⟩ := ihN (opens κ') (by omega) (wtp σ' l) κ' σ' rk' l G' rfl (Nat.le_refl _) hgl (hst.mono fun θ h => ((hs θ).mp h).1)
   refine ⟨r, n, hr, ⟨fun e θ h1 h2 h3 => ?_, fun κ2 e => ?_⟩⟩
   · obtain ⟨h4, h5⟩ := (iffA θ h2).mp h3
     exact hf.no e θ h1 ((hs θ).mpr ⟨h2, h5⟩) h4
   · obtain ⟨σ2, rk2, G2, h⟩ := hf.yes κ2 e
     refine ⟨σ2, rk2, G2, fun θ => ?_⟩
     rw [h θ, hs θ]
     exact ⟨fun ⟨⟨x, y⟩, z⟩ => ⟨x, (iffA θ x).mpr ⟨z, y⟩⟩, fun ⟨x, y⟩ => ⟨⟨x, ((iffA θ x).mp y).2⟩, ((iffA θ x).mp y).1⟩⟩
  rcases c4 with c4 | ⟨i, hi, rfl, c4⟩
  · rcases d4 with d4 | ⟨i, hi, rfl, d4⟩
    · -- two heads
      cases hal : isAlike c d with
      | false =>
       refine ⟨none, 0, .clash c1 d1 hcd c2.wf d2.wf hc1000 hd1000 c4 d4 hal (G.tells c2) (G.tells d2), ⟨fun _ θ h1 h2 h3 => ?_, fun κ' e => by cases e⟩⟩
       have := (eq_heads c4 d4).mp ((iffA θ h2).mp h3).2
       rw [hal] at this; cases this.1
      | true =>
       have hll : c.ch.length = d.ch.length := by unfold isAlike at hal; simp at hal; exact hal.2
       have hlen : l.length ≤ 18 := by
        have := hst l.length (a, b) (by simp) σ G.sol
        have := G.hgt18 hroot
        omega
       have hsz : wt σ c.ch + 1 = (Mine.sub σ a).size := by rw [c3 σ G.sol]; obtain ⟨hh, ch⟩ := c; exact wt_ch c4
       have hz := wtp_zip σ c.ch d.ch
       obtain ⟨r, n, hr, hf⟩ := ihM κ σ rk (l ++ (c.ch.zip d.ch).reverse) G hN (by rw [wtp_app, wtp_rev]; exact ar1 hM hw hz hsz) (fun p hp => by
        rcases List.mem_append.mp hp with hp | hp
        · exact hgl p hp
        · have hp := List.mem_reverse.mp hp
          exact ⟨good_ch G c2 _ (List.of_mem_zip hp).1, good_ch G d2 _ (List.of_mem_zip hp).2⟩) (fun j p hj θ hθ => by
        rcases Nat.lt_or_ge j l.length with q | q
        · rw [List.getElem?_append_left q] at hj
          exact hst j p (by rw [List.getElem?_append_left q]; exact hj) θ hθ
        · rw [List.getElem?_append_right q] at hj
          have hp := List.mem_reverse.mp (List.mem_of_getElem? hj)
          have hjl : j - l.length < (c.ch.zip d.ch).reverse.length := by
           rcases Nat.lt_or_ge (j - l.length) (c.ch.zip d.ch).reverse.length with q | q
           · exact q
           · rw [List.getElem?_eq_none q] at hj; cases hj
          have h2 : c.ch.length ≤ 2 := by obtain ⟨_, _⟩ := c; exact fits_len c2.wf.1
          rw [List.length_reverse, List.length_zip] at hjl
          have h3 := hst l.length (a, b) (by simp) θ hθ
          rw [c3 θ hθ] at h3
          have h4 : (Mine.sub θ p.1).hgt + 1 ≤ (Mine.sub θ c).hgt := by
           have hm := (List.of_mem_zip hp).1
           obtain ⟨hh, ch⟩ := c
           rw [sub_none (show hh.idx = none from c4)]
           exact hgts_mem (List.mem_map_of_mem hm)
          exact ar2 q hjl h2 h3 h4)
       refine ⟨r, n + 1, .split c1 d1 hcd c2.wf d2.wf hc1000 hd1000 c4 d4 hal (Nat.le_trans hlen (by decide)) hr, ?_⟩
       have iffB : ∀ θ, Sol κ θ → (Eqs θ (l ++ (c.ch.zip d.ch).reverse) ↔ Eqs θ (l ++ [(a, b)])) := fun θ hθ => by
        rw [iffA θ hθ, eqs_app, eqs_rev, eq_heads c4 d4, hal]; simp
       refine ⟨fun e θ h1 h2 h3 => hf.no e θ h1 h2 ((iffB θ h2).mpr h3), fun κ' e => ?_⟩
       obtain ⟨σ', rk', G', h⟩ := hf.yes κ' e
       refine ⟨σ', rk', G', fun θ => ?_⟩
       rw [h θ]
       exact ⟨fun ⟨x, y⟩ => ⟨x, (iffB θ x).mp y⟩, fun ⟨x, y⟩ => ⟨x, (iffB θ x).mpr y⟩⟩
    · -- the right one is open
      obtain ⟨r, hb, h1, h2⟩ := G.bnd hi d4 c2 (Ne.symm hcd) (.inl c4)
      cases r with
      | none => exact ⟨none, 0, .bindR0 c1 d1 hcd c2.wf d2.wf hc1000 c4 unkT_idx hb, ⟨fun _ θ x y z => h1 rfl θ x y ((iffA θ y).mp z).2.symm, fun κ' e => by cases e⟩⟩
      | some κ' =>
       obtain ⟨ho, σ', rk', G', hs⟩ := h2 κ' rfl
       obtain ⟨r, n, hr, hf⟩ := after κ' ho ⟨σ', rk', G', fun θ => by rw [hs θ]; exact ⟨fun ⟨x, y⟩ => ⟨x, y.symm⟩, fun ⟨x, y⟩ => ⟨x, y.symm⟩⟩⟩
       exact ⟨r, n + 1, .bindR c1 d1 hcd c2.wf d2.wf hc1000 c4 unkT_idx hb hr, hf⟩
  · obtain ⟨r, hb, h1, h2⟩ := G.bnd hi c4 d2 hcd d4
    cases r with
    | none => exact ⟨none, 0, .bindL0 c1 d1 hcd c2.wf d2.wf hd1000 unkT_idx hb, ⟨fun _ θ x y z => h1 rfl θ x y ((iffA θ y).mp z).2, fun κ' e => by cases e⟩⟩
    | some κ' =>
     obtain ⟨ho, σ', rk', G', hs⟩ := h2 κ' rfl
     obtain ⟨r, n, hr, hf⟩ := after κ' ho ⟨σ', rk', G', hs⟩
     exact ⟨r, n + 1, .bindL c1 d1 hcd c2.wf d2.wf hd1000 unkT_idx hb hr, hf⟩
theorem Good.unify {κ : List (Option T)} {σ : Sb} {rk : Nat → Nat} (G : Good κ σ rk) {a b : T} (ha : a.good 3) (hb : b.good 3) : ∃ r n, URun κ [(a, b)] r n ∧ UFin κ [(a, b)] r :=
 Good.urun a ha _ _ κ σ rk [(a, b)] G rfl (Nat.le_refl _) (fun p hp => by rw [List.mem_singleton.mp hp]; exact ⟨ha, hb⟩) fun j p hj θ hθ => by
  match j, hj with
  | 0, hj =>
   have : (a, b) = p := by simpa using hj
   subst this; exact Nat.le_of_eq (Nat.zero_add _)
  | j + 1, hj => simp at hj
noncomputable def af (α : List T) : Sb := fun i => α.getD i (unkT i)
structure Idem (α : List T) : Prop where
 len : α.length = 5
 wf : ∀ t ∈ α, t.wf ∧ t.vok
 idem : ∀ i j, i < 5 → occ j (af α i) = true → af α j = unkT j
 srt : Srt (af α)
noncomputable def SolA (α : List T) (θ : Sb) : Prop := ∀ i, i < 5 → θ i = Mine.sub θ (af α i)
theorem af_mem {α : List T} (h : α.length = 5) {i : Nat} (hi : i < 5) : af α i ∈ α := by
 unfold af
 rw [List.getD_eq_getElem?_getD, List.getElem?_eq_getElem (by omega)]
 exact List.getElem_mem _
theorem af_map {α : List T} {f : T → T} (h : α.length = 5) {i : Nat} (hi : i < 5) : af (α.map f) i = f (af α i) := by
 unfold af
 rw [List.getD_eq_getElem?_getD, List.getD_eq_getElem?_getD, List.getElem?_eq_getElem (by simp; omega), List.getElem?_eq_getElem (by omega)]
 simp
theorem unks_get {i : Nat} (h : i < 5) : unks[i]? = some (unkT i) := by
 have : i = 0 ∨ i = 1 ∨ i = 2 ∨ i = 3 ∨ i = 4 := five (by assumption)
 rcases this with rfl | rfl | rfl | rfl | rfl <;> rfl
section
variable {α : List T} (I : Idem α)
include I
theorem Idem.wfi {i : Nat} (hi : i < 5) : (af α i).wf ∧ (af α i).vok := I.wf _ (af_mem I.len hi)
theorem Idem.sub2 {i : Nat} (hi : i < 5) : Mine.sub (af α) (af α i) = af α i := by
 rw [sub_congr (η := unkT) (af α i) fun j hj => I.idem i j hi hj, sub_unk _ (I.wfi hi).1 (I.wfi hi).2]
theorem Idem.sol : SolA α (af α) := fun i hi => (I.sub2 hi).symm
theorem Idem.wfT {t : T} (h : t.wf) (hv : t.vok) : (Mine.sub (af α) t).wf := wf_sub t h fun j hj => (I.wfi (occ_lt t hv j hj)).1
theorem Idem.vokT {t : T} (hv : t.vok) : (Mine.sub (af α) t).vok := vok_sub t hv fun j hj => (I.wfi (occ_lt t hv j hj)).2
theorem Idem.subT {t : T} (hv : t.vok) : Mine.sub (af α) (Mine.sub (af α) t) = Mine.sub (af α) t := by
 rw [sub_sub]; exact sub_congr t fun j hj => I.sub2 (occ_lt t hv j hj)
theorem Idem.openT {t : T} (hv : t.vok) {j : Nat} (h : occ j (Mine.sub (af α) t) = true) : af α j = unkT j := by
 obtain ⟨k, h1, h2⟩ := (occ_sub t).mp h
 exact I.idem k j (occ_lt t hv k h1) h2
theorem Idem.mguT {θ : Sb} (h : SolA α θ) {t : T} (hv : t.vok) : Mine.sub θ t = Mine.sub θ (Mine.sub (af α) t) := by
 rw [sub_sub]; exact sub_congr t fun j hj => h j (occ_lt t hv j hj)
theorem Idem.pre : ∀ (k : Nat), k ≤ 5 → ∀ {t : T}, t.wf → t.vok → Mine.pre α k t = Mine.sub (fun i => if i < k then af α i else unkT i) t ∧ (Mine.pre α k t).wf ∧ (Mine.pre α k t).vok := by
 intro k
 induction k with
 | zero =>
  intro _ t hw hv
  refine ⟨?_, hw, hv⟩
  show t = _
  rw [sub_congr (η := unkT) t fun j _ => by simp, sub_unk t hw hv]
 | succ k ih =>
  intro hk t hw hv
  obtain ⟨e, w1, v1⟩ := ih (by omega) hw hv
  have hz : (unks.zip α)[k]? = some (unkT k, af α k) := by
   rw [List.getElem?_zip_eq_some]
   refine ⟨unks_get (by omega), ?_⟩
   unfold af
   rw [List.getD_eq_getElem?_getD, List.getElem?_eq_getElem (by have := I.len; omega)]; rfl
  have hp : Mine.pre α (k + 1) t = T.put (unkT k) (af α k) (Mine.pre α k t) := by
   unfold Mine.pre
   rw [List.take_add_one, hz, List.foldl_append]; rfl
  have hk5 : k < 5 := by omega
  rw [hp, put_sub _ w1 v1]
  refine ⟨?_, wf_sub _ w1 fun j hj => ?_, vok_sub _ v1 fun j hj => ?_⟩
  · rw [e, sub_sub]
    refine sub_congr t fun i hi => ?_
    have hi5 := occ_lt t hv i hi
    by_cases q : i < k
    · rw [if_pos q, if_pos (by omega)]
      by_cases o : occ k (af α i) = true
      · rw [sub_congr (η := unkT) (af α i) fun j hj => ?_, sub_unk _ (I.wfi hi5).1 (I.wfi hi5).2]
        unfold single
        by_cases r : j = k
        · rw [if_pos r, r]; exact I.idem i k hi5 o
        · rw [if_neg r]
      · exact sub_single_out (I.wfi hi5).1 (I.wfi hi5).2 (by simpa using o)
    · rw [if_neg q, sub_unkT]
      unfold single
      by_cases r : i = k
      · rw [if_pos r, if_pos (by omega), r]
      · rw [if_neg r, if_neg (by omega)]
  · unfold single; split
    · exact (I.wfi hk5).1
    · exact unkT_wf j
  · unfold single; split
    · exact (I.wfi hk5).2
    · exact unkT_vok (occ_lt _ v1 j hj)
theorem Idem.all {t : T} (hw : t.wf) (hv : t.vok) : putAll α t = Mine.sub (af α) t := by
 rw [putAll, (I.pre 5 (Nat.le_refl _) hw hv).1]
 exact sub_congr t fun j hj => by rw [if_pos (occ_lt t hv j hj)]
theorem Idem.side {t : T} (hw : t.wf) (hv : t.vok) (hh : (Mine.sub (af α) t).hgt < 550) : Side α t := fun k hk => by
 obtain ⟨e, w1, v1⟩ := I.pre k hk hw hv
 refine ⟨w1, Nat.lt_of_le_of_lt (hgt_le_sub (θ := af α) _ w1) ?_⟩
 rw [e, sub_sub]
 rw [sub_congr (η := af α) t fun i hi => ?_]
 · exact hh
 · by_cases q : i < k
   · rw [if_pos q]; exact I.sub2 (occ_lt t hv i hi)
   · rw [if_neg q, sub_unkT]
end
noncomputable def isOpen (α : List T) (i : Nat) : Bool := decide (i < 5) && decide (af α i = unkT i)
noncomputable def openA (α : List T) : Nat := (List.range 5).countP (isOpen α)
theorem Idem.bind {α : List T} (I : Idem α) {u : Nat} (hu : u < 5) (ho : af α u = unkT u) {v : T} (hw : v.wf) (hv : v.vok) (hvo : ∀ j, occ j v = true → af α j = unkT j) (huv : occ u v = false) (hs : 3 ≤ u → (v.hd.isInt || v.hd.isIv) = true) :
 Idem (α.map (T.put (unkT u) v)) ∧ (∀ i, i < 5 → af (α.map (T.put (unkT u) v)) i = Mine.sub (single u v) (af α i)) ∧ openA (α.map (T.put (unkT u) v)) < openA α ∧
  (∀ θ, SolA (α.map (T.put (unkT u) v)) θ ↔ SolA α θ ∧ θ u = Mine.sub θ v) := by
 have e : ∀ i, i < 5 → af (α.map (T.put (unkT u) v)) i = Mine.sub (single u v) (af α i) := fun i hi => by
  rw [af_map I.len hi, put_sub _ (I.wfi hi).1 (I.wfi hi).2]
 have hne : ∀ j, occ j v = true → j ≠ u := fun j hj q => by rw [q, huv] at hj; cases hj
 have hop : ∀ j, j < 5 → j ≠ u → af α j = unkT j → af (α.map (T.put (unkT u) v)) j = unkT j := fun j hj hn h => by
  rw [e j hj, h, sub_unkT]; unfold single; rw [if_neg hn]
 have hself : af (α.map (T.put (unkT u) v)) u = v := by rw [e u hu, ho, sub_unkT]; unfold single; rw [if_pos rfl]
 have hvu : v ≠ unkT u := fun q => by rw [q, occ_unkT] at huv; simp at huv
 refine ⟨⟨by rw [List.length_map]; exact I.len, fun t ht => ?_, fun i j hi hj => ?_, fun i h3 hi => ?_⟩, e, ?_, fun θ => ⟨fun h => ?_, fun h => ?_⟩⟩
 · obtain ⟨s, hs', rfl⟩ := List.mem_map.mp ht
   obtain ⟨w1, v1⟩ := I.wf s hs'
   rw [put_sub s w1 v1]
   refine ⟨wf_sub s w1 fun j _ => ?_, vok_sub s v1 fun j hj => ?_⟩
   · unfold single; split; exact hw; exact unkT_wf j
   · unfold single; split; exact hv; exact unkT_vok (occ_lt s v1 j hj)
 · rw [e i hi] at hj
   obtain ⟨k, h1, h2⟩ := (occ_sub _).mp hj
   have hk5 := occ_lt _ (I.wfi hi).2 k h1
   unfold single at h2
   by_cases q : k = u
   · rw [if_pos q] at h2
     exact hop j (occ_lt v hv j h2) (hne j h2) (hvo j h2)
   · rw [if_neg q, occ_unkT] at h2
     have : j = k := by simpa using h2
     subst this
     exact hop j hk5 q (I.idem i j hi h1)
 · rw [e i hi]
   have hsi := I.srt i h3 hi
   have hvi := (I.wfi hi).2
   have hwi := (I.wfi hi).1
   generalize af α i = x at hsi hvi hwi
   obtain ⟨hh, ch⟩ := x
   cases q : hh.idx with
   | none => rw [sub_none q]; exact hsi
   | some j =>
    rw [sub_some q]
    have hj : 3 ≤ j ∧ j < 5 := by
     have := hvi.1
     rcases idx_inv q with rfl | rfl
     · exact nomatch (show false = true from hsi)
     · exact this
    unfold single
    by_cases r : j = u
    · rw [if_pos r]; exact hs (r ▸ hj.1)
    · rw [if_neg r, unk_int, unk_iv hj.2, decide_eq_true hj.1]; rfl
 · refine countP_lt (fun i hi' => ?_) (List.mem_range.mpr hu) ?_ ?_
   · unfold isOpen at hi' ⊢
     rw [Bool.and_eq_true] at hi' ⊢
     have z := of_decide_eq_true hi'.2
     have hi := of_decide_eq_true hi'.1
     refine ⟨hi'.1, decide_eq_true ?_⟩
     by_cases q : af α i = unkT i
     · exact q
     exfalso
     rw [e i hi] at z
     apply q
     have w := I.wfi hi
     generalize af α i = x at z w
     obtain ⟨hh, ch⟩ := x
     cases r : hh.idx with
     | none =>
      rw [sub_none r] at z
      have := congrArg (fun t : T => t.hd.idx) z
      simp only [unkT_idx] at this
      rw [show (T.node hh (ch.map (Mine.sub (single u v)))).hd.idx = none from r] at this; cases this
     | some j =>
      have hx : T.node hh ch = unkT j := leaf_unk r w.1.1 w.2.1
      rw [sub_some r] at z
      unfold single at z
      by_cases y : j = u
      · rw [if_pos y] at z
        have h1 := hvo i (by rw [z, occ_unkT]; simp)
        exact absurd h1 q
      · rw [if_neg y] at z; rw [hx, unkT_inj z]
   · unfold isOpen; rw [decide_eq_true hu, decide_eq_true ho]; rfl
   · unfold isOpen; rw [decide_eq_true hu, hself, decide_eq_false hvu]; rfl
 · have h1 : θ u = Mine.sub θ v := by have := h u hu; rwa [hself] at this
   refine ⟨fun i hi => ?_, h1⟩
   have := h i hi
   rw [e i hi, sub_sub] at this
   rw [this]
   refine sub_congr _ fun j hj => ?_
   unfold single
   by_cases q : j = u
   · rw [if_pos q, ← h1, q]
   · rw [if_neg q, sub_unkT]
 · obtain ⟨h1, h2⟩ := h
   intro i hi
   rw [e i hi, sub_sub, h1 i hi]
   refine sub_congr _ fun j hj => ?_
   unfold single
   by_cases q : j = u
   · rw [if_pos q, ← h2, q]
   · rw [if_neg q, sub_unkT]
theorem asUnk {t : T} (hw : t.wf) (hv : t.vok) {i : Nat} (e : t.hd.idx = some i) : t = unkT i ∧ i < 5 := by
 obtain ⟨hh, ch⟩ := t
 have h : T.node hh ch = unkT i := leaf_unk e hw.1 hv.1
 exact ⟨h, occ_lt _ hv i (by rw [h, occ_unkT]; simp)⟩
theorem isVar_idx {t : T} (hw : t.wf) (hv : t.vok) (h : t.hd.isVar = true) : ∃ i, t = unkT i ∧ i < 3 := by
 obtain ⟨i, e⟩ := idx_some (h := t.hd) (by rw [h]; rfl)
 obtain ⟨h1, h2⟩ := asUnk hw hv e
 refine ⟨i, h1, ?_⟩
 rw [h1, unk_var h2] at h; exact of_decide_eq_true h
theorem isIv_idx {t : T} (hw : t.wf) (hv : t.vok) (h : t.hd.isIv = true) : ∃ i, t = unkT i ∧ 3 ≤ i ∧ i < 5 := by
 obtain ⟨i, e⟩ := idx_some (h := t.hd) (by rw [h]; simp)
 obtain ⟨h1, h2⟩ := asUnk hw hv e
 refine ⟨i, h1, ?_, h2⟩
 rw [h1, unk_iv h2] at h; exact of_decide_eq_true h
theorem occ_no {d : T} {i : Nat} (hw : d.wf) (hv : d.vok) (hne : unkT i ≠ d) (ho : occ i d = true) (θ : Sb) (h : θ i = Mine.sub θ d) : False := by
 have hn : d.hd.idx = none := by
  cases e : d.hd.idx with
  | none => rfl
  | some j =>
   obtain ⟨h1, _⟩ := asUnk hw hv e
   rw [h1, occ_unkT] at ho
   have : i = j := by simpa using ho
   exact absurd (by rw [h1, this]) hne
 have := (size_occ (θ := θ) d ho).2 hn
 rw [h] at this; exact Nat.lt_irrefl _ this
theorem int_occ {d : T} (hw : d.wf) (h : d.hd.isInt = true) (i : Nat) : occ i d = false := by
 obtain ⟨hh, ch⟩ := d
 cases hh with
 | int b => rw [occ_none rfl, List.length_eq_zero_iff.mp (show ch.length = 0 from hw.1)]; rfl
 | _ => exact nomatch (show false = true from h)
structure BndOk (α : List T) (c d : T) (u : Nat) (v : T) : Prop where
 u5 : u < 5
 op : af α u = unkT u
 wf : v.wf
 vok : v.vok
 cd : v = c ∨ v = d
 occ : ∀ j, Mine.occ j v = true → af α j = unkT j
 no : Mine.occ u v = false
 srt : 3 ≤ u → (v.hd.isInt || v.hd.isIv) = true
 iff : ∀ θ, Mine.sub θ c = Mine.sub θ d ↔ θ u = Mine.sub θ v
theorem bndA {α : List T} {d : T} {i : Nat} (hd : d.wf) (hdv : d.vok) (oc : ∀ j, Mine.occ j (unkT i) = true → af α j = unkT j) (od : ∀ j, Mine.occ j d = true → af α j = unkT j) (hi : i < 5) (hno : Mine.occ i d = false) (hs : 3 ≤ i → (d.hd.isInt || d.hd.isIv) = true) : BndOk α (unkT i) d i d :=
 ⟨hi, oc i (by rw [occ_unkT]; simp), hd, hdv, .inr rfl, od, hno, hs, fun θ => by rw [sub_unkT]⟩
theorem BndOk.symm {α : List T} {c d : T} {u : Nat} {v : T} (h : BndOk α d c u v) : BndOk α c d u v :=
 ⟨h.u5, h.op, h.wf, h.vok, h.cd.symm, h.occ, h.no, h.srt, fun θ => by rw [← h.iff θ]; exact ⟨Eq.symm, Eq.symm⟩⟩
theorem bound_ok {α : List T} {c d : T} (hc : c.wf) (hcv : c.vok) (hd : d.wf) (hdv : d.vok) (oc : ∀ j, Mine.occ j c = true → af α j = unkT j) (od : ∀ j, Mine.occ j d = true → af α j = unkT j) (hne : c ≠ d) (hx : (c.hd.idx.isSome || d.hd.idx.isSome) = true) :
 (T.bound c d = none ∧ ∀ θ, Srt θ → Mine.sub θ c = Mine.sub θ d → False) ∨ ∃ u v, T.bound c d = some (unkT u, v) ∧ BndOk α c d u v := by
 unfold T.bound
 by_cases h1 : c.hd.isVar = true
 · rw [if_pos h1]
   obtain ⟨i, rfl, hi⟩ := isVar_idx hc hcv h1
   rw [has_occ d hd hdv]
   cases q : Mine.occ i d with
   | true => exact .inl ⟨by simp, fun θ _ h => occ_no hd hdv hne q θ (by rwa [sub_unkT] at h)⟩
   | false => exact .inr ⟨i, d, by simp, bndA hd hdv oc od (by omega) q (fun h => by omega)⟩
 rw [if_neg h1]
 by_cases h2 : d.hd.isVar = true
 · rw [if_pos h2]
   obtain ⟨i, rfl, hi⟩ := isVar_idx hd hdv h2
   rw [has_occ c hc hcv]
   cases q : Mine.occ i c with
   | true => exact .inl ⟨by simp, fun θ _ h => occ_no hc hcv (Ne.symm hne) q θ (by rw [sub_unkT] at h; exact h.symm)⟩
   | false => exact .inr ⟨i, c, by simp, (bndA hc hcv od oc (by omega) q (fun h => by omega)).symm⟩
 rw [if_neg h2]
 have one : ∀ {c d : T}, c.wf → c.vok → d.wf → d.vok → (∀ j, Mine.occ j c = true → af α j = unkT j) → (∀ j, Mine.occ j d = true → af α j = unkT j) → c ≠ d → (c.hd.isIv && (d.hd.isInt || d.hd.isIv)) = true → ∃ u, c = unkT u ∧ BndOk α c d u d := by
  intro c d hc hcv hd hdv oc od hne h
  rw [Bool.and_eq_true] at h
  obtain ⟨i, rfl, h3, hi⟩ := isIv_idx hc hcv h.1
  refine ⟨i, rfl, bndA hd hdv oc od hi ?_ fun _ => h.2⟩
  have h2 := h.2
  rw [Bool.or_eq_true] at h2
  rcases h2 with h2 | h2
  · exact int_occ hd h2 i
  · obtain ⟨j, rfl, _, _⟩ := isIv_idx hd hdv h2
    rw [occ_unkT]
    simp only [beq_eq_false_iff_ne]
    exact fun e => hne (by rw [e])
 by_cases h3 : (c.hd.isIv && (d.hd.isInt || d.hd.isIv)) = true
 · rw [if_pos h3]
   obtain ⟨u, e, hb⟩ := one hc hcv hd hdv oc od hne h3
   exact .inr ⟨u, d, by rw [← e], hb⟩
 rw [if_neg h3]
 by_cases h4 : (d.hd.isIv && (c.hd.isInt || c.hd.isIv)) = true
 · rw [if_pos h4]
   obtain ⟨u, e, hb⟩ := one hd hdv hc hcv od oc (Ne.symm hne) h4
   exact .inr ⟨u, c, by rw [← e], hb.symm⟩
 rw [if_neg h4]
 refine .inl ⟨rfl, fun θ hs h => ?_⟩
 have two : ∀ {c d : T}, c.wf → c.vok → c.hd.isIv = true → d.hd.isVar = false → (d.hd.isInt || d.hd.isIv) = false → Mine.sub θ c = Mine.sub θ d → False := by
  intro c d hc hcv h5 h6 h7 h8
  obtain ⟨i, rfl, h9, hi⟩ := isIv_idx hc hcv h5
  rw [sub_unkT] at h8
  have hsi := hs i h9 hi
  rw [h8] at hsi
  obtain ⟨hh, ch⟩ := d
  have hn : hh.idx = none := idx_none (by
   have h6 : hh.isVar = false := h6
   have h7 : (hh.isInt || hh.isIv) = false := h7
   rw [h6]; cases z : hh.isIv with
   | false => rfl
   | true => rw [z] at h7; simp at h7)
  rw [sub_none hn] at hsi
  rw [show (hh.isInt || hh.isIv) = false from h7] at hsi; cases hsi
 have v1 : c.hd.isVar = false := by simpa using h1
 have v2 : d.hd.isVar = false := by simpa using h2
 rw [isIdx, isIdx, v1, v2, Bool.false_or, Bool.false_or, Bool.or_eq_true] at hx
 rcases hx with hx | hx
 · rw [hx, Bool.true_and] at h3
   exact two hc hcv hx v2 (by simpa using h3) h
 · rw [hx, Bool.true_and] at h4
   exact two hd hdv hx v1 (by simpa using h4) h.symm
noncomputable def StkA (α : List T) (l : List (T × T)) (root : T) : Prop := ∀ j p, l[j]? = some p → ∀ θ, SolA α θ → j + (Mine.sub θ p.1).hgt ≤ (Mine.sub θ root).hgt
theorem StkA.mono {α α' : List T} {l l' : List (T × T)} {root : T} (h : StkA α (l ++ l') root) (hs : ∀ θ, SolA α' θ → SolA α θ) : StkA α' l root := fun j p hj θ hθ =>
 h j p (by rw [List.getElem?_append_left]; exact hj; rcases Nat.lt_or_ge j l.length with q | q; exact q; rw [List.getElem?_eq_none q] at hj; cases hj) θ (hs θ hθ)
theorem openA_le (α : List T) : openA α ≤ 5 := List.countP_le_length
structure Low (α : List T) (l : List (T × T)) (root : T) (M : Nat) : Prop where
 ans : ∀ i, i < 5 → (af α i).hgt ≤ M
 left : ∀ p ∈ l, (Mine.sub (af α) p.1).hgt ≤ M ∧ (Mine.sub (af α) p.2).hgt ≤ M
 root : (Mine.sub (af α) root).hgt ≤ M
structure SFin (B : Nat) (α : List T) (l : List (T × T)) (r : Option (List T)) : Prop where
 no : r = none → ∀ θ, Srt θ → SolA α θ → Eqs θ l → False
 yes : ∀ α', r = some α' → Idem α' ∧ (∀ i, i < 5 → (af α' i).hgt ≤ B * 2 ^ (5 - openA α')) ∧ ∀ θ, SolA α' θ ↔ SolA α θ ∧ Eqs θ l
theorem hgt_single {u : Nat} {v t : T} {M : Nat} (h1 : t.hgt ≤ M) (h2 : v.hgt ≤ M) : (Mine.sub (single u v) t).hgt ≤ 2 * M := by
 have := hgt_sub_le (θ := single u v) (B := M) t fun i _ => by
  unfold single; split
  · exact h2
  · rw [unkT_hgt]; omega
 omega
theorem Idem.srun (root : T) (hrw : root.wf ∧ root.vok) (B : Nat) (hB : B * 32 < 550) : ∀ (N : Nat) (W : Nat) (α : List T) (l : List (T × T)), Idem α → openA α = N → wtp (af α) l ≤ W → (∀ p ∈ l, (p.1.wf ∧ p.1.vok) ∧ (p.2.wf ∧ p.2.vok)) → StkA α l root → Low α l root (B * 2 ^ (5 - openA α)) →
 ∃ r n, SRun α l r n ∧ SFin B α l r := by
 intro N
 induction N using Nat.strongRecOn with
 | _ N ihN =>
 intro W
 induction W with
 | zero =>
  intro α l I hN hW hg hst hlow
  have hl : l = [] := by
   have := wt_len (af α) (l.map Prod.fst)
   have h2 : wt (af α) (l.map Prod.fst) ≤ 0 := hW
   have : (l.map Prod.fst).length = 0 := by omega
   simpa using this
  subst hl
  exact ⟨some α, 0, .done, ⟨fun e => (nomatch e), fun α' e => by cases e; exact ⟨I, hlow.ans, fun θ => ⟨fun h => ⟨h, fun p hp => by cases hp⟩, fun h => h.1⟩⟩⟩⟩
 | succ W ihW =>
  intro α l I hN hW hg hst hlow
  by_cases hne : l = []
  · subst hne
    exact ⟨some α, 0, .done, ⟨fun e => (nomatch e), fun α' e => by cases e; exact ⟨I, hlow.ans, fun θ => ⟨fun h => ⟨h, fun p hp => by cases hp⟩, fun h => h.1⟩⟩⟩⟩
  obtain ⟨l, ⟨a, b⟩, rfl⟩ := snoc_of hne
  obtain ⟨⟨aw, av⟩, bw, bv⟩ : (a.wf ∧ a.vok) ∧ b.wf ∧ b.vok := hg (a, b) (by simp)
  have hgl : ∀ p ∈ l, (p.1.wf ∧ p.1.vok) ∧ (p.2.wf ∧ p.2.vok) := fun p hp => hg p (by simp [hp])
  have hlow1 : Low α l root (B * 2 ^ (5 - openA α)) := ⟨hlow.ans, fun p hp => hlow.left p (by simp [hp]), hlow.root⟩
  have hMb : B * 2 ^ (5 - openA α) ≤ B * 32 := Nat.mul_le_mul_left B (Nat.pow_le_pow_right (by decide) (show 5 - openA α ≤ 5 by omega))
  obtain ⟨ha1, hb1⟩ := hlow.left (a, b) (by simp)
  have sa : Side α a := I.side aw av (by simp only at ha1; omega)
  have sb : Side α b := I.side bw bv (by simp only at hb1; omega)
  have ea := I.all aw av
  have eb := I.all bw bv
  have hw : wtp (af α) (l ++ [(a, b)]) = wtp (af α) l + (Mine.sub (af α) a).size := by rw [wtp_app, wtp_one]
  have hpos := size_pos (Mine.sub (af α) a)
  have iffA : ∀ θ, SolA α θ → (Eqs θ (l ++ [(a, b)]) ↔ Eqs θ l ∧ Mine.sub θ (Mine.sub (af α) a) = Mine.sub θ (Mine.sub (af α) b)) := fun θ hθ => by
   rw [eqs_snoc, I.mguT hθ av, I.mguT hθ bv]
  have oc : ∀ j, occ j (Mine.sub (af α) a) = true → af α j = unkT j := fun j h => I.openT av h
  have od : ∀ j, occ j (Mine.sub (af α) b) = true → af α j = unkT j := fun j h => I.openT bv h
  have cw := I.wfT aw av
  have cv := I.vokT av
  have dw := I.wfT bw bv
  have dv := I.vokT bv
  have eca := I.subT av
  have hst0 := fun θ hθ => hst l.length (a, b) (by simp) θ hθ
  simp only at ha1 hb1 hst0
  have hcs : ∀ θ, SolA α θ → Mine.sub θ a = Mine.sub θ (Mine.sub (af α) a) := fun θ hθ => I.mguT hθ av
  generalize hc : Mine.sub (af α) a = c at *
  generalize hd : Mine.sub (af α) b = d at *
  by_cases hcd : c = d
  · obtain ⟨r, n, hr, hf⟩ := ihW α l I hN (ar3 hW hw hpos) hgl (hst.mono fun _ h => h) hlow1
    refine ⟨r, n + 1, .skip sa sb (by rw [ea, eb, hcd]) hr, ⟨fun e θ h1 h2 h3 => hf.no e θ h1 h2 ((iffA θ h2).mp h3).1, fun α' e => ?_⟩⟩
    obtain ⟨I', hM, h⟩ := hf.yes α' e
    refine ⟨I', hM, fun θ => ?_⟩
    rw [h θ]
    exact ⟨fun ⟨x, y⟩ => ⟨x, (iffA θ x).mpr ⟨y, by rw [hcd]⟩⟩, fun ⟨x, y⟩ => ⟨x, ((iffA θ x).mp y).1⟩⟩
  have hne' : putAll α a ≠ putAll α b := by rw [ea, eb]; exact hcd
  cases hx : (c.hd.idx.isSome || d.hd.idx.isSome) with
  | true =>
   rcases bound_ok cw cv dw dv oc od hcd hx with ⟨hb, hno⟩ | ⟨u, v, hb, K⟩
   · exact ⟨none, 0, .fail sa sb hne' (by rw [ea, eb]; exact hx) (by rw [ea, eb]; exact hb), ⟨fun _ θ x y z => hno θ x ((iffA θ y).mp z).2, fun α' e => by cases e⟩⟩
   · obtain ⟨I', e', ho, hs⟩ := I.bind K.u5 K.op K.wf K.vok K.occ K.no K.srt
     have hvM : v.hgt ≤ B * 2 ^ (5 - openA α) := by rcases K.cd with rfl | rfl <;> assumption
     have hpow : 2 * (B * 2 ^ (5 - openA α)) ≤ B * 2 ^ (5 - openA (α.map (T.put (unkT u) v))) := by
      have h5 := openA_le α
      have : 5 - openA α + 1 ≤ 5 - openA (α.map (T.put (unkT u) v)) := Nat.sub_lt_sub_left (Nat.lt_of_lt_of_le ho h5) ho
      calc 2 * (B * 2 ^ (5 - openA α)) = B * 2 ^ (5 - openA α + 1) := by rw [Nat.pow_succ, Nat.mul_comm 2, Nat.mul_assoc]
       _ ≤ _ := Nat.mul_le_mul_left B (Nat.pow_le_pow_right (by decide) this)
     have hsub : ∀ t : T, t.vok → (Mine.sub (af α) t).hgt ≤ B * 2 ^ (5 - openA α) → (Mine.sub (af (α.map (T.put (unkT u) v))) t).hgt ≤ B * 2 ^ (5 - openA (α.map (T.put (unkT u) v))) := fun t tv ht => by
      rw [sub_congr (η := fun i => Mine.sub (single u v) (af α i)) t fun i hi => e' i (occ_lt t tv i hi), ← sub_sub]
      exact Nat.le_trans (hgt_single ht hvM) hpow
     obtain ⟨r, n, hr, hf⟩ := ihN (openA (α.map (T.put (unkT u) v))) (by omega) _ (α.map (T.put (unkT u) v)) l I' rfl (Nat.le_refl _) hgl (hst.mono fun θ h => ((hs θ).mp h).1)
      ⟨fun i hi => by rw [e' i hi]; exact Nat.le_trans (hgt_single (hlow.ans i hi) hvM) hpow, fun p hp => ⟨hsub _ (hgl p hp).1.2 (hlow1.left p hp).1, hsub _ (hgl p hp).2.2 (hlow1.left p hp).2⟩, hsub _ hrw.2 hlow.root⟩
     refine ⟨r, n + 1, .bind sa sb hne' (by rw [ea, eb]; exact hx) (by rw [ea, eb]; exact hb) (fun t ht => ⟨(I.wf t ht).1, ?_⟩) (unkT_wf u) (by rw [unkT_hgt]; omega) hr, ⟨fun e θ h1 h2 h3 => ?_, fun α2 e => ?_⟩⟩
     · obtain ⟨i, hi, rfl⟩ := List.mem_iff_getElem.mp ht
       have hi5 : i < 5 := by have := I.len; omega
       have := hlow.ans i hi5
       unfold af at this
       rw [List.getD_eq_getElem?_getD, List.getElem?_eq_getElem hi] at this
       simp only [Option.getD_some] at this
       omega
     · obtain ⟨h4, h5⟩ := (iffA θ h2).mp h3
       exact hf.no e θ h1 ((hs θ).mpr ⟨h2, (K.iff θ).mp h5⟩) h4
     · obtain ⟨I2, hM2, h⟩ := hf.yes α2 e
       refine ⟨I2, hM2, fun θ => ?_⟩
       rw [h θ, hs θ]
       exact ⟨fun ⟨⟨x, y⟩, z⟩ => ⟨x, (iffA θ x).mpr ⟨z, (K.iff θ).mpr y⟩⟩, fun ⟨x, y⟩ => ⟨⟨x, (K.iff θ).mp ((iffA θ x).mp y).2⟩, ((iffA θ x).mp y).1⟩⟩
  | false =>
   rw [Bool.or_eq_false_iff] at hx
   have cn : c.hd.idx = none := by cases z : c.hd.idx with | none => rfl | some _ => rw [z] at hx; cases hx.1
   have dn : d.hd.idx = none := by cases z : d.hd.idx with | none => rfl | some _ => rw [z] at hx; cases hx.2
   have hxx : ((putAll α a).hd.idx.isSome || (putAll α b).hd.idx.isSome) = false := by rw [ea, eb, cn, dn]; rfl
   cases hal : isAlike c d with
   | false =>
    refine ⟨none, 0, .clash sa sb hne' hxx (by rw [ea, eb]; exact hal), ⟨fun _ θ h1 h2 h3 => ?_, fun α' e => by cases e⟩⟩
    have := (eq_heads cn dn).mp ((iffA θ h2).mp h3).2
    rw [hal] at this; cases this.1
   | true =>
    have hlen : l.length ≤ 550 := by
     have h1 := hst0 (af α) I.sol
     have := hlow.root
     omega
    have hchc : ∀ x ∈ c.ch, x.wf ∧ x.vok := fun x hx => by
     obtain ⟨hh, ch⟩ := c
     exact ⟨(wfs_iff _).mp cw.2 x hx, (voks_iff _).mp cv.2 x hx⟩
    have hchd : ∀ x ∈ d.ch, x.wf ∧ x.vok := fun x hx => by
     obtain ⟨hh, ch⟩ := d
     exact ⟨(wfs_iff _).mp dw.2 x hx, (voks_iff _).mp dv.2 x hx⟩
    have edb : Mine.sub (af α) d = d := by rw [← hd]; exact I.subT bv
    have chh : ∀ {c : T} {x : T} {θ : Sb}, c.hd.idx = none → x ∈ c.ch → (Mine.sub θ x).hgt + 1 ≤ (Mine.sub θ c).hgt := fun {c x θ} cn hx => by
     obtain ⟨hh, ch⟩ := c
     rw [sub_none (show hh.idx = none from cn)]
     exact hgts_mem (List.mem_map_of_mem hx)
    have hsz : wt (af α) c.ch + 1 = c.size := by
     have : wt (af α) c.ch + 1 = (Mine.sub (af α) c).size := by obtain ⟨hh, ch⟩ := c; exact wt_ch cn
     rw [this, eca]
    have hz := wtp_zip (af α) c.ch d.ch
    obtain ⟨r, n, hr, hf⟩ := ihW α (l ++ c.ch.zip d.ch) I hN (by rw [wtp_app]; exact ar1 hW hw hz hsz) (fun p hp => by
     rcases List.mem_append.mp hp with hp | hp
     · exact hgl p hp
     · exact ⟨hchc _ (List.of_mem_zip hp).1, hchd _ (List.of_mem_zip hp).2⟩) (fun j p hj θ hθ => by
     rcases Nat.lt_or_ge j l.length with q | q
     · rw [List.getElem?_append_left q] at hj
       exact hst j p (by rw [List.getElem?_append_left q]; exact hj) θ hθ
     · rw [List.getElem?_append_right q] at hj
       have hp := List.mem_of_getElem? hj
       have hjl : j - l.length < (c.ch.zip d.ch).length := by
        rcases Nat.lt_or_ge (j - l.length) (c.ch.zip d.ch).length with q | q
        · exact q
        · rw [List.getElem?_eq_none q] at hj; cases hj
       have h2 : c.ch.length ≤ 2 := by obtain ⟨_, _⟩ := c; exact fits_len cw.1
       rw [List.length_zip] at hjl
       have h3 := hst0 θ hθ
       rw [hcs θ hθ] at h3
       have h4 := chh (θ := θ) cn (List.of_mem_zip hp).1
       exact ar2 q hjl h2 h3 h4) ⟨hlow.ans, fun p hp => by
       rcases List.mem_append.mp hp with hp | hp
       · exact hlow1.left p hp
       · have h1 := chh (θ := af α) cn (List.of_mem_zip hp).1
         have h2 := chh (θ := af α) dn (List.of_mem_zip hp).2
         rw [eca] at h1; rw [edb] at h2
         exact ⟨by omega, by omega⟩, hlow.root⟩
    refine ⟨r, n + 1, .split sa sb hne' hxx (by rw [ea, eb]; exact hal) (Nat.le_trans hlen (by decide)) (by rw [ea, eb]; exact hr), ?_⟩
    have iffB : ∀ θ, SolA α θ → (Eqs θ (l ++ c.ch.zip d.ch) ↔ Eqs θ (l ++ [(a, b)])) := fun θ hθ => by
     rw [iffA θ hθ, eqs_app, eq_heads cn dn, hal]; simp
    refine ⟨fun e θ h1 h2 h3 => hf.no e θ h1 h2 ((iffB θ h2).mpr h3), fun α' e => ?_⟩
    obtain ⟨I', hM, h⟩ := hf.yes α' e
    refine ⟨I', hM, fun θ => ?_⟩
    rw [h θ]
    exact ⟨fun ⟨x, y⟩ => ⟨x, (iffB θ x).mp y⟩, fun ⟨x, y⟩ => ⟨x, (iffB θ x).mpr y⟩⟩
structure InvS (κ : List (Option T)) (α : List T) (ps : List (T × T)) (σ : Sb) (rk : Nat → Nat) : Prop where
 G : Good κ σ rk
 I : Idem α
 low : ∀ i, i < 5 → (af α i).hgt ≤ 3 * ps.length * 2 ^ (5 - openA α)
 same : ∀ θ, Srt θ → (Sol κ θ ↔ SolA α θ)
 eqs : ∀ θ, Sol κ θ → Eqs θ ps
 good : ∀ p ∈ ps, p.1.good 3 ∧ p.2.good 3
noncomputable def Inv (κ : List (Option T)) (α : List T) (ps : List (T × T)) : Prop := ∃ σ rk, InvS κ α ps σ rk
theorem good0 : Good [none, none, none, none, none] unkT (fun _ => 0) :=
 ⟨rfl, fun i h => rfl, fun i t h => by
  have : i < 5 := by
   rcases Nat.lt_or_ge i 5 with q | q
   · exact q
   · rw [List.getElem?_eq_none (by simpa using q)] at h; cases h
  have : i = 0 ∨ i = 1 ∨ i = 2 ∨ i = 3 ∨ i = 4 := five (by assumption)
  rcases this with rfl | rfl | rfl | rfl | rfl <;> simp at h, fun i _ => Nat.zero_le _⟩
theorem af_unks {i : Nat} (h : i < 5) : af unks i = unkT i := by
 unfold af; rw [List.getD_eq_getElem?_getD, unks_get h]; rfl
theorem idem0 : Idem unks :=
 ⟨rfl, fun t ht => by
  obtain ⟨i, hi, rfl⟩ := List.mem_iff_getElem.mp ht
  have hi5 : i < 5 := hi
  have := unks_get hi5
  rw [List.getElem?_eq_getElem hi] at this
  have e := Option.some.inj this
  rw [e]
  exact ⟨unkT_wf i, unkT_vok hi5⟩, fun i j hi hj => by
  rw [af_unks hi, occ_unkT] at hj
  have : j = i := by simpa using hj
  rw [this]; exact af_unks hi, fun i h3 hi => by rw [af_unks hi, unk_int, unk_iv hi, decide_eq_true h3]; rfl⟩
theorem inv0 : Inv [none, none, none, none, none] unks [] :=
 ⟨_, _, good0, idem0, fun i hi => by rw [af_unks hi, unkT_hgt]; omega, fun θ _ => ⟨fun _ i hi => by rw [af_unks hi, sub_unkT], fun _ i t h => by
  have := good0.bound i t h
  have h5 : i < 5 := by
   rcases Nat.lt_or_ge i 5 with q | q
   · exact q
   · rw [List.getElem?_eq_none (by simpa using q)] at h; cases h
  have : i = 0 ∨ i = 1 ∨ i = 2 ∨ i = 3 ∨ i = 4 := five (by assumption)
  rcases this with rfl | rfl | rfl | rfl | rfl <;> simp at h⟩, fun θ _ p hp => (nomatch hp), fun p hp => (nomatch hp)⟩
theorem inv_turn (κ : List (Option T)) (α : List T) (ps : List (T × T)) (a b : T) (h : Inv κ α ps) (hl : ps.length ≤ 2) (ha : a.good 3) (hb : b.good 3) :
 ∃ r r' m m', URun κ [(a, b)] r m ∧ SRun α [(a, b)] r' m' ∧ ((r = none ∧ r' = none) ∨ ∃ κ' α', r = some κ' ∧ r' = some α' ∧ Inv κ' α' (ps ++ [(a, b)])) := by
 obtain ⟨σ, rk, S⟩ := h
 obtain ⟨r, m, hr, hf⟩ := S.G.unify ha hb
 have hsub : ∀ t : T, t.good 3 → (Mine.sub (af α) t).hgt ≤ 3 * (ps.length + 1) * 2 ^ (5 - openA α) := fun t ht => by
  have h1 := hgt_sub_le (θ := af α) (B := 3 * ps.length * 2 ^ (5 - openA α)) t fun i hi => S.low i (occ_lt t ht.vok i hi)
  have h2 := ht.hgt
  have h3 : 1 ≤ 2 ^ (5 - openA α) := Nat.one_le_two_pow
  have h4 : 3 * (ps.length + 1) * 2 ^ (5 - openA α) = 3 * ps.length * 2 ^ (5 - openA α) + 3 * 2 ^ (5 - openA α) := by rw [Nat.mul_add, Nat.add_mul]
  omega
 have hlow : ∀ i, i < 5 → (af α i).hgt ≤ 3 * (ps.length + 1) * 2 ^ (5 - openA α) := fun i hi => Nat.le_trans (S.low i hi) (Nat.mul_le_mul_right _ (by omega))
 obtain ⟨r', m', hr', hf'⟩ := S.I.srun a ⟨ha.wf, ha.vok⟩ (3 * (ps.length + 1)) (by omega) _ _ α [(a, b)] rfl (Nat.le_refl _) (fun p hp => by rw [List.mem_singleton.mp hp]; exact ⟨⟨ha.wf, ha.vok⟩, hb.wf, hb.vok⟩)
  (fun j p hj θ hθ => by
   match j, hj with
   | 0, hj =>
    have : (a, b) = p := by simpa using hj
    subst this; exact Nat.le_of_eq (Nat.zero_add _)
   | j + 1, hj => simp at hj) ⟨hlow, fun p hp => by rw [List.mem_singleton.mp hp]; exact ⟨hsub a ha, hsub b hb⟩, hsub a ha⟩
 refine ⟨r, r', m, m', hr, hr', ?_⟩
 cases r with
 | none =>
  cases r' with
  | none => exact .inl ⟨rfl, rfl⟩
  | some α' =>
   obtain ⟨I', _, hs⟩ := hf'.yes α' rfl
   obtain ⟨h1, h2⟩ := (hs _).mp I'.sol
   exact (hf.no rfl (af α') I'.srt ((S.same _ I'.srt).mpr h1) h2).elim
 | some κ' =>
  obtain ⟨σ', rk', G', hs⟩ := hf.yes κ' rfl
  cases r' with
  | none =>
   obtain ⟨h1, h2⟩ := (hs _).mp G'.sol
   exact (hf'.no rfl σ' G'.srt ((S.same _ G'.srt).mp h1) h2).elim
  | some α' =>
   obtain ⟨I', hM, hs'⟩ := hf'.yes α' rfl
   refine .inr ⟨κ', α', rfl, rfl, σ', rk', G', I', fun i hi => by rw [List.length_append]; exact hM i hi, fun θ hθ => ?_, fun θ hθ => ?_, fun p hp => ?_⟩
   · rw [hs θ, hs' θ, S.same θ hθ]
   · obtain ⟨h1, h2⟩ := (hs θ).mp hθ
     exact eqs_app.mpr ⟨S.eqs θ h1, h2⟩
   · rcases List.mem_append.mp hp with hp | hp
     · exact S.good p hp
     · rw [List.mem_singleton.mp hp]; exact ⟨ha, hb⟩
theorem all2_map {α β γ : Type} {P : β → γ → Prop} {f : α → β} {g : α → γ} : ∀ {l : List α}, (∀ x ∈ l, P (f x) (g x)) → All2 P (l.map f) (l.map g)
 | [], _ => .nil
 | x :: l, h => .cons (h x (.head _)) (all2_map fun y hy => h y (.tail _ hy))
theorem all2_self {α γ : Type} {P : α → γ → Prop} {g : α → γ} {l : List α} (h : ∀ x ∈ l, P x (g x)) : All2 P l (l.map g) := by
 have := all2_map (P := P) (f := id) (g := g) (l := l) h
 rwa [List.map_id] at this
theorem unkT_mem {i : Nat} (h : i < 5) : unkT i ∈ unks := List.mem_of_getElem? (unks_get h)
theorem kds_unkT {i j : Nat} (h : i < 3 ↔ j < 3) : kds (unkT i).hd = kds (unkT j).hd := by
 unfold unkT
 by_cases q : i < 3
 · rw [if_pos q, if_pos (h.mp q)]; rfl
 · rw [if_neg q, if_neg (fun z => q (h.mpr z))]; rfl
theorem alk_gen {θ η : Sb} : ∀ (n : Nat) {t : T}, t.wf → t.vok → t.hgt < n → (∀ j, occ j t = true → ∃ k, k < 5 ∧ θ j = unkT k ∧ (j < 3 ↔ k < 3) ∧ η k = unkT j) → Alk (Mine.sub θ) (Mine.sub η) n t (Mine.sub θ t) := by
 intro n
 induction n with
 | zero => intro t _ _ h; omega
 | succ n ih =>
  intro t hw hv hn ho
  have hw2 : (Mine.sub θ t).wf := wf_sub t hw fun j hj => by obtain ⟨k, _, e, _⟩ := ho j hj; rw [e]; exact unkT_wf k
  refine ⟨hw, hw2, ?_⟩
  obtain ⟨h, ch⟩ := t
  cases e : h.idx with
  | some j =>
   have ej : T.node h ch = unkT j := leaf_unk e hw.1 hv.1
   rw [ej] at hv ho ⊢
   have hj : occ j (unkT j) = true := by rw [occ_unkT]; simp
   obtain ⟨k, hk, e1, hs, e2⟩ := ho j hj
   refine .inl ⟨unkT_mem (occ_lt _ hv j hj), ?_, ?_, rfl, ?_⟩
   · rw [sub_unkT, e1]; exact unkT_mem hk
   · rw [sub_unkT, e1]; exact kds_unkT hs
   · rw [sub_unkT, e1, sub_unkT, e2]
  | none =>
   refine .inr ⟨rfl, ?_, ?_⟩
   · rw [sub_none e]; unfold isAlike; simp
   · rw [sub_none e]
     show All2 _ ch (ch.map (Mine.sub θ))
     refine all2_self fun x hx => ih ((wfs_iff _).mp hw.2 x hx) ((voks_iff _).mp hv.2 x hx) ?_ fun j hj => ho j ?_
     · have := hgts_mem hx; simp only [T.hgt] at hn; omega
     · rw [occ_none e]; exact List.any_eq_true.mpr ⟨x, hx, hj⟩
noncomputable def dl : Sb := fun i => if i < 3 then unkT i else if i < 5 then tI32 else unkT i
theorem dl3 {i : Nat} (h : i < 3) : dl i = unkT i := by unfold dl; rw [if_pos h]
theorem dl5 {i : Nat} (h3 : 3 ≤ i) (h : i < 5) : dl i = tI32 := by unfold dl; rw [if_neg (by omega), if_pos h]
theorem dl_wf (i : Nat) : (dl i).wf := by unfold dl; split; exact unkT_wf i; split; exact ⟨rfl, trivial⟩; exact unkT_wf i
theorem dl_vok {i : Nat} (h : i < 5) : (dl i).vok := by by_cases q : i < 3; rw [dl3 q]; exact unkT_vok h; rw [dl5 (by omega) h]; exact ⟨trivial, trivial⟩
theorem dl_hgt (i : Nat) : (dl i).hgt ≤ 0 := by unfold dl; split; rw [unkT_hgt]; exact Nat.le_refl _; split; exact Nat.le_refl _; rw [unkT_hgt]; exact Nat.le_refl _
theorem tI32_wf : tI32.wf := ⟨rfl, trivial⟩
theorem tI32_vok : tI32.vok := ⟨trivial, trivial⟩
theorem p3_sub {t : T} (hw : t.wf) (hv : t.vok) : p3 t = Mine.sub (single 3 tI32) t := put_sub (i := 3) t hw hv
theorem p4_sub {t : T} (hw : t.wf) (hv : t.vok) : p4 t = Mine.sub (single 4 tI32) t := put_sub (i := 4) t hw hv
theorem sg_wf {i j : Nat} : (single i tI32 j).wf := by unfold single; split; exact tI32_wf; exact unkT_wf j
theorem sg_vok {i j : Nat} (h : j < 5) : (single i tI32 j).vok := by unfold single; split; exact tI32_vok; exact unkT_vok h
theorem p3_wf {t : T} (hw : t.wf) (hv : t.vok) : (p3 t).wf ∧ (p3 t).vok := by
 rw [p3_sub hw hv]; exact ⟨wf_sub t hw fun _ _ => sg_wf, vok_sub t hv fun j hj => sg_vok (occ_lt t hv j hj)⟩
theorem p3_hgt {t : T} (hw : t.wf) (hv : t.vok) : (p3 t).hgt ≤ t.hgt := by
 rw [p3_sub hw hv]
 exact hgt_sub_le (B := 0) t fun i _ => by unfold single; split; exact Nat.le_refl _; rw [unkT_hgt]; exact Nat.le_refl _
theorem p34 {t : T} (hw : t.wf) (hv : t.vok) : p4 (p3 t) = Mine.sub dl t := by
 rw [p4_sub (p3_wf hw hv).1 (p3_wf hw hv).2, p3_sub hw hv, sub_sub]
 refine sub_congr t fun i hi => ?_
 have hi5 := occ_lt t hv i hi
 have : i = 0 ∨ i = 1 ∨ i = 2 ∨ i = 3 ∨ i = 4 := five (by assumption)
 rcases this with rfl | rfl | rfl | rfl | rfl <;> rfl
theorem occ_dl {i j : Nat} (h : i < 5) : occ j (dl i) = true ↔ i < 3 ∧ j = i := by
 by_cases q : i < 3
 · rw [dl3 q, occ_unkT]; simp [q]
 · rw [dl5 (by omega) h]
   constructor
   · intro z; rw [show occ j tI32 = false from rfl] at z; cases z
   · rintro ⟨a, _⟩; exact absurd a q
theorem dfl_get {κ : List (Option T)} (h : κ.length = 5) (i : Nat) : (dfl κ)[i]? = if 3 ≤ i ∧ κ[i]? = some none then some (some tI32) else κ[i]? := by
 match κ, h with
 | [a, b, c, d, e], _ =>
  unfold dfl
  match i with
  | 0 => rw [if_neg (by omega)]; rfl
  | 1 => rw [if_neg (by omega)]; rfl
  | 2 => rw [if_neg (by omega)]; rfl
  | 3 => cases d <;> simp
  | 4 => cases e <;> simp
  | i + 5 => rw [if_neg (by simp)]; simp
theorem Good.dfl {κ : List (Option T)} {σ : Sb} {rk : Nat → Nat} (G : Good κ σ rk) : Good (dfl κ) (fun i => Mine.sub dl (σ i)) rk := by
 have hl : (Mine.dfl κ).length = 5 := by
  have := G.len
  match κ, this with
  | [a, b, c, d, e], _ => rfl
 refine ⟨hl, fun i hi => ?_, fun i t hi => ?_, G.rk4⟩
 · rw [dfl_get G.len] at hi
   by_cases q : 3 ≤ i ∧ κ[i]? = some none
   · rw [if_pos q] at hi; cases hi
   · rw [if_neg q] at hi
     show Mine.sub dl (σ i) = _
     rw [G.free i hi, sub_unkT, dl3 (by
      rcases Nat.lt_or_ge i 3 with z | z
      · exact z
      · exact absurd ⟨z, hi⟩ q)]
 · rw [dfl_get G.len] at hi
   by_cases q : 3 ≤ i ∧ κ[i]? = some none
   · rw [if_pos q] at hi
     cases hi
     have h5 : i < 5 := by
      rcases Nat.lt_or_ge i 5 with z | z
      · exact z
      · have := q.2; rw [List.getElem?_eq_none (by rw [G.len]; exact z)] at this; cases this
     refine ⟨?_, ⟨tI32_wf, tI32_vok, Nat.zero_le _⟩, fun _ => rfl, fun j hj => by rw [show occ j tI32 = false from rfl] at hj; cases hj⟩
     show Mine.sub dl (σ i) = _
     rw [G.free i q.2, sub_unkT, dl5 q.1 h5]; rfl
   · rw [if_neg q] at hi
     obtain ⟨e, g, s, r⟩ := G.bound i t hi
     refine ⟨?_, g, s, r⟩
     show Mine.sub dl (σ i) = _
     rw [e, sub_sub]
theorem good_unkT {i : Nat} (h : i < 5) : (unkT i).good 3 := ⟨unkT_wf i, unkT_vok h, by rw [unkT_hgt]; omega⟩
theorem Good.resUnks {κ : List (Option T)} {σ : Sb} {rk : Nat → Nat} (G : Good κ σ rk) : All2 (Res κ 100) unks (unks.map (Mine.sub σ)) := all2_self fun x hx => by
 obtain ⟨i, hi, rfl⟩ := List.mem_iff_getElem.mp hx
 have hi5 : i < 5 := hi
 have := unks_get hi5
 rw [List.getElem?_eq_getElem hi] at this
 rw [Option.some.inj this]
 have g := good_unkT hi5
 exact G.res 100 g (by have := G.hgt18 g; omega)
theorem of_five {α : List T} (h : α.length = 5) : α = [af α 0, af α 1, af α 2, af α 3, af α 4] := by
 match α, h with
 | [a, b, c, d, e], _ => rfl
theorem unks_map (f : T → T) : unks.map f = [f (unkT 0), f (unkT 1), f (unkT 2), f (unkT 3), f (unkT 4)] := rfl
theorem all2_five {P : T → T → Prop} {f g : Nat → T} (h : ∀ i, i < 5 → P (f i) (g i)) : All2 P [f 0, f 1, f 2, f 3, f 4] [g 0, g 1, g 2, g 3, g 4] :=
 .cons (h 0 (by omega)) (.cons (h 1 (by omega)) (.cons (h 2 (by omega)) (.cons (h 3 (by omega)) (.cons (h 4 (by omega)) .nil))))
section
variable {κ : List (Option T)} {α : List T} {ps : List (T × T)} {σ : Sb} {rk : Nat → Nat} (S : InvS κ α ps σ rk)
include S
theorem InvS.sa : SolA α σ := (S.same _ S.G.srt).mp S.G.sol
theorem InvS.sk : Sol κ (af α) := (S.same _ S.I.srt).mpr S.I.sol
theorem InvS.name {j : Nat} (hj : j < 5) (h : af α j = unkT j) : ∃ k, k < 5 ∧ σ j = unkT k ∧ (j < 3 ↔ k < 3) ∧ af α k = unkT j := by
 have h1 := S.G.mgu S.sk j hj
 obtain ⟨hw, hv⟩ := S.G.wfs j hj
 have hs := S.G.srt j
 rw [h] at h1
 generalize σ j = x at h1 hw hv hs
 obtain ⟨hh, ch⟩ := x
 cases q : hh.idx with
 | none =>
  rw [sub_none q] at h1
  have := congrArg (fun t : T => t.hd.idx) h1
  simp only [unkT_idx] at this
  rw [show (T.node hh (ch.map (Mine.sub (af α)))).hd.idx = none from q] at this; cases this
 | some k =>
  have ek : T.node hh ch = unkT k := leaf_unk q hw.1 hv.1
  rw [ek] at h1 hv hs ⊢
  have hk : k < 5 := occ_lt _ hv k (by rw [occ_unkT]; simp)
  rw [sub_unkT] at h1
  refine ⟨k, hk, rfl, ?_, h1.symm⟩
  constructor
  · intro z
    rcases Nat.lt_or_ge k 3 with y | y
    · exact y
    · have := S.I.srt k y hk
      rw [← h1, unk_int, unk_iv hj] at this
      have := of_decide_eq_true (by simpa using this : decide (3 ≤ j) = true)
      omega
  · intro z
    rcases Nat.lt_or_ge j 3 with y | y
    · exact y
    · have := hs y hj
      rw [unk_int, unk_iv hk] at this
      have := of_decide_eq_true (by simpa using this : decide (3 ≤ k) = true)
      omega
theorem InvS.low9 (hl : ps.length ≤ 3) {i : Nat} (hi : i < 5) : (af α i).hgt ≤ 288 := by
 have h1 := S.low i hi
 have h2 : 2 ^ (5 - openA α) ≤ 2 ^ 5 := Nat.pow_le_pow_right (by decide) (by omega)
 have h3 : 3 * ps.length * 2 ^ (5 - openA α) ≤ 9 * 2 ^ 5 := Nat.mul_le_mul (by omega) h2
 omega
theorem InvS.right (hl : ps.length ≤ 3) : Right κ α ps := by
 have G := S.G
 have I := S.I
 have mem : ∀ t ∈ α, ∃ i, i < 5 ∧ t = af α i := fun t ht => by
  obtain ⟨i, hi, rfl⟩ := List.mem_iff_getElem.mp ht
  have hi5 : i < 5 := by have := I.len; omega
  refine ⟨i, hi5, ?_⟩
  unfold af
  rw [List.getD_eq_getElem?_getD, List.getElem?_eq_getElem hi]; rfl
 refine ⟨G.len, I.len, Nat.le_trans hl (by decide), fun p hp => ?_, ⟨Mine.sub σ, Mine.sub (af α), _, G.resUnks, ?_⟩, fun t ht => ?_, fun t ht => ?_, ⟨Mine.sub fun i => Mine.sub dl (σ i), Mine.sub fun i => Mine.sub dl (af α i), _, G.dfl.resUnks, ?_⟩⟩
 · obtain ⟨g1, g2⟩ := S.good p hp
   have h1 := G.hgt18 g1
   have h2 := G.hgt18 g2
   refine ⟨Mine.sub σ p.1, G.res 100 g1 (by omega), ?_, G.wfT g1.wf g1.vok, by omega⟩
   rw [S.eqs σ G.sol p hp]
   exact G.res 100 g2 (by omega)
 · rw [unks_map]
   generalize hα : af α = a
   have := of_five I.len
   rw [hα] at this
   rw [this]
   subst hα
   refine all2_five (f := af α) (g := fun i => Mine.sub σ (unkT i)) fun i hi => ?_
   rw [sub_unkT, S.sa i hi]
   have hlo := S.low9 hl hi
   exact alk_gen 500 (I.wfi hi).1 (I.wfi hi).2 (by omega) fun j hj => S.name (occ_lt _ (I.wfi hi).2 j hj) (I.idem i j hi hj)
 · obtain ⟨i, hi, rfl⟩ := mem t ht
   have hlo := S.low9 hl hi
   exact ⟨(I.wfi hi).1, by omega⟩
 · obtain ⟨s, hs, rfl⟩ := List.mem_map.mp ht
   obtain ⟨i, hi, rfl⟩ := mem s hs
   have hlo := S.low9 hl hi
   have := p3_hgt (I.wfi hi).1 (I.wfi hi).2
   exact ⟨(p3_wf (I.wfi hi).1 (I.wfi hi).2).1, by omega⟩
 · rw [unks_map, List.map_map]
   have e : α.map (p4 ∘ p3) = α.map (Mine.sub dl) := List.map_congr_left fun t ht => by
    obtain ⟨i, hi, rfl⟩ := mem t ht
    exact p34 (I.wfi hi).1 (I.wfi hi).2
   rw [e]
   have e2 : α.map (Mine.sub dl) = [Mine.sub dl (af α 0), Mine.sub dl (af α 1), Mine.sub dl (af α 2), Mine.sub dl (af α 3), Mine.sub dl (af α 4)] := by
    have := congrArg (List.map (Mine.sub dl)) (of_five I.len)
    simpa only [List.map_cons, List.map_nil] using this
   rw [e2]
   refine all2_five (f := fun i => Mine.sub dl (af α i)) (g := fun i => Mine.sub (fun i => Mine.sub dl (σ i)) (unkT i)) fun i hi => ?_
   have hw := (I.wfi hi).1
   have hv := (I.wfi hi).2
   have nm : ∀ j, occ j (af α i) = true → ∃ k, k < 5 ∧ σ j = unkT k ∧ (j < 3 ↔ k < 3) ∧ af α k = unkT j := fun j hj => S.name (occ_lt _ hv j hj) (I.idem i j hi hj)
   have eu : Mine.sub (fun i => Mine.sub dl (σ i)) (unkT i) = Mine.sub (fun i => Mine.sub dl (σ i)) (Mine.sub dl (af α i)) := by
    rw [sub_unkT, sub_sub]
    show Mine.sub dl (σ i) = _
    rw [S.sa i hi, sub_sub]
    refine sub_congr _ fun j hj => ?_
    have hj5 := occ_lt _ hv j hj
    obtain ⟨k, hk, e1, hs, e2⟩ := nm j hj
    by_cases q : j < 3
    · rw [dl3 q, sub_unkT]
    · rw [dl5 (by omega) hj5, e1, sub_unkT, dl5 (by omega) hk]; rfl
   show Alk _ _ 500 (Mine.sub dl (af α i)) (Mine.sub (fun i => Mine.sub dl (σ i)) (unkT i))
   rw [eu]
   have hlo := S.low9 hl hi
   have hh := hgt_sub_le (θ := dl) (B := 0) (af α i) fun j _ => dl_hgt j
   refine alk_gen 500 (wf_sub _ hw fun j _ => dl_wf j) (vok_sub _ hv fun j hj => dl_vok (occ_lt _ hv j hj)) (by omega) fun j hj => ?_
   obtain ⟨m, h1, h2⟩ := (occ_sub _).mp hj
   have hm5 := occ_lt _ hv m h1
   obtain ⟨h3, rfl⟩ := (occ_dl hm5).mp h2
   obtain ⟨k, hk, e1, hs, e2⟩ := nm j h1
   refine ⟨k, hk, ?_, hs, ?_⟩
   · show Mine.sub dl (σ j) = _
     rw [e1, sub_unkT, dl3 (hs.mp h3)]
   · show Mine.sub dl (af α k) = _
     rw [e2, sub_unkT, dl3 h3]
end
theorem unify_no {a b : T} (ha : a.good 3) (hb : b.good 3) (h : ∀ θ, Srt θ → Mine.sub θ a = Mine.sub θ b → False) : ∃ m, URun [none, none, none, none, none] [(a, b)] none m := by
 obtain ⟨r, m, hr, hf⟩ := good0.unify ha hb
 cases r with
 | none => exact ⟨m, hr⟩
 | some κ' =>
  obtain ⟨σ', rk', G', hs⟩ := hf.yes κ' rfl
  obtain ⟨_, h2⟩ := (hs _).mp G'.sol
  exact (h σ' G'.srt (h2 (a, b) (by simp))).elim
theorem v1_good : (unkT 1).good 3 := good_unkT (by omega)
theorem plain : Plain Inv := by
 have w1 : T.wf (.node (.var 1) []) := ⟨rfl, trivial⟩
 have v1 : T.vok (.node (.var 1) []) := ⟨show (1:Nat) < 3 by decide, trivial⟩
 have w3 : T.wf (.node (.ivar 3) []) := ⟨rfl, trivial⟩
 have v3 : T.vok (.node (.ivar 3) []) := ⟨⟨by decide, by decide⟩, trivial⟩
 refine ⟨inv0, fun κ α ps ⟨σ, rk, S⟩ => ⟨S.G.len, S.I.len⟩, inv_turn, fun κ α ps ⟨σ, rk, S⟩ hl => S.right hl, unify_no v1_good ⟨⟨rfl, w1, trivial⟩, ⟨trivial, v1, trivial⟩, by decide⟩ fun θ _ h => ?_, unify_no ⟨⟨show (2:Nat) ≤ 2 by decide, w1, w1, trivial⟩, ⟨trivial, v1, v1, trivial⟩, by decide⟩ ⟨⟨show (2:Nat) ≤ 2 by decide, ⟨rfl, trivial⟩, w3, trivial⟩, ⟨trivial, ⟨trivial, trivial⟩, v3, trivial⟩, by decide⟩ fun θ hs h => ?_⟩
 · have h : θ 1 = .node .box [θ 1] := h
   have := congrArg T.size h
   simp only [T.size, T.sizes] at this
   omega
 · have h : T.node .tup [θ 1, θ 1] = .node .tup [.node .bool [], θ 3] := h
   simp only [T.node.injEq, List.cons.injEq, true_and, and_true] at h
   have h3 := hs 3 (by omega) (by omega)
   rw [← h.2, h.1] at h3
   cases h3
end Mine
theorem PySem.Challenge.cw_nu0378_01_holds : PySem.Challenge.rw_nu0378_01.Holds :=
Mine.law_join Mine.plain
