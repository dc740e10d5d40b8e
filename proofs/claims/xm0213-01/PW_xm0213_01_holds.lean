import PyProof.Rows.All
import Wide.All
import OpenK.AllK
import Wide.FinOn
import PySem.Challenge.RW_xm0213_01
section
open PySem PySem.W PyProof.Rows
set_option Elab.async false
set_option maxRecDepth 100000
set_option maxHeartbeats 8000000
namespace Mine
/-! ## the heap behind the top, written out; the trees of the defs are named -/
abbrev S_ (x : String) : Str := Str.ofString x
noncomputable def sv (x : String) (t : Nat) : Value := .str (Str.ofString x) t
noncomputable def en (P : Params) (x : String) (t : Nat) (v : Value) : DictEntry := { hash := PyData.keyHash P (Str.ofString x), key := .str (Str.ofString x) t, val := v }
noncomputable def noS : Stmt := .Pass ⟨0, 0, 0, 0⟩
noncomputable def st (i : Nat) : Stmt := PySem.Challenge.pw_xm0213_01.main.body.getD i noS
noncomputable def inC : Stmt → List Stmt
  | .ClassDef (body := b) .. => b
  | _ => []
noncomputable def inn (i j : Nat) : Stmt := (inC (st i)).getD j noS
noncomputable def dP : Stmt → Arguments
  | .FunctionDef (args := a) .. => a
  | _ => { posonlyargs := [], args := [], vararg := none, kwonlyargs := [], kw_defaults := [], kwarg := none, defaults := [] }
noncomputable def dB : Stmt → List Stmt
  | .FunctionDef (body := b) .. => b
  | _ => []
noncomputable def dS : Stmt → Scope
  | .FunctionDef (scope := s) .. => s
  | _ => { kind := .function, names := [], isGenerator := false, isCoroutine := false }
noncomputable def heapK (P : Params) : Frag := [
  (2, { cls := Value.none, data := Data.dict #[en P "type.__subclasses__.Exception.0" 224 (Value.int 39 0), en P "type.__subclasses__.Exception.n" 225 (Value.int 1 0)] 2 }),
  (3, { cls := Value.type "dict", data := Data.dict #[en P "__name__" 165 (sv "law_xm0213_01" 446), en P "__doc__" 166 (Value.none), en P "__package__" 167 (Value.none), en P "__loader__" 168 (Value.builtin "__main__.__loader__#opaque"), en P "__spec__" 169 (Value.none), en P "__annotations__" 170 (Value.ref 6), en P "__builtins__" 171 (Value.ref 4), en P "__file__" 173 (sv "/claim/cut.py" 172), en P "__cached__" 174 (Value.none), en P "_wall" 193 (Value.ref 21), en P "ChanError" 227 (Value.ref 39), en P "NameFault" 243 (Value.ref 52), en P "StartOrder" 320 (Value.ref 95), en P "ordered_starts" 329 (Value.ref 106), en P "PLAIN" 333 (Value.ref 109), en P "NamedRow" 368 (Value.ref 126), en P "known_rows" 381 (Value.ref 137), en P "World" 445 (Value.ref 169), en P "_law_reel" 456 (Value.ref 180), en P "_law_wound" 465 (Value.ref 187), en P "_law_nodes" 478 (Value.ref 194), en P "_law_edges" 484 (Value.ref 199), en P "_law_world" 490 (Value.ref 204), en P "_law_led" 496 (Value.ref 209), en P "_law_due" 502 (Value.ref 214), en P "_law_told" 510 (Value.ref 221), en P "_law_fixed_right" 516 (Value.ref 226), en P "law" 522 (Value.ref 231)] 28 }),
  (15, { cls := Value.type "tuple", data := Data.seq #[] }),
  (17, { cls := Value.type "tuple", data := Data.seq #[sv "k" 190] }),
  (18, { cls := Value.type "tuple", data := Data.seq #[] }),
  (20, { cls := Value.type "code", data := Data.fields #[sv "_wall" 187, sv "_wall" 188, sv "/claim/cut.py" 189, Value.int 1 0, Value.int 1 0, Value.int 0 0, Value.int 0 0, Value.int 3 0, Value.ref 15, Value.bool true, Value.int 181 0, Value.ref 16, Value.none, Value.ref 17, Value.ref 18, Value.ref 19, Value.int 191 0, Value.int 1 0, sv "/claim/cut.py" 192] }),
  (21, { cls := Value.type "function", data := Data.func { name := S_ "_wall", qualname := S_ "_wall", params := dP (st 0), body := .stmts (dB (st 0)), scope := dS (st 0), globals := 3, closure := [], defaults := Value.none, kwdefaults := Value.none, pyModule := sv "__main__" 164, code := Value.ref 20 } }),
  (22, { cls := Value.type "tuple", data := Data.seq #[Value.type "Exception"] }),
  (29, { cls := Value.type "tuple", data := Data.seq #[Value.int 0 208] }),
  (30, { cls := Value.type "tuple", data := Data.seq #[] }),
  (32, { cls := Value.type "tuple", data := Data.seq #[sv "self" 212, sv "message" 213, sv "spot" 214] }),
  (33, { cls := Value.type "tuple", data := Data.seq #[] }),
  (35, { cls := Value.type "code", data := Data.fields #[sv "__init__" 209, sv "ChanError.__init__" 210, sv "/claim/cut.py" 211, Value.int 7 0, Value.int 3 0, Value.int 0 0, Value.int 0 0, Value.int 3 0, Value.ref 30, Value.bool true, Value.int 181 0, Value.ref 31, Value.none, Value.ref 32, Value.ref 33, Value.ref 34, Value.int 215 0, Value.int 7 0, sv "/claim/cut.py" 216] }),
  (36, { cls := Value.type "function", data := Data.func { name := S_ "__init__", qualname := S_ "ChanError.__init__", params := dP (inn 2 0), body := .stmts (dB (inn 2 0)), scope := dS (inn 2 0), globals := 3, closure := [], defaults := Value.ref 29, kwdefaults := Value.none, pyModule := sv "chancore.errors" 194, code := Value.ref 35 } }),
  (37, { cls := Value.type "tuple", data := Data.seq #[sv "message" 218, sv "spot" 219] }),
  (38, { cls := Value.type "dict", data := Data.dict #[en P "__module__" 203 (sv "chancore.errors" 194), en P "__firstlineno__" 207 (Value.int 5 206), en P "__init__" 217 (Value.ref 36), en P "__static_attributes__" 220 (Value.ref 37), en P "__weakref__" 222 (Value.ref 40), en P "__doc__" 223 (Value.none)] 3 }),
  (39, { cls := Value.type "type", data := Data.cls { name := S_ "ChanError", bases := [Value.type "Exception"], mro := [Value.ref 39, Value.type "Exception", Value.type "BaseException", Value.type "object"], ns := 38, qualname := S_ "ChanError", subclasses := [Value.ref 52] }, slots := #[some (Value.ref 22), none, some (sv "ChanError" 196), some (sv "ChanError" 204), some (Value.builtin "Exception.__new__"), some (Value.bool true)] }),
  (40, { cls := Value.type "getset_descriptor", data := Data.fields #[sv "__weakref__" 221, Value.ref 39, Value.builtin "ExceptionGroup.__weakref__", Value.none] }),
  (43, { cls := Value.type "tuple", data := Data.seq #[Value.ref 39] }),
  (50, { cls := Value.type "tuple", data := Data.seq #[] }),
  (51, { cls := Value.type "dict", data := Data.dict #[en P "__module__" 235 (sv "chancore.errors" 194), en P "__firstlineno__" 239 (Value.int 11 238), en P "__static_attributes__" 240 (Value.ref 50), en P "__doc__" 241 (Value.none)] 2 }),
  (52, { cls := Value.type "type", data := Data.cls { name := S_ "NameFault", bases := [Value.ref 39], mro := [Value.ref 52, Value.ref 39, Value.type "Exception", Value.type "BaseException", Value.type "object"], ns := 51, qualname := S_ "NameFault" }, slots := #[some (Value.ref 43), none, some (sv "NameFault" 228), some (sv "NameFault" 236), some (Value.builtin "Exception.__new__"), some (Value.bool true)] }),
  (62, { cls := Value.type "tuple", data := Data.seq #[] }),
  (64, { cls := Value.type "tuple", data := Data.seq #[sv "self" 261, sv "world" 262, sv "keys" 263, sv "key" 264, sv "decl" 265, sv "package" 266, sv "receiver" 267, sv "name" 268] }),
  (65, { cls := Value.type "tuple", data := Data.seq #[] }),
  (67, { cls := Value.type "code", data := Data.fields #[sv "__init__" 258, sv "StartOrder.__init__" 259, sv "/claim/cut.py" 260, Value.int 16 0, Value.int 3 0, Value.int 0 0, Value.int 0 0, Value.int 3 0, Value.ref 62, Value.bool true, Value.int 181 0, Value.ref 63, Value.none, Value.ref 64, Value.ref 65, Value.ref 66, Value.int 269 0, Value.int 16 0, sv "/claim/cut.py" 270] }),
  (68, { cls := Value.type "function", data := Data.func { name := S_ "__init__", qualname := S_ "StartOrder.__init__", params := dP (inn 5 0), body := .stmts (dB (inn 5 0)), scope := dS (inn 5 0), globals := 3, closure := [], defaults := Value.none, kwdefaults := Value.none, pyModule := sv "chancore.start_order" 244, code := Value.ref 67 } }),
  (69, { cls := Value.type "tuple", data := Data.seq #[] }),
  (71, { cls := Value.type "tuple", data := Data.seq #[sv "self" 275, sv "key" 276, sv "found" 277, sv "met" 278, sv "waiting" 279, sv "here" 280, sv "word" 281, sv "told" 282] }),
  (72, { cls := Value.type "tuple", data := Data.seq #[] }),
  (74, { cls := Value.type "code", data := Data.fields #[sv "reached" 272, sv "StartOrder.reached" 273, sv "/claim/cut.py" 274, Value.int 26 0, Value.int 2 0, Value.int 0 0, Value.int 0 0, Value.int 3 0, Value.ref 69, Value.bool true, Value.int 181 0, Value.ref 70, Value.none, Value.ref 71, Value.ref 72, Value.ref 73, Value.int 283 0, Value.int 26 0, sv "/claim/cut.py" 284] }),
  (75, { cls := Value.type "function", data := Data.func { name := S_ "reached", qualname := S_ "StartOrder.reached", params := dP (inn 5 1), body := .stmts (dB (inn 5 1)), scope := dS (inn 5 1), globals := 3, closure := [], defaults := Value.none, kwdefaults := Value.none, pyModule := sv "chancore.start_order" 244, code := Value.ref 74 } }),
  (76, { cls := Value.type "tuple", data := Data.seq #[] }),
  (78, { cls := Value.type "tuple", data := Data.seq #[sv "self" 289, sv "needs" 290, sv "key" 291, sv "found" 292, sv "waiting" 293, sv "here" 294] }),
  (79, { cls := Value.type "tuple", data := Data.seq #[] }),
  (81, { cls := Value.type "code", data := Data.fields #[sv "whole" 286, sv "StartOrder.whole" 287, sv "/claim/cut.py" 288, Value.int 39 0, Value.int 3 0, Value.int 0 0, Value.int 0 0, Value.int 3 0, Value.ref 76, Value.bool true, Value.int 181 0, Value.ref 77, Value.none, Value.ref 78, Value.ref 79, Value.ref 80, Value.int 295 0, Value.int 39 0, sv "/claim/cut.py" 296] }),
  (82, { cls := Value.type "function", data := Data.func { name := S_ "whole", qualname := S_ "StartOrder.whole", params := dP (inn 5 2), body := .stmts (dB (inn 5 2)), scope := dS (inn 5 2), globals := 3, closure := [], defaults := Value.none, kwdefaults := Value.none, pyModule := sv "chancore.start_order" 244, code := Value.ref 81 } }),
  (83, { cls := Value.type "tuple", data := Data.seq #[] }),
  (86, { cls := Value.type "code", data := Data.fields #[sv "next_ready" 298, sv "StartOrder.next_ready" 299, sv "/claim/cut.py" 300, Value.int 48 0, Value.int 3 0, Value.int 0 0, Value.int 0 0, Value.int 3 0, Value.ref 83, Value.bool true, Value.int 181 0, Value.ref 84, Value.none, Value.none, Value.none, Value.ref 85, Value.int 301 0, Value.int 48 0, sv "/claim/cut.py" 302] }),
  (87, { cls := Value.type "function", data := Data.func { name := S_ "next_ready", qualname := S_ "StartOrder.next_ready", params := dP (inn 5 3), body := .stmts (dB (inn 5 3)), scope := dS (inn 5 3), globals := 3, closure := [], defaults := Value.none, kwdefaults := Value.none, pyModule := sv "chancore.start_order" 244, code := Value.ref 86 } }),
  (88, { cls := Value.type "tuple", data := Data.seq #[] }),
  (91, { cls := Value.type "code", data := Data.fields #[sv "order" 304, sv "StartOrder.order" 305, sv "/claim/cut.py" 306, Value.int 54 0, Value.int 1 0, Value.int 0 0, Value.int 0 0, Value.int 3 0, Value.ref 88, Value.bool true, Value.int 181 0, Value.ref 89, Value.none, Value.none, Value.none, Value.ref 90, Value.int 307 0, Value.int 54 0, sv "/claim/cut.py" 308] }),
  (92, { cls := Value.type "function", data := Data.func { name := S_ "order", qualname := S_ "StartOrder.order", params := dP (inn 5 4), body := .stmts (dB (inn 5 4)), scope := dS (inn 5 4), globals := 3, closure := [], defaults := Value.none, kwdefaults := Value.none, pyModule := sv "chancore.start_order" 244, code := Value.ref 91 } }),
  (93, { cls := Value.type "tuple", data := Data.seq #[sv "keys" 310, sv "owners" 311, sv "world" 312] }),
  (94, { cls := Value.type "dict", data := Data.dict #[en P "__module__" 253 (sv "chancore.start_order" 244), en P "__firstlineno__" 257 (Value.int 14 256), en P "__init__" 271 (Value.ref 68), en P "reached" 285 (Value.ref 75), en P "whole" 297 (Value.ref 82), en P "next_ready" 303 (Value.ref 87), en P "order" 309 (Value.ref 92), en P "__static_attributes__" 313 (Value.ref 93), en P "__dict__" 315 (Value.ref 96), en P "__weakref__" 317 (Value.ref 97), en P "__doc__" 318 (Value.none)] 4 }),
  (95, { cls := Value.type "type", data := Data.cls { name := S_ "StartOrder", bases := [Value.type "object"], mro := [Value.ref 95, Value.type "object"], ns := 94, qualname := S_ "StartOrder" }, slots := #[none, none, some (sv "StartOrder" 246), some (sv "StartOrder" 254), some (Value.builtin "object.__new__"), some (Value.bool true)] }),
  (96, { cls := Value.type "getset_descriptor", data := Data.fields #[sv "__dict__" 314, Value.ref 95, Value.builtin "function.__dict__", Value.builtin "function.__dict__#set"] }),
  (97, { cls := Value.type "getset_descriptor", data := Data.fields #[sv "__weakref__" 316, Value.ref 95, Value.builtin "ExceptionGroup.__weakref__", Value.none] }),
  (100, { cls := Value.type "tuple", data := Data.seq #[] }),
  (102, { cls := Value.type "tuple", data := Data.seq #[sv "world" 324, sv "found" 325, sv "package" 326] }),
  (103, { cls := Value.type "tuple", data := Data.seq #[] }),
  (105, { cls := Value.type "code", data := Data.fields #[sv "ordered_starts" 321, sv "ordered_starts" 322, sv "/claim/cut.py" 323, Value.int 63 0, Value.int 1 0, Value.int 0 0, Value.int 0 0, Value.int 3 0, Value.ref 100, Value.bool true, Value.int 181 0, Value.ref 101, Value.none, Value.ref 102, Value.ref 103, Value.ref 104, Value.int 327 0, Value.int 63 0, sv "/claim/cut.py" 328] }),
  (106, { cls := Value.type "function", data := Data.func { name := S_ "ordered_starts", qualname := S_ "ordered_starts", params := dP (st 6), body := .stmts (dB (st 6)), scope := dS (st 6), globals := 3, closure := [], defaults := Value.none, kwdefaults := Value.none, pyModule := sv "chancore.start_order" 244, code := Value.ref 105 } }),
  (107, { cls := Value.type "tuple", data := Data.seq #[] }),
  (108, { cls := Value.type "tuple", data := Data.seq #[] }),
  (109, { cls := Value.type "tuple", data := Data.seq #[sv "func" 332, Value.ref 107, Value.ref 108, Value.bool false] }),
  (117, { cls := Value.type "tuple", data := Data.seq #[] }),
  (119, { cls := Value.type "tuple", data := Data.seq #[sv "self" 349, sv "path" 350, sv "package" 351, sv "underlying" 352, sv "methods" 353] }),
  (120, { cls := Value.type "tuple", data := Data.seq #[] }),
  (122, { cls := Value.type "code", data := Data.fields #[sv "__init__" 346, sv "NamedRow.__init__" 347, sv "/claim/cut.py" 348, Value.int 73 0, Value.int 5 0, Value.int 0 0, Value.int 0 0, Value.int 3 0, Value.ref 117, Value.bool true, Value.int 181 0, Value.ref 118, Value.none, Value.ref 119, Value.ref 120, Value.ref 121, Value.int 354 0, Value.int 73 0, sv "/claim/cut.py" 355] }),
  (123, { cls := Value.type "function", data := Data.func { name := S_ "__init__", qualname := S_ "NamedRow.__init__", params := dP (inn 9 0), body := .stmts (dB (inn 9 0)), scope := dS (inn 9 0), globals := 3, closure := [], defaults := Value.none, kwdefaults := Value.none, pyModule := sv "chancore.world" 330, code := Value.ref 122 } }),
  (124, { cls := Value.type "tuple", data := Data.seq #[sv "methods" 357, sv "package" 358, sv "path" 359, sv "underlying" 360] }),
  (125, { cls := Value.type "dict", data := Data.dict #[en P "__module__" 341 (sv "chancore.world" 330), en P "__firstlineno__" 345 (Value.int 71 344), en P "__init__" 356 (Value.ref 123), en P "__static_attributes__" 361 (Value.ref 124), en P "__dict__" 363 (Value.ref 127), en P "__weakref__" 365 (Value.ref 128), en P "__doc__" 366 (Value.none)] 4 }),
  (126, { cls := Value.type "type", data := Data.cls { name := S_ "NamedRow", bases := [Value.type "object"], mro := [Value.ref 126, Value.type "object"], ns := 125, qualname := S_ "NamedRow" }, slots := #[none, none, some (sv "NamedRow" 334), some (sv "NamedRow" 342), some (Value.builtin "object.__new__"), some (Value.bool true)] }),
  (127, { cls := Value.type "getset_descriptor", data := Data.fields #[sv "__dict__" 362, Value.ref 126, Value.builtin "function.__dict__", Value.builtin "function.__dict__#set"] }),
  (128, { cls := Value.type "getset_descriptor", data := Data.fields #[sv "__weakref__" 364, Value.ref 126, Value.builtin "ExceptionGroup.__weakref__", Value.none] }),
  (131, { cls := Value.type "tuple", data := Data.seq #[] }),
  (133, { cls := Value.type "tuple", data := Data.seq #[sv "text" 372, sv "adding" 373, sv "gate" 374, sv "group" 375, sv "told" 376, sv "locks" 377, sv "waits" 378] }),
  (134, { cls := Value.type "tuple", data := Data.seq #[] }),
  (136, { cls := Value.type "code", data := Data.fields #[sv "known_rows" 369, sv "known_rows" 370, sv "/claim/cut.py" 371, Value.int 78 0, Value.int 0 0, Value.int 0 0, Value.int 0 0, Value.int 3 0, Value.ref 131, Value.bool true, Value.int 181 0, Value.ref 132, Value.none, Value.ref 133, Value.ref 134, Value.ref 135, Value.int 379 0, Value.int 78 0, sv "/claim/cut.py" 380] }),
  (137, { cls := Value.type "function", data := Data.func { name := S_ "known_rows", qualname := S_ "known_rows", params := dP (st 10), body := .stmts (dB (st 10)), scope := dS (st 10), globals := 3, closure := [], defaults := Value.none, kwdefaults := Value.none, pyModule := sv "chancore.world" 330, code := Value.ref 136 } }),
  (145, { cls := Value.type "tuple", data := Data.seq #[Value.none] }),
  (146, { cls := Value.type "tuple", data := Data.seq #[] }),
  (148, { cls := Value.type "tuple", data := Data.seq #[sv "self" 397, sv "packages" 398] }),
  (149, { cls := Value.type "tuple", data := Data.seq #[] }),
  (151, { cls := Value.type "code", data := Data.fields #[sv "__init__" 394, sv "World.__init__" 395, sv "/claim/cut.py" 396, Value.int 89 0, Value.int 2 0, Value.int 0 0, Value.int 0 0, Value.int 3 0, Value.ref 146, Value.bool true, Value.int 181 0, Value.ref 147, Value.none, Value.ref 148, Value.ref 149, Value.ref 150, Value.int 399 0, Value.int 89 0, sv "/claim/cut.py" 400] }),
  (152, { cls := Value.type "function", data := Data.func { name := S_ "__init__", qualname := S_ "World.__init__", params := dP (inn 11 0), body := .stmts (dB (inn 11 0)), scope := dS (inn 11 0), globals := 3, closure := [], defaults := Value.ref 145, kwdefaults := Value.none, pyModule := sv "chancore.world" 330, code := Value.ref 151 } }),
  (153, { cls := Value.type "tuple", data := Data.seq #[] }),
  (155, { cls := Value.type "tuple", data := Data.seq #[sv "self" 405, sv "told" 406] }),
  (156, { cls := Value.type "tuple", data := Data.seq #[] }),
  (158, { cls := Value.type "code", data := Data.fields #[sv "base_of" 402, sv "World.base_of" 403, sv "/claim/cut.py" 404, Value.int 111 0, Value.int 2 0, Value.int 0 0, Value.int 0 0, Value.int 3 0, Value.ref 153, Value.bool true, Value.int 181 0, Value.ref 154, Value.none, Value.ref 155, Value.ref 156, Value.ref 157, Value.int 407 0, Value.int 111 0, sv "/claim/cut.py" 408] }),
  (159, { cls := Value.type "function", data := Data.func { name := S_ "base_of", qualname := S_ "World.base_of", params := dP (inn 11 1), body := .stmts (dB (inn 11 1)), scope := dS (inn 11 1), globals := 3, closure := [], defaults := Value.none, kwdefaults := Value.none, pyModule := sv "chancore.world" 330, code := Value.ref 158 } }),
  (160, { cls := Value.type "tuple", data := Data.seq #[] }),
  (162, { cls := Value.type "tuple", data := Data.seq #[sv "self" 413, sv "entry" 414] }),
  (163, { cls := Value.type "tuple", data := Data.seq #[] }),
  (165, { cls := Value.type "code", data := Data.fields #[sv "settled" 410, sv "World.settled" 411, sv "/claim/cut.py" 412, Value.int 114 0, Value.int 2 0, Value.int 0 0, Value.int 0 0, Value.int 3 0, Value.ref 160, Value.bool true, Value.int 181 0, Value.ref 161, Value.none, Value.ref 162, Value.ref 163, Value.ref 164, Value.int 415 0, Value.int 114 0, sv "/claim/cut.py" 416] }),
  (166, { cls := Value.type "function", data := Data.func { name := S_ "settled", qualname := S_ "World.settled", params := dP (inn 11 2), body := .stmts (dB (inn 11 2)), scope := dS (inn 11 2), globals := 3, closure := [], defaults := Value.none, kwdefaults := Value.none, pyModule := sv "chancore.world" 330, code := Value.ref 165 } }),
  (167, { cls := Value.type "tuple", data := Data.seq #[sv "bodies" 418, sv "consts" 419, sv "files" 420, sv "funcs" 421, sv "globals" 422, sv "inits" 423, sv "is_whole" 424, sv "late_keys" 425, sv "late_parts" 426, sv "late_sizes" 427, sv "measured" 428, sv "mentions" 429, sv "named" 430, sv "order" 431, sv "packages" 432, sv "scopes" 433, sv "settle" 434, sv "starts" 435, sv "values" 436, sv "want" 437] }),
  (168, { cls := Value.type "dict", data := Data.dict #[en P "__module__" 389 (sv "chancore.world" 330), en P "__firstlineno__" 393 (Value.int 87 392), en P "__init__" 401 (Value.ref 152), en P "base_of" 409 (Value.ref 159), en P "settled" 417 (Value.ref 166), en P "__static_attributes__" 438 (Value.ref 167), en P "__dict__" 440 (Value.ref 170), en P "__weakref__" 442 (Value.ref 171), en P "__doc__" 443 (Value.none)] 4 }),
  (169, { cls := Value.type "type", data := Data.cls { name := S_ "World", bases := [Value.type "object"], mro := [Value.ref 169, Value.type "object"], ns := 168, qualname := S_ "World" }, slots := #[none, none, some (sv "World" 382), some (sv "World" 390), some (Value.builtin "object.__new__"), some (Value.bool true)] }),
  (170, { cls := Value.type "getset_descriptor", data := Data.fields #[sv "__dict__" 439, Value.ref 169, Value.builtin "function.__dict__", Value.builtin "function.__dict__#set"] }),
  (171, { cls := Value.type "getset_descriptor", data := Data.fields #[sv "__weakref__" 441, Value.ref 169, Value.builtin "ExceptionGroup.__weakref__", Value.none] }),
  (174, { cls := Value.type "tuple", data := Data.seq #[] }),
  (176, { cls := Value.type "tuple", data := Data.seq #[sv "script" 451, sv "told" 452, sv "size" 453] }),
  (177, { cls := Value.type "tuple", data := Data.seq #[] }),
  (179, { cls := Value.type "code", data := Data.fields #[sv "_law_reel" 448, sv "_law_reel" 449, sv "/claim/cut.py" 450, Value.int 117 0, Value.int 1 0, Value.int 0 0, Value.int 0 0, Value.int 3 0, Value.ref 174, Value.bool true, Value.int 181 0, Value.ref 175, Value.none, Value.ref 176, Value.ref 177, Value.ref 178, Value.int 454 0, Value.int 117 0, sv "/claim/cut.py" 455] }),
  (180, { cls := Value.type "function", data := Data.func { name := S_ "_law_reel", qualname := S_ "_law_reel", params := dP (st 13), body := .stmts (dB (st 13)), scope := dS (st 13), globals := 3, closure := [], defaults := Value.none, kwdefaults := Value.none, pyModule := sv "law_xm0213_01" 446, code := Value.ref 179 } }),
  (181, { cls := Value.type "tuple", data := Data.seq #[] }),
  (183, { cls := Value.type "tuple", data := Data.seq #[sv "reel" 460, sv "many" 461, sv "found" 462] }),
  (184, { cls := Value.type "tuple", data := Data.seq #[] }),
  (186, { cls := Value.type "code", data := Data.fields #[sv "_law_wound" 457, sv "_law_wound" 458, sv "/claim/cut.py" 459, Value.int 121 0, Value.int 2 0, Value.int 0 0, Value.int 0 0, Value.int 3 0, Value.ref 181, Value.bool true, Value.int 181 0, Value.ref 182, Value.none, Value.ref 183, Value.ref 184, Value.ref 185, Value.int 463 0, Value.int 121 0, sv "/claim/cut.py" 464] }),
  (187, { cls := Value.type "function", data := Data.func { name := S_ "_law_wound", qualname := S_ "_law_wound", params := dP (st 14), body := .stmts (dB (st 14)), scope := dS (st 14), globals := 3, closure := [], defaults := Value.none, kwdefaults := Value.none, pyModule := sv "law_xm0213_01" 446, code := Value.ref 186 } }),
  (188, { cls := Value.type "tuple", data := Data.seq #[] }),
  (190, { cls := Value.type "tuple", data := Data.seq #[sv "reel" 469, sv "found" 470, sv "package" 471, sv "k" 472, sv "name" 473, sv "way" 474, sv "names" 475] }),
  (191, { cls := Value.type "tuple", data := Data.seq #[] }),
  (193, { cls := Value.type "code", data := Data.fields #[sv "_law_nodes" 466, sv "_law_nodes" 467, sv "/claim/cut.py" 468, Value.int 128 0, Value.int 1 0, Value.int 0 0, Value.int 0 0, Value.int 3 0, Value.ref 188, Value.bool true, Value.int 181 0, Value.ref 189, Value.none, Value.ref 190, Value.ref 191, Value.ref 192, Value.int 476 0, Value.int 128 0, sv "/claim/cut.py" 477] }),
  (194, { cls := Value.type "function", data := Data.func { name := S_ "_law_nodes", qualname := S_ "_law_nodes", params := dP (st 15), body := .stmts (dB (st 15)), scope := dS (st 15), globals := 3, closure := [], defaults := Value.none, kwdefaults := Value.none, pyModule := sv "law_xm0213_01" 446, code := Value.ref 193 } }),
  (195, { cls := Value.type "tuple", data := Data.seq #[] }),
  (198, { cls := Value.type "code", data := Data.fields #[sv "_law_edges" 479, sv "_law_edges" 480, sv "/claim/cut.py" 481, Value.int 138 0, Value.int 2 0, Value.int 0 0, Value.int 0 0, Value.int 3 0, Value.ref 195, Value.bool true, Value.int 181 0, Value.ref 196, Value.none, Value.none, Value.none, Value.ref 197, Value.int 482 0, Value.int 138 0, sv "/claim/cut.py" 483] }),
  (199, { cls := Value.type "function", data := Data.func { name := S_ "_law_edges", qualname := S_ "_law_edges", params := dP (st 16), body := .stmts (dB (st 16)), scope := dS (st 16), globals := 3, closure := [], defaults := Value.none, kwdefaults := Value.none, pyModule := sv "law_xm0213_01" 446, code := Value.ref 198 } }),
  (200, { cls := Value.type "tuple", data := Data.seq #[] }),
  (203, { cls := Value.type "code", data := Data.fields #[sv "_law_world" 485, sv "_law_world" 486, sv "/claim/cut.py" 487, Value.int 151 0, Value.int 5 0, Value.int 0 0, Value.int 0 0, Value.int 3 0, Value.ref 200, Value.bool true, Value.int 181 0, Value.ref 201, Value.none, Value.none, Value.none, Value.ref 202, Value.int 488 0, Value.int 151 0, sv "/claim/cut.py" 489] }),
  (204, { cls := Value.type "function", data := Data.func { name := S_ "_law_world", qualname := S_ "_law_world", params := dP (st 17), body := .stmts (dB (st 17)), scope := dS (st 17), globals := 3, closure := [], defaults := Value.none, kwdefaults := Value.none, pyModule := sv "law_xm0213_01" 446, code := Value.ref 203 } }),
  (205, { cls := Value.type "tuple", data := Data.seq #[] }),
  (208, { cls := Value.type "code", data := Data.fields #[sv "_law_led" 491, sv "_law_led" 492, sv "/claim/cut.py" 493, Value.int 175 0, Value.int 1 0, Value.int 0 0, Value.int 0 0, Value.int 3 0, Value.ref 205, Value.bool true, Value.int 181 0, Value.ref 206, Value.none, Value.none, Value.none, Value.ref 207, Value.int 494 0, Value.int 175 0, sv "/claim/cut.py" 495] }),
  (209, { cls := Value.type "function", data := Data.func { name := S_ "_law_led", qualname := S_ "_law_led", params := dP (st 18), body := .stmts (dB (st 18)), scope := dS (st 18), globals := 3, closure := [], defaults := Value.none, kwdefaults := Value.none, pyModule := sv "law_xm0213_01" 446, code := Value.ref 208 } }),
  (210, { cls := Value.type "tuple", data := Data.seq #[] }),
  (213, { cls := Value.type "code", data := Data.fields #[sv "_law_due" 497, sv "_law_due" 498, sv "/claim/cut.py" 499, Value.int 182 0, Value.int 4 0, Value.int 0 0, Value.int 0 0, Value.int 3 0, Value.ref 210, Value.bool true, Value.int 181 0, Value.ref 211, Value.none, Value.none, Value.none, Value.ref 212, Value.int 500 0, Value.int 182 0, sv "/claim/cut.py" 501] }),
  (214, { cls := Value.type "function", data := Data.func { name := S_ "_law_due", qualname := S_ "_law_due", params := dP (st 19), body := .stmts (dB (st 19)), scope := dS (st 19), globals := 3, closure := [], defaults := Value.none, kwdefaults := Value.none, pyModule := sv "law_xm0213_01" 446, code := Value.ref 213 } }),
  (215, { cls := Value.type "tuple", data := Data.seq #[] }),
  (217, { cls := Value.type "tuple", data := Data.seq #[sv "world" 506, sv "fault" 507] }),
  (218, { cls := Value.type "tuple", data := Data.seq #[] }),
  (220, { cls := Value.type "code", data := Data.fields #[sv "_law_told" 503, sv "_law_told" 504, sv "/claim/cut.py" 505, Value.int 195 0, Value.int 1 0, Value.int 0 0, Value.int 0 0, Value.int 3 0, Value.ref 215, Value.bool true, Value.int 181 0, Value.ref 216, Value.none, Value.ref 217, Value.ref 218, Value.ref 219, Value.int 508 0, Value.int 195 0, sv "/claim/cut.py" 509] }),
  (221, { cls := Value.type "function", data := Data.func { name := S_ "_law_told", qualname := S_ "_law_told", params := dP (st 20), body := .stmts (dB (st 20)), scope := dS (st 20), globals := 3, closure := [], defaults := Value.none, kwdefaults := Value.none, pyModule := sv "law_xm0213_01" 446, code := Value.ref 220 } }),
  (222, { cls := Value.type "tuple", data := Data.seq #[] }),
  (225, { cls := Value.type "code", data := Data.fields #[sv "_law_fixed_right" 511, sv "_law_fixed_right" 512, sv "/claim/cut.py" 513, Value.int 200 0, Value.int 0 0, Value.int 0 0, Value.int 0 0, Value.int 3 0, Value.ref 222, Value.bool true, Value.int 181 0, Value.ref 223, Value.none, Value.none, Value.none, Value.ref 224, Value.int 514 0, Value.int 200 0, sv "/claim/cut.py" 515] }),
  (226, { cls := Value.type "function", data := Data.func { name := S_ "_law_fixed_right", qualname := S_ "_law_fixed_right", params := dP (st 21), body := .stmts (dB (st 21)), scope := dS (st 21), globals := 3, closure := [], defaults := Value.none, kwdefaults := Value.none, pyModule := sv "law_xm0213_01" 446, code := Value.ref 225 } }),
  (227, { cls := Value.type "tuple", data := Data.seq #[] }),
  (230, { cls := Value.type "code", data := Data.fields #[sv "law" 517, sv "law" 518, sv "/claim/cut.py" 519, Value.int 209 0, Value.int 1 0, Value.int 0 0, Value.int 0 0, Value.int 3 0, Value.ref 227, Value.bool true, Value.int 181 0, Value.ref 228, Value.none, Value.none, Value.none, Value.ref 229, Value.int 520 0, Value.int 209 0, sv "/claim/cut.py" 521] }),
  (231, { cls := Value.type "function", data := Data.func { name := S_ "law", qualname := S_ "law", params := dP (st 22), body := .stmts (dB (st 22)), scope := dS (st 22), globals := 3, closure := [], defaults := Value.none, kwdefaults := Value.none, pyModule := sv "law_xm0213_01" 446, code := Value.ref 230 } })]
noncomputable def heapA : List Addr := [2, 3, 15, 17, 18, 20, 21, 22, 29, 30, 32, 33, 35, 36, 37, 38, 39, 40, 43, 50, 51, 52, 62, 64, 65, 67, 68, 69, 71, 72, 74, 75, 76, 78, 79, 81, 82, 83, 86, 87, 88, 91, 92, 93, 94, 95, 96, 97, 100, 102, 103, 105, 106, 107, 108, 109, 117, 119, 120, 122, 123, 124, 125, 126, 127, 128, 131, 133, 134, 136, 137, 145, 146, 148, 149, 151, 152, 153, 155, 156, 158, 159, 160, 162, 163, 165, 166, 167, 168, 169, 170, 171, 174, 176, 177, 179, 180, 181, 183, 184, 186, 187, 188, 190, 191, 193, 194, 195, 198, 199, 200, 203, 204, 205, 208, 209, 210, 213, 214, 215, 217, 218, 220, 221, 222, 225, 226, 227, 230, 231]
noncomputable def viewK : Program := { PySem.Challenge.pw_xm0213_01 with main := { PySem.Challenge.pw_xm0213_01.main with body := [st 0, st 2, st 3, st 5, st 6, st 8, st 9, st 10, st 11, st 13, st 14, st 15, st 16, st 17, st 18, st 19, st 20, st 21, st 22] } }
theorem heapA_is (P : Params) : heapA = (heapK P).map (·.1) := by kernel_rfl
noncomputable abbrev hookK : Hook := kHook heapK heapA heapA_is
theorem said : PySem.Challenge.rw_xm0213_01.wellSaid = true := by decide +kernel
end Mine
end
section
open PySem PySem.W PyProof.Rows
set_option Elab.async false
set_option maxRecDepth 100000
set_option maxHeartbeats 8000000
namespace Mine
theorem left : LeftO PySem.Challenge.rw_xm0213_01.row.prog viewK [Str.ofString "ChanError"] (fun s => xlAt viewK [] s && recOk (RowW.records (OpenRow.toRowW PySem.Challenge.rw_xm0213_01.row)) s) hookK.obs hookK.val 3662 := by
  intro w
  kernel_rfl
end Mine
end
section
open PySem PySem.W PyProof.Rows PySem.Calls
set_option Elab.async false
set_option maxRecDepth 100000
set_option maxHeartbeats 4000000
namespace Mine

/-! ## several at once: fewer terms than nested pairs -/
inductive E1 {X1 : Type} (P : X1 → Prop) : Prop
  | mk (x1 : X1) : P x1 → E1 P
inductive E2 {X1 X2 : Type} (P : X1 → X2 → Prop) : Prop
  | mk (x1 : X1) (x2 : X2) : P x1 x2 → E2 P
inductive E3 {X1 X2 X3 : Type} (P : X1 → X2 → X3 → Prop) : Prop
  | mk (x1 : X1) (x2 : X2) (x3 : X3) : P x1 x2 x3 → E3 P
inductive E4 {X1 X2 X3 X4 : Type} (P : X1 → X2 → X3 → X4 → Prop) : Prop
  | mk (x1 : X1) (x2 : X2) (x3 : X3) (x4 : X4) : P x1 x2 x3 x4 → E4 P
inductive E5 {X1 X2 X3 X4 X5 : Type} (P : X1 → X2 → X3 → X4 → X5 → Prop) : Prop
  | mk (x1 : X1) (x2 : X2) (x3 : X3) (x4 : X4) (x5 : X5) : P x1 x2 x3 x4 x5 → E5 P
inductive E6 {X1 X2 X3 X4 X5 X6 : Type} (P : X1 → X2 → X3 → X4 → X5 → X6 → Prop) : Prop
  | mk (x1 : X1) (x2 : X2) (x3 : X3) (x4 : X4) (x5 : X5) (x6 : X6) : P x1 x2 x3 x4 x5 x6 → E6 P
inductive E7 {X1 X2 X3 X4 X5 X6 X7 : Type} (P : X1 → X2 → X3 → X4 → X5 → X6 → X7 → Prop) : Prop
  | mk (x1 : X1) (x2 : X2) (x3 : X3) (x4 : X4) (x5 : X5) (x6 : X6) (x7 : X7) : P x1 x2 x3 x4 x5 x6 x7 → E7 P
inductive E8 {X1 X2 X3 X4 X5 X6 X7 X8 : Type} (P : X1 → X2 → X3 → X4 → X5 → X6 → X7 → X8 → Prop) : Prop
  | mk (x1 : X1) (x2 : X2) (x3 : X3) (x4 : X4) (x5 : X5) (x6 : X6) (x7 : X7) (x8 : X8) : P x1 x2 x3 x4 x5 x6 x7 x8 → E8 P
inductive E9 {X1 X2 X3 X4 X5 X6 X7 X8 X9 : Type} (P : X1 → X2 → X3 → X4 → X5 → X6 → X7 → X8 → X9 → Prop) : Prop
  | mk (x1 : X1) (x2 : X2) (x3 : X3) (x4 : X4) (x5 : X5) (x6 : X6) (x7 : X7) (x8 : X8) (x9 : X9) : P x1 x2 x3 x4 x5 x6 x7 x8 x9 → E9 P
inductive E10 {X1 X2 X3 X4 X5 X6 X7 X8 X9 X10 : Type} (P : X1 → X2 → X3 → X4 → X5 → X6 → X7 → X8 → X9 → X10 → Prop) : Prop
  | mk (x1 : X1) (x2 : X2) (x3 : X3) (x4 : X4) (x5 : X5) (x6 : X6) (x7 : X7) (x8 : X8) (x9 : X9) (x10 : X10) : P x1 x2 x3 x4 x5 x6 x7 x8 x9 x10 → E10 P
inductive A3 (P1 P2 P3 : Prop) : Prop
  | mk : P1 → P2 → P3 → A3 P1 P2 P3
inductive A4 (P1 P2 P3 P4 : Prop) : Prop
  | mk : P1 → P2 → P3 → P4 → A4 P1 P2 P3 P4
inductive A5 (P1 P2 P3 P4 P5 : Prop) : Prop
  | mk : P1 → P2 → P3 → P4 → P5 → A5 P1 P2 P3 P4 P5
inductive A6 (P1 P2 P3 P4 P5 P6 : Prop) : Prop
  | mk : P1 → P2 → P3 → P4 → P5 → P6 → A6 P1 P2 P3 P4 P5 P6
inductive A7 (P1 P2 P3 P4 P5 P6 P7 : Prop) : Prop
  | mk : P1 → P2 → P3 → P4 → P5 → P6 → P7 → A7 P1 P2 P3 P4 P5 P6 P7
inductive A8 (P1 P2 P3 P4 P5 P6 P7 P8 : Prop) : Prop
  | mk : P1 → P2 → P3 → P4 → P5 → P6 → P7 → P8 → A8 P1 P2 P3 P4 P5 P6 P7 P8
inductive A9 (P1 P2 P3 P4 P5 P6 P7 P8 P9 : Prop) : Prop
  | mk : P1 → P2 → P3 → P4 → P5 → P6 → P7 → P8 → P9 → A9 P1 P2 P3 P4 P5 P6 P7 P8 P9
inductive A10 (P1 P2 P3 P4 P5 P6 P7 P8 P9 P10 : Prop) : Prop
  | mk : P1 → P2 → P3 → P4 → P5 → P6 → P7 → P8 → P9 → P10 → A10 P1 P2 P3 P4 P5 P6 P7 P8 P9 P10
inductive A11 (P1 P2 P3 P4 P5 P6 P7 P8 P9 P10 P11 : Prop) : Prop
  | mk : P1 → P2 → P3 → P4 → P5 → P6 → P7 → P8 → P9 → P10 → P11 → A11 P1 P2 P3 P4 P5 P6 P7 P8 P9 P10 P11
inductive A12 (P1 P2 P3 P4 P5 P6 P7 P8 P9 P10 P11 P12 : Prop) : Prop
  | mk : P1 → P2 → P3 → P4 → P5 → P6 → P7 → P8 → P9 → P10 → P11 → P12 → A12 P1 P2 P3 P4 P5 P6 P7 P8 P9 P10 P11 P12
inductive A13 (P1 P2 P3 P4 P5 P6 P7 P8 P9 P10 P11 P12 P13 : Prop) : Prop
  | mk : P1 → P2 → P3 → P4 → P5 → P6 → P7 → P8 → P9 → P10 → P11 → P12 → P13 → A13 P1 P2 P3 P4 P5 P6 P7 P8 P9 P10 P11 P12 P13
inductive A14 (P1 P2 P3 P4 P5 P6 P7 P8 P9 P10 P11 P12 P13 P14 : Prop) : Prop
  | mk : P1 → P2 → P3 → P4 → P5 → P6 → P7 → P8 → P9 → P10 → P11 → P12 → P13 → P14 → A14 P1 P2 P3 P4 P5 P6 P7 P8 P9 P10 P11 P12 P13 P14

structure Cx where
  prog : Program
  w : World
  s0 : Shared

abbrev Cx.M (C : Cx) : Model := model C.prog C.w
abbrev Cx.st (C : Cx) (h : Heap) (t : Nat) : Shared := ⟨h, C.s0.gens, C.s0.drawn, t, C.s0.os⟩

/-- a state, its tokens hidden -/
inductive At (C : Cx) (P : Heap → Prop) (s' : Shared) : Prop
  | mk (h' : Heap) (tk' : Nat) : s' = C.st h' tk' → P h' → At C P s'
/-- the judgement: the tokens are hidden -/
def T (C : Cx) (A : Around) {α : Type} (t : Sem α) (Q : α → Heap → Prop) (E : Value → Heap → Prop) (h : Heap) : Prop :=
  ∀ tk, wpAny C.M A t (fun v s' => At C (Q v) s') (fun e s' => At C (E e) s') (C.st h tk)

def noE : Value → Heap → Prop := fun _ _ => False
/-- what is wanted, under a name -/
def Hid {α : Type} (Q K : α → Heap → Prop) : Prop := ∀ a h, Q a h → K a h
theorem Hid.out {α : Type} {Q K : α → Heap → Prop} (x : Hid Q K) {a : α} {h : Heap} (q : Q a h) : K a h := x a h q
theorem Hid.refl {α : Type} (Q : α → Heap → Prop) : Hid Q Q := fun _ _ x => x
/-- the statements behind -/
abbrev Cont (C : Cx) (A : Around) (rest : List Stmt) (env : Env) (Q : Flow → Heap → Prop) (E : Value → Heap → Prop) (f : Flow) (h' : Heap) : Prop := match f with
  | .next => T C A (execs rest env) Q E h'
  | f => Q f h'

section
variable {C : Cx} {A : Around} {α β : Type} {E : Value → Heap → Prop} {h : Heap}

theorem T_pure {a : α} {Q : α → Heap → Prop} (hq : Q a h) : T C A (pure a) Q E h := fun _ => wpAny_pure ⟨_, _, rfl, hq⟩
theorem T_bind {m : Sem α} {f : α → Sem β} {Q : β → Heap → Prop} (hm : T C A m (fun a h' => T C A (f a) Q E h') E h) : T C A (m >>= f) Q E h := fun tk =>
  wpAny_bind (wpAny_mono (hm tk) (fun _ _ ⟨_, tk', e, H⟩ => e ▸ H tk') fun _ _ x => x)
theorem T_mono {m : Sem α} {Q Q' : α → Heap → Prop} {E' : Value → Heap → Prop} (hm : T C A m Q E h) (hq : ∀ a h, Q a h → Q' a h) (he : ∀ a h, E a h → E' a h) : T C A m Q' E' h := fun tk =>
  wpAny_mono (hm tk) (fun _ _ ⟨h', tk', e, H⟩ => ⟨h', tk', e, hq _ _ H⟩) (fun _ _ ⟨h', tk', e, H⟩ => ⟨h', tk', e, he _ _ H⟩)
theorem T_post {m : Sem α} {Q Q' : α → Heap → Prop} (hm : T C A m Q E h) (hq : ∀ a h, Q a h → Q' a h) : T C A m Q' E h := T_mono hm hq fun _ _ x => x
theorem T_noE {m : Sem α} {Q : α → Heap → Prop} (hm : T C A m Q noE h) : T C A m Q E h := T_mono hm (fun _ _ x => x) (fun _ _ x => x.elim)
theorem T_eq {m m' : Sem α} {Q : α → Heap → Prop} (e : m = m') (hm : T C A m' Q E h) : T C A m Q E h := e ▸ hm
theorem T_holding {vs : List Value} {m : Sem α} {Q : α → Heap → Prop} (hm : T C A m Q E h) : T C A (holding vs m) Q E h := fun tk => wpAny_holding (hm tk)
theorem T_at {pos : Pos} {Q : Unit → Heap → Prop} (hq : Q () h) : T C A (standAt pos) Q E h := fun _ => wpAny_standAt ⟨_, _, rfl, hq⟩
theorem T_operate {vs : List Value} {m : Sem Value} {Q : Value → Heap → Prop} (hm : T C A m Q E h) : T C A (operate vs m) Q E h := fun tk Γ p hΓ => by
  rw [Sem.wp_operate]; exact hm tk Γ p hΓ
theorem T_release {vs ks : List Value} {Q : Unit → Heap → Prop} (hq : Q () h) : T C A (release vs ks) Q E h := fun tk Γ p hΓ => by
  rw [Sem.wp_release]; exact ⟨_, _, rfl, hq⟩
theorem T_load {a : Addr} {o : Obj} {Q : Obj → Heap → Prop} (ho : h.get? a = some o) (hq : Q o h) : T C A (load a) Q E h := fun _ => wpAny_load ho ⟨_, _, rfl, hq⟩
end

/-! ## structure of statements and expressions -/
section
variable {C : Cx} {A : Around} {E : Value → Heap → Prop} {h : Heap} {env : Env}

theorem Cont.ret {rest : List Stmt} {Q : Flow → Heap → Prop} {v : Value} (q : Q (.ret v) h) : Cont C A rest env Q E (.ret v) h := q
theorem T_execs_nil {Q : Flow → Heap → Prop} (hq : Q .next h) : T C A (execs [] env) Q E h := T_pure hq
theorem T_execs_cons {st : Stmt} {rest : List Stmt} {Q : Flow → Heap → Prop}
    (hx : T C A (exec st env) (Cont C A rest env Q E) E h) : T C A (execs (st :: rest) env) Q E h := by
  refine T_eq (execs_cons env st rest) (T_bind (T_post hx fun f h' H => ?_))
  cases f <;> first | exact H | exact T_pure H

theorem T_int {i : Int} {k : Nat} {pos : Pos} {Q : Value → Heap → Prop} (hq : ∀ t, Q (.int i t) h) : T C A (eval (.Constant (.int i) k pos) env) Q E h := fun _ => wpAny_mkInt ⟨_, _, rfl, hq _⟩
theorem T_str {x : String} {k : Nat} {pos : Pos} {Q : Value → Heap → Prop} (hq : ∀ t, Q (.str x t) h) : T C A (eval (.Constant (.str x) k pos) env) Q E h := fun _ => wpAny_mkText ⟨_, _, rfl, hq _⟩
theorem T_strS {x : Str} {k : Nat} {pos : Pos} {Q : Value → Heap → Prop} (hq : ∀ t, Q (.str x t) h) : T C A (eval (.Constant (.str x) k pos) env) Q E h := fun _ => wpAny_mkText ⟨_, _, rfl, hq _⟩
theorem T_bool {b : Bool} {k : Nat} {pos : Pos} {Q : Value → Heap → Prop} (hq : Q (.bool b) h) : T C A (eval (.Constant (.bool b) k pos) env) Q E h := T_pure hq
theorem T_none {k : Nat} {pos : Pos} {Q : Value → Heap → Prop} (hq : Q .none h) : T C A (eval (.Constant .none k pos) env) Q E h := T_pure hq

theorem T_Name {x : Str} {pos : Pos} {Q : Value → Heap → Prop} (hx : T C A (loadName env x) Q E h) (hd : (x == ("__debug__" : Str)) = false := by kernel_rfl) : T C A (eval (.Name x pos) env) Q E h :=
  T_eq (eval_Name env x pos hd) (T_bind (T_at hx))
theorem T_BinOp {l r : Expr} {op : Operator} {pos : Pos} {Q : Value → Heap → Prop}
    (hx : T C A (eval l env) (fun a h1 => T C A (eval r env) (fun b h2 => T C A (binaryOp op a b) Q E h2) E h1) E h) : T C A (eval (.BinOp l op r pos) env) Q E h :=
  T_eq (eval_BinOp env l op r pos) (T_bind (T_post hx fun _ _ H => T_bind (T_holding (T_post H fun _ _ H => T_bind (T_at (T_operate H))))))
theorem T_Compare {l r : Expr} {op : CmpOp} {pos : Pos} {Q : Value → Heap → Prop}
    (hx : T C A (eval l env) (fun a h1 => T C A (eval r env) (fun b h2 => T C A (compareOp op a b) Q E h2) E h1) E h) (hm : behindInMarks op r = false := by kernel_rfl) :
    T C A (eval (.Compare l [op] [r] pos) env) Q E h := by
  refine T_eq (eval_Compare1 env l op r pos) ?_
  rw [markedBehindIn_of_false hm]
  exact T_bind (T_post hx fun _ _ H => T_bind (T_holding (T_post H fun _ _ H => T_bind (T_at (T_operate H)))))
theorem T_isCompare {l r : Expr} {op : CmpOp} {pos : Pos} {whole : Sem Value} {Q : Bool → Heap → Prop}
    (hx : T C A (eval l env) (fun a h1 => T C A (eval r env) (fun b h2 => T C A (compareOp op a b) (fun c h3 => T C A (truthy c) Q E h3) E h2) E h1) E h) (hm : behindInMarks op r = false := by kernel_rfl) :
    T C A (isTrue (.Compare l [op] [r] pos) env whole) Q E h := by
  refine T_eq (isTrue_Compare1 env l op r pos whole) ?_
  rw [markedBehindIn_of_false hm]
  exact T_bind (T_post hx fun _ _ H => T_bind (T_holding (T_post H fun _ _ H => T_bind (T_at (T_bind (T_operate (T_post H fun _ _ H => T_holding H)))))))
theorem T_truthy_bool {b : Bool} {Q : Bool → Heap → Prop} (hq : Q b h) : T C A (truthy (.bool b)) Q E h := fun _ => wpAny_truthy_bool ⟨_, _, rfl, hq⟩
theorem T_isNot {x : Expr} {pos : Pos} {whole : Sem Value} {Q : Bool → Heap → Prop} (hx : T C A (isTrue x env (eval x env)) (fun b h' => Q (!b) h') E h) : T C A (isTrue (.UnaryOp .Not x pos) env whole) Q E h :=
  T_eq (arm_isTrue_UnaryOp x pos env whole) (T_bind (T_post hx fun _ _ H => T_pure H))
theorem T_isPlain {e : Expr} {whole : Sem Value} {Q : Bool → Heap → Prop} (hx : T C A whole (fun v h' => T C A (truthy v) Q E h') E h)
    (he : isTrue e env whole = (do let v ← whole; standAt e.pos; holding [v] (truthy v)) := by kernel_rfl) : T C A (isTrue e env whole) Q E h :=
  T_eq he (T_bind (T_post hx fun _ _ H => T_bind (T_at (T_holding H))))
theorem T_If {test : Expr} {body orelse : List Stmt} {pos : Pos} {Q : Flow → Heap → Prop}
    (hx : T C A (isTrue test env (eval test env)) (fun b h' => (b = true → T C A (execs body env) Q E h') ∧ (b = false → T C A (execs orelse env) Q E h')) E h) : T C A (exec (.If test body orelse pos) env) Q E h := by
  refine T_eq (exec_If env test body orelse pos) (T_bind (T_at (T_bind (T_post hx fun b h' H => ?_))))
  cases b
  · exact H.2 rfl
  · exact H.1 rfl
theorem T_IfExp {test body orelse : Expr} {pos : Pos} {Q : Value → Heap → Prop}
    (hx : T C A (isTrue test env (eval test env)) (fun b h' => (b = true → T C A (eval body env) Q E h') ∧ (b = false → T C A (eval orelse env) Q E h')) E h) : T C A (eval (.IfExp test body orelse pos) env) Q E h := by
  refine T_eq (arm_eval_IfExp test body orelse pos env) (T_bind (T_post hx fun b h' H => ?_))
  cases b
  · exact H.2 rfl
  · exact H.1 rfl
theorem T_Return {e : Expr} {pos : Pos} {Q : Flow → Heap → Prop} (hx : T C A (eval e env) (fun v h' => Q (.ret v) h') E h) : T C A (exec (.Return (some e) pos) env) Q E h :=
  T_eq (exec_Return_some env e pos) (T_bind (T_at (T_bind (T_post hx fun _ _ H => T_pure H))))
theorem T_bindName {x : Str} {v : Value} {Q : Unit → Heap → Prop} (hx : T C A (storeName env x v) Q E h) : T C A (bindName env x v) Q E h := fun tk => wpAny_bindName (hx tk)
theorem T_Assign_Name {x : Str} {pos' pos : Pos} {value : Expr} {Q : Flow → Heap → Prop}
    (hx : T C A (eval value env) (fun v h1 => T C A (storeName env x v) (fun _ => Q .next) E h1) E h)
    (hs : swapsWith value (some (.Name x pos')) pos.line env = pure false := by kernel_rfl) : T C A (exec (.Assign [.Name x pos'] value pos) env) Q E h := by
  rw [exec_Assign_Name env x pos' value pos hs]
  exact T_bind (T_at (T_bind (T_post hx fun _ _ H => T_bind (T_at (T_bind (T_bindName (T_post H fun _ _ H => T_pure H)))))))
theorem T_Assign_Sub {o i value : Expr} {pos' pos : Pos} {Q : Flow → Heap → Prop}
    (hx : T C A (eval value env) (fun v h1 => T C A (eval o env) (fun ov h2 => T C A (eval i env) (fun iv h3 => T C A (setItem ov iv v) (fun _ => Q .next) E h3) E h2) E h1) E h)
    (hs : swapsWith value (some (.Subscript o i pos')) pos.line env = pure false := by kernel_rfl) : T C A (exec (.Assign [.Subscript o i pos'] value pos) env) Q E h := by
  rw [exec_Assign_Subscript o i pos' value pos hs]
  refine T_bind (T_at (T_bind (T_post hx fun _ _ H => T_bind ?_)))
  rw [assign_Subscript]
  exact T_bind (T_holding (T_post H fun _ _ H => T_bind (T_holding (T_post H fun _ _ H => T_bind (T_at (T_bind (T_holding (T_post H fun _ _ H => T_release (T_pure H)))))))))
end
end Mine
end
section
open PySem PySem.W PyProof.Rows PySem.Calls
set_option Elab.async false
set_option maxRecDepth 100000
set_option maxHeartbeats 4000000
namespace Mine

noncomputable abbrev KF (C : Cx) : Frag := heapK C.w.params

structure Glob (C : Cx) (g : Heap) : Prop where
  K : (KF C).In g
  top : ∃ p loose mean mg mb, Top p loose mean mg mb g

theorem Glob.keeps {C : Cx} {g g' : Heap} (G : Glob C g) (hk : ∀ b o, g.get? b = some o → g'.get? b = some o) : Glob C g' :=
  ⟨G.K.keeps hk, let ⟨p, l, me, mg, mb, x⟩ := G.top; ⟨p, l, me, mg, mb, x.keeps hk⟩⟩

def Sub (g h : Heap) : Prop := ∀ b o, g.get? b = some o → h.get? b = some o
theorem Sub.refl (g : Heap) : Sub g g := fun _ _ e => e
theorem Sub.trans {g h k : Heap} (x : Sub g h) (y : Sub h k) : Sub g k := fun b o e => y b o (x b o e)
def Keep (S : List Addr) (h h' : Heap) : Prop := ∀ b o, b ∉ S → h.get? b = some o → h'.get? b = some o

structure W (C : Cx) (g : Heap) (L : Addr) (m : Str → Option Value) (led : List (Addr × Obj)) (h : Heap) : Prop where
  ns : h.Ns L m
  keep : Sub g h
  off : g.get? L = none
  at_ : ∀ p ∈ led, h.get? p.1 = some p.2
  sep : ∀ p ∈ led, p.1 ≠ L ∧ g.get? p.1 = none
  nd : (led.map (·.1)).Nodup
  glob : Glob C g

inductive Up (d : Addr) (o o' : Obj) : List (Addr × Obj) → List (Addr × Obj) → Prop
  | here {r} : Up d o o' ((d, o) :: r) ((d, o') :: r)
  | there {p r r'} : Up d o o' r r' → Up d o o' (p :: r) (p :: r')
theorem Up.mem {d o o' l l'} (u : Up d o o' l l') : (d, o) ∈ l := by
  induction u with
  | here => exact .head _
  | there _ ih => exact .tail _ ih
theorem Up.fst {d o o' l l'} (u : Up d o o' l l') : l'.map (·.1) = l.map (·.1) := by
  induction u with
  | here => rfl
  | there _ ih => simp [ih]
theorem Up.mem' {d o o' l l'} (u : Up d o o' l l') (nd : (l.map (·.1)).Nodup) : ∀ p ∈ l', p = (d, o') ∨ (p ∈ l ∧ p.1 ≠ d) := by
  induction u with
  | here =>
    rename_i r
    intro p hp
    rcases List.mem_cons.mp hp with e | hp
    · exact .inl e
    · refine .inr ⟨.tail _ hp, fun e => ?_⟩
      have := (List.nodup_cons.mp nd).1
      exact this (by rw [← e]; exact List.mem_map_of_mem (f := (·.1)) hp)
  | there u' ih =>
    rename_i q r r'
    intro p hp
    have nd' := List.nodup_cons.mp nd
    rcases List.mem_cons.mp hp with e | hp
    · refine .inr ⟨e ▸ .head _, fun e' => nd'.1 ?_⟩
      subst e
      have := List.mem_map_of_mem (f := (·.1)) u'.mem
      rw [← e'] at this; exact this
    · rcases ih nd'.2 p hp with e | ⟨a, b⟩
      · exact .inl e
      · exact .inr ⟨.tail _ a, b⟩

theorem ne_of_get {h : Heap} {a b : Addr} {o : Obj} (ha : h.get? a = none) (hb : h.get? b = some o) : a ≠ b := by
  rintro rfl; rw [ha] at hb; cases hb
theorem get_size (h : Heap) : h.get? h.objs.size = none := by
  cases e : h.get? h.objs.size with
  | none => rfl
  | some o => exact absurd (Heap.lt_size e) (Nat.lt_irrefl _)

namespace W
variable {C : Cx} {g h h' : Heap} {L : Addr} {m m' : Str → Option Value} {led led' : List (Addr × Obj)}

theorem ldom (X : W C g L m led h) : ∃ o, h.get? L = some o := let ⟨o, _, _, ho, _⟩ := X.ns; ⟨o, ho⟩

theorem store (X : W C g L m led h) (hn : h'.Ns L m') (hs : Heap.SameBut L h h') : W C g L m' led h' :=
  ⟨hn, fun b o e => hs.extBut b o (fun q => by rw [q, X.off] at e; cases e) (X.keep b o e), X.off, fun p hp => (hs.2 p.1 (X.sep p hp).1).trans (X.at_ p hp), X.sep, X.nd, X.glob⟩
theorem push (X : W C g L m led h) {o : Obj} (hf : o.isFreed = false := by kernel_rfl) : W C g L m ((h.objs.size, o) :: led) (h.push o) := by
  have hg : g.get? h.objs.size = none := by
    cases e : g.get? h.objs.size with
    | none => rfl
    | some o' => have := X.keep _ _ e; rw [get_size] at this; cases this
  refine ⟨X.ns.push o, fun b o' e => Heap.get?_push_of_some _ (X.keep b o' e), X.off, ?_, ?_, ?_, X.glob⟩
  · intro p hp
    rcases List.mem_cons.mp hp with rfl | hp
    · exact Heap.get?_push_size _ hf
    · exact Heap.get?_push_of_some _ (X.at_ p hp)
  · intro p hp
    rcases List.mem_cons.mp hp with rfl | hp
    · obtain ⟨oL, hL⟩ := X.ldom
      exact ⟨ne_of_get (get_size h) hL, hg⟩
    · exact X.sep p hp
  · refine List.nodup_cons.mpr ⟨fun hm => ?_, X.nd⟩
    obtain ⟨p, hp, e⟩ := List.mem_map.mp hm
    exact absurd (X.at_ p hp) (by rw [e, get_size]; exact fun q => by cases q)
theorem same (X : W C g L m led h) {d : Addr} {o o' : Obj} (u : Up d o o' led led') (hs : Heap.SameBut d h h') (hd' : h'.get? d = some o') : W C g L m led' h' := by
  have hd := X.sep _ u.mem
  refine ⟨X.ns.sameBut hs (Ne.symm hd.1), fun b o e => hs.extBut b o (fun q => by rw [q, hd.2] at e; cases e) (X.keep b o e), X.off, fun p hp => ?_, fun p hp => ?_, ?_, X.glob⟩
  · rcases u.mem' X.nd p hp with rfl | ⟨hp, hne⟩
    · exact hd'
    · exact (hs.2 p.1 hne).trans (X.at_ p hp)
  · rcases u.mem' X.nd p hp with rfl | ⟨hp, hne⟩
    · exact hd
    · exact X.sep p hp
  · rw [u.fst]; exact X.nd
theorem perm (X : W C g L m led h) (hs : ∀ p ∈ led', p ∈ led) (nd : (led'.map (·.1)).Nodup) : W C g L m led' h :=
  ⟨X.ns, X.keep, X.off, fun p hp => X.at_ p (hs p hp), fun p hp => X.sep p (hs p hp), nd, X.glob⟩
theorem locals (X : W C g L m led h) (e' : ∀ x, m' x = m x) : W C g L m' led h := by
  have : m' = m := funext e'
  rw [this]; exact X

theorem sub_hide (X : W C g L m led h) : Sub g (hideAll h (L :: led.map (·.1))) := fun b o e =>
  hideAll_get _ (X.keep b o e) fun hm => by
    rcases List.mem_cons.mp hm with rfl | hm
    · rw [X.off] at e; cases e
    · obtain ⟨p, hp, rfl⟩ := List.mem_map.mp hm
      rw [(X.sep p hp).2] at e; cases e
/-- everything but the frame and the ledger stays -/
theorem hide (X : W C g L m led h) : W C (hideAll h (L :: led.map (·.1))) L m led h :=
  ⟨X.ns, fun _ _ e => of_hideAll _ e, hideAll_none _ (.head _), X.at_, fun p hp => ⟨(X.sep p hp).1, hideAll_none _ (.tail _ (List.mem_map_of_mem hp))⟩, X.nd, X.glob.keeps X.sub_hide⟩
/-- ledger entries that stay from now on -/
theorem absorb (X : W C g L m led h) (hs : ∀ p ∈ led', p ∈ led) (nd : (led'.map (·.1)).Nodup) :
    ∃ g', Sub g g' ∧ W C g' L m led' h ∧ ∀ b o, h.get? b = some o → b ≠ L → b ∉ led'.map (·.1) → g'.get? b = some o :=
  let Y := X.perm hs nd
  ⟨_, Y.sub_hide, Y.hide, fun b o e h1 h2 => hideAll_get _ e fun hm => by
    rcases List.mem_cons.mp hm with q | hm
    · exact h1 q
    · exact h2 hm⟩
theorem absorb1 {p : Addr × Obj} (X : W C g L m (p :: led) h) : ∃ g', Sub g g' ∧ W C g' L m led h ∧ g'.get? p.1 = some p.2 := by
  obtain ⟨g', a, b, c⟩ := X.absorb (led' := led) (fun q hq => .tail _ hq) (List.nodup_cons.mp X.nd).2
  exact ⟨g', a, b, c _ _ (X.at_ p (.head _)) (X.sep p (.head _)).1 (List.nodup_cons.mp X.nd).1⟩

/-- behind a call that turned nothing of ours -/
theorem call0 (X : W C g L m led h) (hK : Keep [] h h') : ∃ g', Sub g g' ∧ W C g' L m led h' ∧ (∀ b o, h'.get? b = some o → b ≠ L → b ∉ led.map (·.1) → g'.get? b = some o) := by
  have k : ∀ b o, h.get? b = some o → h'.get? b = some o := fun b o e => hK b o (by simp) e
  have Y : W C g L m led h' := ⟨X.ns.keeps k, X.keep.trans k, X.off, fun p hp => k _ _ (X.at_ p hp), X.sep, X.nd, X.glob⟩
  obtain ⟨g', a, b, c⟩ := Y.absorb (led' := led) (fun _ hq => hq) Y.nd
  exact ⟨g', a, b, c⟩
/-- behind a call that turned one object of ours -/
theorem call1 (X : W C g L m led h) {d : Addr} {o o' : Obj} (hK : Keep [d] h h') (u : Up d o o' led led') (hd' : h'.get? d = some o') :
    ∃ g', Sub g g' ∧ W C g' L m led' h' ∧ (∀ b o, h'.get? b = some o → b ≠ L → b ∉ led'.map (·.1) → g'.get? b = some o) := by
  have hd := X.sep _ u.mem
  have k : ∀ b o, b ≠ d → h.get? b = some o → h'.get? b = some o := fun b o hb e => hK b o (by simpa using hb) e
  have Y : W C g L m led' h' := by
    refine ⟨X.ns.extBut (fun b o hb e => k b o hb e) (Ne.symm hd.1), fun b o e => k b o (fun q => by rw [q, hd.2] at e; cases e) (X.keep b o e), X.off, fun p hp => ?_, fun p hp => ?_, ?_, X.glob⟩
    · rcases u.mem' X.nd p hp with rfl | ⟨hp, hne⟩
      · exact hd'
      · exact k _ _ hne (X.at_ p hp)
    · rcases u.mem' X.nd p hp with rfl | ⟨hp, hne⟩
      · exact hd
      · exact X.sep p hp
    · rw [u.fst]; exact X.nd
  obtain ⟨g', a, b, c⟩ := Y.absorb (led' := led') (fun _ hq => hq) Y.nd
  exact ⟨g', a, b, c⟩
end W

/-! ## names -/
section
variable {C : Cx} {A : Around} {E : Value → Heap → Prop} {g h : Heap} {env : Env} {m : Str → Option Value} {led : List (Addr × Obj)}

theorem T_loadL {x : Str} {v : Value} {L : Addr} {Q : Value → Heap → Prop} (X : W C g L m led h) (hv : m x = some v) (hq : Q v h) (hL : env.locals = L := by kernel_rfl)
    (hk : env.scope.kind = .function := by kernel_rfl) (hl : env.kindOf x = some .local := by kernel_rfl) : T C A (loadName env x) Q E h := fun _ =>
  wpAny_loadName_local hk hl (by rw [hL]; exact X.ns) hv ⟨_, _, rfl, hq⟩
theorem T_ld {x : Str} {pos : Pos} {v : Value} {L : Addr} {Q : Value → Heap → Prop} (X : W C g L m led h) (hv : m x = some v) (hq : Q v h) (hL : env.locals = L := by kernel_rfl)
    (hk : env.scope.kind = .function := by kernel_rfl) (hl : env.kindOf x = some .local := by kernel_rfl) (hd : (x == ("__debug__" : Str)) = false := by kernel_rfl) : T C A (eval (.Name x pos) env) Q E h :=
  T_Name (T_loadL X hv hq hL hk hl) hd
theorem T_ldc {x : Str} {pos : Pos} {c : Addr} {v : Value} {Q : Value → Heap → Prop} (hc : env.cells.lookup x = some c) (hv : h.IsCell c (some v)) (hq : Q v h)
    (hk : env.scope.kind = .function := by kernel_rfl) (hl : env.kindOf x = some .cell := by kernel_rfl) (hd : (x == ("__debug__" : Str)) = false := by kernel_rfl) : T C A (eval (.Name x pos) env) Q E h :=
  T_Name (fun _ => wpAny_loadName_cell hk hl hc hv ⟨_, _, rfl, hq⟩) hd
theorem T_ldg {x : Str} {pos : Pos} {v : Value} {L : Addr} {Q : Value → Heap → Prop} (X : W C g L m led h) (e : nsIn (KF C) mainGlobals x = some (some v)) (hq : Q v h)
    (hk : env.scope.kind = .function := by kernel_rfl) (hx : env.kindOf x = some .globalImplicit := by kernel_rfl) (hg : env.globals = mainGlobals := by kernel_rfl) (hd : (x == ("__debug__" : Str)) = false := by kernel_rfl) : T C A (eval (.Name x pos) env) Q E h := fun _ => by
  obtain ⟨p, l, me, mg, mb, t⟩ := X.glob.top
  exact Calls.Name_function_global hk hx (Calls.loadGlobal_global (env := env) (mg := mg) (by rw [hg]; exact t.g.keeps X.keep) (mg_of X.glob.K t.g e) ⟨_, _, rfl, hq⟩) hd
theorem T_ldb {x : Str} {pos : Pos} {v : Value} {L : Addr} {Q : Value → Heap → Prop} (X : W C g L m led h) (e : nsIn (KF C) mainGlobals x = some none) (hb : bootBuiltins x = some v) (hq : Q v h)
    (hk : env.scope.kind = .function := by kernel_rfl) (hx : env.kindOf x = some .globalImplicit := by kernel_rfl) (hg : env.globals = mainGlobals := by kernel_rfl) (hg' : env.builtins = builtinsNs := by kernel_rfl) (hn : x ≠ "__name__" := by decide) (hd : (x == ("__debug__" : Str)) = false := by kernel_rfl) :
    T C A (eval (.Name x pos) env) Q E h := fun _ => by
  obtain ⟨p, l, me, mg, mb, t⟩ := X.glob.top
  exact Calls.Name_function_global hk hx (Calls.loadGlobal_builtin (env := env) (mg := mg) (mb := mb) (by rw [hg]; exact t.g.keeps X.keep) (mg_none_of X.glob.K t.g e) (by rw [hg']; exact t.b.keeps X.keep) ((t.builtins x hn).trans hb) ⟨_, _, rfl, hq⟩) hd

def upd (m : Str → Option Value) (x : Str) (v : Value) : Str → Option Value := fun y => if y = x then some v else m y
theorem upd_same {m : Str → Option Value} {x : Str} {v : Value} : upd m x v x = some v := by simp [upd]
theorem upd_ne {m : Str → Option Value} {x y : Str} {v : Value} {r : Option Value} (hn : y ≠ x) (hm : m y = r) : upd m x v y = r := by simp [upd, hn, hm]

theorem T_st {x : Str} {v : Value} {L : Addr} {Q : Unit → Heap → Prop} (X : W C g L m led h) (hq : ∀ h', W C g L (upd m x v) led h' → Q () h') (hL : env.locals = L := by kernel_rfl)
    (hl : env.kindOf x = some .local := by kernel_rfl) (hp : (env.scope.kind == .class || (env.scope.kind == .module && env.locals != env.globals)) = false := by kernel_rfl) : T C A (storeName env x v) Q E h := fun _ => by
  subst hL
  exact wpAny_storeName_local hl X.ns (fun h' hn hs => ⟨_, _, rfl, hq h' (X.store hn hs)⟩) hp
theorem T_stc {x : Str} {c : Addr} {v : Value} {o : Obj} {v0 : Option Value} {L : Addr} {led' : Obj → List (Addr × Obj)} {Q : Unit → Heap → Prop} (X : W C g L m led h) (hc : env.cells.lookup x = some c) (u : ∀ o', Up c o o' led (led' o')) (hd : o.data = .cell v0)
    (hq : ∀ h' o', o'.data = .cell (some v) → W C g L m (led' o') h' → Q () h')
    (hk : env.scope.kind = .function := by kernel_rfl) (hl : env.kindOf x = some .cell := by kernel_rfl) : T C A (storeName env x v) Q E h := fun _ =>
  wpAny_storeName_cell hk hl hc ⟨o, X.at_ _ (u o).mem, hd⟩ fun h' ⟨o', ho', hd'⟩ hs => ⟨_, _, rfl, hq h' o' hd' (X.same (u o') hs ho')⟩
end

end Mine
end
section
open PySem PySem.W PyProof.Rows PySem.Calls
set_option Elab.async false
set_option maxRecDepth 100000
set_option maxHeartbeats 4000000
namespace Mine

def retv : Flow → Value
  | .ret v => v
  | _ => .none

/-- room for k more frames -/
structure Lv (k : Nat) (A : Around) : Prop where
  hd : A.handled = none
  dp : A.depth + k < 900
  un : A.units + 20 * k < 9000
theorem Lv.room {k : Nat} {A : Around} (x : Lv k A) : A.depth < recursionLimit := by have := x.dp; unfold recursionLimit; omega
theorem Lv.deeper {k : Nat} {A : Around} (x : Lv (k + 1) A) (env : Env) : Lv k (A.deeper env) := by
  obtain ⟨a, b, c⟩ := x
  refine ⟨a, ?_, ?_⟩
  · show A.depth + 1 + k < 900; omega
  · show A.units + 3 + 20 * k < 9000; omega
theorem Lv.mono {k j : Nat} {A : Around} (x : Lv k A) (hj : j ≤ k) : Lv j A := ⟨x.hd, by have := x.dp; omega, by have := x.un; omega⟩
def TC (C : Cx) (A : Around) (c : Code) (Q : Value → Heap → Prop) (E : Value → Heap → Prop) (h : Heap) : Prop :=
  ∀ tk, codeAny C.M A c (fun r s' => match r with | .ok (.ret v) => At C (Q v) s' | .ok _ => False | .error e => At C (E e) s') (C.st h tk)
theorem T_callC {C : Cx} {A : Around} {f : Value} {pos : List Value} {kw : List (Str × Value)} {Q : Value → Heap → Prop} {E : Value → Heap → Prop} {h : Heap} (x : TC C A (.call f ⟨pos, kw⟩) Q E h) : T C A (call f pos kw) Q E h := fun tk => wpAny_call (x tk)

section
variable {C : Cx} {A : Around} {E : Value → Heap → Prop} {g h : Heap}

theorem cellList {h : Heap} {cm : Str → Option Value} : ∀ {cs : List (Str × Addr)}, (∀ n c, (n, c) ∈ cs → h.IsCell c (cm n)) → ∃ cl : List (Addr × Obj), cl.map (·.1) = cs.map (·.2) ∧ (∀ p ∈ cl, h.get? p.1 = some p.2) ∧ ∀ n c, (n, c) ∈ cs → ∃ o, (c, o) ∈ cl ∧ o.data = .cell (cm n)
  | [], _ => ⟨[], rfl, (fun _ hp => by cases hp), (fun _ _ hp => by cases hp)⟩
  | (n, c) :: r, H => by
    obtain ⟨cl, a, b, d⟩ := cellList (cs := r) fun n c hm => H n c (.tail _ hm)
    obtain ⟨o, ho, hd⟩ := H n c (.head _)
    refine ⟨(c, o) :: cl, by simp [a], ?_, ?_⟩
    · intro p hp
      rcases List.mem_cons.mp hp with rfl | hp
      · exact ho
      · exact b p hp
    · intro n' c' hm
      rcases List.mem_cons.mp hm with e | hm
      · cases e; exact ⟨o, .head _, hd⟩
      · obtain ⟨o', x, y⟩ := d n' c' hm
        exact ⟨o', .tail _ x, y⟩

theorem lookup_of_mem_nodup {α : Type} : ∀ {l : List (Str × α)} {n : Str} {c : α}, (l.map (·.1)).Nodup → (n, c) ∈ l → l.lookup n = some c
  | (k, v) :: r, n, c, nd, hm => by
    have nd' := List.nodup_cons.mp nd
    rw [List.lookup_cons]
    rcases List.mem_cons.mp hm with e | hm
    · cases e; simp
    · have : (n == k) = false := by
        cases q : n == k with
        | false => rfl
        | true => exact absurd (by rw [← beq_iff_eq.mp q]; exact List.mem_map_of_mem (f := (·.1)) hm) nd'.1
      rw [this]; exact lookup_of_mem_nodup nd'.2 hm

theorem T_enterE {En : Addr → Value → Heap → Prop} {f : Addr} {fd : FuncData} {oc : Value} {od : Option Addr} {osl : Array (Option Value)} {body : List Stmt} {pos : List Value} {kw : List (Str × Value)} {binds : List (Str × Value)} {S : List (Addr × Obj)} {Q : Value → Heap → Prop}
    (hG : Glob C g) (hk : Sub g h) (hf : (KF C).lookup f = some ⟨oc, od, .func fd, osl⟩) (hcd : codeIn (KF C) fd.code fd.qualname = true) (hbody : fd.body = .stmts body)
    (hroom : A.depth < recursionLimit)
    (hS : ∀ p ∈ S, h.get? p.1 = some p.2) (hSg : ∀ p ∈ S, g.get? p.1 = none) (hSn : (S.map (·.1)).Nodup)
    (hbind : ∀ tk, BindsTo (C.st h tk) fd ⟨pos, kw⟩ binds)
    (hkind : ∀ x ∈ binds, fd.scope.names.lookup x.1 = some .local ∨ (fd.scope.names.lookup x.1 = some .cell ∧ ((cellsFrom (h.objs.size + 1) fd.scope.names []).lookup x.1).isSome = true))
    (hnd : ∀ n, ((cellsFrom n fd.scope.names []).map (·.1)).Nodup)
    (hb : ∀ gc h1 cl, Sub g gc → (∀ b o, h.get? b = some o → b ∉ S.map (·.1) → gc.get? b = some o) → (∀ h2, Sub gc h2 → Keep (S.map (·.1)) h h2) →
      cl.map (·.1) = (callEnvC fd h.objs.size f).cells.map (·.2) →
      (∀ n c, (n, c) ∈ (callEnvC fd h.objs.size f).cells → ∃ o, (c, o) ∈ cl ∧ o.data = .cell (bindC (callEnvC fd h.objs.size f).kindOf binds (fun _ => none) n)) →
      W C gc h.objs.size (bindL (callEnvC fd h.objs.size f).kindOf binds fun _ => none) (cl ++ S) h1 →
      T C (A.deeper (callEnvC fd h.objs.size f)) (execs body (callEnvC fd h.objs.size f)) (fun fl h2 => Q (retv fl) h2) (En h.objs.size) h1)
    (hE : ∀ (L : Addr) e h, En L e h → T C (A.deeper (callEnvC fd L f)) (leaving (callEnvC fd L f) e) (fun _ h' => E e h') E h)
    (hclo : fd.closure = [] := by rfl) (hco : fd.scope.isCoroutine = false := by rfl) (hgen : fd.scope.isGenerator = false := by rfl) (hkf : fd.scope.kind = .function := by rfl) :
    TC C A (.call (.ref f) ⟨pos, kw⟩) Q E h := by
  intro tk
  obtain ⟨p, l, me, mg, mb, t⟩ := hG.top
  refine codeAny_call_function hroom (hk _ _ (hG.K _ _ hf)) rfl hco hgen hbody (codeRec_of (hG.K.keeps hk) hcd) ?_
  refine hbind tk _ _ _ _ ?_
  rw [hclo]
  refine wpAny_newFunctionEnv_cells hkf hkind fun env he s' x => ?_
  subst he
  refine ⟨(t.nolimit.keeps hk).keeps x.toInCall.keep, codeAny_func ?_⟩
  obtain ⟨h1, tk1, rfl, hkeep⟩ := x.done
  obtain ⟨cl, cfst, cat, cdat⟩ := cellList (h := h1) fun n c hm => x.cell n c (lookup_of_mem_nodup (hnd _) hm)
  have gS : ∀ b o, g.get? b = some o → b ∉ S.map (·.1) := fun b o e hm => by
    obtain ⟨p, hp, rfl⟩ := List.mem_map.mp hm
    rw [hSg p hp] at e; cases e
  have hgc : Sub g (hideAll h (S.map (·.1))) := fun b o e => hideAll_get _ (hk b o e) (gS b o e)
  have hL : ∀ b o, h.get? b = some o → b ≠ h.objs.size := fun b o e q => by rw [q, get_size] at e; cases e
  have hnL : (hideAll h (S.map (·.1))).get? h.objs.size = none := by
    cases e : (hideAll h (S.map (·.1))).get? h.objs.size with
    | none => rfl
    | some o => exact absurd rfl (hL _ _ (of_hideAll _ e))
  have habove : ∀ q ∈ cl, h.objs.size < q.1 := fun q hq => by
    have : q.1 ∈ (callEnvC fd h.objs.size f).cells.map (·.2) := by
      rw [show (callEnvC fd h.objs.size f).cells.map (·.2) = cl.map (·.1) from cfst.symm]; exact List.mem_map_of_mem (f := (·.1)) hq
    obtain ⟨⟨n, c⟩, hm, e⟩ := List.mem_map.mp this
    rw [← e]; exact x.above n c hm
  have hnone : ∀ a, h.objs.size ≤ a → h.get? a = none := fun a ha => by
    cases e : h.get? a with
    | none => rfl
    | some o => exact absurd (Heap.lt_size e) (Nat.not_lt.mpr ha)
  have hX : W C (hideAll h (S.map (·.1))) h.objs.size (bindL (callEnvC fd h.objs.size f).kindOf binds fun _ => none) (cl ++ S) h1 := by
    refine ⟨x.toInCall.ns, fun b o e => hkeep b o (of_hideAll _ e), hnL, ?_, ?_, ?_, hG.keeps hgc⟩
    · intro p hp
      rcases List.mem_append.mp hp with hp | hp
      · exact cat p hp
      · exact hkeep _ _ (hS p hp)
    · intro p hp
      rcases List.mem_append.mp hp with hp | hp
      · refine ⟨Nat.ne_of_gt (habove p hp), ?_⟩
        cases e : (hideAll h (S.map (·.1))).get? p.1 with
        | none => rfl
        | some o => have := of_hideAll _ e; rw [hnone _ (Nat.le_of_lt (habove p hp))] at this; cases this
      · exact ⟨hL _ _ (hS p hp), hideAll_none _ (List.mem_map_of_mem hp)⟩
    · rw [List.map_append]
      refine List.nodup_append.mpr ⟨?_, hSn, ?_⟩
      · rw [cfst]
        exact List.pairwise_map.mpr x.apart
      · intro a ha b hb' e
        subst e
        obtain ⟨p, hp, rfl⟩ := List.mem_map.mp ha
        obtain ⟨q, hq, e⟩ := List.mem_map.mp hb'
        have := hS q hq
        rw [e, hnone _ (Nat.le_of_lt (habove p hp))] at this; cases this
  have H := hb (hideAll h (S.map (·.1))) h1 cl hgc (fun b o e hn => hideAll_get _ e hn) (fun h2 hs b o hn e => hs b o (hideAll_get _ e hn)) cfst cdat hX tk1
  refine wpAny_mono H (fun fl s2 hq => ?_) fun _ _ hX2 => ?_
  · cases fl <;> exact hq
  · obtain ⟨h3, tk3, rfl, hx⟩ := hX2; exact hE _ _ _ hx tk3

theorem T_enter {f : Addr} {fd : FuncData} {oc : Value} {od : Option Addr} {osl : Array (Option Value)} {body : List Stmt} {pos : List Value} {kw : List (Str × Value)} {binds : List (Str × Value)} {S : List (Addr × Obj)} {Q : Value → Heap → Prop}
    (hG : Glob C g) (hk : Sub g h) (hf : (KF C).lookup f = some ⟨oc, od, .func fd, osl⟩) (hcd : codeIn (KF C) fd.code fd.qualname = true) (hbody : fd.body = .stmts body)
    (hroom : A.depth < recursionLimit)
    (hS : ∀ p ∈ S, h.get? p.1 = some p.2) (hSg : ∀ p ∈ S, g.get? p.1 = none) (hSn : (S.map (·.1)).Nodup)
    (hbind : ∀ tk, BindsTo (C.st h tk) fd ⟨pos, kw⟩ binds)
    (hkind : ∀ x ∈ binds, fd.scope.names.lookup x.1 = some .local ∨ (fd.scope.names.lookup x.1 = some .cell ∧ ((cellsFrom (h.objs.size + 1) fd.scope.names []).lookup x.1).isSome = true))
    (hnd : ∀ n, ((cellsFrom n fd.scope.names []).map (·.1)).Nodup)
    (hb : ∀ gc h1 cl, Sub g gc → (∀ b o, h.get? b = some o → b ∉ S.map (·.1) → gc.get? b = some o) → (∀ h2, Sub gc h2 → Keep (S.map (·.1)) h h2) →
      cl.map (·.1) = (callEnvC fd h.objs.size f).cells.map (·.2) →
      (∀ n c, (n, c) ∈ (callEnvC fd h.objs.size f).cells → ∃ o, (c, o) ∈ cl ∧ o.data = .cell (bindC (callEnvC fd h.objs.size f).kindOf binds (fun _ => none) n)) →
      W C gc h.objs.size (bindL (callEnvC fd h.objs.size f).kindOf binds fun _ => none) (cl ++ S) h1 →
      T C (A.deeper (callEnvC fd h.objs.size f)) (execs body (callEnvC fd h.objs.size f)) (fun fl h2 => Q (retv fl) h2) noE h1)
    (hclo : fd.closure = [] := by rfl) (hco : fd.scope.isCoroutine = false := by rfl) (hgen : fd.scope.isGenerator = false := by rfl) (hkf : fd.scope.kind = .function := by rfl) :
    TC C A (.call (.ref f) ⟨pos, kw⟩) Q E h :=
  T_enterE (En := fun _ => noE) hG hk hf hcd hbody hroom hS hSg hSn hbind hkind hnd hb (fun _ _ _ f => f.elim) hclo hco hgen hkf

theorem T_enter0 {f : Addr} {fd : FuncData} {oc : Value} {od : Option Addr} {osl : Array (Option Value)} {body : List Stmt} {pos : List Value} {kw : List (Str × Value)} {binds : List (Str × Value)} (S : List (Addr × Obj)) {Q : Value → Heap → Prop}
    (hG : Glob C g) (hk : Sub g h) (hf : (KF C).lookup f = some ⟨oc, od, .func fd, osl⟩) (hcd : codeIn (KF C) fd.code fd.qualname = true) (hbody : fd.body = .stmts body)
    (hroom : A.depth < recursionLimit)
    (hS : ∀ p ∈ S, h.get? p.1 = some p.2) (hSg : ∀ p ∈ S, g.get? p.1 = none) (hSn : (S.map (·.1)).Nodup)
    (hbind : ∀ tk, BindsTo (C.st h tk) fd ⟨pos, kw⟩ binds)
    (hkind : (binds.all fun y => fd.scope.names.lookup y.1 == some .local) = true)
    (hc : ∀ n, cellsFrom n fd.scope.names [] = [])
    (hb : ∀ gc h1 L, Sub g gc → (∀ b o, h.get? b = some o → b ∉ S.map (·.1) → gc.get? b = some o) → (∀ h2, Sub gc h2 → Keep (S.map (·.1)) h h2) →
      W C gc L (bindL (callEnvC fd L f).kindOf binds fun _ => none) S h1 →
      T C (A.deeper (callEnvC fd L f)) (execs body (callEnvC fd L f)) (fun fl h2 => Q (retv fl) h2) noE h1)
    (hclo : fd.closure = [] := by rfl) (hco : fd.scope.isCoroutine = false := by rfl) (hgen : fd.scope.isGenerator = false := by rfl) (hkf : fd.scope.kind = .function := by rfl) :
    TC C A (.call (.ref f) ⟨pos, kw⟩) Q E h := by
  refine T_enter hG hk hf hcd hbody hroom hS hSg hSn hbind (fun x hx => .inl (by simpa using List.all_eq_true.mp hkind x hx)) (fun n => by rw [hc]; exact List.nodup_nil) ?_ hclo hco hgen hkf
  intro gc h1 cl a b c d _ X
  have : cl = [] := by
    have e : (callEnvC fd h.objs.size f).cells = [] := hc _
    rw [e] at d
    cases cl with
    | nil => rfl
    | cons _ _ => simp at d
  subst this
  exact hb gc h1 _ a b c X

theorem T_enter1 {f : Addr} {fd : FuncData} {oc : Value} {od : Option Addr} {osl : Array (Option Value)} {body : List Stmt} {pos : List Value} {kw : List (Str × Value)} {binds : List (Str × Value)} (S : List (Addr × Obj)) (x1 : Str) {Q : Value → Heap → Prop}
    (hG : Glob C g) (hk : Sub g h) (hf : (KF C).lookup f = some ⟨oc, od, .func fd, osl⟩) (hcd : codeIn (KF C) fd.code fd.qualname = true) (hbody : fd.body = .stmts body)
    (hroom : A.depth < recursionLimit)
    (hS : ∀ p ∈ S, h.get? p.1 = some p.2) (hSg : ∀ p ∈ S, g.get? p.1 = none) (hSn : (S.map (·.1)).Nodup)
    (hbind : ∀ tk, BindsTo (C.st h tk) fd ⟨pos, kw⟩ binds)
    (hkind : ∀ n, (binds.all fun y => fd.scope.names.lookup y.1 == some .local || (fd.scope.names.lookup y.1 == some .cell && ((cellsFrom n fd.scope.names []).lookup y.1).isSome)) = true)
    (hc : ∀ n, cellsFrom n fd.scope.names [] = [(x1, n)])
    (hb : ∀ gc h1 L c o, Sub g gc → (∀ b o, h.get? b = some o → b ∉ S.map (·.1) → gc.get? b = some o) → (∀ h2, Sub gc h2 → Keep (S.map (·.1)) h h2) →
      (callEnvC fd L f).cells = [(x1, c)] → o.data = .cell (bindC (callEnvC fd L f).kindOf binds (fun _ => none) x1) →
      W C gc L (bindL (callEnvC fd L f).kindOf binds fun _ => none) ((c, o) :: S) h1 →
      T C (A.deeper (callEnvC fd L f)) (execs body (callEnvC fd L f)) (fun fl h2 => Q (retv fl) h2) noE h1)
    (hclo : fd.closure = [] := by rfl) (hco : fd.scope.isCoroutine = false := by rfl) (hgen : fd.scope.isGenerator = false := by rfl) (hkf : fd.scope.kind = .function := by rfl) :
    TC C A (.call (.ref f) ⟨pos, kw⟩) Q E h := by
  refine T_enter hG hk hf hcd hbody hroom hS hSg hSn hbind (fun x hx => ?_) (fun n => by rw [hc]; simp) ?_ hclo hco hgen hkf
  · have := List.all_eq_true.mp (hkind (h.objs.size + 1)) x hx
    rcases Bool.or_eq_true_iff.mp this with q | q
    · exact .inl (by simpa using q)
    · obtain ⟨q1, q2⟩ := Bool.and_eq_true_iff.mp q
      exact .inr ⟨by simpa using q1, q2⟩
  intro gc h1 cl a b c d e X
  have ec : (callEnvC fd h.objs.size f).cells = [(x1, h.objs.size + 1)] := hc _
  obtain ⟨o, ho, hd⟩ := e x1 (h.objs.size + 1) (by rw [ec]; exact .head _)
  rw [ec] at d
  have : cl = [(h.objs.size + 1, o)] := by
    match cl, d, ho with
    | [(c', o')], d, ho =>
      simp only [List.map_cons, List.map_nil, List.cons.injEq] at d
      rcases List.mem_cons.mp ho with e | e
      · rw [← e]
      · cases e
    | [], _, ho => cases ho
    | _ :: _ :: _, d, _ => simp at d
  subst this
  exact hb gc h1 _ _ o a b c ec hd X

theorem T_enter2 {f : Addr} {fd : FuncData} {oc : Value} {od : Option Addr} {osl : Array (Option Value)} {body : List Stmt} {pos : List Value} {kw : List (Str × Value)} {binds : List (Str × Value)} (S : List (Addr × Obj)) (x1 x2 : Str) {Q : Value → Heap → Prop}
    (hG : Glob C g) (hk : Sub g h) (hf : (KF C).lookup f = some ⟨oc, od, .func fd, osl⟩) (hcd : codeIn (KF C) fd.code fd.qualname = true) (hbody : fd.body = .stmts body)
    (hroom : A.depth < recursionLimit)
    (hS : ∀ p ∈ S, h.get? p.1 = some p.2) (hSg : ∀ p ∈ S, g.get? p.1 = none) (hSn : (S.map (·.1)).Nodup)
    (hbind : ∀ tk, BindsTo (C.st h tk) fd ⟨pos, kw⟩ binds)
    (hkind : (binds.all fun y => fd.scope.names.lookup y.1 == some .local) = true)
    (hc : ∀ n, cellsFrom n fd.scope.names [] = [(x2, n + 1), (x1, n)]) (hne : x1 ≠ x2)
    (hb : ∀ gc h1 L c1 c2 o1 o2, Sub g gc → (∀ b o, h.get? b = some o → b ∉ S.map (·.1) → gc.get? b = some o) → (∀ h2, Sub gc h2 → Keep (S.map (·.1)) h h2) →
      (callEnvC fd L f).cells = [(x2, c2), (x1, c1)] → o1.data = .cell (bindC (callEnvC fd L f).kindOf binds (fun _ => none) x1) → o2.data = .cell (bindC (callEnvC fd L f).kindOf binds (fun _ => none) x2) →
      W C gc L (bindL (callEnvC fd L f).kindOf binds fun _ => none) ((c2, o2) :: (c1, o1) :: S) h1 →
      T C (A.deeper (callEnvC fd L f)) (execs body (callEnvC fd L f)) (fun fl h2 => Q (retv fl) h2) noE h1)
    (hclo : fd.closure = [] := by rfl) (hco : fd.scope.isCoroutine = false := by rfl) (hgen : fd.scope.isGenerator = false := by rfl) (hkf : fd.scope.kind = .function := by rfl) :
    TC C A (.call (.ref f) ⟨pos, kw⟩) Q E h := by
  refine T_enter hG hk hf hcd hbody hroom hS hSg hSn hbind (fun x hx => .inl (by simpa using List.all_eq_true.mp hkind x hx)) (fun n => by rw [hc]; simp [Ne.symm hne]) ?_ hclo hco hgen hkf
  intro gc h1 cl a b c d e X
  have ec : (callEnvC fd h.objs.size f).cells = [(x2, h.objs.size + 1 + 1), (x1, h.objs.size + 1)] := hc _
  obtain ⟨o1, ho1, hd1⟩ := e x1 (h.objs.size + 1) (by rw [ec]; exact .tail _ (.head _))
  obtain ⟨o2, ho2, hd2⟩ := e x2 (h.objs.size + 1 + 1) (by rw [ec]; exact .head _)
  rw [ec] at d
  have : cl = [(h.objs.size + 1 + 1, o2), (h.objs.size + 1, o1)] := by
    match cl, d, ho1, ho2 with
    | [(c', o'), (c'', o'')], d, ho1, ho2 =>
      simp only [List.map_cons, List.map_nil, List.cons.injEq, and_true] at d
      obtain ⟨d1, d2⟩ := d
      subst d1 d2
      simp only [List.mem_cons, Prod.mk.injEq, List.not_mem_nil, or_false] at ho1 ho2
      have e1 : o1 = o'' := by
        rcases ho1 with ⟨q, _⟩ | ⟨_, q⟩
        · exact absurd q (Nat.ne_of_lt (Nat.lt_succ_self _))
        · exact q
      have e2 : o2 = o' := by
        rcases ho2 with ⟨_, q⟩ | ⟨q, _⟩
        · exact q
        · exact absurd q (Nat.ne_of_gt (Nat.lt_succ_self _))
      rw [e1, e2]
    | [], d, _, _ => simp at d
    | [_], d, _, _ => simp at d
    | _ :: _ :: _ :: _, d, _, _ => simp at d
  subst this
  exact hb gc h1 _ _ _ o1 o2 a b c ec hd1 hd2 X
end
end Mine
end
section
open PySem PySem.W PyProof.Rows PySem.Calls
set_option Elab.async false
set_option maxRecDepth 100000
set_option maxHeartbeats 4000000
namespace Mine

section
variable {C : Cx} {A : Around} {E : Value → Heap → Prop} {g h : Heap} {L : Addr} {m : Str → Option Value} {led led' : List (Addr × Obj)} {a b : Int} {t u : Tok}

theorem I_add {Q : Value → Heap → Prop} (hq : ∀ t, Q (.int (a + b) t) h) : T C A (binaryOp .Add (.int a t) (.int b u)) Q E h := fun _ => add_int ⟨_, _, rfl, hq _⟩
theorem I_sub {Q : Value → Heap → Prop} (hq : ∀ t, Q (.int (a - b) t) h) : T C A (binaryOp .Sub (.int a t) (.int b u)) Q E h := fun _ => sub_int ⟨_, _, rfl, hq _⟩
theorem I_mul {Q : Value → Heap → Prop} (hm : IntMulOk a b) (hq : ∀ t, Q (.int (a * b) t) h) : T C A (binaryOp .Mult (.int a t) (.int b u)) Q E h := fun _ => mul_int (hm := hm) ⟨_, _, rfl, hq _⟩
theorem I_mod {Q : Value → Heap → Prop} (hb : b ≠ 0) (hq : ∀ t, Q (.int (a.fmod b) t) h) : T C A (binaryOp .Mod (.int a t) (.int b u)) Q E h := fun _ => mod_int' hb ⟨_, _, rfl, hq _⟩
theorem I_div {Q : Value → Heap → Prop} (hb : b ≠ 0) (hp : Builtin.divisionGoesByPylong a b = false) (hq : ∀ t, Q (.int (a.fdiv b) t) h) : T C A (binaryOp .FloorDiv (.int a t) (.int b u)) Q E h := fun _ => floordiv_int (hp := .inl hp) hb ⟨_, _, rfl, hq _⟩
theorem I_gt {Q : Value → Heap → Prop} (hq : Q (.bool (decide (b < a))) h) : T C A (compareOp .Gt (.int a t) (.int b u)) Q E h := fun _ => PyProof.Rows.gt_int ⟨_, _, rfl, hq⟩
theorem I_lt {Q : Value → Heap → Prop} (hq : Q (.bool (decide (a < b))) h) : T C A (compareOp .Lt (.int a t) (.int b u)) Q E h := fun _ => PyProof.Rows.lt_int ⟨_, _, rfl, hq⟩
theorem I_ge {Q : Value → Heap → Prop} (hq : Q (.bool (decide (b ≤ a))) h) : T C A (compareOp .GtE (.int a t) (.int b u)) Q E h := fun _ => PyProof.Rows.ge_int ⟨_, _, rfl, hq⟩
theorem I_eq {Q : Value → Heap → Prop} (hq : Q (.bool (a == b)) h) : T C A (compareOp .Eq (.int a t) (.int b u)) Q E h := fun _ => PyProof.Rows.eq_int ⟨_, _, rfl, hq⟩
theorem I_ne {Q : Value → Heap → Prop} (hq : Q (.bool (a != b)) h) : T C A (compareOp .NotEq (.int a t) (.int b u)) Q E h := fun _ => PyProof.Rows.ne_int ⟨_, _, rfl, hq⟩

/-- a list, by its class and its items -/
def LW (o : Obj) (vs : List Value) : Prop := o.cls = .type "list" ∧ ∃ n, o.data = .seq vs.toArray n
theorem LW.isList {o : Obj} {vs : List Value} {l : Addr} (x : LW o vs) (ho : h.get? l = some o) : h.IsList l vs.toArray := ⟨o, ho, x.1, x.2⟩

theorem T_Sub {value slice : Expr} {pos : Pos} {env : Env} {Q : Value → Heap → Prop}
    (hx : T C A (eval value env) (fun o h1 => T C A (eval slice env) (fun i h2 => T C A (subscriptTail value slice o i) Q E h2) E h1) E h) : T C A (eval (.Subscript value slice pos) env) Q E h := by
  rw [eval_Subscript]
  exact T_bind (T_post hx fun _ _ H => T_bind (T_holding (T_post H fun _ _ H => T_bind (T_at H))))

theorem S_tail {value slice : Expr} {o i : Value} {ops : List Value} {ty id : String} {Q : Value → Heap → Prop} (hT : ∀ tk, (C.st h tk).TypeIs o ty)
    (hl : typeLookup (.type ty) "__getitem__" = pure (some (.builtin id))) (hg : T C A (getItem o i) Q E h)
    (hs : subscripted slice false o i = operate ops (getItem o i)) : T C A (subscriptTail value slice o i) Q E h := fun tk => tail_any (hT tk) hl (hg tk) hs

theorem S_list {value slice : Expr} {l : Addr} {o : Obj} {vs : List Value} {k : Int} {v : Value} {Q : Value → Heap → Prop} (ho : h.get? l = some o) (hl : LW o vs)
    (h0 : 0 ≤ k) (hfit : k < 2 ^ 63) (hx : vs[k.toNat]? = some v) (hq : Q v h) (hs : subscripted slice false (.ref l) (.int k t) = operate [.ref l, .int k t] (getItem (.ref l) (.int k t)) := by kernel_rfl) :
    T C A (subscriptTail value slice (.ref l) (.int k t)) Q E h :=
  S_tail (fun tk => (hl.isList ho).typeIs) slot_list_getitem.lookup (fun _ => wpAny_getItem_list (hl.isList ho) h0 hfit (by simpa using hx) ⟨_, _, rfl, hq⟩) hs

theorem S_setList {l : Addr} {o : Obj} {vs : List Value} {k : Int} {v : Value} {led' : Obj → List (Addr × Obj)} {Q : Unit → Heap → Prop} (X : W C g L m led h) (u : ∀ o', Up l o o' led (led' o')) (hl : LW o vs)
    (h0 : 0 ≤ k) (hfit : k < 2 ^ 63) (hn : k.toNat < vs.length) (hq : ∀ h' o', LW o' (vs.set k.toNat v) → Heap.SameBut l h h' → h'.get? l = some o' → W C g L m (led' o') h' → Q () h') :
    T C A (setItem (.ref l) (.int k t) v) Q E h := fun _ =>
  wpAny_setItem_list (hl.isList (X.at_ _ (u o).mem)) h0 hfit (by simp; omega) fun h' ⟨o', ho', hc', hd'⟩ hs => ⟨_, _, rfl, hq h' o' ⟨hc', by simpa using hd'⟩ hs ho' (X.same (u o') hs ho')⟩
end
end Mine
end
section
open PySem PySem.W PyProof.Rows PySem.Calls
set_option Elab.async false
set_option maxRecDepth 100000
set_option maxHeartbeats 4000000
namespace Mine
noncomputable def fdAt (C : Cx) (a : Addr) : FuncData := match (KF C).lookup a with
  | some ⟨_, _, .func fd, _⟩ => fd
  | _ => default
def stmtsOf : FuncBody → List Stmt
  | .stmts b => b
  | _ => []
noncomputable abbrev envF (C : Cx) (a L : Addr) : Env := callEnvC (fdAt C a) L a
noncomputable abbrev bodyF (C : Cx) (a : Addr) : List Stmt := stmtsOf (fdAt C a).body
def nm (l : List (Str × Value)) : Str → Option Value := l.foldl (fun m p => upd m p.1 p.2) (fun _ => none)

theorem T_call0 {C : Cx} {A : Around} {E : Value → Heap → Prop} {g h : Heap} (f : Addr) {pos : List Value} {kw : List (Str × Value)} (binds : List (Str × Value)) (S : List (Addr × Obj)) {Q : Value → Heap → Prop}
    (hG : Glob C g) (hk : Sub g h) (hroom : A.depth < recursionLimit)
    (hS : ∀ p ∈ S, h.get? p.1 = some p.2) (hSg : ∀ p ∈ S, g.get? p.1 = none) (hSn : (S.map (·.1)).Nodup)
    (hf : ∃ oc od osl, (KF C).lookup f = some ⟨oc, od, .func (fdAt C f), osl⟩) (hcd : codeIn (KF C) (fdAt C f).code (fdAt C f).qualname = true) (hbody : (fdAt C f).body = .stmts (bodyF C f))
    (hbind : bindArgs (fdAt C f) ⟨pos, kw⟩ = pure binds)
    (hkind : (binds.all fun y => (fdAt C f).scope.names.lookup y.1 == some .local) = true)
    (hc : ∀ n, cellsFrom n (fdAt C f).scope.names [] = [])
    (hm : ∀ L, (bindL (envF C f L).kindOf binds fun _ => none) = nm binds)
    (hclo : (fdAt C f).closure = []) (hco : (fdAt C f).scope.isCoroutine = false) (hgen : (fdAt C f).scope.isGenerator = false) (hkf : (fdAt C f).scope.kind = .function)
    (hb : ∀ gc h1 L, Sub g gc → (∀ b o, h.get? b = some o → b ∉ S.map (·.1) → gc.get? b = some o) → (∀ h2, Sub gc h2 → Keep (S.map (·.1)) h h2) →
      W C gc L (nm binds) S h1 →
      T C (A.deeper (envF C f L)) (execs (bodyF C f) (envF C f L)) (fun fl h2 => Q (retv fl) h2) noE h1) :
    TC C A (.call (.ref f) ⟨pos, kw⟩) Q E h := by
  obtain ⟨oc, od, osl, hf⟩ := hf
  refine T_enter0 (fd := fdAt C f) (binds := binds) S hG hk hf hcd hbody hroom hS hSg hSn (fun tk => @BindsTo.of_eq (C.st h tk) (fdAt C f) ⟨pos, kw⟩ binds hbind) hkind hc (fun gc h1 L a b c X => ?_) hclo hco hgen hkf
  rw [hm] at X
  exact hb gc h1 L a b c X

/-- one parameter is a cell, or a local that is not yet bound -/
theorem T_call1 {C : Cx} {A : Around} {E : Value → Heap → Prop} {g h : Heap} (f : Addr) {pos : List Value} {kw : List (Str × Value)} (binds lbinds : List (Str × Value)) (x1 : Str) (v1 : Option Value) (S : List (Addr × Obj)) {Q : Value → Heap → Prop}
    (hG : Glob C g) (hk : Sub g h) (hroom : A.depth < recursionLimit)
    (hS : ∀ p ∈ S, h.get? p.1 = some p.2) (hSg : ∀ p ∈ S, g.get? p.1 = none) (hSn : (S.map (·.1)).Nodup)
    (hf : ∃ oc od osl, (KF C).lookup f = some ⟨oc, od, .func (fdAt C f), osl⟩) (hcd : codeIn (KF C) (fdAt C f).code (fdAt C f).qualname = true) (hbody : (fdAt C f).body = .stmts (bodyF C f))
    (hbind : bindArgs (fdAt C f) ⟨pos, kw⟩ = pure binds)
    (hkind : ∀ n, (binds.all fun y => (fdAt C f).scope.names.lookup y.1 == some .local || ((fdAt C f).scope.names.lookup y.1 == some .cell && ((cellsFrom n (fdAt C f).scope.names []).lookup y.1).isSome)) = true)
    (hc : ∀ n, cellsFrom n (fdAt C f).scope.names [] = [(x1, n)])
    (hm : ∀ L, (bindL (envF C f L).kindOf binds fun _ => none) = nm lbinds) (hm1 : ∀ L, bindC (envF C f L).kindOf binds (fun _ => none) x1 = v1)
    (hclo : (fdAt C f).closure = []) (hco : (fdAt C f).scope.isCoroutine = false) (hgen : (fdAt C f).scope.isGenerator = false) (hkf : (fdAt C f).scope.kind = .function)
    (hb : ∀ gc h1 L c o, Sub g gc → (∀ b o, h.get? b = some o → b ∉ S.map (·.1) → gc.get? b = some o) → (∀ h2, Sub gc h2 → Keep (S.map (·.1)) h h2) →
      (envF C f L).cells = [(x1, c)] → o.data = .cell v1 →
      W C gc L (nm lbinds) ((c, o) :: S) h1 →
      T C (A.deeper (envF C f L)) (execs (bodyF C f) (envF C f L)) (fun fl h2 => Q (retv fl) h2) noE h1) :
    TC C A (.call (.ref f) ⟨pos, kw⟩) Q E h := by
  obtain ⟨oc, od, osl, hf⟩ := hf
  refine T_enter1 (fd := fdAt C f) (binds := binds) S x1 hG hk hf hcd hbody hroom hS hSg hSn (fun tk => @BindsTo.of_eq (C.st h tk) (fdAt C f) ⟨pos, kw⟩ binds hbind) hkind hc (fun gc h1 L cc oo a b c ec ed X => ?_) hclo hco hgen hkf
  rw [hm] at X
  rw [hm1] at ed
  exact hb gc h1 L cc oo a b c ec ed X

theorem T_call2 {C : Cx} {A : Around} {E : Value → Heap → Prop} {g h : Heap} (f : Addr) {pos : List Value} {kw : List (Str × Value)} (binds : List (Str × Value)) (x1 x2 : Str) (S : List (Addr × Obj)) {Q : Value → Heap → Prop}
    (hG : Glob C g) (hk : Sub g h) (hroom : A.depth < recursionLimit)
    (hS : ∀ p ∈ S, h.get? p.1 = some p.2) (hSg : ∀ p ∈ S, g.get? p.1 = none) (hSn : (S.map (·.1)).Nodup)
    (hf : ∃ oc od osl, (KF C).lookup f = some ⟨oc, od, .func (fdAt C f), osl⟩) (hcd : codeIn (KF C) (fdAt C f).code (fdAt C f).qualname = true) (hbody : (fdAt C f).body = .stmts (bodyF C f))
    (hbind : bindArgs (fdAt C f) ⟨pos, kw⟩ = pure binds)
    (hkind : (binds.all fun y => (fdAt C f).scope.names.lookup y.1 == some .local) = true)
    (hc : ∀ n, cellsFrom n (fdAt C f).scope.names [] = [(x2, n + 1), (x1, n)]) (hne : x1 ≠ x2)
    (hm : ∀ L, (bindL (envF C f L).kindOf binds fun _ => none) = nm binds) (hm1 : ∀ L, bindC (envF C f L).kindOf binds (fun _ => none) x1 = none) (hm2 : ∀ L, bindC (envF C f L).kindOf binds (fun _ => none) x2 = none)
    (hclo : (fdAt C f).closure = []) (hco : (fdAt C f).scope.isCoroutine = false) (hgen : (fdAt C f).scope.isGenerator = false) (hkf : (fdAt C f).scope.kind = .function)
    (hb : ∀ gc h1 L c1 c2 o1 o2, Sub g gc → (∀ b o, h.get? b = some o → b ∉ S.map (·.1) → gc.get? b = some o) → (∀ h2, Sub gc h2 → Keep (S.map (·.1)) h h2) →
      (envF C f L).cells = [(x2, c2), (x1, c1)] → o1.data = .cell none → o2.data = .cell none →
      W C gc L (nm binds) ((c2, o2) :: (c1, o1) :: S) h1 →
      T C (A.deeper (envF C f L)) (execs (bodyF C f) (envF C f L)) (fun fl h2 => Q (retv fl) h2) noE h1) :
    TC C A (.call (.ref f) ⟨pos, kw⟩) Q E h := by
  obtain ⟨oc, od, osl, hf⟩ := hf
  refine T_enter2 (fd := fdAt C f) (binds := binds) S x1 x2 hG hk hf hcd hbody hroom hS hSg hSn (fun tk => @BindsTo.of_eq (C.st h tk) (fdAt C f) ⟨pos, kw⟩ binds hbind) hkind hc hne (fun gc h1 L c1 c2 o1 o2 a b c ec ed1 ed2 X => ?_) hclo hco hgen hkf
  rw [hm] at X
  rw [hm1] at ed1
  rw [hm2] at ed2
  exact hb gc h1 L c1 c2 o1 o2 a b c ec ed1 ed2 X

end Mine
end
section
open PySem PySem.W PyProof.Rows PySem.Calls
set_option Elab.async false
set_option maxRecDepth 100000
set_option maxHeartbeats 4000000
namespace Mine

section
variable {C : Cx} {A : Around} {E : Value → Heap → Prop} {g h : Heap} {L : Addr} {m : Str → Option Value} {led led' : List (Addr × Obj)} {env : Env}

/-! ## displays, calls -/
theorem T_spl_nil {Q : List Value → Heap → Prop} {pos : Pos} (hq : Q [] h) : T C A (spliced (backTo pos (starEach [] env))) Q E h := T_pure hq
theorem T_spl {e : Expr} {rest : List Expr} {pos : Pos} {Q : List Value → Heap → Prop}
    (hx : T C A (eval e env) (fun v h1 => T C A (spliced (backTo pos (starEach rest env))) (fun vs h2 => Q (v :: vs) h2) E h1) E h)
    (he : starEach (e :: rest) env = (false, eval e env) :: starEach rest env := by kernel_rfl) : T C A (spliced (backTo pos (starEach (e :: rest) env))) Q E h := by
  rw [he]
  show T C A (spliced ((false, eval e env) :: backTo pos (starEach rest env))) Q E h
  rw [spliced]
  refine T_bind (T_post hx fun v h1 H => ?_)
  simp only [Bool.false_eq_true, if_false]
  exact T_bind (T_pure (T_bind (T_holding (T_post H fun vs h2 H => T_pure H))))

theorem T_newObj {o : Obj} {Q : Value → Heap → Prop} {ty : String} {data : Data} (hq : Q (.ref h.objs.size) (h.push { cls := .type ty, data := data })) (hs : sizeOk data) : T C A (newObj (.type ty) data) Q E h := fun _ =>
  wpAny_newObj_type ⟨_, _, rfl, hq⟩ hs
abbrev tupO (vs : List Value) : Obj := { cls := .type "tuple", data := .seq vs.toArray }
abbrev listO (vs : List Value) (n : Nat := 0) : Obj := { cls := .type "list", data := .seq vs.toArray n }
abbrev dictO : Obj := { cls := .type "dict", data := .dict #[] }
theorem T_Tuple {es : List Expr} {k : Nat} {pos : Pos} {Q : Value → Heap → Prop} (hx : T C A (spliced (backTo pos (starEach es env))) (fun vs h1 => vs.length ≤ 1000 ∧ Q (.ref h1.objs.size) (h1.push (tupO vs))) E h) :
    T C A (eval (.Tuple es k pos) env) Q E h :=
  T_eq (arm_eval_Tuple es k pos env) (T_bind (T_at (T_bind (T_post hx fun vs h1 H => by
    refine T_newObj (o := tupO vs) H.2 ?_
    show vs.toArray.size ≤ sizeLine
    rw [List.size_toArray, sizeLine_eq]; omega))))
theorem T_List {es : List Expr} {pos : Pos} {Q : Value → Heap → Prop} (hx : T C A (spliced (backTo pos (starEach es env))) (fun vs h1 => vs.length ≤ 1000 ∧ Q (.ref h1.objs.size) (h1.push (listO vs))) E h) :
    T C A (eval (.List es pos) env) Q E h :=
  T_eq (arm_eval_List es pos env) (T_bind (T_at (T_bind (T_post hx fun vs h1 H => by
    refine T_newObj (o := listO vs) H.2 ?_
    show vs.toArray.size ≤ sizeLine
    rw [List.size_toArray, sizeLine_eq]; omega))))
theorem T_Dict0 {pos : Pos} {Q : Value → Heap → Prop} (hq : Q (.ref h.objs.size) (h.push dictO)) : T C A (eval (.Dict [] [] pos) env) Q E h := fun _ => wpAny_Dict_empty ⟨_, _, rfl, hq⟩

def Kp (C : Cx) (f : Value) (P : Heap → Prop) : Prop := ∀ h, P h → ∃ k, (k = Keeper.frame ∨ k = Keeper.machine ∨ k = Keeper.boundFrame) ∧ Looks C.M h (keeperOf f) k
theorem Kp.fn {f : Addr} (hk : keepIn (KF C) (.ref f) = true) : Kp C (.ref f) (fun h => (KF C).In h) := fun h X => keeps_K hk h X
theorem Kp.builtin {id : String} : Kp C (.builtin id) (fun _ => True) := fun _ _ => ⟨.machine, .inr (.inl rfl), Looks.of_pure rfl⟩
theorem Kp.type {id : String} : Kp C (.type id) (fun _ => True) := fun _ _ => ⟨.machine, .inr (.inl rfl), Looks.of_pure rfl⟩

theorem T_callWith {pos : Pos} {f : Value} {first : List Value} {e : Expr} {rest : List Expr} {P : Heap → Prop} {Q : Value → Heap → Prop} (hk : Kp C f P)
    (hx : T C A (spliced (backTo pos (starEach (e :: rest) env))) (fun vs h1 => P h1 ∧ T C A (call f (first ++ vs) []) Q E h1) E h)
    (he : starEach (e :: rest) env = (false, eval e env) :: starEach rest env := by kernel_rfl) (hplain : (backTo pos (starEach rest env)).any (·.1) = false := by kernel_rfl) :
    T C A (callWith pos f first (backTo pos (starEach (e :: rest) env)) []) Q E h := fun tk => by
  have hx' := hx tk
  rw [he] at hx' ⊢
  refine callWith_of (P := P) (by show ((false || (backTo pos (starEach rest env)).any (·.1)) || false) = false; rw [hplain]; rfl) hk ?_
  exact evalArgs_plain (wpAny_mono hx' (fun vs s1 H => by
    obtain ⟨h', tk', rfl, hP, hc⟩ := H
    exact ⟨hP, hc tk'⟩) fun _ _ x => x)
theorem T_callWith0 {pos : Pos} {f : Value} {first : List Value} {P : Heap → Prop} {Q : Value → Heap → Prop} (hk : Kp C f P) (hP : P h)
    (hx : T C A (call f (first ++ []) []) Q E h) : T C A (callWith pos f first (backTo pos (starEach [] env)) []) Q E h := fun tk =>
  callWith_of (P := P) rfl hk (evalArgs_nil3 ⟨hP, hx tk⟩)

theorem T_CallName {x : Str} {np pos : Pos} {args : List Expr} {Q : Value → Heap → Prop}
    (hx : T C A (eval (.Name x np) env) (fun f h1 => T C A (callWith pos f [] (backTo pos (starEach args env)) []) Q E h1) E h) : T C A (eval (.Call (.Name x np) args [] pos) env) Q E h :=
  T_eq (show eval (.Call (.Name x np) args [] pos) env = (do callWith pos (← eval (.Name x np) env) [] (backTo pos (starEach args env)) []) from rfl) (T_bind (T_post hx fun _ _ H => H))

theorem T_Method {o : Expr} {name : Str} {apos pos : Pos} {args : List Expr} {Q : Value → Heap → Prop}
    (hx : T C A (eval o env) (fun ov h1 => ∀ pl, T C A (getMethod ov name pl) (fun fr h2 => T C A (callWith pos fr.1 fr.2 (backTo pos (starEach args env)) []) Q E h2) E h1) E h)
    (hbase : attributeBase o name env (eval o env) = eval o env := by kernel_rfl)
    (hform : methodCallForm (args.length + ([] : List Keyword).length) (backTo pos (starEach args env)) (backToKw pos (keywordEach [] env)) = true := by kernel_rfl)
    (hline : (apos.endLine == pos.line) = true := by kernel_rfl) :
    T C A (eval (.Call (.Attribute o name apos) args [] pos) env) Q E h := by
  refine T_eq (arm_eval_Call o name apos args [] pos env) ?_
  rw [hbase]
  refine T_bind (T_post hx fun ov h1 H => T_bind (T_at ?_))
  unfold methodCall
  rw [hform]
  refine T_bind (T_holding ?_)
  have hpos : methodCallPos true o env apos pos = pure pos := by unfold methodCallPos; simp [hline]
  exact T_post (H _) fun fr h2 H2 => T_bind (T_eq hpos (T_pure H2))

/-! ## methods of built-in types -/
theorem M_builtin {v : Value} {ty id : String} {name : Str} {pl : Sem Bool} {Q : Value × List Value → Heap → Prop} (hT : ∀ tk, (C.st h tk).TypeIs v ty) (pa : PlainAttrs ty) (slot : Slot ty name id)
    (hty : typeOf (.builtin id) = pure (.type "method_descriptor")) (hd : ∀ a, v = .ref a → ∃ o, h.get? a = some o ∧ o.dict = none) (hq : Q (.builtin id, [v]) h) : T C A (getMethod v name pl) Q E h := fun tk =>
  getMethod_builtin (hT tk) pa slot hty hd ⟨_, _, rfl, hq⟩

/-! ## instances -/
/-- a dict of names, k at most -/
def ONs (o : Obj) (mi : Str → Option Value) (k : Nat) : Prop := ∃ es ep, o.data = .dict es ep ∧ StrKeys es ∧ es.size ≤ k ∧ ∀ n, nsFind es n = mi n
theorem ONs.lookIn {o : Obj} {mi : Str → Option Value} {k : Nat} (x : ONs o mi k) (n : Str) : PySem.W.lookIn n o = some (mi n) := by
  obtain ⟨es, ep, hd, hk, _, hf⟩ := x
  unfold PySem.W.lookIn
  rw [hd]
  dsimp only
  rw [← hf n]
  unfold nsFind findBy
  rw [← Array.find?_toList]
  cases q : es.toList.find? (·.key.isStr n) with
  | some e => rfl
  | none =>
    have : es.toList.any (·.refKey) = false := by
      rw [List.any_eq_false]; intro e he
      obtain ⟨n, t, h⟩ := hk e (Array.mem_toList_iff.mp he); simp [DictEntry.refKey, h]
    rw [this]; rfl
theorem ONs.ns {o : Obj} {mi : Str → Option Value} {k : Nat} {a : Addr} (x : ONs o mi k) (ho : h.get? a = some o) : h.Ns a mi := let ⟨es, ep, hd, hk, _, hf⟩ := x; ⟨o, es, ep, ho, hd, hk, hf⟩
theorem ONs.empty : ONs dictO (fun _ => none) 0 := ⟨#[], 0, rfl, fun _ he => by simp at he, Nat.le_refl _, fun _ => rfl⟩

theorem instAt {x dx Cl : Addr} {od : Obj} (hx : h.get? x = some (instObj Cl dx)) (hd : h.get? dx = some od) : InstAt h x (instObj Cl dx) Cl (some od) := ⟨hx, rfl, rfl, hd⟩

theorem T_getattr {x dx Cl : Addr} {od : Obj} {mi : Str → Option Value} {k : Nat} {name : Str} {v : Value} {expr : Bool} {Q : Value → Heap → Prop} (hK : (KF C).In h) (hx : h.get? x = some (instObj Cl dx)) (hd : h.get? dx = some od) (ho : ONs od mi k)
    (hl : mi name = some v) (hq : Q v h) (hg : plainGet (KF C) Cl name = true) (hh : hasDictIn (KF C) Cl = true) (ha : findIn (KF C) (.ref Cl) name = some none) (hv : handedIn v = true) : T C A (getAttr (.ref x) name expr) Q E h := fun _ =>
  get_value hK (instAt hx hd) (plainGet_of hg).1 (findObj_own hh ha (by rfl) (by rw [ho.lookIn, hl])) hv ⟨_, _, rfl, hq⟩
theorem T_Attr {value : Expr} {attr : Str} {pos : Pos} {Q : Value → Heap → Prop} (hx : T C A (eval value env) (fun o h1 => T C A (getAttr o attr true) Q E h1) E h)
    (hbase : attributeBase value attr env (eval value env) = eval value env := by kernel_rfl) : T C A (eval (.Attribute value attr pos) env) Q E h := by
  refine T_eq (arm_eval_Attribute value attr pos env) ?_
  rw [hbase]
  refine T_bind (T_post hx fun o h1 H => T_bind (T_at (T_bind (T_holding (T_post H fun r h2 H2 => T_bind (fun tk => wpAny_letTemporaryGo ⟨_, _, rfl, T_pure H2⟩))))))
theorem M_inst {x dx Cl f : Addr} {od : Obj} {mi : Str → Option Value} {k : Nat} {name : Str} {pl : Sem Bool} {Q : Value × List Value → Heap → Prop} (hK : (KF C).In h) (hx : h.get? x = some (instObj Cl dx)) (hd : h.get? dx = some od) (ho : ONs od mi k)
    (hl : mi name = none) (hq : Q (.ref f, [.ref x]) h) (hg : plainGet (KF C) Cl name = true) (hf : findIn (KF C) (.ref Cl) name = some (some (.ref f))) (ht : isFn (KF C) (.ref f) = true) : T C A (getMethod (.ref x) name pl) Q E h := fun _ =>
  method_fn hK (instAt hx hd) (plainGet_of hg).1 (plainGet_of hg).2 hf (beq_iff_eq.mp ht) (by show (PySem.W.lookIn name od).map _ = _; rw [ho.lookIn, hl]; rfl) ⟨_, _, rfl, hq⟩

theorem putName_ns {o : Obj} {mi : Str → Option Value} {k : Nat} (x : ONs o mi k) (n : Str) (hs : Int) (t : Tok) (v : Value) : ONs (Obj.putName n hs (.str n t) v o) (upd mi n v) (k + 1) := by
  obtain ⟨es, ep, hd, hk, hz, hf⟩ := x
  obtain ⟨c, d, dt, sl⟩ := o
  dsimp only at hd
  subst hd
  rw [Obj.putName_eq]
  unfold Obj.putNameByArray
  dsimp only
  cases hi : es.findIdx? (·.key.isStr n) with
  | some i =>
    refine ⟨_, ep, rfl, hk.modify _ _, by simp only [Array.size_modify]; omega, fun y => ?_⟩
    show _ = if y = n then some v else mi y
    rw [← hf]; exact findBy_modify (fun n v => v.isStr n) Value.isStr_inj es n y v i hi
  | none =>
    refine ⟨_, ep + 1, rfl, hk.push _ _ _ _, by simp only [Array.size_push]; omega, fun y => ?_⟩
    show _ = if y = n then some v else mi y
    rw [← hf]
    exact findBy_push (fun n v => v.isStr n) es n y _ _ v (fun y => by
      show (n == y) = decide (y = n)
      by_cases h : y = n
      · subst h; simp
      · have : ¬ n = y := fun e => h e.symm
        simp [h, this]) hi
theorem putName_free {o : Obj} {n : Str} {hs : Int} {ky v : Value} (hf : o.isFreed = false) : (Obj.putName n hs ky v o).isFreed = false := by
  obtain ⟨c, d, dt, sl⟩ := o
  cases dt <;> first | exact hf | (rw [Obj.putName_eq]; unfold Obj.putNameByArray; dsimp only; split <;> rfl)

theorem T_setattr {x dx Cl : Addr} {od : Obj} {mi : Str → Option Value} {k : Nat} {name : Str} {v : Value} {led' : Obj → List (Addr × Obj)} {Q : Unit → Heap → Prop} (X : W C g L m led h) (hx : h.get? x = some (instObj Cl dx)) (u : ∀ o', Up dx od o' led (led' o')) (ho : ONs od mi k) (hk : k ≤ 1000)
    (hq : ∀ h' o', ONs o' (upd mi name v) (k + 1) → Heap.SameBut dx h h' → W C g L m (led' o') h' → Q () h')
    (hs : findIn (KF C) (.ref Cl) "__setattr__" = some (some (.builtin "object.__setattr__"))) (hp : plainOver (KF C) Cl = true) (ht : takerIn (KF C) Cl name = some none) (hh : hasDictIn (KF C) Cl = true) :
    T C A (setAttr (.ref x) name v) Q E h := fun tk => by
  have hK : (KF C).In h := X.glob.K.keeps X.keep
  have hd : h.get? dx = some od := X.at_ _ (u od).mem
  have I := instAt hx hd
  refine set_plain hK I hs (osa_open (s := { C.st h tk with toks := (C.st h tk).toks + 1 }) hK I hp ht fun b => ?_)
  obtain ⟨cd, hc, hd'⟩ := any_some hh
  refine wpAny_bind (wpAny_pure (wpAny_bind (wpAny_bind (wpAny_loadPart hx (wpAny_bind ((looks_clsIn hK hc).here ?_))))))
  rw [hd']
  refine wpAny_pure (a := some dx) (wpAny_bind (wpAny_pure (wpAny_bind ?_)))
  have U : ∀ hsh t, ONs (Obj.putName name hsh (.str name t) v od) (upd mi name v) (k + 1) := fun hsh t => putName_ns ho name hsh t v
  obtain ⟨es, ep, hdd, hkk, hz, hff⟩ := id ho
  have hfr : od.isFreed = false := Obj.isFreed_of_dict hdd
  unfold nsSet
  refine wpAny_bind (wpAny_bind (wpAny_askSetting (wpAny_pure (wpAny_bind (wpAny_mkText (wpAny_bind (wpAny_loadPart hd ?_)))))))
  rw [hdd]
  dsimp only
  have c : (!es.any (·.key.isStr name) && es.any (·.refKey)) = false := by
    have : es.any (·.refKey) = false := by
      rw [Array.any_eq_false']; intro e he; obtain ⟨n, t, h⟩ := hkk e he; simp [DictEntry.refKey, h]
    rw [this, Bool.and_false]
  rw [aRefKeyMayBeTheName_at, c]
  refine wpAny_updatePart hd ?_
  generalize hob : Obj.putName name _ _ v = F
  have hF : ONs (F od) (upd mi name v) (k + 1) := by rw [← hob]; exact U _ _
  have hFf : (F od).isFreed = false := by rw [← hob]; exact putName_free hfr
  have hget : (h.update dx F).get? dx = some (F od) := Heap.get?_update_self _ hd hFf
  have hF' := hF
  obtain ⟨es', ep', hd2, _, hz', _⟩ := hF
  refine wpAny_bind (wpAny_lookBehind hget (by rw [hd2]; exact pastItsLine_dict (by rw [sizeLine_eq]; omega)) ?_)
  exact wpAny_pure ⟨_, _, rfl, hq _ _ hF' (Heap.SameBut.update ..) (X.same (u _) (Heap.SameBut.update ..) hget)⟩

theorem T_Assign_Attr {o value : Expr} {attr : Str} {pos' pos : Pos} {Q : Flow → Heap → Prop}
    (hx : T C A (eval value env) (fun v h1 => T C A (eval o env) (fun ov h2 => T C A (setAttr ov attr v) (fun _ => Q .next) E h2) E h1) E h)
    (hs : exec (.Assign [.Attribute o attr pos'] value pos) env = (do standAt pos; let v ← eval value env; assign (.Attribute o attr pos') env v; pure .next) := by kernel_rfl) : T C A (exec (.Assign [.Attribute o attr pos'] value pos) env) Q E h := by
  refine T_eq hs (T_bind (T_at (T_bind (T_post hx fun v h1 H => T_bind ?_))))
  rw [arm_assign_Attribute]
  exact T_bind (T_holding (T_post H fun _ _ H => T_bind (T_at (T_bind (T_holding (T_post H fun _ _ H => T_release (T_pure H)))))))

/-- a new object of a class with an __init__ of its own -/
theorem T_new {Cl fI : Addr} {pos : List Value} {Q : Value → Heap → Prop} (X : W C g L m led h) (hm : makesIn (KF C) Cl = true) (hi : findIn (KF C) (.ref Cl) "__init__" = some (some (.ref fI))) (hf : typeIn (KF C) (.ref fI) = some (.type "function"))
    (hb : ∀ x dx h', W C g L m ((x, instObj Cl dx) :: (dx, dictO) :: led) h' → (∀ b o, h.get? b = some o → h'.get? b = some o) → h.get? x = none → h.get? dx = none →
      TC C (A.under (.builtin "type.__call__" ⟨.ref Cl :: pos, []⟩)) (.call (.ref fI) ⟨.ref x :: pos, []⟩) (fun v h2 => v = .none ∧ Q (.ref x) h2) E h') :
    T C A (call (.ref Cl) pos []) Q E h := fun tk => by
  have hK : (KF C).In h := X.glob.K.keeps X.keep
  refine wpAny_call (make_core (makes_of hK hm) (looks_findIn hK hi) (fun self => bind_fn hK self hf) (.inl rfl) ?_)
  have X1 := (X.push (o := dictO)).push (o := instObj Cl h.objs.size)
  rw [Heap.size_push] at X1
  refine codeAny_mono (hb (h.objs.size + 1) h.objs.size _ X1 (fun b o e => Heap.get?_push_of_some _ (Heap.get?_push_of_some _ e)) (by
    cases e : h.get? (h.objs.size + 1) with
    | none => rfl
    | some o => exact absurd (Heap.lt_size e) (Nat.not_lt.mpr (Nat.le_succ _))) (get_size h) tk) fun r s' z => ?_
  rcases r with e | (v | _ | _ | _)
  · exact z
  · exact z
  · exact z
  · exact z
  · obtain ⟨h', tk', e, hv, hq⟩ := z
    exact ⟨hv, h', tk', e, hq⟩
end
end Mine
end
section
open PySem PySem.W PyProof.Rows PySem.Calls
set_option Elab.async false
set_option maxRecDepth 100000
set_option maxHeartbeats 4000000
set_option linter.unusedVariables false
namespace Mine

def TCL (C : Cx) (A : Around) (c : Code) (Q : Flow → Heap → Prop) (E : Value → Heap → Prop) (h : Heap) : Prop :=
  ∀ tk, codeAny C.M A c (fun r s' => match r with | .ok f => At C (Q f) s' | .error e => At C (E e) s') (C.st h tk)

/-- an iteration: n items; wr: its own objects -/
structure It (C : Cx) (A : Around) (target : Expr) (I : Addr) (fp wr : List Addr) (n : Nat) (P : Nat → Heap → Value → Prop) (St : Nat → Heap → Prop) : Prop where
  frame : ∀ i h h', St i h → (∀ b ∈ fp, ∀ o, h.get? b = some o → h'.get? b = some o) → St i h'
  live : ∀ i h, St i h → ∀ b ∈ wr, ∃ o, h.get? b = some o
  item : ∀ i h (Q : Value → Heap → Prop), i < n → St i h → (∀ v h', P i h' v → St (i + 1) h' → Keep wr h h' → Q v h') →
    T C A (pyNext (.ref I)) (fun r h1 => ∃ v, r = some v ∧ T C A (letOwnedTupleGo target (.ref I) v) (fun _ h2 => Q v h2) noE h1) noE h
  done : ∀ h (Q : Heap → Prop), St n h → (∀ h', Keep wr h h' → Q h') → T C A (pyNext (.ref I)) (fun r h1 => r = none ∧ Q h1) noE h
  self : ∀ i h (Q : Value → Heap → Prop), St i h → Q (.ref I) h → T C A (pyIter (.ref I)) Q noE h

section
variable {C : Cx} {A : Around} {E : Value → Heap → Prop} {g h : Heap} {L : Addr} {m : Str → Option Value} {led : List (Addr × Obj)} {env : Env}

theorem It.ofWalks {target : Expr} {I : Addr} {fp wr : List Addr} {n : Nat} {P : Nat → Value → Prop} {St : Nat → Heap → Prop} (Wk : Walks C.prog C.w A I fp wr n P St) (live : ∀ i h, St i h → ∀ b ∈ wr, ∃ o, h.get? b = some o)
    (hgo : ∀ i h v (Q : Unit → Heap → Prop), St i h → Q () h → T C A (letOwnedTupleGo target (.ref I) v) Q noE h) : It C A target I fp wr n (fun i _ v => P i v) St where
  frame := Wk.frame
  live := live
  item := fun i h Q hi hs hq tk => Wk.item i _ _ _ hi hs fun v h' tk' hP hst hk => ⟨h', tk', rfl, v, rfl, hgo _ _ _ _ hst (hq v h' hP hst fun b o hb e => hk b o hb e)⟩
  done := fun h Q hs hq tk => Wk.done _ _ _ hs fun h' tk' hk => ⟨h', tk', rfl, rfl, hq h' fun b o hb e => hk b o hb e⟩
  self := fun i h Q hs hq tk => Wk.self i _ _ _ hs ⟨h, tk, rfl, hq⟩

/-- the iteration's own objects as they stand -/
theorem ownOf {wr : List Addr} (hl : ∀ b ∈ wr, ∃ o, h.get? b = some o) : ∃ own : List (Addr × Obj), own.map (·.1) = wr ∧ ∀ p ∈ own, h.get? p.1 = some p.2 := by
  induction wr with
  | nil => exact ⟨[], rfl, fun _ hp => nomatch hp⟩
  | cons b r ih =>
    obtain ⟨own, e, hat⟩ := ih fun b hb => hl b (.tail _ hb)
    obtain ⟨o, ho⟩ := hl b (.head _)
    refine ⟨(b, o) :: own, by simp [e], fun p hp => ?_⟩
    rcases List.mem_cons.mp hp with rfl | hp
    · exact ho
    · exact hat p hp

/-- the iteration's own objects are apart from what is known -/
structure Apart (wr : List Addr) (g : Heap) (L : Addr) (led : List (Addr × Obj)) : Prop where
  g : ∀ b ∈ wr, g.get? b = none
  L : ∀ b ∈ wr, b ≠ L
  led : ∀ b ∈ wr, b ∉ led.map (·.1)

theorem W.addOwn {own : List (Addr × Obj)} {h1 : Heap} (X : W C g L m led h) (hk : Keep (own.map (·.1)) h h1) (hat : ∀ p ∈ own, h1.get? p.1 = some p.2) (hn : (own.map (·.1)).Nodup) (ap : Apart (own.map (·.1)) g L led) : W C g L m (own ++ led) h1 := by
  refine ⟨X.ns.at' (fun o e => hk L o (fun hm => ap.L _ hm rfl) e), fun b o e => hk b o (fun hm => ?_) (X.keep b o e), X.off, fun p hp => ?_, fun p hp => ?_, ?_, X.glob⟩
  · rw [ap.g b hm] at e; cases e
  · rcases List.mem_append.mp hp with hp | hp
    · exact hat p hp
    · exact hk _ _ (fun hm => ap.led _ hm (List.mem_map_of_mem (f := (·.1)) hp)) (X.at_ p hp)
  · rcases List.mem_append.mp hp with hp | hp
    · exact ⟨ap.L _ (List.mem_map_of_mem (f := (·.1)) hp), ap.g _ (List.mem_map_of_mem (f := (·.1)) hp)⟩
    · exact X.sep p hp
  · rw [List.map_append]
    refine List.nodup_append.mpr ⟨hn, X.nd, fun a ha b hb e => ?_⟩
    subst e; exact ap.led _ ha hb
theorem W.dropOwn {own : List (Addr × Obj)} (X : W C g L m (own ++ led) h) : W C g L m led h := X.perm (fun p hp => List.mem_append.mpr (.inr hp)) (by
  have := X.nd; rw [List.map_append] at this; exact (List.nodup_append.mp this).2.1)
theorem W.apartOwn {own : List (Addr × Obj)} (X : W C g L m (own ++ led) h) : Apart (own.map (·.1)) g L led := by
  refine ⟨fun b hb => ?_, fun b hb => ?_, fun b hb hm => ?_⟩
  · obtain ⟨p, hp, rfl⟩ := List.mem_map.mp hb
    exact (X.sep p (List.mem_append.mpr (.inl hp))).2
  · obtain ⟨p, hp, rfl⟩ := List.mem_map.mp hb
    exact (X.sep p (List.mem_append.mpr (.inl hp))).1
  · have := X.nd; rw [List.map_append] at this; exact (List.nodup_append.mp this).2.2 b hb b hm rfl
theorem W.keepOf {h1 : Heap} {wr : List Addr} (X : W C g L m led h) (hk : Keep wr h h1) (ap : Apart wr g L led) : W C g L m led h1 :=
  ⟨X.ns.at' (fun o e => hk L o (fun hm => ap.L _ hm rfl) e), fun b o e => hk b o (fun hm => by rw [ap.g b hm] at e; cases e) (X.keep b o e), X.off, fun p hp => hk _ _ (fun hm => ap.led _ hm (List.mem_map_of_mem (f := (·.1)) hp)) (X.at_ p hp), X.sep, X.nd, X.glob⟩

/-- a turn's end -/
def Turn (C : Cx) (L : Addr) (own : List (Addr × Obj)) (g1 : Heap) (J : Heap → (Str → Option Value) → List (Addr × Obj) → Prop) (Q : Flow → Heap → Prop) (fl : Flow) (h3 : Heap) : Prop := match fl with
  | .next | .cont => E3 fun g2 m2 led2 => A3 (Sub g1 g2) (W C g2 L m2 (own ++ led2) h3) (J g2 m2 led2)
  | .brk => Q .next h3
  | .ret v => Q (.ret v) h3

theorem Turn.ret {own : List (Addr × Obj)} {g1 : Heap} {J : Heap → (Str → Option Value) → List (Addr × Obj) → Prop} {Q : Flow → Heap → Prop} {v : Value} (q : Q (.ret v) h) : Turn C L own g1 J Q (.ret v) h := q
theorem noE_noted {env : Env} {e : Value} {s' : Shared} {Q : Value → Shared → Prop} : (At C (noE e) s') → notedBy C.M A env Q e s' := fun ⟨_, _, _, f⟩ => f.elim

theorem noted_of {En : Value → Heap → Prop} (hE : ∀ e h, En e h → T C A (noteFrame e env) (fun _ h' => E e h') E h) {e : Value} {s' : Shared} (x : At C (En e) s') : notedBy C.M A env (fun e s' => At C (E e) s') e s' := by
  obtain ⟨h', tk', rfl, hx⟩ := x
  exact hE e h' hx tk'
theorem noE_noted2 {e : Value} {s' : Shared} {Q : Value → Shared → Prop} (x : At C (noE e) s') : notedBy C.M A env Q e s' := by
  obtain ⟨_, _, _, f⟩ := x; exact f.elim
theorem TL_forE {En : Value → Heap → Prop} {target : Expr} {body : List Stmt} {I : Addr} {fp wr : List Addr} {n : Nat} {P : Nat → Heap → Value → Prop} {St : Nat → Heap → Prop} {Q : Flow → Heap → Prop} (it : It C A target I fp wr n P St)
    (X : W C g L m led h) (hst : St 0 h) (ap : Apart wr g L led) (hwn : wr.Nodup) (hfp : ∀ b ∈ fp, b ∉ wr → ∃ o, g.get? b = some o)
    (J : Nat → Heap → (Str → Option Value) → List (Addr × Obj) → Prop) (hJ : J 0 g m led)
    (turn : ∀ i v g1 m1 led1 own h1, i < n → Sub g g1 → J i g1 m1 led1 → P i h1 v → own.map (·.1) = wr → W C g1 L m1 (own ++ led1) h1 →
      T C A (assign target env v) (fun _ h2 => T C A (execs body env) (Turn C L own g1 (J (i + 1)) Q) En h2) En h1)
    (hE : ∀ e h, En e h → T C A (noteFrame e env) (fun _ h' => E e h') E h)
    (done : ∀ g1 m1 led1 h1, Sub g g1 → J n g1 m1 led1 → W C g1 L m1 led1 h1 → Q .next h1) : TCL C A (.forLoop target (.ref I) body [] env) Q E h := by
  intro tk
  refine codeAny_forLoop_any (fun k s' => E6 fun i g' m' led' h' tk' => A8 (s' = C.st h' tk') (Sub g g') (W C g' L m' led' h') (Apart wr g' L led') (St i h') (J i g' m' led') (i ≤ n) (k = n + 1 - i)) ?_ (n + 1)
    ⟨0, g, m, led, h, tk, rfl, Sub.refl _, X, ap, hst, hJ, Nat.zero_le _, rfl⟩
  rintro k s' ⟨i, g', m', led', h', tk', rfl, hs, X', ap', hst', hJ', hi, rfl⟩
  by_cases hlt : i < n
  · refine wpAny_mono (it.item i h' (fun v h2 => P i h2 v ∧ St (i + 1) h2 ∧ Keep wr h' h2) hlt hst' (fun v h2 a b c => ⟨a, b, c⟩) tk') (fun r s1 hr => ?_) fun _ _ x => noE_noted2 x
    obtain ⟨h1, tk1, rfl, v, rfl, hr⟩ := hr
    refine wpAny_mono (hr tk1) (fun _ s2 h2 => ?_) fun _ _ x => noE_noted2 x
    obtain ⟨h2, tk2, rfl, hP, hst2, hk2⟩ := h2
    obtain ⟨own, he, hat⟩ := ownOf (it.live _ _ hst2)
    subst he
    have X2 := X'.addOwn hk2 hat hwn ap'
    refine wpAny_mono (turn i v g' m' led' own h2 hlt hs hJ' hP rfl X2 tk2) (fun _ s3 h3 => ?_) fun _ _ x => noted_of hE x
    obtain ⟨h3, tk3, rfl, H⟩ := h3
    refine wpAny_mono (H tk3) (fun fl s4 h4 => ?_) fun _ _ x => noted_of hE x
    obtain ⟨h4, tk4, rfl, H4⟩ := h4
    have fin : (E3 fun g2 m2 led2 => A3 (Sub g' g2) (W C g2 L m2 (own ++ led2) h4) (J (i + 1) g2 m2 led2)) → ∃ k, k < n + 1 - i ∧ E6 fun i g' m' led' h' tk' => A8 (C.st h4 tk4 = C.st h' tk') (Sub g g') (W C g' L m' led' h') (Apart (own.map (·.1)) g' L led') (St i h') (J i g' m' led') (i ≤ n) (k = n + 1 - i) := by
      rintro ⟨g2, m2, led2, hs2, X4, hJ4⟩
      refine ⟨n + 1 - (i + 1), by omega, i + 1, g2, m2, led2, h4, tk4, rfl, hs.trans hs2, X4.dropOwn, X4.apartOwn, it.frame _ _ _ hst2 fun b hb o e => ?_, hJ4, hlt, rfl⟩
      by_cases hm : b ∈ own.map (·.1)
      · obtain ⟨p, hp, rfl⟩ := List.mem_map.mp hm
        rw [hat p hp] at e; cases e
        exact X4.at_ p (List.mem_append.mpr (.inl hp))
      · obtain ⟨o', ho'⟩ := hfp b hb hm
        have e1 := X4.keep b o' (hs2 b o' (hs b o' ho'))
        have e2 := X2.keep b o' (hs b o' ho')
        rw [e2] at e; cases e; exact e1
    cases fl with
    | next => exact fin H4
    | cont => exact fin H4
    | brk => exact ⟨h4, tk4, rfl, H4⟩
    | ret v => exact ⟨h4, tk4, rfl, H4⟩
  · have hin : i = n := by omega
    subst hin
    refine wpAny_mono (it.done h' (fun h2 => Keep wr h' h2) hst' (fun h2 c => c) tk') (fun r s1 hr => ?_) fun _ _ x => noE_noted2 x
    obtain ⟨h1, tk1, rfl, rfl, hk1⟩ := hr
    exact wpAny_execs_nil ⟨h1, tk1, rfl, done g' m' led' h1 hs hJ' (X'.keepOf hk1 ap')⟩

theorem TL_for {target : Expr} {body : List Stmt} {I : Addr} {fp wr : List Addr} {n : Nat} {P : Nat → Heap → Value → Prop} {St : Nat → Heap → Prop} {Q : Flow → Heap → Prop} (it : It C A target I fp wr n P St)
    (X : W C g L m led h) (hst : St 0 h) (ap : Apart wr g L led) (hwn : wr.Nodup) (hfp : ∀ b ∈ fp, b ∉ wr → ∃ o, g.get? b = some o)
    (J : Nat → Heap → (Str → Option Value) → List (Addr × Obj) → Prop) (hJ : J 0 g m led)
    (turn : ∀ i v g1 m1 led1 own h1, i < n → Sub g g1 → J i g1 m1 led1 → P i h1 v → own.map (·.1) = wr → W C g1 L m1 (own ++ led1) h1 →
      T C A (assign target env v) (fun _ h2 => T C A (execs body env) (Turn C L own g1 (J (i + 1)) Q) noE h2) noE h1)
    (done : ∀ g1 m1 led1 h1, Sub g g1 → J n g1 m1 led1 → W C g1 L m1 led1 h1 → Q .next h1) : TCL C A (.forLoop target (.ref I) body [] env) Q noE h :=
  TL_forE (En := noE) it X hst ap hwn hfp J hJ turn (fun _ _ f => f.elim) done

/-- a while's turn's end -/
def WTurn (C : Cx) (L : Addr) (k : Nat) (g1 : Heap) (J : Nat → Heap → (Str → Option Value) → List (Addr × Obj) → Prop) (Q : Flow → Heap → Prop) (fl : Flow) (h3 : Heap) : Prop := match fl with
  | .next | .cont => E4 fun k' g2 m2 led2 => A4 (k' < k) (Sub g1 g2) (W C g2 L m2 led2 h3) (J k' g2 m2 led2)
  | .brk => Q .next h3
  | .ret v => Q (.ret v) h3

theorem WTurn.ret {k : Nat} {g1 : Heap} {J : Nat → Heap → (Str → Option Value) → List (Addr × Obj) → Prop} {Q : Flow → Heap → Prop} {v : Value} (q : Q (.ret v) h) : WTurn C L k g1 J Q (.ret v) h := q
theorem TL_while {test : Expr} {body : List Stmt} {Q : Flow → Heap → Prop} (X : W C g L m led h) (J : Nat → Heap → (Str → Option Value) → List (Addr × Obj) → Prop) (k0 : Nat) (hJ : J k0 g m led)
    (turn : ∀ k g1 m1 led1 h1 K, Hid (WTurn C L k g1 J Q) K → Sub g g1 → J k g1 m1 led1 → W C g1 L m1 led1 h1 →
      T C A (isTrue test env (eval test env)) (fun b h2 => (b = true → T C A (execs body env) K noE h2) ∧ (b = false → Q .next h2)) noE h1) : TCL C A (.whileLoop test body [] env) Q noE h := by
  intro tk
  refine codeAny_whileLoop (fun k s' => E5 fun g' m' led' h' tk' => A4 (s' = C.st h' tk') (Sub g g') (W C g' L m' led' h') (J k g' m' led')) ?_ k0 ⟨g, m, led, h, tk, rfl, Sub.refl _, X, hJ⟩
  rintro k s' ⟨g', m', led', h', tk', rfl, hs, X', hJ'⟩
  refine wpAny_mono (turn k g' m' led' h' _ (Hid.refl _) hs hJ' X' tk') (fun b s1 hb => ?_) fun _ _ x => noE_noted x
  obtain ⟨h2, tk2, rfl, Ht, Hf⟩ := hb
  cases b with
  | false => exact wpAny_execs_nil ⟨h2, tk2, rfl, Hf rfl⟩
  | true =>
    refine wpAny_mono (Ht rfl tk2) (fun fl s3 h3 => ?_) fun _ _ x => noE_noted x
    obtain ⟨h3, tk3, rfl, H⟩ := h3
    have fin : (E4 fun k' g2 m2 led2 => A4 (k' < k) (Sub g' g2) (W C g2 L m2 led2 h3) (J k' g2 m2 led2)) → ∃ k', k' < k ∧ E5 fun g' m' led' h' tk' => A4 (C.st h3 tk3 = C.st h' tk') (Sub g g') (W C g' L m' led' h') (J k' g' m' led') := by
      rintro ⟨k', g2, m2, led2, hk, hs2, X3, hJ3⟩
      exact ⟨k', hk, g2, m2, led2, h3, tk3, rfl, hs.trans hs2, X3, hJ3⟩
    cases fl with
    | next => exact fin H
    | cont => exact fin H
    | brk => exact ⟨h3, tk3, rfl, H⟩
    | ret v => exact ⟨h3, tk3, rfl, H⟩

theorem T_runOwn {c : Code} {Q : Flow → Heap → Prop} {E : Value → Heap → Prop} (hx : TCL C A c Q noE h) : T C A (runOwn c env) Q E h := fun tk => by
  refine wpAny_runOwn (codeAny_mono (show codeAny C.M (A.mark none) c _ _ from hx tk) fun r s' z => ?_)
  cases r with
  | ok f => exact z
  | error e => obtain ⟨_, _, _, f⟩ := z; exact f.elim
theorem T_While {test : Expr} {body : List Stmt} {pos : Pos} {Q : Flow → Heap → Prop} {E : Value → Heap → Prop} (hx : TCL C A (.whileLoop test body [] env) Q noE h) : T C A (exec (.While test body [] pos) env) Q E h :=
  T_eq (exec_While env test body [] pos) (T_bind (T_at (T_runOwn hx)))
theorem T_For {target iter : Expr} {body : List Stmt} {pos : Pos} {Q : Flow → Heap → Prop} {E : Value → Heap → Prop}
    (hx : T C A (eval iter env) (fun x h1 => T C A (pyIter x) (fun itv h2 => TCL C A (.forLoop target itv body [] env) Q noE h2) E h1) E h)
    (hs : ∀ x, foldedSetIterable iter env x = pure x := by intro _; kernel_rfl) : T C A (exec (.For target iter body [] pos) env) Q E h := by
  refine T_eq (arm_exec_For target iter body [] pos env) (T_bind (T_at (T_bind (T_post hx fun x h1 H => T_bind (T_eq (hs x) (T_pure (T_bind (T_at (T_bind (T_holding (T_post H fun itv h2 H2 => T_runOwn H2)))))))))))

/-! ## the iterables -/
theorem It_list {target : Expr} {l : Addr} {items : Array Value} (hA : A.handled = none) {I : Addr} (hne : l ≠ I) (hgo : ∀ i h v (Q : Unit → Heap → Prop), (h.IsListIter I l i ∧ h.IsList l items) → Q () h → T C A (letOwnedTupleGo target (.ref I) v) Q noE h) :
    It C A target I [I, l] [I] items.size (fun i _ v => items[i]? = some v) (fun i h => h.IsListIter I l i ∧ h.IsList l items) :=
  It.ofWalks (Walks.list hA I l hne items) (fun i h hs b hb => by
    rw [List.mem_singleton.mp hb]
    obtain ⟨⟨o, ho, _⟩, _⟩ := hs
    exact ⟨o, ho⟩) hgo
theorem go_name {x : Str} {p : Pos} {itv v : Value} {Q : Unit → Heap → Prop} {E : Value → Heap → Prop} (hq : Q () h) : T C A (letOwnedTupleGo (.Name x p) itv v) Q E h := T_pure hq

theorem W.apartNew {o : Obj} (X : W C g L m led h) : Apart [h.objs.size] g L led := by
  have Y := X.push (o := dictO)
  refine ⟨fun b hb => ?_, fun b hb => ?_, fun b hb hm => ?_⟩ <;> rw [List.mem_singleton.mp hb] at *
  · exact (Y.sep _ (.head _)).2
  · exact (Y.sep _ (.head _)).1
  · exact (List.nodup_cons.mp Y.nd).1 hm
theorem W.drop1 {p : Addr × Obj} (X : W C g L m (p :: led) h) : W C g L m led h := X.perm (fun _ hp => .tail _ hp) (List.nodup_cons.mp X.nd).2

theorem C_range {n : Int} {t : Tok} {Q : Value → Heap → Prop} {E : Value → Heap → Prop} (h0 : 0 ≤ n) (hn : n ≤ 1000)
    (hq : ∀ t1 t2 t3, Q (.ref h.objs.size) (h.push { cls := .type "range", data := .fields #[.int 0 t1, .int n t2, .int 1 t3] })) : T C A (call (.type "range") [.int n t]) Q E h := fun tk =>
  call_range_1 ⟨_, _, rfl, hq _ _ _⟩

theorem assign_Name {x : Str} {p : Pos} {v : Value} {Q : Unit → Heap → Prop} {E : Value → Heap → Prop} (hx : T C A (storeName env x v) Q E h) : T C A (assign (.Name x p) env v) Q E h :=
  T_eq (arm_assign_Name x p env v) (T_bind (T_at (T_bindName hx)))

theorem It.ofWalksT {elts : List Expr} {k : Nat} {pos : Pos} {I : Addr} {fp wr : List Addr} {n : Nat} {Pt : Nat → Array Value → Prop} {St : Nat → Heap → Prop} {Mid : Nat → Addr → Heap → Prop} (Wk : WalksT C.prog C.w A I fp wr n Pt St Mid) (live : ∀ i h, St i h → ∀ b ∈ wr, ∃ o, h.get? b = some o) :
    It C A (.Tuple elts k pos) I fp wr n (fun i h v => ∃ T vals, v = .ref T ∧ Pt i vals ∧ h.IsTuple T vals) St where
  frame := Wk.frame
  live := live
  item := fun i h Q hi hs hq tk => Wk.item i _ _ _ hi hs fun T vals h' tk' hP _ hT hM hk => ⟨h', tk', rfl, .ref T, rfl, fun tk2 => Wk.go elts k pos i T _ _ _ hM fun h2 hst hk2 =>
    ⟨h2, tk2, rfl, hq (.ref T) h2 ⟨T, vals, rfl, hP, let ⟨o, ho, r⟩ := hT; ⟨o, hk2 T o (Wk.apart _ _ _ hM) ho, r⟩⟩ hst fun b o hb e => hk2 b o hb (hk b o hb e)⟩⟩
  done := fun h Q hs hq tk => Wk.done _ _ _ hs fun h' tk' hk => ⟨h', tk', rfl, rfl, hq h' fun b o hb e => hk b o hb e⟩
  self := fun i h Q hs hq tk => Wk.self i _ _ _ hs ⟨h, tk, rfl, hq⟩
end
end Mine
end
section
open PySem PySem.W PyProof.Rows PySem.Calls
set_option Elab.async false
set_option maxRecDepth 100000
set_option maxHeartbeats 4000000
set_option linter.unusedVariables false
namespace Mine

section
variable {C : Cx} {A : Around} {E : Value → Heap → Prop} {g h : Heap} {L : Addr} {m : Str → Option Value} {led : List (Addr × Obj)} {env : Env}

theorem M_append {l : Addr} {vs : List Value} {k : Nat} {y : Value} {led' : List (Addr × Obj)} {Q : Value → Heap → Prop} (X : W C g L m led h) (u : Up l (listO vs k) (listO (vs ++ [y]) (k + 1)) led led') (hz : vs.length ≤ 2000)
    (hq : ∀ h', W C g L m led' h' → Q .none h') : T C A (call (.builtin "list.append") [.ref l, y] []) Q E h := fun tk =>
  append_at (X.at_ _ u.mem) (fun h' hs hg => ⟨_, _, rfl, hq h' (X.same u hs (by simpa using hg))⟩) (by rw [List.size_toArray, sizeLine_eq]; omega)

abbrev tests (ifs : List Expr) (cenv : Env) : Sem Bool := forIn ifs true fun c r => if r = true then do let ok ← isTrue c cenv (eval c cenv); pure (ForInStep.yield ok) else pure (ForInStep.yield r)
theorem tests_nil {cenv : Env} {Q : Bool → Heap → Prop} (hq : Q true h) : T C A (tests [] cenv) Q E h := T_pure hq
theorem tests_one {c : Expr} {cenv : Env} {Q : Bool → Heap → Prop} (hx : T C A (isTrue c cenv (eval c cenv)) Q E h) : T C A (tests [c] cenv) Q E h := fun tk => wpAny_tests_one (hx tk)

/-- what a turn of a list's comprehension leaves -/
def CTurn (C : Cx) (Lc : Addr) (own : List (Addr × Obj)) (acc : Addr) (k : Nat) (ys : List Value) (g1 : Heap) (J : List Value → Heap → (Str → Option Value) → List (Addr × Obj) → Prop) (ys' : List Value) (h3 : Heap) : Prop :=
  E3 fun g2 m2 led2 => A3 (Sub g1 g2) (W C g2 Lc m2 (own ++ (acc, listO ys k) :: led2) h3) (J ys' g2 m2 led2)

theorem Up.app {d : Addr} {o o' : Obj} {l l' : List (Addr × Obj)} : ∀ (pre : List (Addr × Obj)), Up d o o' l l' → Up d o o' (pre ++ l) (pre ++ l')
  | [], u => u
  | _ :: r, u => .there (Up.app r u)

theorem TL_comp {elt target iter : Expr} {ifs : List Expr} {scope : Scope} {pos : Pos} {I acc : Addr} {fp wr : List Addr} {n : Nat} {P : Nat → Heap → Value → Prop} {St : Nat → Heap → Prop} {Q : Flow → Heap → Prop} {ext : List (Addr × Obj)} (it : It C A target I fp wr n P St) (hn : n ≤ 1000)
    (X : W C g L m (ext ++ (acc, listO [] 0) :: led) h) (hst : St 0 h) (ap : Apart wr g L (ext ++ (acc, listO [] 0) :: led)) (hwn : wr.Nodup) (hfp : ∀ b ∈ fp, b ∉ wr → ∃ o, g.get? b = some o)
    (J : Nat → List Value → Heap → (Str → Option Value) → List (Addr × Obj) → Prop) (hJ : J 0 [] g m led)
    (turn : ∀ i v ys k g1 m1 led1 own h1, i < n → Sub g g1 → J i ys g1 m1 led1 → P i h1 v → W C g1 L m1 (own ++ (acc, listO ys k) :: led1) h1 →
      T C A (assign target env v) (fun _ h2 => T C A (tests ifs env) (fun ok h3 => (ok = true → T C A (eval elt env) (fun y h4 => CTurn C L own acc k ys g1 (J (i + 1)) (ys ++ [y]) h4) noE h3) ∧ (ok = false → CTurn C L own acc k ys g1 (J (i + 1)) ys h3)) noE h2) noE h1)
    (done : ∀ ys k g1 m1 led1 h1, Sub g g1 → J n ys g1 m1 led1 → W C g1 L m1 (ext ++ (acc, listO ys k) :: led1) h1 → Q .next h1) :
    TCL C A (.compLoop (.ListComp elt [⟨target, iter, ifs, 0⟩] scope pos) 0 (.ref I) (.ref acc) env) Q noE h := by
  intro tk
  refine codeAny_loop rfl (fun k0 s' => E8 fun i ys k g' m' led' h' tk' => A9 (s' = C.st h' tk') (Sub g g') (W C g' L m' (ext ++ (acc, listO ys k) :: led') h') (Apart wr g' L (ext ++ (acc, listO ys k) :: led')) (St i h') (J i ys g' m' led') (ys.length ≤ i) (i ≤ n) (k0 = n + 1 - i)) ?_ (n + 1)
    ⟨0, [], 0, g, m, led, h, tk, rfl, Sub.refl _, X, ap, hst, hJ, Nat.le_refl _, Nat.zero_le _, rfl⟩
  rintro k0 s' ⟨i, ys, k, g', m', led', h', tk', rfl, hs, X', ap', hst', hJ', hys, hi, rfl⟩
  show wpAny _ A ((compTurn (.ListComp elt [⟨target, iter, ifs, 0⟩] scope pos) 0 (.ref I) (.ref acc) env).onRaise (fun x => do noteFrame x env; theTreesLotGoes x)) _ _ _
  refine wpAny_noted ?_
  rw [compTurn_list]
  refine wpAny_bind (wpAny_standAt (wpAny_bind ?_))
  by_cases hlt : i < n
  · refine wpAny_mono (it.item i h' (fun v h2 => P i h2 v ∧ St (i + 1) h2 ∧ Keep wr h' h2) hlt hst' (fun v h2 a b c => ⟨a, b, c⟩) tk') (fun r s1 hr => ?_) fun _ _ x => noE_noted x
    obtain ⟨h1, tk1, rfl, v, rfl, hr⟩ := hr
    refine wpAny_bind (wpAny_mono (hr tk1) (fun _ s2 h2 => ?_) fun _ _ x => noE_noted x)
    obtain ⟨h2, tk2, rfl, hP, hst2, hk2⟩ := h2
    obtain ⟨own, he, hat⟩ := ownOf (it.live _ _ hst2)
    subst he
    have X2 := X'.addOwn hk2 hat hwn ap'
    rw [← List.append_assoc] at X2
    refine wpAny_bind (wpAny_mono (turn i v ys k g' m' led' (own ++ ext) h2 hlt hs hJ' hP X2 tk2) (fun _ s3 h3 => ?_) fun _ _ x => noE_noted x)
    obtain ⟨h3, tk3, rfl, H⟩ := h3
    refine wpAny_bind (wpAny_mono (H tk3) (fun ok s4 h4 => ?_) fun _ _ x => noE_noted x)
    obtain ⟨h4, tk4, rfl, Ht, Hf⟩ := h4
    have stf : ∀ {g2 m2 led2 h5 ys' k'}, Sub g' g2 → W C g2 L m2 (own ++ ext ++ (acc, listO ys' k') :: led2) h5 → St (i + 1) h5 := by
      intro g2 m2 led2 h5 ys' k' hs2 X5
      refine it.frame _ _ _ hst2 fun b hb o e => ?_
      by_cases hm : b ∈ own.map (·.1)
      · obtain ⟨p, hp, rfl⟩ := List.mem_map.mp hm
        rw [hat p hp] at e; cases e
        exact X5.at_ p (List.mem_append.mpr (.inl (List.mem_append.mpr (.inl hp))))
      · obtain ⟨o', ho'⟩ := hfp b hb hm
        have e1 := X5.keep b o' (hs2 b o' (hs b o' ho'))
        have e2 := X2.keep b o' (hs b o' ho')
        rw [e2] at e; cases e; exact e1
    have fin : ∀ {ys' k' g2 m2 led2 h5 tk5}, ys'.length ≤ i + 1 → Sub g' g2 → W C g2 L m2 (own ++ ext ++ (acc, listO ys' k') :: led2) h5 → J (i + 1) ys' g2 m2 led2 →
        ∃ k0, k0 < n + 1 - i ∧ E8 fun i ys k g' m' led' h' tk' => A9 (C.st h5 tk5 = C.st h' tk') (Sub g g') (W C g' L m' (ext ++ (acc, listO ys k) :: led') h') (Apart (own.map (·.1)) g' L (ext ++ (acc, listO ys k) :: led')) (St i h') (J i ys g' m' led') (ys.length ≤ i) (i ≤ n) (k0 = n + 1 - i) := by
      intro ys' k' g2 m2 led2 h5 tk5 hl hs2 X5 hJ5
      have st5 := stf hs2 X5
      rw [List.append_assoc] at X5
      exact ⟨n + 1 - (i + 1), by omega, i + 1, ys', k', g2, m2, led2, h5, tk5, rfl, hs.trans hs2, X5.dropOwn, X5.apartOwn, st5, hJ5, hl, hlt, rfl⟩
    cases ok with
    | false =>
      obtain ⟨g2, m2, led2, hs2, X4, hJ4⟩ := Hf rfl
      simp only [Bool.false_eq_true, if_false]
      exact wpAny_pure ⟨rfl, fin (by omega) hs2 X4 hJ4⟩
    | true =>
      simp only [if_true]
      refine wpAny_bind (wpAny_bind (wpAny_mono (Ht rfl tk4) (fun y s5 h5 => ?_) fun _ _ x => noE_noted x))
      obtain ⟨h5, tk5, rfl, g2, m2, led2, hs2, X5, hJ5⟩ := h5
      have ap5 : T C A (call (.builtin "list.append") [.ref acc, y] []) (fun _ h6 => W C g2 L m2 (own ++ ext ++ (acc, listO (ys ++ [y]) (k + 1)) :: led2) h6) noE h5 :=
        M_append X5 (Up.app _ .here) (by omega) fun h6 X6 => X6
      refine wpAny_bind (wpAny_mono (ap5 tk5) (fun _ s6 h6 => ?_) fun _ _ x => noE_noted x)
      obtain ⟨h6, tk6, rfl, X6⟩ := h6
      refine wpAny_pure (wpAny_pure ⟨rfl, fin (by simp; omega) hs2 X6 hJ5⟩)
  · have hin : i = n := by omega
    subst hin
    refine wpAny_mono (it.done h' (fun h2 => Keep wr h' h2) hst' (fun h2 c => c) tk') (fun r s1 hr => ?_) fun _ _ x => noE_noted x
    obtain ⟨h1, tk1, rfl, rfl, hk1⟩ := hr
    exact wpAny_pure ⟨h1, tk1, rfl, done ys k g' m' led' h1 hs hJ' (X'.keepOf hk1 ap')⟩

/-! ## a comprehension's frame -/
def clOf (cells : List (Str × Addr)) : List (Str × NameKind) → List (Str × Addr) → List (Str × Addr)
  | [], acc => acc
  | (n, k) :: r, acc => if k == .free then (match cells.lookup n with | some c => clOf cells r ((n, c) :: acc) | none => []) else clOf cells r acc
def clOk (cells : List (Str × Addr)) : List (Str × NameKind) → Bool
  | [] => true
  | (n, k) :: r => (if k == .free then (cells.lookup n).isSome else true) && clOk cells r
theorem closureFor_eq {scope : Scope} (hc : clOk env.cells scope.names = true) : closureFor scope env = pure (clOf env.cells scope.names []) := by
  unfold closureFor
  generalize scope.names = names at hc ⊢
  have : ∀ (names : List (Str × NameKind)) (acc : List (Str × Addr)), clOk env.cells names = true →
      (forIn names acc (fun (x : Str × NameKind) (r : List (Str × Addr)) => match x with
        | (name, kind) => if (kind == NameKind.free) = true then do let a ← cellOf env name; pure (ForInStep.yield ((name, a) :: r)) else pure (ForInStep.yield r)) : Sem (List (Str × Addr))) = pure (clOf env.cells names acc) := by
    intro names
    induction names with
    | nil => intro acc _; rfl
    | cons x r ih =>
      intro acc h
      obtain ⟨n, k⟩ := x
      rw [clOk, Bool.and_eq_true] at h
      rw [List.forIn_cons, clOf]
      by_cases hk : (k == NameKind.free) = true
      · simp only [hk, if_true] at h ⊢
        obtain ⟨c, hc⟩ := Option.isSome_iff_exists.mp h.1
        unfold cellOf
        simp only [hc]
        exact ih _ h.2
      · simp only [hk, Bool.false_eq_true, if_false] at h ⊢
        exact ih _ h.2
  have := this names [] hc
  first
    | (simp only [this]; rfl)
    | exact this

def cellO : Obj := { cls := .type "cell", data := .cell none }
def compEnv (scope : Scope) (cells : List (Str × Addr)) (Lc : Addr) (env : Env) : Env :=
  { scope := relabel scope env, locals := Lc, globals := env.globals, cells := cells, qual := env.qual, func := none, code := env.code, frame := env.frame, builtins := env.builtins }

theorem T_newEnv {scope : Scope} {cl : List (Str × Addr)} {Q : Env → Heap → Prop} {E : Value → Heap → Prop}
    (hq : Q { scope := scope, locals := h.objs.size, globals := env.globals, cells := cellsFrom (h.objs.size + 1) scope.names cl, qual := env.qual, func := none, code := env.code, frame := env.frame, builtins := env.builtins } (pushCells (h.push dictO) scope.names)) :
    T C A (newFunctionEnv scope env.globals cl [] env.qual none .none (some env)) Q E h := fun tk => by
  simp only [newFunctionEnv, Option.isSome_some, if_true]
  refine wpAny_bind (wpAny_alloc ?_)
  refine wpAny_bind (wpAny_layCells _ (fun name kind cells => by cases hkc : kind == NameKind.cell <;> simp [hkc]) _ _ _ _ ?_)
  rw [show ({ C.st h tk with heap := (C.st h tk).heap.push { cls := Value.type "dict", data := Data.dict #[] } } : Shared).heap.objs.size = h.objs.size + 1 from Heap.size_push ..]
  exact wpAny_bind (wpAny_pure (wpAny_pure ⟨_, tk, rfl, hq⟩))

def LC (C : Cx) (A : Around) (env : Env) (e : Expr) (scope : Scope) (cl : List (Str × Addr)) (newAcc : Sem Value) (Q : Value → Heap → Prop) (itv : Value) (h2 : Heap) : Prop :=
  T C A newAcc (fun acc h3 => T C A (newFunctionEnv scope env.globals cl [] env.qual none .none (some env)) (fun cenv h4 =>
    TCL C A (.compStart e 0 itv acc { cenv with scope := relabel scope env }) (fun _ h' => ∃ m, h'.Ns cenv.locals m ∧ ∀ h'', Heap.SameBut cenv.locals h' h'' → Q acc h'') noE h4) noE h3) noE h2

theorem T_compre {e : Expr} {scope : Scope} {pos : Pos} {newAcc first : Sem Value} {gg : Comprehension} {gs : List Comprehension} {cl : List (Str × Addr)} {Q : Value → Heap → Prop} {E : Value → Heap → Prop}
    (hcl : clausesOf e = gg :: gs) (hs : ∀ x, foldedSetIterable gg.iter env x = pure x) (hclos : closureFor scope env = pure cl)
    (hkind : scope.kind = .function) (hnames : ∀ x ∈ scope.names, x.2 = .local → scope.names.lookup x.1 = some .local)
    (hx : T C A first (fun x h1 => T C A (pyIter x) (fun itv h2 => LC C A env e scope cl newAcc Q itv h2) E h1) E h) : T C A (comprehension e scope env pos newAcc false first) Q E h := fun tk => by
  refine wpAny_comprehension_free (use := none) hcl hs hclos hkind hnames (wpAny_mono (hx tk) (fun x s1 H => ?_) fun _ _ x => x)
  obtain ⟨h1, tk1, rfl, H⟩ := H
  refine wpAny_mono (H tk1) (fun itv s2 H => ?_) fun _ _ x => x
  obtain ⟨h2, tk2, rfl, H⟩ := H
  refine wpAny_mono (H tk2) (fun acc s3 H => ?_) fun _ _ x => ?_
  · obtain ⟨h3, tk3, rfl, H⟩ := H
    refine wpAny_mono (H tk3) (fun cenv s4 H => ?_) fun _ _ x => ?_
    · obtain ⟨h4, tk4, rfl, H⟩ := H
      refine codeAny_mono (H tk4) fun r s' z => ?_
      cases r with
      | ok f =>
        obtain ⟨h', tk', rfl, m, hm, hq⟩ := z
        exact ⟨m, hm, fun h'' hs => ⟨h'', tk', rfl, hq h'' hs⟩⟩
      | error e => obtain ⟨_, _, _, f⟩ := z; exact f.elim
    · obtain ⟨_, _, _, f⟩ := x; exact f.elim
  · obtain ⟨_, _, _, f⟩ := x; exact f.elim

theorem T_LComp {elt target iter : Expr} {ifs : List Expr} {scope : Scope} {pos : Pos} {Q : Value → Heap → Prop} {E : Value → Heap → Prop}
    (hx : T C A (eval iter env) (fun x h1 => T C A (pyIter x) (fun itv h2 => LC C A env (.ListComp elt [⟨target, iter, ifs, 0⟩] scope pos) scope (clOf env.cells scope.names []) (newList []) Q itv h2) E h1) E h)
    (hclos : clOk env.cells scope.names = true)
    (hkind : scope.kind = .function) (hnames : (scope.names.all fun x => x.2 != .local || scope.names.lookup x.1 == some .local) = true)
    (hs : ∀ x, foldedSetIterable iter env x = pure x := by intro _; kernel_rfl) : T C A (eval (.ListComp elt [⟨target, iter, ifs, 0⟩] scope pos) env) Q E h := by
  rw [eval_ListComp]
  refine T_compre rfl hs (closureFor_eq hclos) hkind (fun x hx hl => ?_) hx
  have := List.all_eq_true.mp hnames x hx
  simpa [hl] using this

theorem Keep.trans {S : List Addr} {h1 h2 h3 : Heap} (x : Keep S h1 h2) (y : Keep S h2 h3) : Keep S h1 h3 := fun b o hb e => y b o hb (x b o hb e)

/-- a list's comprehension without a cell of its own -/
theorem LC_intro {elt target iter : Expr} {ifs : List Expr} {scope : Scope} {cl : List (Str × Addr)} {pos : Pos} {I : Addr} {fp wr : List Addr} {n : Nat} {P : Nat → Heap → Value → Prop} {St : Nat → Heap → Prop} {Q : Value → Heap → Prop} (it : It C A target I fp wr n P St) (hn : n ≤ 1000)
    (X : W C g L m led h) (hst : St 0 h) (ap : Apart wr g L led) (hwn : wr.Nodup) (hfp : ∀ b ∈ fp, b ∉ wr → ∃ o, g.get? b = some o) (hcells : ∀ k h, pushCells h scope.names = h ∧ cellsFrom k scope.names cl = cl)
    (J : Nat → List Value → Heap → (Str → Option Value) → List (Addr × Obj) → Prop) (hJ : J 0 [] g (fun _ => none) led)
    (turn : ∀ i v ys k g1 m1 led1 own h1 Lc acc, i < n → Sub g g1 → J i ys g1 m1 led1 → P i h1 v → W C g1 Lc m1 (own ++ (acc, listO ys k) :: led1) h1 →
      T C A (assign target (compEnv scope cl Lc env) v) (fun _ h2 => T C A (tests ifs (compEnv scope cl Lc env)) (fun ok h3 => (ok = true → T C A (eval elt (compEnv scope cl Lc env)) (fun y h4 => CTurn C Lc own acc k ys g1 (J (i + 1)) (ys ++ [y]) h4) noE h3) ∧ (ok = false → CTurn C Lc own acc k ys g1 (J (i + 1)) ys h3)) noE h2) noE h1)
    (done : ∀ ys k g1 m1 led1 h1 acc, Sub g g1 → J n ys g1 m1 led1 → W C g1 L m ((acc, listO ys k) :: led1) h1 → Q (.ref acc) h1) :
    LC C A env (.ListComp elt [⟨target, iter, ifs, 0⟩] scope pos) scope cl (newList []) Q (.ref I) h := by
  refine fun tk => wpAny_newObj_type ⟨_, tk, rfl, ?_⟩ (by show ([] : List Value).toArray.size ≤ sizeLine; exact Nat.zero_le _)
  refine T_newEnv ?_
  obtain ⟨oL, hoL⟩ := X.ldom
  have X1 := X.push (o := listO [] 0)
  have X2 := X1.push (o := dictO)
  have hsz : (h.push (listO [] 0)).objs.size = h.objs.size + 1 := Heap.size_push ..
  show TCL C A (.compStart _ 0 (.ref I) (.ref h.objs.size) { scope := relabel scope env, locals := (h.push (listO [] 0)).objs.size, globals := env.globals, cells := cellsFrom ((h.push (listO [] 0)).objs.size + 1) scope.names cl, qual := env.qual, func := none, code := env.code, frame := env.frame, builtins := env.builtins }) _ noE (pushCells ((h.push (listO [] 0)).push dictO) scope.names)
  rw [(hcells 0 _).1, (hcells _ h).2]
  generalize hLc : (h.push (listO [] 0)).objs.size = Lc at X2 ⊢
  generalize hh2 : (h.push (listO [] 0)).push dictO = h2 at X2 ⊢
  have hne : h.objs.size ≠ Lc := by rw [← hLc, hsz]; exact Nat.ne_of_lt (Nat.lt_succ_self _)
  have hLL : L ≠ Lc := Ne.symm (X2.sep _ (.head _)).1
  have kh : ∀ b o, h.get? b = some o → h2.get? b = some o := fun b o e => by rw [← hh2]; exact Heap.get?_push_of_some _ (Heap.get?_push_of_some _ e)
  have nLc : h.get? Lc = none := by
    cases e : h.get? Lc with
    | none => rfl
    | some o => exact absurd (Heap.lt_size e) (by rw [← hLc, hsz]; exact Nat.not_lt.mpr (Nat.le_succ _))
  have wrLc : ∀ b ∈ wr, b ≠ Lc ∧ b ≠ h.objs.size := fun b hb => by
    obtain ⟨o, ho⟩ := it.live _ _ hst b hb
    exact ⟨fun e => (by rw [e, nLc] at ho; cases ho), fun e => (by rw [e, get_size] at ho; cases ho)⟩
  have Xc : W C g Lc (fun _ => none) ([(L, oL)] ++ (h.objs.size, listO [] 0) :: led) h2 := by
    refine ⟨?_, X2.keep, (X2.sep _ (.head _)).2, ?_, ?_, ?_, X2.glob⟩
    · have := Heap.Ns.new (h.push (listO [] 0)) (.type "dict")
      rw [hLc, hh2] at this; exact this
    · intro p hp
      rcases List.mem_cons.mp hp with rfl | hp
      · exact kh _ _ hoL
      · exact X2.at_ p (.tail _ hp)
    · intro p hp
      rcases List.mem_cons.mp hp with rfl | hp
      · exact ⟨hLL, X.off⟩
      · refine ⟨fun e => ?_, (X2.sep p (.tail _ hp)).2⟩
        have := (List.nodup_cons.mp X2.nd).1
        exact this (by rw [← e]; exact List.mem_map_of_mem (f := (·.1)) hp)
    · refine List.nodup_cons.mpr ⟨fun hm => ?_, (List.nodup_cons.mp X2.nd).2⟩
      obtain ⟨p, hp, e⟩ := List.mem_map.mp hm
      exact (X2.sep p (.tail _ hp)).1 e
  have apc : Apart wr g Lc ([(L, oL)] ++ (h.objs.size, listO [] 0) :: led) := by
    refine ⟨ap.g, fun b hb => (wrLc b hb).1, fun b hb hm => ?_⟩
    rcases List.mem_cons.mp hm with e | hm
    · exact ap.L b hb e
    · rcases List.mem_cons.mp hm with e | hm
      · exact (wrLc b hb).2 e
      · exact ap.led b hb hm
  have stc : St 0 h2 := it.frame _ _ _ hst fun b _ o e => kh b o e
  have loop : TCL C A (.compLoop (.ListComp elt [⟨target, iter, ifs, 0⟩] scope pos) 0 (.ref I) (.ref h.objs.size) (compEnv scope cl Lc env)) (fun _ h' => ∃ m, h'.Ns Lc m ∧ ∀ h'', Heap.SameBut Lc h' h'' → Q (.ref h.objs.size) h'') noE h2 := by
    refine TL_comp it hn Xc stc apc hwn hfp J hJ (fun i v ys k g1 m1 led1 own h1 a b c d e => turn i v ys k g1 m1 led1 own h1 Lc _ a b c d e) ?_
    intro ys k g1 m1 led1 h1 hs hJ1 X5
    refine ⟨m1, X5.ns, fun h6 hs6 => done ys k g1 m1 led1 h6 _ hs hJ1 ?_⟩
    have l6 : h6.get? L = some oL := (hs6.2 L hLL).trans (X5.at_ (L, oL) (.head _))
    refine ⟨X.ns.at' (fun o e => by rw [hoL] at e; cases e; exact l6), fun b o e => hs6.extBut b o (fun q => by rw [q, X5.off] at e; cases e) (X5.keep b o e), (X5.sep (L, oL) (.head _)).2, fun p hp => ?_, fun p hp => ⟨fun e => ?_, (X5.sep p (.tail _ hp)).2⟩, (List.nodup_cons.mp X5.nd).2, X5.glob⟩
    · exact (hs6.2 p.1 (X5.sep p (.tail _ hp)).1).trans (X5.at_ p (.tail _ hp))
    · have := (List.nodup_cons.mp X5.nd).1
      exact this (by show L ∈ _; rw [← e]; exact List.mem_map_of_mem (f := (·.1)) hp)
  intro tk2
  refine codeAny_compStart_list (loop tk2) (wpAny_mono (it.self 0 h2 (fun v h' => v = .ref I ∧ h' = h2) stc ⟨rfl, rfl⟩ tk2) (fun v s3 H => ?_) fun _ _ x => noE_noted x)
  obtain ⟨h3, tk3, rfl, rfl, rfl⟩ := H
  exact loop tk3
end
end Mine
end
section
open PySem PySem.W PyProof.Rows PySem.Calls PyProof.V PySem.Spec
set_option Elab.async false
set_option maxRecDepth 100000
set_option maxHeartbeats 4000000
set_option linter.unusedVariables false
namespace Mine

/-- an exact list -/
def LX (o : Obj) (vs : List Value) : Prop := ∃ k, o = listO vs k
theorem LX.lw {o : Obj} {vs : List Value} (x : LX o vs) : LW o vs := let ⟨k, e⟩ := x; e ▸ ⟨rfl, k, rfl⟩
theorem LX.mk {vs : List Value} {k : Nat} : LX (listO vs k) vs := ⟨k, rfl⟩

section
variable {C : Cx} {A : Around} {E : Value → Heap → Prop} {g h : Heap} {L : Addr} {m : Str → Option Value} {led led' : List (Addr × Obj)} {env : Env}

/-! ## ints, strings -/
theorem I_shr {a b : Int} {t u : Tok} {Q : Value → Heap → Prop} (hb : 0 ≤ b) (hq : ∀ t, Q (.int (a.fdiv (2 ^ b.toNat)) t) h) : T C A (binaryOp .RShift (.int a t) (.int b u)) Q E h := fun _ => rshift_int hb ⟨_, _, rfl, hq _⟩
theorem I_and {a b : Int} {t u : Tok} {Q : Value → Heap → Prop} (hq : ∀ t, Q (.int (Builtin.bitAnd a b) t) h) : T C A (binaryOp .BitAnd (.int a t) (.int b u)) Q E h := fun _ => and_int ⟨_, _, rfl, hq _⟩
theorem I_or {a b : Int} {t u : Tok} {Q : Value → Heap → Prop} (hq : ∀ t, Q (.int (Builtin.bitOr a b) t) h) : T C A (binaryOp .BitOr (.int a t) (.int b u)) Q E h := fun _ => or_int ⟨_, _, rfl, hq _⟩
theorem I_pow {a b : Int} {t u : Tok} {Q : Value → Heap → Prop} (hb : 0 ≤ b) (hb2 : b ≤ 1000000) (ha : a.natAbs < 2 ^ 64) (hq : ∀ t, Q (.int (a ^ b.toNat) t) h) : T C A (binaryOp .Pow (.int a t) (.int b u)) Q E h := fun _ => pow_int_small hb hb2 ha ⟨_, _, rfl, hq _⟩
theorem O_eqS {x y : Str} {t u : Tok} {Q : Value → Heap → Prop} (hq : Q (.bool (x == y)) h) : T C A (compareOp .Eq (.str x t) (.str y u)) Q E h := fun _ => PyProof.Rows.eq_str ⟨_, _, rfl, hq⟩
theorem O_neS {x y : Str} {t u : Tok} {Q : Value → Heap → Prop} (hq : Q (.bool (x != y)) h) : T C A (compareOp .NotEq (.str x t) (.str y u)) Q E h := fun _ => PyProof.Rows.ne_str ⟨_, _, rfl, hq⟩
theorem O_addS {x y : Str} {t u : Tok} {Q : Value → Heap → Prop} (hz : x.length + y.length ≤ 1000) (hq : ∀ t, Q (.str (x ++ y) t) h) : T C A (binaryOp .Add (.str x t) (.str y u)) Q E h := fun tk => by
  refine PyProof.Rows.add_str (fun t' tk' => ⟨_, _, rfl, hq _⟩) (by rw [sizeLine_eq]; omega)
theorem C_str {a : Int} {t : Tok} {Q : Value → Heap → Prop} (h0 : 0 ≤ a) (h1 : a ≤ 1000) (hq : ∀ t, Q (.str (Str.ofString (toString a)) t) h) : T C A (call (.type "str") [.int a t]) Q E h := fun tk =>
  P.str_of_int (shown (N := 2 ^ 1920) (by omega) (by have : (1000 : Int) < 2 ^ 1920 := by decide +kernel
                                                     omega) (Int.le_refl _)) ⟨_, _, rfl, hq _⟩
theorem C_intB {b : Bool} {Q : Value → Heap → Prop} (hq : ∀ t, Q (.int (if b then 1 else 0) t) h) : T C A (call (.type "int") [.bool b]) Q E h := fun tk => call_int_bool ⟨_, _, rfl, hq _⟩

/-! ## lists -/
theorem C_len {l : Addr} {vs : Array Value} {Q : Value → Heap → Prop} (hl : h.IsList l vs) (hz : vs.size ≤ 1000) (hq : ∀ t, Q (.int vs.size t) h) : T C A (call (.builtin "len") [.ref l]) Q E h := fun tk =>
  call_len_list hl (by omega) ⟨_, _, rfl, hq _⟩
theorem C_lenL {l : Addr} {o : Obj} {vs : List Value} {Q : Value → Heap → Prop} (ho : h.get? l = some o) (hl : LW o vs) (hz : vs.length ≤ 1000) (hq : ∀ t, Q (.int vs.length t) h) : T C A (call (.builtin "len") [.ref l]) Q E h :=
  C_len (hl.isList ho) (by simpa using hz) (by simpa using hq)
theorem C_listL {l : Addr} {o : Obj} {vs : List Value} {Q : Value → Heap → Prop} (X : W C g L m led h) (ho : h.get? l = some o) (hl : LW o vs) (hz : vs.length ≤ 1000)
    (hq : ∀ h' a k, W C g L m ((a, listO vs k) :: led) h' → (∀ b o, h.get? b = some o → h'.get? b = some o) → Q (.ref a) h') : T C A (call (.type "list") [.ref l]) Q E h := fun tk => by
  obtain ⟨n, hd⟩ := hl.2
  refine call_list_seq l (.inl rfl) ho hl.1 hd (fun h' c' hk hS => ?_) (by rw [List.size_toArray, sizeLine_eq]; omega)
  refine ⟨_, _, rfl, hq h' _ c' ?_ hk⟩
  have Y := X.push (o := listO vs c')
  refine ⟨X.ns.keeps hk, fun b o e => hk b o (X.keep b o e), X.off, fun p hp => ?_, Y.sep, Y.nd, X.glob⟩
  rcases List.mem_cons.mp hp with rfl | hp
  · exact hS
  · exact hk _ _ (X.at_ p hp)
theorem M_pop {l : Addr} {vs : List Value} {k : Nat} {y : Value} {led' : List (Addr × Obj)} {Q : Value → Heap → Prop} (X : W C g L m led h) (u : Up l (listO (vs ++ [y]) k) (listO vs (k + 1)) led led') (hz : vs.length ≤ 900)
    (hq : ∀ h', W C g L m led' h' → Q y h') : T C A (call (.builtin "list.pop") [.ref l]) Q E h := fun tk =>
  Copied.pop_at (X.at_ _ u.mem) (by simp) (fun h' hs hg => ⟨_, _, rfl, hq h' (X.same u hs (by simpa using hg))⟩) (by rw [List.size_toArray, sizeLine_eq]; simp; omega)
theorem M_extend {l b : Addr} {vs ws : List Value} {k k2 : Nat} {led' : Nat → List (Addr × Obj)} {Q : Value → Heap → Prop} (X : W C g L m led h) (hb : h.get? b = some (listO ws k2)) (u : ∀ k', Up l (listO vs k) (listO (vs ++ ws) k') led (led' k')) (hz : vs.length + ws.length ≤ 900)
    (hq : ∀ h' k', W C g L m (led' k') h' → Q .none h') : T C A (call (.builtin "list.extend") [.ref l, .ref b]) Q E h := fun tk => by
  have hl := X.at_ _ (u 0).mem
  refine call_meets PySem.F.slot_list_extend ⟨_, hl, rfl⟩ PySem.F.entry_list_extend (PySem.F.args_list_extend_2 _ _)
    (PySem.AutoSeq1.list_extend_list_list_0 l vs.toArray k b ws.toArray k2 ?_ (by rw [List.size_toArray, sizeLine_eq]; omega) (by rw [List.size_toArray, List.size_toArray, sizeLine_eq]; omega)) ⟨hl, hb, ?_⟩
  · simp only [Bool.and_eq_true, Bool.not_eq_true', not_and, Bool.not_eq_true]
    intro _
    rw [List.size_toArray, List.size_toArray]
    unfold Builtin.List.listTooLong
    rw [sizeLine_eq]
    simp only [decide_eq_false_iff_not]
    omega
  · obtain ⟨k', e⟩ : ∃ k', (Obj.mapSeq (fun x => x ++ ws.toArray) (listO vs k)) = listO (vs ++ ws) k' := by
      refine ⟨if ((vs.toArray ++ ws.toArray).size == vs.toArray.size) = true then k else k + 1, ?_⟩
      have e : vs.toArray ++ ws.toArray = (vs ++ ws).toArray := by simp
      show ({ cls := .type "list", data := .seq (vs.toArray ++ ws.toArray) (if ((vs.toArray ++ ws.toArray).size == vs.toArray.size) = true then k else k + 1) } : Obj) = _
      rw [e]
    exact ⟨_, _, rfl, hq _ k' (X.same (u k') (Heap.SameBut.update ..) (by rw [Heap.get?_update_self _ hl (by rw [e]; rfl), e]))⟩
end
end Mine
end
section
open PySem PySem.W PyProof.Rows PySem.Calls PyProof.V PySem.Spec
set_option Elab.async false
set_option maxRecDepth 100000
set_option maxHeartbeats 4000000
set_option linter.unusedVariables false
namespace Mine

section
variable {C : Cx} {A : Around} {E : Value → Heap → Prop} {g h : Heap} {L : Addr} {m : Str → Option Value} {led led' : List (Addr × Obj)} {env : Env}

/-! ## tuples -/
theorem isTup_of {a : Addr} {vs : List Value} (ho : h.get? a = some (tupO vs)) : IsTup h a vs.toArray := ⟨_, ho, rfl, _, rfl⟩
theorem isTuple_of {a : Addr} {vs : List Value} (ho : h.get? a = some (tupO vs)) : h.IsTuple a vs.toArray := by first | exact isTup_of ho | exact ⟨_, ho, rfl, _, rfl⟩
theorem S_tup {value slice : Expr} {a : Addr} {vs : List Value} {k : Int} {t : Tok} {v : Value} {Q : Value → Heap → Prop} (ho : h.get? a = some (tupO vs))
    (h0 : 0 ≤ k) (hfit : k < 2 ^ 63) (hx : vs[k.toNat]? = some v) (hq : Q v h) (hs : subscripted slice false (.ref a) (.int k t) = operate [.ref a, .int k t] (getItem (.ref a) (.int k t)) := by kernel_rfl) :
    T C A (subscriptTail value slice (.ref a) (.int k t)) Q E h :=
  S_tail (fun tk => (isTup_of (h := (C.st h tk).heap) ho).typeIs) slot_tuple_getitem.lookup (fun _ => getItem_tuple (isTup_of ho) (by omega) hfit (seqIndex_of h0 (by
    have := (List.getElem?_eq_some_iff.mp hx).1
    rw [List.size_toArray]; omega)) (by simpa using hx) ⟨_, _, rfl, hq⟩) hs

/-! ## equality of data -/
/-! ## int in a list of ints -/
theorem ints_kf {vs : List Value} {ns : List Int} (hi : IntsAre vs ns) : kf_ints vs = true := by
  induction hi with
  | nil => rfl
  | cons _ _ _ ih => exact ih
theorem ints_at {vs : List Value} {ns : List Int} (hi : IntsAre vs ns) : ∀ j : Nat, ∀ v, vs[j]? = some v → ∃ n t, ns[j]? = some n ∧ v = .int n t := by
  induction hi with
  | nil => intro j v hv; cases hv
  | cons n t r ih =>
    intro j v hv
    cases j with
    | zero => cases hv; exact ⟨n, t, rfl, rfl⟩
    | succ j => exact ih j v hv
theorem O_inInts {l : Addr} {o : Obj} {vs : List Value} {ns : List Int} {k : Int} {t : Tok} {Q : Value → Heap → Prop} (ho : h.get? l = some o) (hl : LW o vs) (hi : IntsAre vs ns) (hq : Q (.bool (ns.contains k)) h) :
    T C A (compareOp .In (.int k t) (.ref l)) Q E h := fun tk => by
  have hkf := ints_kf hi
  have e : vs.any (isInt k) = ns.contains k := by
    clear hl hq hkf ho
    induction hi with
    | nil => rfl
    | cons n t r ih =>
      rw [List.any_cons, ih, List.contains_cons]
      congr 1
      show (n == k) = (k == n)
      exact Bool.beq_comm
  refine PySem.SeqInW.in_listW (isInt k) (fun y hy => kf_eq hkf y (by simpa using hy)) (hl.isList ho) ?_
  have : vs.toArray.any (isInt k) = ns.contains k := by rw [← e]; simp
  rw [this]; exact ⟨_, _, rfl, hq⟩

theorem M_remove {l : Addr} {vs : List Value} {ns : List Int} {i : Nat} {k : Nat} {x : Int} {t : Tok} {led' : Nat → List (Addr × Obj)} {Q : Value → Heap → Prop} (X : W C g L m led h) (hi : IntsAre vs ns) (hx : ns[i]? = some x) (hfst : ∀ j, j < i → ns[j]? ≠ some x)
    (u : ∀ k', Up l (listO vs k) (listO (vs.eraseIdx i) k') led (led' k')) (hz : vs.length ≤ 900) (hq : ∀ h' k', W C g L m (led' k') h' → Q .none h') : T C A (call (.builtin "list.remove") [.ref l, .int x t]) Q E h := fun tk => by
  have hl := X.at_ _ (u 0).mem
  have hkf := ints_kf hi
  have e : ∀ j : Nat, ∀ v, vs[j]? = some v → ∃ n, ns[j]? = some n ∧ isInt x v = (n == x) := fun j v hv => by
    obtain ⟨n, t, a, rfl⟩ := ints_at hi j v hv
    exact ⟨n, a, rfl⟩
  have hlt : i < vs.length := by
    rw [hi.length]; exact (List.getElem?_eq_some_iff.mp hx).1
  refine call_meets PySem.F.slot_list_remove ⟨_, hl, rfl⟩ PySem.F.entry_list_remove (PySem.F.args_list_remove_2 _ _)
    (MeetsSeq.list_remove l vs.toArray k (.int x t) (isInt x) (fun y hy => kf_eq hkf y (by simpa using hy)) i (by simpa using hlt) ?_ (fun j hj hji => ?_) (by rw [List.size_toArray, sizeLine_eq]; omega)) ⟨hl, ?_⟩
  · obtain ⟨n, h1, h2⟩ := e i vs[i] (by simp [hlt])
    rw [hx] at h1; cases h1
    simpa using h2
  · have hj' : j < vs.length := by simpa using hj
    obtain ⟨n, h1, h2⟩ := e j vs[j] (by simp [hj'])
    have : n ≠ x := fun q => hfst j hji (q ▸ h1)
    have h3 : isInt x vs[j] = false := by rw [h2]; simpa using this
    simpa using h3
  · obtain ⟨k', e⟩ : ∃ k', (Obj.mapSeq (fun xs => xs.eraseIdxIfInBounds i) (listO vs k)) = listO (vs.eraseIdx i) k' := by
      refine ⟨if ((vs.toArray.eraseIdxIfInBounds i).size == vs.toArray.size) = true then k else k + 1, ?_⟩
      have e : vs.toArray.eraseIdxIfInBounds i = (vs.eraseIdx i).toArray := by apply Array.toList_inj.mp; simp [Array.toList_eraseIdxIfInBounds]
      show ({ cls := .type "list", data := .seq (vs.toArray.eraseIdxIfInBounds i) (if ((vs.toArray.eraseIdxIfInBounds i).size == vs.toArray.size) = true then k else k + 1) } : Obj) = _
      rw [e]
    exact ⟨_, _, rfl, hq _ k' (X.same (u k') (Heap.SameBut.update ..) (by rw [Heap.get?_update_self _ hl (by rw [e]; rfl), e]))⟩

/-! ## dicts with keys of text -/
abbrev SD (C : Cx) (o : Obj) (kvs : List (Str × Value)) : Prop := o.IsDictOf (PySem.strKind C.prog C.w) kvs
theorem SD.empty : SD C dictO [] := ⟨#[], 0, ⟨rfl, rfl, rfl⟩, rfl, (fun _ he => by simp at he), .nil, List.nodup_nil⟩
abbrev Lo (d : Addr) : Prop := (d == sysModules) = false
theorem W.newLo (X : W C g L m led h) : Lo h.objs.size := by
  obtain ⟨p, l, me, mg, mb, t⟩ := X.glob.top
  have := modules_low (t.nolimit.keeps X.keep)
  exact beq_eq_false_iff_ne.mpr (Nat.ne_of_gt this)
theorem SD.of {d : Addr} {o : Obj} {kvs : List (Str × Value)} (x : SD C o kvs) (ho : h.get? d = some o) : h.DictOf (PySem.strKind C.prog C.w) d kvs := Heap.dictOf_iff.mpr ⟨o, ho, x⟩
theorem D_in {d : Addr} {o : Obj} {kvs : List (Str × Value)} {k : Str} {t : Tok} {Q : Value → Heap → Prop} (ho : h.get? d = some o) (hd : SD C o kvs) (lo : Lo d) (hq : Q (.bool (valueAt kvs k).isSome) h) : T C A (compareOp .In (.str k t) (.ref d)) Q E h := fun tk =>
  wpAny_in_of (strKind_is _ _ _ _) lo (hd.of (h := (C.st h tk).heap) ho).mapOf ⟨_, _, rfl, hq⟩
theorem D_notIn {d : Addr} {o : Obj} {kvs : List (Str × Value)} {k : Str} {t : Tok} {Q : Value → Heap → Prop} (ho : h.get? d = some o) (hd : SD C o kvs) (lo : Lo d) (hq : Q (.bool (!(valueAt kvs k).isSome)) h) : T C A (compareOp .NotIn (.str k t) (.ref d)) Q E h := fun tk =>
  wpAny_notIn_of (strKind_is _ _ _ _) lo (hd.of (h := (C.st h tk).heap) ho).mapOf ⟨_, _, rfl, hq⟩
theorem S_dict {value slice : Expr} {d : Addr} {o : Obj} {kvs : List (Str × Value)} {k : Str} {t : Tok} {v : Value} {Q : Value → Heap → Prop} (ho : h.get? d = some o) (hd : SD C o kvs) (hv : valueAt kvs k = some v) (hq : Q v h)
    (hs : subscripted slice false (.ref d) (.str k t) = operate [.ref d, .str k t] (getItem (.ref d) (.str k t)) := by kernel_rfl) : T C A (subscriptTail value slice (.ref d) (.str k t)) Q E h :=
  S_tail (fun tk => (hd.of (h := (C.st h tk).heap) ho).typeIs) slot_dict_getitem.lookup (fun tk => wpAny_getItem_of (strKind_is _ _ _ _) (hd.of (h := (C.st h tk).heap) ho).mapOf hv ⟨_, _, rfl, hq⟩) hs
theorem M_get {d : Addr} {o : Obj} {kvs : List (Str × Value)} {k : Str} {t : Tok} {dv : Value} {Q : Value → Heap → Prop} (ho : h.get? d = some o) (hd : SD C o kvs) (lo : Lo d) (hq : Q ((valueAt kvs k).getD dv) h) : T C A (call (.builtin "dict.get") [.ref d, .str k t, dv]) Q E h := fun tk =>
  have hD := hd.of (h := (C.st h tk).heap) ho
  call_meetsIn PySem.F.slot_dict_get hD.typeIs PySem.F.entry_dict_get (PySem.F.args_dict_get_3 _ _ _) (meets_dict_get_default _ d (strKind_is _ _ _ _) lo dv) ⟨_, hD.mapOf, _, _, rfl, hq⟩
theorem C_lenD {d : Addr} {o : Obj} {kvs : List (Str × Value)} {Q : Value → Heap → Prop} (ho : h.get? d = some o) (hd : SD C o kvs) (lo : Lo d) (hz : kvs.length ≤ 1000) (hq : ∀ t, Q (.int kvs.length t) h) : T C A (call (.builtin "len") [.ref d]) Q E h := fun tk =>
  call_len_dict lo (hd.of (h := (C.st h tk).heap) ho) (by omega) ⟨_, _, rfl, hq _⟩
theorem S_setDict {d : Addr} {o : Obj} {kvs : List (Str × Value)} {k : Str} {t : Tok} {v : Value} {led' : Obj → List (Addr × Obj)} {Q : Unit → Heap → Prop} (X : W C g L m led h) (u : ∀ o', Up d o o' led (led' o')) (hd : SD C o kvs) (hz : kvs.length ≤ 1000)
    (hq : ∀ h' o', SD C o' (stored kvs k v) → Heap.SameBut d h h' → W C g L m (led' o') h' → Q () h') : T C A (setItem (.ref d) (.str k t) v) Q E h := fun tk => by
  have ho := X.at_ _ (u o).mem
  refine wpAny_setItem_pairs (hsz := by rw [sizeLine_eq]; omega) (strKind_is _ _ _ _) (hd.of (h := (C.st h tk).heap) ho) fun h' hm hs => ?_
  obtain ⟨o', ho', hd'⟩ := Heap.dictOf_iff.mp hm
  exact ⟨_, _, rfl, hq h' o' hd' hs (X.same (u o') hs ho')⟩
theorem C_listD {d : Addr} {o : Obj} {kvs : List (Str × Value)} {Q : Value → Heap → Prop} (hA : A.handled = none) (X : W C g L m led h) (ho : h.get? d = some o) (hd : SD C o kvs) (lo : Lo d) (hz : kvs.length ≤ 1000)
    (hq : ∀ h' a vs k, W C g L m ((a, listO vs k) :: led) h' → (∀ b o, h.get? b = some o → h'.get? b = some o) → vs.length = kvs.length → (∀ (j : Nat) v, vs[j]? = some v → ∃ k x t, kvs[j]? = some (k, x) ∧ v = .str k t) → Q (.ref a) h') : T C A (call (.type "list") [.ref d]) Q E h := fun tk => by
  obtain ⟨ep, hat⟩ := (hd.of (h := (C.st h tk).heap) ho).dictAt
  refine kdl_call (kdl_dict (knd := PySem.strKind C.prog C.w) (kvs := kvs) (ep := ep) lo) hA hat (by rw [sizeLine_eq]; omega) fun h' tk' acc' c' hk hS hacc => ?_
  refine ⟨_, _, rfl, hq h' _ acc'.toList c' ?_ hk (by rw [Array.length_toList]; exact hacc.1) fun j v hv => ?_⟩
  · have Y := X.push (o := listO acc'.toList c')
    refine ⟨X.ns.keeps hk, fun b o e => hk b o (X.keep b o e), X.off, fun p hp => ?_, Y.sep, Y.nd, X.glob⟩
    rcases List.mem_cons.mp hp with rfl | hp
    · show h'.get? _ = some (listO acc'.toList c')
      simpa using hS
    · exact hk _ _ (X.at_ p hp)
  · obtain ⟨k, x, hx, hk⟩ := hacc.2 j v (by rw [← Array.getElem?_toList]; exact hv)
    obtain ⟨t, rfl⟩ := Value.isStrOf_shape hk
    exact ⟨k, x, t, hx, rfl⟩
end
end Mine
end
section
open PySem PySem.W PyProof.Rows PySem.Calls PyProof.V PySem.Spec
set_option Elab.async false
set_option maxRecDepth 100000
set_option maxHeartbeats 4000000
set_option linter.unusedVariables false
namespace Mine

/-- a dict as it lies -/
def RawAt (h : Heap) (d : Addr) (es : Array DictEntry) (ep : Nat) : Prop := ∃ o, h.get? d = some o ∧ o.ExactDict ∧ o.data = .dict es ep
theorem RawAt.keep {h h' : Heap} {d : Addr} {es : Array DictEntry} {ep : Nat} (x : RawAt h d es ep) (k : ∀ o, h.get? d = some o → h'.get? d = some o) : RawAt h' d es ep := let ⟨o, a, b⟩ := x; ⟨o, k o a, b⟩

section
variable {prog : Program} {w : World} {A : Around} {E : Value → Shared → Prop} {s : Shared}

theorem raw_iter {d : Addr} {es : Array DictEntry} {ep : Nat} {Q : Value → Shared → Prop} (lo : (d == sysModules) = false) (hm : RawAt s.heap d es ep)
    (hQ : Q (.ref s.heap.objs.size) { s with heap := s.heap.push { cls := .type "dict_keyiterator", data := .fields #[.ref d, .int 0 0, .int es.size 0, .int ep 0] } }) : wpAny (model prog w) A (pyIter (.ref d)) Q E s := by
  obtain ⟨o, ho, hc, hdat⟩ := hm
  have hT : s.TypeIs (.ref d) "dict" := ⟨o, ho, hc.1⟩
  refine wpAny_pyIter_slot hT F.slot_dict_iter (wpAny_call_entry F.slot_dict_iter hT F.entry_dict_iter ?_ (F.args_dict_iter_1 _))
  simp only [Builtin.«dict.__iter__», Builtin.Dict.dictSlotNone]
  refine wpAny_bind (wpAny_bind (wpAny_notOrdered_dict hT ?_))
  show wpAny _ _ (pure (Value.ref d)) _ _ s
  refine wpAny_pure ?_
  show wpAny _ _ (Builtin.Dict.showsAll d >>= _) _ _ s
  unfold Builtin.Dict.showsAll
  rw [if_neg (by rw [lo]; exact Bool.false_ne_true)]
  refine wpAny_bind (wpAny_pure (wpAny_bind (wpAny_dictEntries ho hdat (wpAny_bind (wpAny_dictEpoch ho hdat ?_)))))
  exact wpAny_bind (wpAny_newObj_type (wpAny_pure ⟨_, rfl, "dict_keyiterator", _, ⟨_, Heap.get?_push_size _ rfl, rfl⟩, F.slot_dict_keyiterator_next.lookup, by simpa [rawInt] using hQ⟩))

theorem raw_next {it d : Addr} {i ep : Nat} {es : Array DictEntry} {Q : Option Value → Shared → Prop} (hh : A.handled = none) (hit : s.heap.IsKeyIter it d i es.size ep) (hm : RawAt s.heap d es ep)
    (hsome : ∀ e h', es[i]? = some e → h'.IsKeyIter it d (i + 1) es.size ep → Heap.ExtBut it s.heap h' → Q (some e.key) { s with heap := h' })
    (hnone : es[i]? = none → ∀ h', Heap.ExtBut it s.heap h' → Q none { s with heap := h' }) : wpAny (model prog w) A (pyNext (.ref it)) Q E s := by
  obtain ⟨o, ho, hc, hd⟩ := id hit
  obtain ⟨od, hod, hcd, hdd⟩ := hm
  have nm : ∀ {s' : Shared} {Q' : String → Shared → Prop} {E' : Value → Shared → Prop} {A' : Around}, s'.TypeIs (.ref it) "dict_keyiterator" → Q' "dict_keyiterator" s' → wpAny (model prog w) A' (typeNameOfWhole (.ref it)) Q' E' s' := fun a b => wpAny_typeNameOfWhole_keyiter a b
  unfold pyNext
  refine wpAny_bind (wpAny_attempt (wpAny_callSpecial?_slot (name := Str.ofString "__next__") hit.typeIs F.slot_dict_keyiterator_next
    (wpAny_call_entry F.slot_dict_keyiterator_next hit.typeIs F.entry_dict_keyiterator_next ?_ (F.args_dict_keyiterator_next_1 _))))
  refine wpAny_bind (wpAny_pure (wpAny_bind (wpAny_bind (wpAny_bind (nm hit.typeIs (wpAny_pure (wpAny_bind (wpAny_fieldsOf ho hd ?_))))))))
  simp only [show Builtin.Dict_items.ownsTuple "dict_keyiterator" = false by decide, Bool.false_eq_true, if_false]
  show wpAny _ _ (if (Value.ref d == Value.none) = true then _ else _) _ _ s
  rw [if_neg (show ¬ ((Value.ref d == Value.none) = true) from Bool.false_ne_true)]
  refine wpAny_bind (wpAny_pure (wpAny_bind (wpAny_dictEntries hod hdd ?_)))
  rw [if_neg (by simp)]
  refine wpAny_bind (wpAny_pure (wpAny_bind (wpAny_dictEpoch hod hdd ?_)))
  rw [if_neg (by simp)]
  refine wpAny_pure ?_
  cases hi : es[i]? with
  | some e =>
    simp only [show ¬ ((i : Int) < 0) from by omega, if_false, Int.toNat_natCast, hi]
    refine wpAny_bind (wpAny_bind (nm hit.typeIs (wpAny_pure (wpAny_bind (wpAny_isOneOf_keyiter hit.typeIs ?_)))))
    show wpAny _ _ (setField (.ref it) 1 (rawInt ((i : Int) + 1)) >>= _) _ _ s
    refine wpAny_bind (wpAny_setField ho hd (by simp) ?_)
    have hit' : (s.heap.update it (Obj.mapFields (·.setIfInBounds 1 (rawInt ((i : Int) + 1))))).IsKeyIter it d (i + 1) es.size ep :=
      ⟨_, Heap.get?_update_self _ ho (Obj.isFreed_of_fields (Obj.data_mapFields hd _)), (Obj.cls_mapFields ..).trans hc, by rw [Obj.data_mapFields hd]; simp [rawInt]⟩
    refine wpAny_bind (wpAny_holding (wpAny_bind (wpAny_isOneOf_keyiter (s := { s with heap := s.heap.update it (Obj.mapFields (·.setIfInBounds 1 (rawInt ((i : Int) + 1)))) }) hit'.typeIs ?_)))
    show wpAny _ _ (pure e.key) _ _ _
    exact wpAny_pure (wpAny_pure ⟨_, rfl, wpAny_pure (hsome e _ hi hit' (Heap.SameBut.update ..).extBut)⟩)
  | none =>
    simp only [show ¬ ((i : Int) < 0) from by omega, if_false, Int.toNat_natCast, hi]
    refine wpAny_bind (wpAny_bind (nm hit.typeIs (wpAny_pure ?_)))
    show wpAny _ _ (setField (.ref it) 0 .none >>= _) _ _ s
    refine wpAny_bind (wpAny_setField ho hd (by simp) ?_)
    show wpAny _ _ (newExc (.type "StopIteration") [] >>= _) _ _ _
    refine wpAny_bind ?_
    simp only [newExc, newTuple]
    refine wpAny_bind (wpAny_newObj_type ?_ (by size_fits))
    refine wpAny_bind (m := firstArgMember _ _) (wpAny_of_eq (a := Value.none) (by first | rfl | (simp only [firstArgMember]; rfl)) (wpAny_newObj_type ?_ (by size_fits)))
    simp only [raiseNew]
    refine wpAny_bind (wpAny_handled ?_)
    rw [show A.in1.handled = none from hh]
    refine wpAny_bind (wpAny_pure (wpAny_throw ?_))
    refine wpAny_bind (wpAny_isInstance (T := "StopIteration") (b := true) ⟨_, Heap.get?_push_size _ rfl, rfl⟩ isSubtype_stop ?_)
    exact wpAny_pure (hnone hi _ (((Heap.SameBut.update ..).extBut.push _).push _))

theorem Walks.raw (hh : A.handled = none) (I d : Addr) (hne : d ≠ I) (es : Array DictEntry) (ep : Nat) :
    Walks prog w A I [I, d] [I] es.size (fun i v => ∃ e, es[i]? = some e ∧ v = e.key) (fun i h => h.IsKeyIter I d i es.size ep ∧ RawAt h d es ep) where
  sub := fun b hb => by simp at hb; simp [hb]
  frame := fun _ _ _ st hk => ⟨st.1.at fun o e => hk I (by simp) o e, st.2.keep fun o e => hk d (by simp) o e⟩
  item := fun i s Q E hi st hQ => raw_next hh st.1 st.2 (fun e h' he hit' hs' => hQ e.key h' s.toks ⟨e, he, rfl⟩ ⟨hit', st.2.keep fun o q => hs' d o hne q⟩ fun b o hb q => hs' b o (fun q => hb (by simp [q])) q)
    fun hn => absurd hi (by rw [Array.getElem?_eq_none_iff] at hn; omega)
  done := fun s Q E st hQ => raw_next hh st.1 st.2 (fun e h' he => by rw [Array.getElem?_eq_none (Nat.le_refl _)] at he; cases he) fun _ h' hs' => hQ h' s.toks fun b o hb q => hs' b o (fun q => hb (by simp [q])) q
  self := fun i s Q E st hQ => by
    refine wpAny_pyIter_slot st.1.typeIs F.slot_dict_keyiterator_iter (wpAny_call_entry F.slot_dict_keyiterator_iter st.1.typeIs F.entry_dict_keyiterator_iter ?_ (F.args_dict_keyiterator_iter_1 _))
    show wpAny _ _ (ret (.ref I)) _ _ s
    exact wpAny_pure ⟨_, rfl, "dict_keyiterator", _, st.1.typeIs, F.slot_dict_keyiterator_next.lookup, hQ⟩
end

/-! ## an iteration that is ready -/
section
variable {C : Cx} {A : Around} {E : Value → Heap → Prop} {g h : Heap} {L : Addr} {m : Str → Option Value} {led led' : List (Addr × Obj)} {env : Env}

def Ready (C : Cx) (A : Around) (target : Expr) (g : Heap) (L : Addr) (led : List (Addr × Obj)) (I : Addr) (n : Nat) (P : Nat → Heap → Value → Prop) (h : Heap) : Prop :=
  E3 fun fp wr St => A5 (It C A target I fp wr n P St) (St 0 h) (Apart wr g L led) (wr.Nodup) (∀ b ∈ fp, b ∉ wr → ∃ o, g.get? b = some o)

/-- pyIter's end -/
def Src (C : Cx) (A : Around) (target : Expr) (x : Value) (n : Nat) (P : Nat → Heap → Value → Prop) (g : Heap) (L : Addr) (m : Str → Option Value) (led : List (Addr × Obj)) (E : Value → Heap → Prop) (h : Heap) : Prop :=
  T C A (pyIter x) (fun itv h2 => E1 fun I => A4 (itv = .ref I) (W C g L m led h2) (∀ b o, h.get? b = some o → h2.get? b = some o) (Ready C A target g L led I n P h2)) E h

theorem src_list {x : Str} {p : Pos} {l : Addr} {o : Obj} {vs : List Value} (hA : A.handled = none) (X : W C g L m led h) (hl : g.get? l = some o) (ho : LW o vs) :
    Src C A (.Name x p) (.ref l) vs.length (fun i _ v => vs[i]? = some v) g L m led E h := fun tk => by
  have hls : (C.st h tk).heap.IsList l vs.toArray := ho.isList (X.keep _ _ hl)
  refine wpAny_pyIter_list hls ⟨_, _, rfl, _, rfl, (X.push (o := { cls := .type "list_iterator", data := .fields #[.ref l, .int 0 0] })).drop1, fun b o e => Heap.get?_push_of_some _ e, [h.objs.size, l], [h.objs.size], fun i h' => h'.IsListIter h.objs.size l i ∧ h'.IsList l vs.toArray, ?_, ⟨⟨_, Heap.get?_push_size _ rfl, rfl, rfl⟩, hls.at fun o e => Heap.get?_push_of_some _ e⟩, X.apartNew (o := dictO), by simp, ?_⟩
  · have hne : l ≠ h.objs.size := fun e => by have := X.keep _ _ hl; rw [e, get_size] at this; cases this
    have := It_list (C := C) (A := A) (items := vs.toArray) (target := .Name x p) hA hne fun i h v Q _ hq => go_name hq
    simpa using this
  · intro b hb hn
    rcases List.mem_cons.mp hb with e | hb
    · exact absurd (List.mem_singleton.mpr e) hn
    · rw [List.mem_singleton.mp hb]; exact ⟨o, hl⟩

theorem src_tuple {x : Str} {p : Pos} {l : Addr} {vs : List Value} (hA : A.handled = none) (X : W C g L m led h) (hl : g.get? l = some (tupO vs)) :
    Src C A (.Name x p) (.ref l) vs.length (fun i _ v => vs[i]? = some v) g L m led E h := fun tk => by
  have hls : (C.st h tk).heap.IsTuple l vs.toArray := isTuple_of (X.keep _ _ hl)
  refine wpAny_pyIter_tuple hls ⟨_, _, rfl, _, rfl, (X.push (o := { cls := .type "tuple_iterator", data := .fields #[.ref l, .int 0 0] })).drop1, fun b o e => Heap.get?_push_of_some _ e, [h.objs.size, l], [h.objs.size], fun i h' => h'.IsTupleIter h.objs.size l i ∧ h'.IsTuple l vs.toArray, ?_, ⟨⟨_, Heap.get?_push_size _ rfl, rfl, rfl⟩, hls.at fun o e => Heap.get?_push_of_some _ e⟩, X.apartNew (o := dictO), by simp, ?_⟩
  · have hne : l ≠ h.objs.size := fun e => by have := X.keep _ _ hl; rw [e, get_size] at this; cases this
    have := It.ofWalks (C := C) (target := .Name x p) (Walks.tuple (prog := C.prog) (w := C.w) hA h.objs.size l hne vs.toArray) (fun i h hs b hb => by
      rw [List.mem_singleton.mp hb]
      obtain ⟨⟨o, ho, _⟩, _⟩ := hs
      exact ⟨o, ho⟩) fun i h v Q _ hq => go_name hq
    simpa using this
  · intro b hb hn
    rcases List.mem_cons.mp hb with e | hb
    · exact absurd (List.mem_singleton.mpr e) hn
    · rw [List.mem_singleton.mp hb]; exact ⟨_, hl⟩

theorem src_range {x : Str} {p : Pos} {r : Addr} {n : Nat} {t1 t2 t3 : Tok} (hA : A.handled = none) (X : W C g L m led h)
    (hr : h.get? r = some { cls := .type "range", data := .fields #[.int 0 t1, .int n t2, .int 1 t3] }) (hn : n ≤ 1000) :
    Src C A (.Name x p) (.ref r) n (fun i _ v => ∃ t, v = .int i t) g L m led E h := fun tk => by
  have hsz : Builtin.Range.rangeSize 0 n 1 = (n : Int) := by rw [rangeSize_one]; split <;> omega
  have hsm : Builtin.Range.small 0 n 1 = true := by refine small_one ?_ ?_ ?_ ?_ <;> omega
  refine wpAny_pyIter_range (s := C.st h tk) hr hsm ?_
  rw [hsz]
  refine ⟨_, _, rfl, _, rfl, (X.push (o := { cls := .type "range_iterator", data := .fields #[rawInt 0, rawInt n, rawInt 1] })).drop1, fun b o e => Heap.get?_push_of_some _ e, [h.objs.size], [h.objs.size], fun i h' => IsRangeIter h' h.objs.size (0 + (i : Nat) * 1) ((n : Int) - (i : Nat)) 1, ?_, ?_, X.apartNew (o := dictO), by simp, fun b hb hn => absurd hb hn⟩
  · have := It.ofWalks (C := C) (target := .Name x p) (Walks.range (prog := C.prog) (w := C.w) hA h.objs.size 0 1 n) (fun i h hs b hb => by rw [List.mem_singleton.mp hb]; exact ⟨_, hs⟩) fun i h v Q _ hq => go_name hq
    refine ⟨this.frame, this.live, fun i h Q hi hs hq => this.item i h Q hi hs fun v h' hp hs' hk => hq v h' ?_ hs' hk, this.done, this.self⟩
    obtain ⟨t, rfl⟩ := hp
    have e : (0 + (i : Int) * 1) = i := by omega
    exact ⟨t, by rw [e]⟩
  · show IsRangeIter _ _ _ _ _
    simpa using Heap.get?_push_size h (o := { cls := .type "range_iterator", data := .fields #[rawInt 0, rawInt n, rawInt 1] }) rfl

theorem go_keys {elts : List Expr} {k : Nat} {p : Pos} {it d : Addr} {i n ep : Nat} {v : Value} {Q : Unit → Heap → Prop} (hi : h.IsKeyIter it d i n ep) (hv : ∃ a, v = .ref a) (hq : Q () h) : T C A (letOwnedTupleGo (.Tuple elts k p) (.ref it) v) Q noE h := by
  obtain ⟨a, rfl⟩ := hv
  obtain ⟨o, ho, hc, hd⟩ := hi
  show T C A (load it >>= fun o => _) Q noE h
  refine T_bind (T_load ho ?_)
  rw [hc, hd]
  dsimp only
  rw [if_neg (by simp)]
  exact T_pure hq

theorem src_raw {target : Expr} {d : Addr} {o : Obj} {es : Array DictEntry} {ep : Nat} (hA : A.handled = none) (X : W C g L m led h) (lo : Lo d) (hl : g.get? d = some o) (hx : o.ExactDict) (hd : o.data = .dict es ep)
    (ht : (∃ x p, target = .Name x p) ∨ ((∃ l k p, target = .Tuple l k p) ∧ ∀ e ∈ es.toList, ∃ a, e.key = .ref a)) :
    Src C A target (.ref d) es.size (fun i _ v => ∃ e, es[i]? = some e ∧ v = e.key) g L m led E h := fun tk => by
  have hls : RawAt (C.st h tk).heap d es ep := ⟨o, X.keep _ _ hl, hx, hd⟩
  refine raw_iter lo hls ⟨_, _, rfl, _, rfl, (X.push (o := { cls := .type "dict_keyiterator", data := .fields #[.ref d, .int 0 0, .int es.size 0, .int ep 0] })).drop1, fun b o e => Heap.get?_push_of_some _ e, [h.objs.size, d], [h.objs.size], fun i h' => h'.IsKeyIter h.objs.size d i es.size ep ∧ RawAt h' d es ep, ?_, ⟨⟨_, Heap.get?_push_size _ rfl, rfl, rfl⟩, hls.keep fun o e => Heap.get?_push_of_some _ e⟩, X.apartNew (o := dictO), by simp, ?_⟩
  · have hne : d ≠ h.objs.size := fun e => by have := X.keep _ _ hl; rw [e, get_size] at this; cases this
    have Wk := Walks.raw (prog := C.prog) (w := C.w) (A := A) hA h.objs.size d hne es ep
    refine ⟨Wk.frame, fun i h hs b hb => ?_, fun i h Q hi hs hq tk => Wk.item i _ _ _ hi hs fun v h' tk' hP hst hk => ⟨h', tk', rfl, v, rfl, ?_⟩, fun h Q hs hq tk => Wk.done _ _ _ hs fun h' tk' hk => ⟨h', tk', rfl, rfl, hq h' fun b o hb e => hk b o hb e⟩, fun i h Q hs hq tk => Wk.self i _ _ _ hs ⟨h, tk, rfl, hq⟩⟩
    · rw [List.mem_singleton.mp hb]
      obtain ⟨⟨o, ho, _⟩, _⟩ := hs
      exact ⟨o, ho⟩
    · have hq' := hq v h' hP hst fun b o hb e => hk b o hb e
      rcases ht with ⟨x, p, rfl⟩ | ⟨⟨l, k, p, rfl⟩, hr⟩
      · exact go_name hq'
      · obtain ⟨e, he, rfl⟩ := hP
        exact go_keys hst.1 (hr e (by rw [← Array.getElem?_toList] at he; exact List.mem_of_getElem? he)) hq'
  · intro b hb hn
    rcases List.mem_cons.mp hb with e | hb
    · exact absurd (List.mem_singleton.mpr e) hn
    · rw [List.mem_singleton.mp hb]; exact ⟨_, hl⟩

theorem src_strs {x : Str} {p : Pos} {d : Addr} {o : Obj} {kvs : List (Str × Value)} (hA : A.handled = none) (X : W C g L m led h) (lo : Lo d) (hl : g.get? d = some o) (hd : SD C o kvs) :
    Src C A (.Name x p) (.ref d) kvs.length (fun i _ v => ∃ k y t, kvs[i]? = some (k, y) ∧ v = .str k t) g L m led E h := by
  obtain ⟨es, ep, hx, hdat, hk, hp, hn⟩ := hd
  have hsz : es.size = kvs.length := by rw [← hp.length]; simp
  have := src_raw (C := C) (A := A) (E := E) (target := .Name x p) hA X lo hl hx hdat (.inl ⟨x, p, rfl⟩)
  rw [hsz] at this
  refine T_post this fun itv h2 ⟨I, e, X2, hk2, fp, wr, St, it, r1, r2, r3, r4⟩ => ⟨I, e, X2, hk2, fp, wr, St, ⟨it.frame, it.live, fun i h Q hi hs hq => it.item i h Q hi hs fun v h' hP hs' hk => hq v h' ?_ hs' hk, it.done, it.self⟩, r1, r2, r3, r4⟩
  obtain ⟨e, he, rfl⟩ := hP
  obtain ⟨⟨k, y⟩, hky⟩ : ∃ q, kvs[i]? = some q := ⟨kvs[i], by simp [hi]⟩
  have hkk := (hp.get? (by rw [Array.getElem?_toList]; exact he) hky).1
  obtain ⟨t, ht⟩ := Value.isStrOf_shape hkk
  exact ⟨k, y, t, hky, ht⟩

theorem C_enum {l : Addr} {o : Obj} {vs : List Value} {Q : Value → Heap → Prop} (hA : A.handled = none) (X : W C g L m led h) (hl : g.get? l = some o) (ho : LW o vs)
    (hq : ∀ h2 e, W C g L m led h2 → (∀ b o, h.get? b = some o → h2.get? b = some o) →
      (∀ elts k p E, Src C A (.Tuple elts k p) (.ref e) vs.length (fun i h' v => ∃ T t x, v = .ref T ∧ vs[i]? = some x ∧ h'.IsTuple T #[.int i t, x]) g L m led E h2) → Q (.ref e) h2) :
    T C A (call (.type "enumerate") [.ref l]) Q E h := fun tk => by
  have hls : (C.st h tk).heap.IsList l vs.toArray := ho.isList (X.keep _ _ hl)
  have hne : l ≠ h.objs.size := fun e => by have := X.keep _ _ hl; rw [e, get_size] at this; cases this
  have hlt : l < h.objs.size := Heap.lt_size (X.keep _ _ hl)
  have hne' : h.objs.size + 1 ≠ l := Nat.ne_of_gt (Nat.lt_succ_of_lt hlt)
  refine call_enumerate_list hls fun h' he hi hz hk => ⟨_, _, rfl, hq h' (h.objs.size + 1) ?_ hk fun elts k p E tk2 => ?_⟩
  · exact ⟨X.ns.keeps hk, fun b o e => hk b o (X.keep b o e), X.off, fun p hp => hk _ _ (X.at_ p hp), X.sep, X.nd, X.glob⟩
  · have D := Draws.list (prog := C.prog) (w := C.w) (A := A.in1) hA h.objs.size l hne vs.toArray
    have Wk := WalksT.enumerateD D (h.objs.size + 1) (Nat.succ_ne_self _) (by
      intro hm
      rcases List.mem_cons.mp hm with e | hm
      · exact Nat.succ_ne_self _ e
      · exact hne' (List.mem_singleton.mp hm)) (.head _)
    have X1 := X.push (o := dictO)
    have X2 := X1.push (o := dictO)
    rw [Heap.size_push] at X2
    refine wpAny_pyIter_enum (s := C.st h' tk2) he ?_
    refine ⟨h', tk2, rfl, _, rfl, ?_, (fun _ _ e => e), [h.objs.size + 1, h.objs.size, l], [h.objs.size + 1, h.objs.size], fun i h' => (∃ old, IsEnum h' (h.objs.size + 1) h.objs.size i old) ∧ (h'.IsListIter h.objs.size l i ∧ h'.IsList l vs.toArray), ?_, ⟨⟨_, he⟩, hi, hls.at fun o e => hk _ _ e⟩, ?_, ?_, ?_⟩
    · exact ⟨X.ns.keeps hk, fun b o e => hk b o (X.keep b o e), X.off, fun p hp => hk _ _ (X.at_ p hp), X.sep, X.nd, X.glob⟩
    · have := It.ofWalksT (C := C) (elts := elts) (k := k) (pos := p) Wk (fun i h hs b hb => by
        obtain ⟨⟨old, a⟩, b', _⟩ := hs
        rcases List.mem_cons.mp hb with rfl | hb
        · exact ⟨_, a⟩
        · rw [List.mem_singleton.mp hb]; obtain ⟨o, ho, _⟩ := b'; exact ⟨o, ho⟩)
      have e : vs.toArray.size = vs.length := by simp
      rw [← e]
      refine ⟨this.frame, this.live, fun i h Q hi hs hq => this.item i h Q hi hs fun v h' hp hs' hk => hq v h' ?_ hs' hk, this.done, this.self⟩
      obtain ⟨T, vals, rfl, ⟨t, x, hx, rfl⟩, hT⟩ := hp
      exact ⟨T, t, x, rfl, by simpa using hx, hT⟩
    · refine ⟨fun b hb => ?_, fun b hb => ?_, fun b hb hm => ?_⟩
      · rcases List.mem_cons.mp hb with rfl | hb
        · exact (X2.sep _ (.head _)).2
        · rw [List.mem_singleton.mp hb]; exact (X1.sep _ (.head _)).2
      · rcases List.mem_cons.mp hb with rfl | hb
        · exact (X2.sep _ (.head _)).1
        · rw [List.mem_singleton.mp hb]; exact (X1.sep _ (.head _)).1
      · have nd := List.nodup_cons.mp X2.nd
        rcases List.mem_cons.mp hb with rfl | hb
        · exact nd.1 (.tail _ hm)
        · rw [List.mem_singleton.mp hb] at hm; exact (List.nodup_cons.mp X1.nd).1 hm
    · refine List.nodup_cons.mpr ⟨fun hm => Nat.succ_ne_self _ (List.mem_singleton.mp hm), by simp⟩
    · intro b hb hn
      rcases List.mem_cons.mp hb with e | hb
      · exact absurd (e ▸ .head _) hn
      · rcases List.mem_cons.mp hb with e | hb
        · exact absurd (e ▸ .tail _ (.head _)) hn
        · rw [List.mem_singleton.mp hb]; exact ⟨o, hl⟩
end
end Mine
end
section
open PySem PySem.W PyProof.Rows PySem.Calls PyProof.V PySem.Spec
set_option Elab.async false
set_option maxRecDepth 100000
set_option maxHeartbeats 4000000
set_option linter.unusedVariables false
namespace Mine

section
variable {C : Cx} {A : Around} {E : Value → Heap → Prop} {g h : Heap} {L : Addr} {m : Str → Option Value} {led led' : List (Addr × Obj)} {env : Env}

theorem TL_src {target : Expr} {body : List Stmt} {x : Value} {n : Nat} {P : Nat → Heap → Value → Prop} {Q : Flow → Heap → Prop} (S : Src C A target x n P g L m led E h)
    (J : Nat → Heap → (Str → Option Value) → List (Addr × Obj) → Prop) (hJ : J 0 g m led)
    (turn : ∀ i v g1 m1 led1 own h1 K, Hid (Turn C L own g1 (J (i + 1)) Q) K → i < n → Sub g g1 → J i g1 m1 led1 → P i h1 v → W C g1 L m1 (own ++ led1) h1 →
      T C A (assign target env v) (fun _ h2 => T C A (execs body env) K noE h2) noE h1)
    (done : ∀ g1 m1 led1 h1, Sub g g1 → J n g1 m1 led1 → W C g1 L m1 led1 h1 → Q .next h1) :
    T C A (pyIter x) (fun itv h2 => TCL C A (.forLoop target itv body [] env) Q noE h2) E h :=
  T_post S fun itv h2 ⟨I, e, X2, _, fp, wr, St, it, st, ap, nd, hf⟩ => e ▸ TL_for it X2 st ap nd hf J hJ (fun i v g1 m1 led1 own h1 a b c d _ X => turn i v g1 m1 led1 own h1 _ (Hid.refl _) a b c d X) done

theorem LC_src {elt target iter : Expr} {ifs : List Expr} {scope : Scope} {pos : Pos} {x : Value} {n : Nat} {P : Nat → Heap → Value → Prop} {Q : Value → Heap → Prop} (S : Src C A target x n P g L m led E h) (hn : n ≤ 1000)
    (hcells : ∀ k h, pushCells h scope.names = h ∧ cellsFrom k scope.names (clOf env.cells scope.names []) = clOf env.cells scope.names [])
    (J : Nat → List Value → Heap → (Str → Option Value) → List (Addr × Obj) → Prop) (hJ : J 0 [] g (fun _ => none) led)
    (turn : ∀ i v ys k g1 m1 led1 own h1 Lc acc K K0, Hid (fun y h4 => CTurn C Lc own acc k ys g1 (J (i + 1)) (ys ++ [y]) h4) K → Hid (fun (_ : Unit) h3 => CTurn C Lc own acc k ys g1 (J (i + 1)) ys h3) K0 → i < n → Sub g g1 → J i ys g1 m1 led1 → P i h1 v → W C g1 Lc m1 (own ++ (acc, listO ys k) :: led1) h1 →
      T C A (assign target (compEnv scope (clOf env.cells scope.names []) Lc env) v) (fun _ h2 => T C A (tests ifs (compEnv scope (clOf env.cells scope.names []) Lc env)) (fun ok h3 => (ok = true → T C A (eval elt (compEnv scope (clOf env.cells scope.names []) Lc env)) K noE h3) ∧ (ok = false → K0 () h3)) noE h2) noE h1)
    (done : ∀ ys k g1 m1 led1 h1 acc, Sub g g1 → J n ys g1 m1 led1 → W C g1 L m ((acc, listO ys k) :: led1) h1 → Q (.ref acc) h1) :
    T C A (pyIter x) (fun itv h2 => LC C A env (.ListComp elt [⟨target, iter, ifs, 0⟩] scope pos) scope (clOf env.cells scope.names []) (newList []) Q itv h2) E h :=
  T_post S fun itv h2 ⟨I, e, X2, _, fp, wr, St, it, st, ap, nd, hf⟩ => e ▸ LC_intro it hn X2 st ap nd hf hcells J hJ (fun i v ys k g1 m1 led1 own h1 Lc acc a1 a2 a3 a4 X => turn i v ys k g1 m1 led1 own h1 Lc acc _ _ (Hid.refl _) (Hid.refl _) a1 a2 a3 a4 X) done

/-- a list's comprehension with one cell of its own -/
theorem LC_intro1 {elt target iter : Expr} {ifs : List Expr} {scope : Scope} {cl : List (Str × Addr)} {x1 : Str} {pos : Pos} {I : Addr} {fp wr : List Addr} {n : Nat} {P : Nat → Heap → Value → Prop} {St : Nat → Heap → Prop} {Q : Value → Heap → Prop} (it : It C A target I fp wr n P St) (hn : n ≤ 1000)
    (X : W C g L m led h) (hst : St 0 h) (ap : Apart wr g L led) (hwn : wr.Nodup) (hfp : ∀ b ∈ fp, b ∉ wr → ∃ o, g.get? b = some o) (hcells : ∀ k h, pushCells h scope.names = h.push cellO ∧ cellsFrom k scope.names cl = (x1, k) :: cl)
    (J : Nat → List Value → Heap → (Str → Option Value) → Addr → List (Addr × Obj) → Prop) (hJ : ∀ c, J 0 [] g (fun _ => none) c ((c, cellO) :: led))
    (turn : ∀ i v ys k g1 m1 led1 own h1 Lc acc c, i < n → Sub g g1 → J i ys g1 m1 c led1 → P i h1 v → W C g1 Lc m1 (own ++ (acc, listO ys k) :: led1) h1 →
      T C A (assign target (compEnv scope ((x1, c) :: cl) Lc env) v) (fun _ h2 => T C A (tests ifs (compEnv scope ((x1, c) :: cl) Lc env)) (fun ok h3 => (ok = true → T C A (eval elt (compEnv scope ((x1, c) :: cl) Lc env)) (fun y h4 => CTurn C Lc own acc k ys g1 (fun ys g m led => J (i + 1) ys g m c led) (ys ++ [y]) h4) noE h3) ∧ (ok = false → CTurn C Lc own acc k ys g1 (fun ys g m led => J (i + 1) ys g m c led) ys h3)) noE h2) noE h1)
    (done : ∀ ys k g1 m1 led1 h1 acc c, Sub g g1 → J n ys g1 m1 c led1 → W C g1 L m ((acc, listO ys k) :: led1) h1 → Q (.ref acc) h1) :
    LC C A env (.ListComp elt [⟨target, iter, ifs, 0⟩] scope pos) scope cl (newList []) Q (.ref I) h := by
  refine fun tk => wpAny_newObj_type ⟨_, tk, rfl, ?_⟩ (by show ([] : List Value).toArray.size ≤ sizeLine; exact Nat.zero_le _)
  refine T_newEnv ?_
  obtain ⟨oL, hoL⟩ := X.ldom
  have X1 := X.push (o := listO [] 0)
  have X2 := X1.push (o := dictO)
  have X3 := X2.push (o := cellO)
  have hsz : (h.push (listO [] 0)).objs.size = h.objs.size + 1 := Heap.size_push ..
  have hsz2 : ((h.push (listO [] 0)).push dictO).objs.size = (h.push (listO [] 0)).objs.size + 1 := Heap.size_push ..
  show TCL C A (.compStart _ 0 (.ref I) (.ref h.objs.size) { scope := relabel scope env, locals := (h.push (listO [] 0)).objs.size, globals := env.globals, cells := cellsFrom ((h.push (listO [] 0)).objs.size + 1) scope.names cl, qual := env.qual, func := none, code := env.code, frame := env.frame, builtins := env.builtins }) _ noE (pushCells ((h.push (listO [] 0)).push dictO) scope.names)
  rw [(hcells 0 _).1, (hcells _ h).2]
  rw [hsz2] at X3
  generalize hLc : (h.push (listO [] 0)).objs.size = Lc at X2 X3 hsz ⊢
  generalize hh3 : ((h.push (listO [] 0)).push dictO).push cellO = h3 at X3 ⊢
  have hLL : L ≠ Lc := Ne.symm (X2.sep _ (.head _)).1
  have kh : ∀ b o, h.get? b = some o → h3.get? b = some o := fun b o e => by rw [← hh3]; exact Heap.get?_push_of_some _ (Heap.get?_push_of_some _ (Heap.get?_push_of_some _ e))
  have nAt : ∀ b, h.objs.size ≤ b → h.get? b = none := fun b hb => by
    cases e : h.get? b with
    | none => rfl
    | some o => exact absurd (Heap.lt_size e) (Nat.not_lt.mpr hb)
  have wrn : ∀ b ∈ wr, ¬ h.objs.size ≤ b := fun b hb hle => by
    obtain ⟨o, ho⟩ := it.live _ _ hst b hb
    rw [nAt b hle] at ho; cases ho
  have sLc : h.objs.size ≤ Lc := hsz ▸ Nat.le_succ _
  have n3 := List.nodup_cons.mp X3.nd
  have n2 := List.nodup_cons.mp n3.2
  have Xc : W C g Lc (fun _ => none) ([(L, oL)] ++ (h.objs.size, listO [] 0) :: (Lc + 1, cellO) :: led) h3 := by
    refine ⟨?_, X3.keep, (X2.sep _ (.head _)).2, ?_, ?_, ?_, X.glob⟩
    · have := (Heap.Ns.new (h.push (listO [] 0)) (.type "dict")).push cellO
      rw [hLc, hh3] at this; exact this
    · intro p hp
      rcases List.mem_cons.mp hp with rfl | hp
      · exact kh _ _ hoL
      · rcases List.mem_cons.mp hp with rfl | hp
        · exact X3.at_ _ (.tail _ (.tail _ (.head _)))
        · rcases List.mem_cons.mp hp with rfl | hp
          · exact X3.at_ _ (.head _)
          · exact X3.at_ p (.tail _ (.tail _ (.tail _ hp)))
    · intro p hp
      rcases List.mem_cons.mp hp with rfl | hp
      · exact ⟨hLL, X.off⟩
      · rcases List.mem_cons.mp hp with rfl | hp
        · exact ⟨fun e => n2.1 (by rw [← e]; exact .head _), (X3.sep _ (.tail _ (.tail _ (.head _)))).2⟩
        · rcases List.mem_cons.mp hp with rfl | hp
          · exact ⟨Nat.succ_ne_self _, (X3.sep _ (.head _)).2⟩
          · exact ⟨fun e => n2.1 (by rw [← e]; exact .tail _ (List.mem_map_of_mem (f := (·.1)) hp)), (X3.sep p (.tail _ (.tail _ (.tail _ hp)))).2⟩
    · refine List.nodup_cons.mpr ⟨fun hm => ?_, List.nodup_cons.mpr ⟨fun hm => ?_, List.nodup_cons.mpr ⟨fun hm => n3.1 (.tail _ (.tail _ hm)), (List.nodup_cons.mp n2.2).2⟩⟩⟩
      · rcases List.mem_cons.mp hm with e | hm
        · exact (X1.sep _ (.head _)).1 e.symm
        · rcases List.mem_cons.mp hm with e | hm
          · exact (X3.sep _ (.head _)).1 e.symm
          · obtain ⟨p, hp, e⟩ := List.mem_map.mp hm
            exact (X.sep p hp).1 e
      · rcases List.mem_cons.mp hm with e | hm
        · exact n3.1 (e ▸ (List.Mem.tail _ (.head _) : h.objs.size ∈ List.map (fun x => x.fst) ((Lc, dictO) :: (h.objs.size, listO [] 0) :: led)))
        · exact (List.nodup_cons.mp n2.2).1 hm
  have apc : Apart wr g Lc ([(L, oL)] ++ (h.objs.size, listO [] 0) :: (Lc + 1, cellO) :: led) := by
    refine ⟨ap.g, fun b hb e => wrn b hb (e ▸ sLc), fun b hb hm => ?_⟩
    rcases List.mem_cons.mp hm with e | hm
    · exact ap.L b hb e
    · rcases List.mem_cons.mp hm with e | hm
      · exact wrn b hb (e ▸ Nat.le_refl _)
      · rcases List.mem_cons.mp hm with e | hm
        · exact wrn b hb (by rw [e]; exact Nat.le_succ_of_le sLc)
        · exact ap.led b hb hm
  have stc : St 0 h3 := it.frame _ _ _ hst fun b _ o e => kh b o e
  have loop : TCL C A (.compLoop (.ListComp elt [⟨target, iter, ifs, 0⟩] scope pos) 0 (.ref I) (.ref h.objs.size) (compEnv scope ((x1, Lc + 1) :: cl) Lc env)) (fun _ h' => ∃ m, h'.Ns Lc m ∧ ∀ h'', Heap.SameBut Lc h' h'' → Q (.ref h.objs.size) h'') noE h3 := by
    refine TL_comp it hn Xc stc apc hwn hfp (fun i ys g m led => J i ys g m (Lc + 1) led) (hJ _) (fun i v ys k g1 m1 led1 own h1 a b c d e => turn i v ys k g1 m1 led1 own h1 Lc _ _ a b c d e) ?_
    intro ys k g1 m1 led1 h1 hs hJ1 X5
    refine ⟨m1, X5.ns, fun h6 hs6 => done ys k g1 m1 led1 h6 _ (Lc + 1) hs hJ1 ?_⟩
    have l6 : h6.get? L = some oL := (hs6.2 L hLL).trans (X5.at_ (L, oL) (.head _))
    refine ⟨X.ns.at' (fun o e => by rw [hoL] at e; cases e; exact l6), fun b o e => hs6.extBut b o (fun q => by rw [q, X5.off] at e; cases e) (X5.keep b o e), (X5.sep (L, oL) (.head _)).2, fun p hp => ?_, fun p hp => ⟨fun e => ?_, (X5.sep p (.tail _ hp)).2⟩, (List.nodup_cons.mp X5.nd).2, X5.glob⟩
    · exact (hs6.2 p.1 (X5.sep p (.tail _ hp)).1).trans (X5.at_ p (.tail _ hp))
    · have := (List.nodup_cons.mp X5.nd).1
      exact this (by show L ∈ _; rw [← e]; exact List.mem_map_of_mem (f := (·.1)) hp)
  intro tk2
  refine codeAny_compStart_list (loop tk2) (wpAny_mono (it.self 0 h3 (fun v h' => v = .ref I ∧ h' = h3) stc ⟨rfl, rfl⟩ tk2) (fun v s3 H => ?_) fun _ _ x => noE_noted x)
  obtain ⟨h3', tk3, rfl, rfl, rfl⟩ := H
  exact loop tk3

theorem LC_src1 {elt target iter : Expr} {ifs : List Expr} {scope : Scope} {pos : Pos} {x : Value} {x1 : Str} {n : Nat} {P : Nat → Heap → Value → Prop} {Q : Value → Heap → Prop} (S : Src C A target x n P g L m led E h) (hn : n ≤ 1000)
    (hcells : ∀ k h, pushCells h scope.names = h.push cellO ∧ cellsFrom k scope.names (clOf env.cells scope.names []) = (x1, k) :: clOf env.cells scope.names [])
    (J : Nat → List Value → Heap → (Str → Option Value) → Addr → List (Addr × Obj) → Prop) (hJ : ∀ c, J 0 [] g (fun _ => none) c ((c, cellO) :: led))
    (turn : ∀ i v ys k g1 m1 led1 own h1 Lc acc c K K0, Hid (fun y h4 => CTurn C Lc own acc k ys g1 (fun ys g m led => J (i + 1) ys g m c led) (ys ++ [y]) h4) K → Hid (fun (_ : Unit) h3 => CTurn C Lc own acc k ys g1 (fun ys g m led => J (i + 1) ys g m c led) ys h3) K0 → i < n → Sub g g1 → J i ys g1 m1 c led1 → P i h1 v → W C g1 Lc m1 (own ++ (acc, listO ys k) :: led1) h1 →
      T C A (assign target (compEnv scope ((x1, c) :: clOf env.cells scope.names []) Lc env) v) (fun _ h2 => T C A (tests ifs (compEnv scope ((x1, c) :: clOf env.cells scope.names []) Lc env)) (fun ok h3 => (ok = true → T C A (eval elt (compEnv scope ((x1, c) :: clOf env.cells scope.names []) Lc env)) K noE h3) ∧ (ok = false → K0 () h3)) noE h2) noE h1)
    (done : ∀ ys k g1 m1 led1 h1 acc c, Sub g g1 → J n ys g1 m1 c led1 → W C g1 L m ((acc, listO ys k) :: led1) h1 → Q (.ref acc) h1) :
    T C A (pyIter x) (fun itv h2 => LC C A env (.ListComp elt [⟨target, iter, ifs, 0⟩] scope pos) scope (clOf env.cells scope.names []) (newList []) Q itv h2) E h :=
  T_post S fun itv h2 ⟨I, e, X2, _, fp, wr, St, it, st, ap, nd, hf⟩ => e ▸ LC_intro1 it hn X2 st ap nd hf hcells J hJ (fun i v ys k g1 m1 led1 own h1 Lc acc c a1 a2 a3 a4 X => turn i v ys k g1 m1 led1 own h1 Lc acc c _ _ (Hid.refl _) (Hid.refl _) a1 a2 a3 a4 X) done

/-! ## BoolOp -/
theorem T_isAnd {x y : Expr} {pos : Pos} {whole : Sem Value} {Q : Bool → Heap → Prop}
    (hx : T C A (isTrue x env (eval x env)) (fun b h' => (b = true → T C A (isTrue (.BoolOp .And [y] pos) env whole) Q E h') ∧ (b = false → Q false h')) E h) : T C A (isTrue (.BoolOp .And [x, y] pos) env whole) Q E h := fun tk => by
  refine isTrue_and (wpAny_mono (hx tk) (fun b s1 H => ?_) fun _ _ x => x)
  obtain ⟨h', tk', rfl, H1, H2⟩ := H
  cases b
  · exact ⟨_, _, rfl, H2 rfl⟩
  · exact H1 rfl tk'
theorem T_isAnd3 {x y z : Expr} {pos : Pos} {whole : Sem Value} {Q : Bool → Heap → Prop}
    (hx : T C A (isTrue x env (eval x env)) (fun b h' => (b = true → T C A (isTrue (.BoolOp .And [y, z] pos) env whole) Q E h') ∧ (b = false → Q false h')) E h) : T C A (isTrue (.BoolOp .And [x, y, z] pos) env whole) Q E h := fun tk => by
  refine isTrue_and (wpAny_mono (hx tk) (fun b s1 H => ?_) fun _ _ x => x)
  obtain ⟨h', tk', rfl, H1, H2⟩ := H
  cases b
  · exact ⟨_, _, rfl, H2 rfl⟩
  · exact H1 rfl tk'
theorem T_isAnd1 {x : Expr} {pos : Pos} {whole : Sem Value} {Q : Bool → Heap → Prop} (hx : T C A (isTrue x env (eval x env)) Q E h) : T C A (isTrue (.BoolOp .And [x] pos) env whole) Q E h := fun tk => by
  refine isTrue_and (wpAny_mono (hx tk) (fun b s1 H => ?_) fun _ _ x => x)
  obtain ⟨h', tk', rfl, H⟩ := H
  cases b
  · exact ⟨_, _, rfl, H⟩
  · exact isTrue_and_nil ⟨_, _, rfl, H⟩
theorem T_isOr {x y : Expr} {pos : Pos} {whole : Sem Value} {Q : Bool → Heap → Prop}
    (hx : T C A (isTrue x env (eval x env)) (fun b h' => (b = false → T C A (isTrue y env (eval y env)) Q E h') ∧ (b = true → Q true h')) E h) : T C A (isTrue (.BoolOp .Or [x, y] pos) env whole) Q E h := fun tk => by
  refine isTrue_or (wpAny_mono (hx tk) (fun b s1 H => ?_) fun _ _ x => x)
  obtain ⟨h', tk', rfl, H1, H2⟩ := H
  cases b
  · refine isTrue_or (wpAny_mono (H1 rfl tk') (fun b s1 H => ?_) fun _ _ x => x)
    obtain ⟨h', tk', rfl, H⟩ := H
    cases b
    · exact isTrue_or_nil ⟨_, _, rfl, H⟩
    · exact ⟨_, _, rfl, H⟩
  · exact ⟨_, _, rfl, H2 rfl⟩
theorem T_Or2 {x y : Expr} {pos : Pos} {Q : Value → Heap → Prop}
    (hx : T C A (eval x env) (fun v h1 => T C A (truthy v) (fun b h2 => (b = true → Q v h2) ∧ (b = false → T C A (eval y env) Q E h2)) E h1) E h) : T C A (eval (.BoolOp .Or [x, y] pos) env) Q E h := fun tk => by
  refine BoolOp_or (wpAny_mono (hx tk) (fun v s1 H => ?_) fun _ _ x => x)
  obtain ⟨h', tk', rfl, H⟩ := H
  refine wpAny_mono (H tk') (fun b s2 H => ?_) fun _ _ x => x
  obtain ⟨h2, tk2, rfl, H1, H2⟩ := H
  cases b
  · exact H2 rfl tk2
  · exact ⟨_, _, rfl, H1 rfl⟩
theorem T_And2 {x y : Expr} {pos : Pos} {Q : Value → Heap → Prop}
    (hx : T C A (eval x env) (fun v h1 => T C A (truthy v) (fun b h2 => (b = false → Q v h2) ∧ (b = true → T C A (eval y env) Q E h2)) E h1) E h) : T C A (eval (.BoolOp .And [x, y] pos) env) Q E h := fun tk => by
  refine BoolOp_and (wpAny_mono (hx tk) (fun v s1 H => ?_) fun _ _ x => x)
  obtain ⟨h', tk', rfl, H⟩ := H
  refine wpAny_mono (H tk') (fun b s2 H => ?_) fun _ _ x => x
  obtain ⟨h2, tk2, rfl, H1, H2⟩ := H
  cases b
  · exact ⟨_, _, rfl, H1 rfl⟩
  · exact H2 rfl tk2

/-! ## unpacking -/
theorem T_order_nil {xs : List Value} {Q : Unit → Heap → Prop} (hq : Q () h) : T C A (assignInOrder [] xs) Q E h := T_pure hq
theorem T_order_cons {t : Value → Sem Unit} {ts : List (Value → Sem Unit)} {x : Value} {xs : List Value} {Q : Unit → Heap → Prop} (hx : T C A (t x) (fun _ h1 => T C A (assignInOrder ts xs) Q E h1) E h) : T C A (assignInOrder (t :: ts) (x :: xs)) Q E h := fun tk =>
  assignInOrder_cons (wpAny_mono (hx tk) (fun _ s1 H => by obtain ⟨h', tk', rfl, H⟩ := H; exact H tk') fun _ _ x => x)
theorem T_assignTuple {elts : List Expr} {k : Nat} {p : Pos} {a : Addr} {vs : List Value} {Q : Unit → Heap → Prop} (hA : A.handled = none) (X : W C g L m led h) (ht : h.IsTuple a vs.toArray)
    (hn : (assignEach elts env).length = vs.length) (hstar : (assignEach elts env).findIdx? (·.1) = none)
    (hq : ∀ h', W C g L m led h' → (∀ b o, h.get? b = some o → h'.get? b = some o) → T C A (assignInOrder ((assignEach elts env).map (·.2)) vs) Q E h') : T C A (assign (.Tuple elts k p) env (.ref a)) Q E h := fun tk =>
  wpAny_assign_Tuple hA ht (by simpa using hn) hstar fun h' he => by
    have k : ∀ b o, h.get? b = some o → h'.get? b = some o := fun b o e => he b o (fun q => by rw [q] at e; have : h.get? h.objs.size = some o := e; rw [get_size] at this; cases this) e
    have := hq h' ⟨X.ns.keeps k, fun b o e => k b o (X.keep b o e), X.off, fun p hp => k _ _ (X.at_ p hp), X.sep, X.nd, X.glob⟩ k tk
    simpa using this
theorem T_Assign_Tuple {elts : List Expr} {k : Nat} {tpos pos : Pos} {value : Expr} {Q : Flow → Heap → Prop}
    (hx : T C A (eval value env) (fun v h1 => T C A (assign (.Tuple elts k tpos) env v) (fun _ => Q .next) E h1) E h)
    (hs : swapsWithSole [.Tuple elts k tpos] value pos.line env = pure false := by kernel_rfl)
    (hw : swappedStores [.Tuple elts k tpos] value env = pure none := by kernel_rfl) : T C A (exec (.Assign [.Tuple elts k tpos] value pos) env) Q E h := fun tk =>
  Assign_Tuple (wpAny_mono (hx tk) (fun v s1 H => by
    obtain ⟨h', tk', rfl, H⟩ := H
    exact wpAny_mono (H tk') (fun _ _ x => x) fun _ _ x => x) fun _ _ x => x) hs hw
end
end Mine
end
section
open PySem PySem.W PyProof.Rows PySem.Calls PyProof.V PySem.Spec
set_option Elab.async false
set_option maxRecDepth 100000
set_option maxHeartbeats 4000000
set_option linter.unusedVariables false
namespace Mine

section
variable {C : Cx} {A : Around} {E : Value → Heap → Prop} {g h : Heap} {L : Addr} {m : Str → Option Value} {led led' : List (Addr × Obj)} {env : Env}

def LU (C : Cx) (A : Around) (env : Env) (e : Expr) (scope : Scope) (cl : List (Str × Addr)) (newAcc : Sem Value) (use : Value → Sem Unit) (Q : Value → Heap → Prop) (itv : Value) (h2 : Heap) : Prop :=
  T C A newAcc (fun acc h3 => T C A (newFunctionEnv scope env.globals cl [] env.qual none .none (some env)) (fun cenv h4 =>
    TCL C A (.compStart e 0 itv acc { cenv with scope := relabel scope env }) (fun _ h' => T C A (use acc) (fun _ h'' => ∃ m, h''.Ns cenv.locals m ∧ ∀ h5, Heap.SameBut cenv.locals h'' h5 → Q .none h5) noE h') noE h4) noE h3) noE h2

theorem T_compreU {e : Expr} {scope : Scope} {pos : Pos} {newAcc first : Sem Value} {use : Value → Sem Unit} {gg : Comprehension} {gs : List Comprehension} {cl : List (Str × Addr)} {Q : Value → Heap → Prop} {E : Value → Heap → Prop}
    (hcl : clausesOf e = gg :: gs) (hs : ∀ x, foldedSetIterable gg.iter env x = pure x) (hclos : closureFor scope env = pure cl)
    (hkind : scope.kind = .function) (hnames : ∀ x ∈ scope.names, x.2 = .local → scope.names.lookup x.1 = some .local)
    (hx : T C A first (fun x h1 => T C A (pyIter x) (fun itv h2 => LU C A env e scope cl newAcc use Q itv h2) E h1) E h) : T C A (comprehension e scope env pos newAcc false first (some use)) Q E h := fun tk => by
  refine wpAny_comprehension_free (use := some use) hcl hs hclos hkind hnames (wpAny_mono (hx tk) (fun x s1 H => ?_) fun _ _ x => x)
  obtain ⟨h1, tk1, rfl, H⟩ := H
  refine wpAny_mono (H tk1) (fun itv s2 H => ?_) fun _ _ x => x
  obtain ⟨h2, tk2, rfl, H⟩ := H
  refine wpAny_mono (H tk2) (fun acc s3 H => ?_) fun _ _ x => ?_
  · obtain ⟨h3, tk3, rfl, H⟩ := H
    refine wpAny_mono (H tk3) (fun cenv s4 H => ?_) fun _ _ x => ?_
    · obtain ⟨h4, tk4, rfl, H⟩ := H
      refine codeAny_mono (H tk4) fun r s' z => ?_
      cases r with
      | ok f =>
        obtain ⟨h', tk', rfl, z⟩ := z
        refine wpAny_mono (z tk') (fun _ s'' z => ?_) fun _ _ x => ?_
        · obtain ⟨h', tk', rfl, m, hm, hq⟩ := z
          exact ⟨m, hm, fun h'' hs => ⟨h'', tk', rfl, hq h'' hs⟩⟩
        · obtain ⟨_, _, _, f⟩ := x; exact f.elim
      | error e => obtain ⟨_, _, _, f⟩ := z; exact f.elim
    · obtain ⟨_, _, _, f⟩ := x; exact f.elim
  · obtain ⟨_, _, _, f⟩ := x; exact f.elim

/-- x = [elt for ...] where the name is stored ahead of the frame's end -/
theorem T_AssignLComp {elt target iter : Expr} {ifs : List Expr} {scope : Scope} {y : Str} {yp cpos pos : Pos} {Q : Flow → Heap → Prop}
    (hx : T C A (eval iter env) (fun x h1 => T C A (pyIter x) (fun itv h2 => LU C A env (.ListComp elt [⟨target, iter, ifs, 0⟩] scope cpos) scope (clOf env.cells scope.names []) (newList []) (assign (.Name y yp) env) (fun _ => Q .next) itv h2) E h1) E h)
    (hclos : clOk env.cells scope.names = true)
    (hkind : scope.kind = .function) (hnames : (scope.names.all fun x => x.2 != .local || scope.names.lookup x.1 == some .local) = true)
    (hw : swapsWith (.ListComp elt [⟨target, iter, ifs, 0⟩] scope cpos) (some (.Name y yp)) pos.line env = pure true)
    (hs : ∀ x, foldedSetIterable iter env x = pure x := by intro _; kernel_rfl) : T C A (exec (.Assign [.Name y yp] (.ListComp elt [⟨target, iter, ifs, 0⟩] scope cpos) pos) env) Q E h := by
  rw [exec_Assign_Name_used _ _ _ _ hw, arm_evalThenUse_ListComp]
  refine T_bind (T_at (T_bind (T_bind (T_post (T_compreU (Q := fun _ => Q .next) rfl hs (closureFor_eq hclos) hkind (fun x hx hl => ?_) hx) fun _ _ H => T_pure (T_pure H)))))
  have := List.all_eq_true.mp hnames x hx
  simpa [hl] using this
theorem T_AssignDComp {kx vx target iter : Expr} {ifs : List Expr} {scope : Scope} {y : Str} {yp cpos pos : Pos} {Q : Flow → Heap → Prop}
    (hx : T C A (eval iter env) (fun x h1 => T C A (pyIter x) (fun itv h2 => LU C A env (.DictComp kx vx [⟨target, iter, ifs, 0⟩] scope cpos) scope (clOf env.cells scope.names []) newDict (assign (.Name y yp) env) (fun _ => Q .next) itv h2) E h1) E h)
    (hclos : clOk env.cells scope.names = true)
    (hkind : scope.kind = .function) (hnames : (scope.names.all fun x => x.2 != .local || scope.names.lookup x.1 == some .local) = true)
    (hw : swapsWith (.DictComp kx vx [⟨target, iter, ifs, 0⟩] scope cpos) (some (.Name y yp)) pos.line env = pure true)
    (hs : ∀ x, foldedSetIterable iter env x = pure x := by intro _; kernel_rfl) : T C A (exec (.Assign [.Name y yp] (.DictComp kx vx [⟨target, iter, ifs, 0⟩] scope cpos) pos) env) Q E h := by
  rw [exec_Assign_Name_used _ _ _ _ hw, arm_evalThenUse_DictComp]
  refine T_bind (T_at (T_bind (T_bind (T_post (T_compreU (Q := fun _ => Q .next) rfl hs (closureFor_eq hclos) hkind (fun x hx hl => ?_) hx) fun _ _ H => T_pure (T_pure H)))))
  have := List.all_eq_true.mp hnames x hx
  simpa [hl] using this

theorem W.useBack {g1 h1 : Heap} {L Lc : Addr} {m1 : Str → Option Value} {led5 : List (Addr × Obj)} {oL : Obj} {y : Str} {yp : Pos} {v : Value} {Q : Value → Heap → Prop} (hns : h.Ns L m) (hoL : h.get? L = some oL) (X5 : W C g1 Lc m1 ((L, oL) :: led5) h1)
    (hy : env.kindOf y = some .local) (hp : (env.scope.kind == .class || (env.scope.kind == .module && env.locals != env.globals)) = false) (hL : env.locals = L)
    (hq : ∀ h6, W C g1 L (upd m y v) led5 h6 → Q .none h6) :
    T C A (assign (.Name y yp) env v) (fun _ h'' => ∃ m, h''.Ns Lc m ∧ ∀ h5, Heap.SameBut Lc h'' h5 → Q .none h5) noE h1 := by
  subst hL
  have hns1 : h1.Ns env.locals m := hns.at' (fun o e => by rw [hoL] at e; cases e; exact X5.at_ (env.locals, oL) (.head _))
  have hne : env.locals ≠ Lc := (X5.sep _ (.head _)).1
  refine assign_Name fun tk => wpAny_storeName_local hy hns1 (fun h' hn hs => ⟨h', _, rfl, m1, X5.ns.sameBut hs (Ne.symm hne), fun h5 hs5 => hq h5 ?_⟩) hp
  have nd := List.nodup_cons.mp X5.nd
  refine ⟨hn.sameBut hs5 hne, fun b o e => ?_, (X5.sep _ (.head _)).2, fun p hp => ?_, fun p hp => ⟨fun e => nd.1 (by show env.locals ∈ _; rw [← e]; exact List.mem_map_of_mem (f := (·.1)) hp), (X5.sep p (.tail _ hp)).2⟩, nd.2, X5.glob⟩
  · have e1 : b ≠ env.locals := fun q => by rw [q, (X5.sep _ (.head _)).2] at e; cases e
    have e2 : b ≠ Lc := fun q => by rw [q, X5.off] at e; cases e
    exact (hs5.2 b e2).trans ((hs.2 b e1).trans (X5.keep b o e))
  · have e1 : p.1 ≠ env.locals := fun e => nd.1 (by show env.locals ∈ _; rw [← e]; exact List.mem_map_of_mem (f := (·.1)) hp)
    exact (hs5.2 _ (X5.sep p (.tail _ hp)).1).trans ((hs.2 _ e1).trans (X5.at_ p (.tail _ hp)))

theorem LU_intro {elt target iter : Expr} {ifs : List Expr} {scope : Scope} {cl : List (Str × Addr)} {pos : Pos} {I : Addr} {fp wr : List Addr} {n : Nat} {P : Nat → Heap → Value → Prop} {St : Nat → Heap → Prop} {Q : Value → Heap → Prop} {y : Str} {yp : Pos} (it : It C A target I fp wr n P St) (hn : n ≤ 1000)
    (X : W C g L m led h) (hst : St 0 h) (ap : Apart wr g L led) (hwn : wr.Nodup) (hfp : ∀ b ∈ fp, b ∉ wr → ∃ o, g.get? b = some o) (hcells : ∀ k h, pushCells h scope.names = h ∧ cellsFrom k scope.names cl = cl)
    (J : Nat → List Value → Heap → (Str → Option Value) → List (Addr × Obj) → Prop) (hJ : J 0 [] g (fun _ => none) led)
    (turn : ∀ i v ys k g1 m1 led1 own h1 Lc acc, i < n → Sub g g1 → J i ys g1 m1 led1 → P i h1 v → W C g1 Lc m1 (own ++ (acc, listO ys k) :: led1) h1 →
      T C A (assign target (compEnv scope cl Lc env) v) (fun _ h2 => T C A (tests ifs (compEnv scope cl Lc env)) (fun ok h3 => (ok = true → T C A (eval elt (compEnv scope cl Lc env)) (fun y h4 => CTurn C Lc own acc k ys g1 (J (i + 1)) (ys ++ [y]) h4) noE h3) ∧ (ok = false → CTurn C Lc own acc k ys g1 (J (i + 1)) ys h3)) noE h2) noE h1)
    (done : ∀ ys k g1 m1 led1 h1 acc, Sub g g1 → J n ys g1 m1 led1 → W C g1 L (upd m y (.ref acc)) ((acc, listO ys k) :: led1) h1 → Q .none h1)
    (hy : env.kindOf y = some .local) (hp : (env.scope.kind == .class || (env.scope.kind == .module && env.locals != env.globals)) = false) (hL : env.locals = L) :
    LU C A env (.ListComp elt [⟨target, iter, ifs, 0⟩] scope pos) scope cl (newList []) (assign (.Name y yp) env) Q (.ref I) h := by
  refine fun tk => wpAny_newObj_type ⟨_, tk, rfl, ?_⟩ (by show ([] : List Value).toArray.size ≤ sizeLine; exact Nat.zero_le _)
  refine T_newEnv ?_
  obtain ⟨oL, hoL⟩ := X.ldom
  have X1 := X.push (o := listO [] 0)
  have X2 := X1.push (o := dictO)
  have hsz : (h.push (listO [] 0)).objs.size = h.objs.size + 1 := Heap.size_push ..
  show TCL C A (.compStart _ 0 (.ref I) (.ref h.objs.size) { scope := relabel scope env, locals := (h.push (listO [] 0)).objs.size, globals := env.globals, cells := cellsFrom ((h.push (listO [] 0)).objs.size + 1) scope.names cl, qual := env.qual, func := none, code := env.code, frame := env.frame, builtins := env.builtins }) _ noE (pushCells ((h.push (listO [] 0)).push dictO) scope.names)
  rw [(hcells 0 _).1, (hcells _ h).2]
  generalize hLc : (h.push (listO [] 0)).objs.size = Lc at X2 ⊢
  generalize hh2 : (h.push (listO [] 0)).push dictO = h2 at X2 ⊢
  have hne : h.objs.size ≠ Lc := by rw [← hLc, hsz]; exact Nat.ne_of_lt (Nat.lt_succ_self _)
  have hLL : L ≠ Lc := Ne.symm (X2.sep _ (.head _)).1
  have kh : ∀ b o, h.get? b = some o → h2.get? b = some o := fun b o e => by rw [← hh2]; exact Heap.get?_push_of_some _ (Heap.get?_push_of_some _ e)
  have nLc : h.get? Lc = none := by
    cases e : h.get? Lc with
    | none => rfl
    | some o => exact absurd (Heap.lt_size e) (by rw [← hLc, hsz]; exact Nat.not_lt.mpr (Nat.le_succ _))
  have wrLc : ∀ b ∈ wr, b ≠ Lc ∧ b ≠ h.objs.size := fun b hb => by
    obtain ⟨o, ho⟩ := it.live _ _ hst b hb
    exact ⟨fun e => (by rw [e, nLc] at ho; cases ho), fun e => (by rw [e, get_size] at ho; cases ho)⟩
  have Xc : W C g Lc (fun _ => none) ([(L, oL)] ++ (h.objs.size, listO [] 0) :: led) h2 := by
    refine ⟨?_, X2.keep, (X2.sep _ (.head _)).2, ?_, ?_, ?_, X2.glob⟩
    · have := Heap.Ns.new (h.push (listO [] 0)) (.type "dict")
      rw [hLc, hh2] at this; exact this
    · intro p hp
      rcases List.mem_cons.mp hp with rfl | hp
      · exact kh _ _ hoL
      · exact X2.at_ p (.tail _ hp)
    · intro p hp
      rcases List.mem_cons.mp hp with rfl | hp
      · exact ⟨hLL, X.off⟩
      · refine ⟨fun e => ?_, (X2.sep p (.tail _ hp)).2⟩
        have := (List.nodup_cons.mp X2.nd).1
        exact this (by rw [← e]; exact List.mem_map_of_mem (f := (·.1)) hp)
    · refine List.nodup_cons.mpr ⟨fun hm => ?_, (List.nodup_cons.mp X2.nd).2⟩
      obtain ⟨p, hp, e⟩ := List.mem_map.mp hm
      exact (X2.sep p (.tail _ hp)).1 e
  have apc : Apart wr g Lc ([(L, oL)] ++ (h.objs.size, listO [] 0) :: led) := by
    refine ⟨ap.g, fun b hb => (wrLc b hb).1, fun b hb hm => ?_⟩
    rcases List.mem_cons.mp hm with e | hm
    · exact ap.L b hb e
    · rcases List.mem_cons.mp hm with e | hm
      · exact (wrLc b hb).2 e
      · exact ap.led b hb hm
  have stc : St 0 h2 := it.frame _ _ _ hst fun b _ o e => kh b o e
  have loop : TCL C A (.compLoop (.ListComp elt [⟨target, iter, ifs, 0⟩] scope pos) 0 (.ref I) (.ref h.objs.size) (compEnv scope cl Lc env)) (fun _ h' => T C A (assign (.Name y yp) env (.ref h.objs.size)) (fun _ h'' => ∃ m, h''.Ns Lc m ∧ ∀ h5, Heap.SameBut Lc h'' h5 → Q .none h5) noE h') noE h2 := by
    refine TL_comp it hn Xc stc apc hwn hfp J hJ (fun i v ys k g1 m1 led1 own h1 a b c d e => turn i v ys k g1 m1 led1 own h1 Lc _ a b c d e) ?_
    intro ys k g1 m1 led1 h1 hs hJ1 X5
    exact W.useBack X.ns hoL X5 hy hp hL fun h6 X6 => done ys k g1 m1 led1 h6 _ hs hJ1 X6
  intro tk2
  refine codeAny_compStart_list (loop tk2) (wpAny_mono (it.self 0 h2 (fun v h' => v = .ref I ∧ h' = h2) stc ⟨rfl, rfl⟩ tk2) (fun v s3 H => ?_) fun _ _ x => noE_noted x)
  obtain ⟨h3, tk3, rfl, rfl, rfl⟩ := H
  exact loop tk3

theorem LU_src {elt target iter : Expr} {ifs : List Expr} {scope : Scope} {pos : Pos} {x : Value} {n : Nat} {P : Nat → Heap → Value → Prop} {Q : Value → Heap → Prop} {y : Str} {yp : Pos} (S : Src C A target x n P g L m led E h) (hn : n ≤ 1000)
    (hcells : ∀ k h, pushCells h scope.names = h ∧ cellsFrom k scope.names (clOf env.cells scope.names []) = clOf env.cells scope.names [])
    (J : Nat → List Value → Heap → (Str → Option Value) → List (Addr × Obj) → Prop) (hJ : J 0 [] g (fun _ => none) led)
    (turn : ∀ i v ys k g1 m1 led1 own h1 Lc acc K K0, Hid (fun y h4 => CTurn C Lc own acc k ys g1 (J (i + 1)) (ys ++ [y]) h4) K → Hid (fun (_ : Unit) h3 => CTurn C Lc own acc k ys g1 (J (i + 1)) ys h3) K0 → i < n → Sub g g1 → J i ys g1 m1 led1 → P i h1 v → W C g1 Lc m1 (own ++ (acc, listO ys k) :: led1) h1 →
      T C A (assign target (compEnv scope (clOf env.cells scope.names []) Lc env) v) (fun _ h2 => T C A (tests ifs (compEnv scope (clOf env.cells scope.names []) Lc env)) (fun ok h3 => (ok = true → T C A (eval elt (compEnv scope (clOf env.cells scope.names []) Lc env)) K noE h3) ∧ (ok = false → K0 () h3)) noE h2) noE h1)
    (done : ∀ ys k g1 m1 led1 h1 acc, Sub g g1 → J n ys g1 m1 led1 → W C g1 L (upd m y (.ref acc)) ((acc, listO ys k) :: led1) h1 → Q .none h1)
    (hy : env.kindOf y = some .local) (hp : (env.scope.kind == .class || (env.scope.kind == .module && env.locals != env.globals)) = false) (hL : env.locals = L) :
    T C A (pyIter x) (fun itv h2 => LU C A env (.ListComp elt [⟨target, iter, ifs, 0⟩] scope pos) scope (clOf env.cells scope.names []) (newList []) (assign (.Name y yp) env) Q itv h2) E h :=
  T_post S fun itv h2 ⟨I, e, X2, _, fp, wr, St, it, st, ap, nd, hf⟩ => e ▸ LU_intro it hn X2 st ap nd hf hcells J hJ (fun i v ys k g1 m1 led1 own h1 Lc acc a1 a2 a3 a4 X => turn i v ys k g1 m1 led1 own h1 Lc acc _ _ (Hid.refl _) (Hid.refl _) a1 a2 a3 a4 X) done hy hp hL
end
end Mine
end
section
open PySem PySem.W PyProof.Rows PySem.Calls PyProof.V PySem.Spec
set_option Elab.async false
set_option maxRecDepth 100000
set_option maxHeartbeats 4000000
set_option linter.unusedVariables false
namespace Mine

section
variable {C : Cx} {A : Around} {E : Value → Heap → Prop} {g h : Heap} {L : Addr} {m : Str → Option Value} {led led' : List (Addr × Obj)} {env : Env}

/-- what a turn of a dict's comprehension leaves -/
def DTurn (C : Cx) (Lc : Addr) (own : List (Addr × Obj)) (acc : Addr) (o : Obj) (g1 : Heap) (J : Heap → (Str → Option Value) → List (Addr × Obj) → Prop) (h3 : Heap) : Prop :=
  E3 fun g2 m2 led2 => A3 (Sub g1 g2) (W C g2 Lc m2 (own ++ (acc, o) :: led2) h3) (J g2 m2 led2)

theorem TL_compD {kx vx target iter : Expr} {scope : Scope} {pos : Pos} {I acc : Addr} {fp wr : List Addr} {n : Nat} {P : Nat → Heap → Value → Prop} {St : Nat → Heap → Prop} {Q : Flow → Heap → Prop} {ext : List (Addr × Obj)} (it : It C A target I fp wr n P St) (hn : n ≤ 1000)
    (X : W C g L m (ext ++ (acc, dictO) :: led) h) (hst : St 0 h) (ap : Apart wr g L (ext ++ (acc, dictO) :: led)) (hwn : wr.Nodup) (hfp : ∀ b ∈ fp, b ∉ wr → ∃ o, g.get? b = some o)
    (J : Nat → List (Str × Value) → Heap → (Str → Option Value) → List (Addr × Obj) → Prop) (hJ : J 0 [] g m led)
    (turn : ∀ i v ys o g1 m1 led1 own h1, i < n → Sub g g1 → J i ys g1 m1 led1 → P i h1 v → W C g1 L m1 (own ++ (acc, o) :: led1) h1 →
      T C A (assign target env v) (fun _ h2 => T C A (eval kx env) (fun kv h3 => ∃ kk tt, kv = .str kk tt ∧ T C A (eval vx env) (fun y h4 => DTurn C L own acc o g1 (J (i + 1) (stored ys kk y)) h4) noE h3) noE h2) noE h1)
    (done : ∀ ys o g1 m1 led1 h1, Sub g g1 → SD C o ys → J n ys g1 m1 led1 → W C g1 L m1 (ext ++ (acc, o) :: led1) h1 → Q .next h1) :
    TCL C A (.compLoop (.DictComp kx vx [⟨target, iter, [], 0⟩] scope pos) 0 (.ref I) (.ref acc) env) Q noE h := by
  intro tk
  refine codeAny_loop rfl (fun k0 s' => E8 fun i ys o g' m' led' h' tk' => A10 (s' = C.st h' tk') (Sub g g') (SD C o ys) (W C g' L m' (ext ++ (acc, o) :: led') h') (Apart wr g' L (ext ++ (acc, o) :: led')) (St i h') (J i ys g' m' led') (ys.length ≤ i) (i ≤ n) (k0 = n + 1 - i)) ?_ (n + 1)
    ⟨0, [], dictO, g, m, led, h, tk, rfl, Sub.refl _, SD.empty, X, ap, hst, hJ, Nat.le_refl _, Nat.zero_le _, rfl⟩
  rintro k0 s' ⟨i, ys, o, g', m', led', h', tk', rfl, hs, hD, X', ap', hst', hJ', hys, hi, rfl⟩
  show wpAny _ A ((compTurn (.DictComp kx vx [⟨target, iter, [], 0⟩] scope pos) 0 (.ref I) (.ref acc) env).onRaise (fun x => do noteFrame x env; theTreesLotGoes x)) _ _ _
  refine wpAny_noted ?_
  rw [compTurn_dict]
  refine wpAny_bind (wpAny_standAt (wpAny_bind ?_))
  by_cases hlt : i < n
  · refine wpAny_mono (it.item i h' (fun v h2 => P i h2 v ∧ St (i + 1) h2 ∧ Keep wr h' h2) hlt hst' (fun v h2 a b c => ⟨a, b, c⟩) tk') (fun r s1 hr => ?_) fun _ _ x => noE_noted x
    obtain ⟨h1, tk1, rfl, v, rfl, hr⟩ := hr
    refine wpAny_bind (wpAny_mono (hr tk1) (fun _ s2 h2 => ?_) fun _ _ x => noE_noted x)
    obtain ⟨h2, tk2, rfl, hP, hst2, hk2⟩ := h2
    obtain ⟨own, he, hat⟩ := ownOf (it.live _ _ hst2)
    subst he
    have X2 := X'.addOwn hk2 hat hwn ap'
    rw [← List.append_assoc] at X2
    refine wpAny_bind (wpAny_mono (turn i v ys o g' m' led' (own ++ ext) h2 hlt hs hJ' hP X2 tk2) (fun _ s3 h3 => ?_) fun _ _ x => noE_noted x)
    obtain ⟨h3, tk3, rfl, H⟩ := h3
    refine wpAny_bind (m := forIn [] true _) (wpAny_pure (a := true) ?_)
    simp only [if_true]
    refine wpAny_bind (wpAny_bind (wpAny_mono (H tk3) (fun kv s4 h4 => ?_) fun _ _ x => noE_noted x))
    obtain ⟨h4, tk4, rfl, kk, tt, rfl, H⟩ := h4
    refine wpAny_bind (wpAny_holding (wpAny_mono (H tk4) (fun y s5 h5 => ?_) fun _ _ x => noE_noted x))
    obtain ⟨h5, tk5, rfl, g2, m2, led2, hs2, X5, hJ5⟩ := h5
    refine wpAny_bind (wpAny_standAt (wpAny_holding ?_))
    have ho5 : h5.get? acc = some o := X5.at_ (acc, o) (List.mem_append.mpr (.inr (.head _)))
    refine wpAny_dictSet_pairs (hsz := by rw [sizeLine_eq]; omega) (strKind_is C.prog C.w kk tt) (hD.of (h := (C.st h5 tk5).heap) ho5) fun h6 hm hs6 => ?_
    obtain ⟨o', ho', hD'⟩ := Heap.dictOf_iff.mp hm
    have X6 : W C g2 L m2 (own ++ ext ++ (acc, o') :: led2) h6 := X5.same (Up.app _ .here) hs6 ho'
    have stf : St (i + 1) h6 := by
      refine it.frame _ _ _ hst2 fun b hb o e => ?_
      by_cases hm : b ∈ own.map (·.1)
      · obtain ⟨p, hp, rfl⟩ := List.mem_map.mp hm
        rw [hat p hp] at e; cases e
        exact X6.at_ p (List.mem_append.mpr (.inl (List.mem_append.mpr (.inl hp))))
      · obtain ⟨o', ho'⟩ := hfp b hb hm
        have e1 := X6.keep b o' (hs2 b o' (hs b o' ho'))
        have e2 := X2.keep b o' (hs b o' ho')
        rw [e2] at e; cases e; exact e1
    rw [List.append_assoc] at X6
    have := stored_length_le ys kk y
    refine wpAny_pure ⟨rfl, n + 1 - (i + 1), by omega, i + 1, stored ys kk y, o', g2, m2, led2, h6, tk5 + 1, rfl, hs.trans hs2, hD', X6.dropOwn, X6.apartOwn, stf, hJ5, by omega, hlt, rfl⟩
  · have hin : i = n := by omega
    subst hin
    refine wpAny_mono (it.done h' (fun h2 => Keep wr h' h2) hst' (fun h2 c => c) tk') (fun r s1 hr => ?_) fun _ _ x => noE_noted x
    obtain ⟨h1, tk1, rfl, rfl, hk1⟩ := hr
    exact wpAny_pure ⟨h1, tk1, rfl, done ys o g' m' led' h1 hs hD hJ' (X'.keepOf hk1 ap')⟩

theorem LU_introD {kx vx target iter : Expr} {scope : Scope} {cl : List (Str × Addr)} {pos : Pos} {I : Addr} {fp wr : List Addr} {n : Nat} {P : Nat → Heap → Value → Prop} {St : Nat → Heap → Prop} {Q : Value → Heap → Prop} {y : Str} {yp : Pos} (it : It C A target I fp wr n P St) (hn : n ≤ 1000)
    (X : W C g L m led h) (hst : St 0 h) (ap : Apart wr g L led) (hwn : wr.Nodup) (hfp : ∀ b ∈ fp, b ∉ wr → ∃ o, g.get? b = some o) (hcells : ∀ k h, pushCells h scope.names = h ∧ cellsFrom k scope.names cl = cl)
    (J : Nat → List (Str × Value) → Heap → (Str → Option Value) → List (Addr × Obj) → Prop) (hJ : J 0 [] g (fun _ => none) led)
    (turn : ∀ i v ys o g1 m1 led1 own h1 Lc acc, i < n → Sub g g1 → J i ys g1 m1 led1 → P i h1 v → W C g1 Lc m1 (own ++ (acc, o) :: led1) h1 →
      T C A (assign target (compEnv scope cl Lc env) v) (fun _ h2 => T C A (eval kx (compEnv scope cl Lc env)) (fun kv h3 => ∃ kk tt, kv = .str kk tt ∧ T C A (eval vx (compEnv scope cl Lc env)) (fun y h4 => DTurn C Lc own acc o g1 (J (i + 1) (stored ys kk y)) h4) noE h3) noE h2) noE h1)
    (done : ∀ ys o g1 m1 led1 h1 acc, Sub g g1 → SD C o ys → Lo acc → J n ys g1 m1 led1 → W C g1 L (upd m y (.ref acc)) ((acc, o) :: led1) h1 → Q .none h1)
    (hy : env.kindOf y = some .local) (hp : (env.scope.kind == .class || (env.scope.kind == .module && env.locals != env.globals)) = false) (hL : env.locals = L) :
    LU C A env (.DictComp kx vx [⟨target, iter, [], 0⟩] scope pos) scope cl newDict (assign (.Name y yp) env) Q (.ref I) h := by
  refine fun tk => wpAny_newObj_type (T := "dict") (data := .dict #[]) ⟨_, tk, rfl, ?_⟩ (by size_fits)
  have lo := X.newLo
  refine T_newEnv ?_
  obtain ⟨oL, hoL⟩ := X.ldom
  have X1 := X.push (o := dictO)
  have X2 := X1.push (o := dictO)
  have hsz : (h.push (dictO)).objs.size = h.objs.size + 1 := Heap.size_push ..
  show TCL C A (.compStart _ 0 (.ref I) (.ref h.objs.size) { scope := relabel scope env, locals := (h.push (dictO)).objs.size, globals := env.globals, cells := cellsFrom ((h.push (dictO)).objs.size + 1) scope.names cl, qual := env.qual, func := none, code := env.code, frame := env.frame, builtins := env.builtins }) _ noE (pushCells ((h.push (dictO)).push dictO) scope.names)
  rw [(hcells 0 _).1, (hcells _ h).2]
  generalize hLc : (h.push (dictO)).objs.size = Lc at X2 ⊢
  generalize hh2 : (h.push (dictO)).push dictO = h2 at X2 ⊢
  have hne : h.objs.size ≠ Lc := by rw [← hLc, hsz]; exact Nat.ne_of_lt (Nat.lt_succ_self _)
  have hLL : L ≠ Lc := Ne.symm (X2.sep _ (.head _)).1
  have kh : ∀ b o, h.get? b = some o → h2.get? b = some o := fun b o e => by rw [← hh2]; exact Heap.get?_push_of_some _ (Heap.get?_push_of_some _ e)
  have nLc : h.get? Lc = none := by
    cases e : h.get? Lc with
    | none => rfl
    | some o => exact absurd (Heap.lt_size e) (by rw [← hLc, hsz]; exact Nat.not_lt.mpr (Nat.le_succ _))
  have wrLc : ∀ b ∈ wr, b ≠ Lc ∧ b ≠ h.objs.size := fun b hb => by
    obtain ⟨o, ho⟩ := it.live _ _ hst b hb
    exact ⟨fun e => (by rw [e, nLc] at ho; cases ho), fun e => (by rw [e, get_size] at ho; cases ho)⟩
  have Xc : W C g Lc (fun _ => none) ([(L, oL)] ++ (h.objs.size, dictO) :: led) h2 := by
    refine ⟨?_, X2.keep, (X2.sep _ (.head _)).2, ?_, ?_, ?_, X2.glob⟩
    · have := Heap.Ns.new (h.push (dictO)) (.type "dict")
      rw [hLc, hh2] at this; exact this
    · intro p hp
      rcases List.mem_cons.mp hp with rfl | hp
      · exact kh _ _ hoL
      · exact X2.at_ p (.tail _ hp)
    · intro p hp
      rcases List.mem_cons.mp hp with rfl | hp
      · exact ⟨hLL, X.off⟩
      · refine ⟨fun e => ?_, (X2.sep p (.tail _ hp)).2⟩
        have := (List.nodup_cons.mp X2.nd).1
        exact this (by rw [← e]; exact List.mem_map_of_mem (f := (·.1)) hp)
    · refine List.nodup_cons.mpr ⟨fun hm => ?_, (List.nodup_cons.mp X2.nd).2⟩
      obtain ⟨p, hp, e⟩ := List.mem_map.mp hm
      exact (X2.sep p (.tail _ hp)).1 e
  have apc : Apart wr g Lc ([(L, oL)] ++ (h.objs.size, dictO) :: led) := by
    refine ⟨ap.g, fun b hb => (wrLc b hb).1, fun b hb hm => ?_⟩
    rcases List.mem_cons.mp hm with e | hm
    · exact ap.L b hb e
    · rcases List.mem_cons.mp hm with e | hm
      · exact (wrLc b hb).2 e
      · exact ap.led b hb hm
  have stc : St 0 h2 := it.frame _ _ _ hst fun b _ o e => kh b o e
  have loop : TCL C A (.compLoop (.DictComp kx vx [⟨target, iter, [], 0⟩] scope pos) 0 (.ref I) (.ref h.objs.size) (compEnv scope cl Lc env)) (fun _ h' => T C A (assign (.Name y yp) env (.ref h.objs.size)) (fun _ h'' => ∃ m, h''.Ns Lc m ∧ ∀ h5, Heap.SameBut Lc h'' h5 → Q .none h5) noE h') noE h2 := by
    refine TL_compD it hn Xc stc apc hwn hfp J hJ (fun i v ys k g1 m1 led1 own h1 a b c d e => turn i v ys k g1 m1 led1 own h1 Lc _ a b c d e) ?_
    intro ys k g1 m1 led1 h1 hs hD1 hJ1 X5
    exact W.useBack X.ns hoL X5 hy hp hL fun h6 X6 => done ys k g1 m1 led1 h6 _ hs hD1 lo hJ1 X6
  intro tk2
  refine codeAny_compStart_dict (loop tk2) (wpAny_mono (it.self 0 h2 (fun v h' => v = .ref I ∧ h' = h2) stc ⟨rfl, rfl⟩ tk2) (fun v s3 H => ?_) fun _ _ x => noE_noted x)
  obtain ⟨h3, tk3, rfl, rfl, rfl⟩ := H
  exact loop tk3
end
end Mine
end
section
open PySem PySem.W PyProof.Rows PySem.Calls PyProof.V PySem.Spec
set_option Elab.async false
set_option maxRecDepth 100000
set_option maxHeartbeats 4000000
set_option linter.unusedVariables false
namespace Mine

section
variable {C : Cx} {A : Around} {E : Value → Heap → Prop} {g h : Heap} {L : Addr} {m : Str → Option Value} {led led' : List (Addr × Obj)} {env : Env}

theorem T_Expr {e : Expr} {pos : Pos} {Q : Flow → Heap → Prop} (hx : T C A (eval e env) (fun v h1 => (v = .none ∨ ∃ i t, v = .int i t) ∧ Q .next h1) E h)
    (hi : interactive env = false := by kernel_rfl) (hs : swapsWith e none pos.line env = pure false := by kernel_rfl) : T C A (exec (.Expr e pos) env) Q E h := by
  rw [exec_Expr env e pos hi hs]
  refine T_bind (T_at (T_bind (T_post hx fun v h1 H => ?_)))
  obtain ⟨rfl | ⟨i, t, rfl⟩, hq⟩ := H
  · unfold dropValue
    cases e <;> first | exact T_pure hq | exact T_bind (T_pure (T_pure hq))
  · unfold dropValue
    cases e <;> first | exact T_pure hq | exact T_bind (T_pure (T_pure hq))

/-! ## calls of built-in names -/
theorem T_B1 {x : Str} {f : Value} {np pos : Pos} {e : Expr} {Q : Value → Heap → Prop} (X : W C g L m led h) (hb : bootBuiltins x = some f) (hn : nsIn (KF C) mainGlobals x = some none) (hk : Kp C f (fun _ => True))
    (hx : T C A (eval e env) (fun v h1 => T C A (call f [v] []) Q E h1) E h)
    (hkf : env.scope.kind = .function := by kernel_rfl) (hxk : env.kindOf x = some .globalImplicit := by kernel_rfl) (hg : env.globals = mainGlobals := by kernel_rfl) (hg' : env.builtins = builtinsNs := by kernel_rfl) (hne : x ≠ "__name__" := by decide) (hd : (x == ("__debug__" : Str)) = false := by kernel_rfl)
    (he : starEach [e] env = (false, eval e env) :: starEach [] env := by kernel_rfl) : T C A (eval (.Call (.Name x np) [e] [] pos) env) Q E h :=
  T_CallName (T_ldb X hn hb (T_callWith hk (T_spl (T_post hx fun v h1 H => T_spl_nil ⟨trivial, H⟩) he) he rfl) hkf hxk hg hg' hne hd)

/-- a call of a function of the program: one, two arguments -/
theorem T_F1 {x : Str} {f : Addr} {np pos : Pos} {e : Expr} {Q : Value → Heap → Prop} (X : W C g L m led h) (hn : nsIn (KF C) mainGlobals x = some (some (.ref f))) (hk : keepIn (KF C) (.ref f) = true)
    (hx : T C A (eval e env) (fun v h1 => (KF C).In h1 ∧ T C A (call (.ref f) [v] []) Q E h1) E h)
    (hkf : env.scope.kind = .function := by kernel_rfl) (hxk : env.kindOf x = some .globalImplicit := by kernel_rfl) (hg : env.globals = mainGlobals := by kernel_rfl) (hd : (x == ("__debug__" : Str)) = false := by kernel_rfl)
    (he : starEach [e] env = (false, eval e env) :: starEach [] env := by kernel_rfl) : T C A (eval (.Call (.Name x np) [e] [] pos) env) Q E h :=
  T_CallName (T_ldg X hn (T_callWith (Kp.fn hk) (T_spl (T_post hx fun v h1 H => T_spl_nil H) he) he rfl) hkf hxk hg hd)
theorem T_F2 {x : Str} {f : Addr} {np pos : Pos} {e e' : Expr} {Q : Value → Heap → Prop} (X : W C g L m led h) (hn : nsIn (KF C) mainGlobals x = some (some (.ref f))) (hk : keepIn (KF C) (.ref f) = true)
    (hx : T C A (eval e env) (fun v h1 => T C A (eval e' env) (fun v' h2 => (KF C).In h2 ∧ T C A (call (.ref f) [v, v'] []) Q E h2) E h1) E h)
    (hkf : env.scope.kind = .function := by kernel_rfl) (hxk : env.kindOf x = some .globalImplicit := by kernel_rfl) (hg : env.globals = mainGlobals := by kernel_rfl) (hd : (x == ("__debug__" : Str)) = false := by kernel_rfl)
    (he : starEach [e, e'] env = (false, eval e env) :: starEach [e'] env := by kernel_rfl) (he' : starEach [e'] env = (false, eval e' env) :: starEach [] env := by kernel_rfl) (hp : (backTo pos (starEach [e'] env)).any (·.1) = false := by kernel_rfl) : T C A (eval (.Call (.Name x np) [e, e'] [] pos) env) Q E h :=
  T_CallName (T_ldg X hn (T_callWith (Kp.fn hk) (T_spl (T_post hx fun v h1 H => T_spl (T_post H fun v' h2 H => T_spl_nil H) he') he) he hp) hkf hxk hg hd)

/-! ## methods of lists and dicts -/
theorem T_L1 {o e : Expr} {name : Str} {id : String} {apos pos : Pos} {Q : Value → Heap → Prop} (slot : Slot "list" name id) (hty : typeOf (.builtin id) = pure (.type "method_descriptor"))
    (hx : T C A (eval o env) (fun ov h1 => E3 fun l vs k => A3 (ov = .ref l) (h1.get? l = some (listO vs k)) (T C A (eval e env) (fun v h2 => T C A (call (.builtin id) [.ref l, v] []) Q E h2) E h1)) E h)
    (hbase : attributeBase o name env (eval o env) = eval o env := by kernel_rfl)
    (hform : methodCallForm ([e].length + ([] : List Keyword).length) (backTo pos (starEach [e] env)) (backToKw pos (keywordEach [] env)) = true := by kernel_rfl) (hline : (apos.endLine == pos.line) = true := by kernel_rfl)
    (he : starEach [e] env = (false, eval e env) :: starEach [] env := by kernel_rfl) : T C A (eval (.Call (.Attribute o name apos) [e] [] pos) env) Q E h :=
  T_Method (T_post hx fun ov h1 ⟨l, vs, k, rv, hl, H⟩ pl => by
    subst rv
    exact M_builtin (fun tk => ⟨_, hl, rfl⟩) F.plainAttrs_list slot hty (fun a e => by cases e; exact ⟨_, hl, rfl⟩) (T_callWith Kp.builtin (T_spl (T_post H fun v h2 H => T_spl_nil ⟨trivial, H⟩) he) he rfl)) hbase hform hline
theorem T_L0 {o : Expr} {name : Str} {id : String} {apos pos : Pos} {Q : Value → Heap → Prop} (slot : Slot "list" name id) (hty : typeOf (.builtin id) = pure (.type "method_descriptor"))
    (hx : T C A (eval o env) (fun ov h1 => E3 fun l vs k => A3 (ov = .ref l) (h1.get? l = some (listO vs k)) (T C A (call (.builtin id) [.ref l] []) Q E h1)) E h)
    (hbase : attributeBase o name env (eval o env) = eval o env := by kernel_rfl)
    (hform : methodCallForm (([] : List Expr).length + ([] : List Keyword).length) (backTo pos (starEach [] env)) (backToKw pos (keywordEach [] env)) = true := by kernel_rfl) (hline : (apos.endLine == pos.line) = true := by kernel_rfl) : T C A (eval (.Call (.Attribute o name apos) [] [] pos) env) Q E h :=
  T_Method (T_post hx fun ov h1 ⟨l, vs, k, rv, hl, H⟩ pl => by
    subst rv
    exact M_builtin (fun tk => ⟨_, hl, rfl⟩) F.plainAttrs_list slot hty (fun a e => by cases e; exact ⟨_, hl, rfl⟩) (T_callWith0 (P := fun _ => True) Kp.builtin trivial H)) hbase hform hline
theorem T_D2 {o e e' : Expr} {name : Str} {id : String} {apos pos : Pos} {Q : Value → Heap → Prop} (slot : Slot "dict" name id) (hty : typeOf (.builtin id) = pure (.type "method_descriptor"))
    (hx : T C A (eval o env) (fun ov h1 => E2 fun d od => A4 (ov = .ref d) (h1.get? d = some od) (od.ExactDict) (T C A (eval e env) (fun v h2 => T C A (eval e' env) (fun v' h3 => T C A (call (.builtin id) [.ref d, v, v'] []) Q E h3) E h2) E h1)) E h)
    (hbase : attributeBase o name env (eval o env) = eval o env := by kernel_rfl)
    (hform : methodCallForm ([e, e'].length + ([] : List Keyword).length) (backTo pos (starEach [e, e'] env)) (backToKw pos (keywordEach [] env)) = true := by kernel_rfl) (hline : (apos.endLine == pos.line) = true := by kernel_rfl)
    (he : starEach [e, e'] env = (false, eval e env) :: starEach [e'] env := by kernel_rfl) (he' : starEach [e'] env = (false, eval e' env) :: starEach [] env := by kernel_rfl) (hp : (backTo pos (starEach [e'] env)).any (·.1) = false := by kernel_rfl) : T C A (eval (.Call (.Attribute o name apos) [e, e'] [] pos) env) Q E h :=
  T_Method (T_post hx fun ov h1 ⟨d, od, rv, hl, hx, H⟩ pl => by
    subst rv
    exact M_builtin (fun tk => ⟨_, hl, hx.1⟩) F.plainAttrs_dict slot hty (fun a e => by cases e; exact ⟨_, hl, hx.2.1⟩) (T_callWith Kp.builtin (T_spl (T_post H fun v h2 H => T_spl (T_post H fun v' h3 H => T_spl_nil ⟨trivial, H⟩) he') he) he hp)) hbase hform hline

/-- a method of an object -/
theorem T_I0 {o : Expr} {name : Str} {f : Addr} {apos pos : Pos} {Q : Value → Heap → Prop}
    (hx : T C A (eval o env) (fun ov h1 => E6 fun x dx Cl od mi k => A9 (ov = .ref x) ((KF C).In h1) (h1.get? x = some (instObj Cl dx)) (h1.get? dx = some od) (ONs od mi k) (mi name = none) (plainGet (KF C) Cl name = true) (findIn (KF C) (.ref Cl) name = some (some (.ref f))) (T C A (call (.ref f) [.ref x] []) Q E h1)) E h)
    (ht : isFn (KF C) (.ref f) = true) (hk : keepIn (KF C) (.ref f) = true)
    (hbase : attributeBase o name env (eval o env) = eval o env := by kernel_rfl)
    (hform : methodCallForm (([] : List Expr).length + ([] : List Keyword).length) (backTo pos (starEach [] env)) (backToKw pos (keywordEach [] env)) = true := by kernel_rfl) (hline : (apos.endLine == pos.line) = true := by kernel_rfl) : T C A (eval (.Call (.Attribute o name apos) [] [] pos) env) Q E h :=
  T_Method (T_post hx fun ov h1 ⟨x, dx, Cl, od, mi, k, rv, hK, h1x, h1d, ho, hm, hg, hf, H⟩ pl => by
    subst rv
    exact M_inst hK h1x h1d ho hm (T_callWith0 (P := fun h => (KF C).In h) (Kp.fn hk) hK H) hg hf ht) hbase hform hline
theorem T_I1 {o e : Expr} {name : Str} {f : Addr} {apos pos : Pos} {Q : Value → Heap → Prop}
    (hx : T C A (eval o env) (fun ov h1 => E6 fun x dx Cl od mi k => A9 (ov = .ref x) ((KF C).In h1) (h1.get? x = some (instObj Cl dx)) (h1.get? dx = some od) (ONs od mi k) (mi name = none) (plainGet (KF C) Cl name = true) (findIn (KF C) (.ref Cl) name = some (some (.ref f))) (T C A (eval e env) (fun v h2 => (KF C).In h2 ∧ T C A (call (.ref f) [.ref x, v] []) Q E h2) E h1)) E h)
    (ht : isFn (KF C) (.ref f) = true) (hk : keepIn (KF C) (.ref f) = true)
    (hbase : attributeBase o name env (eval o env) = eval o env := by kernel_rfl)
    (hform : methodCallForm ([e].length + ([] : List Keyword).length) (backTo pos (starEach [e] env)) (backToKw pos (keywordEach [] env)) = true := by kernel_rfl) (hline : (apos.endLine == pos.line) = true := by kernel_rfl)
    (he : starEach [e] env = (false, eval e env) :: starEach [] env := by kernel_rfl) : T C A (eval (.Call (.Attribute o name apos) [e] [] pos) env) Q E h :=
  T_Method (T_post hx fun ov h1 ⟨x, dx, Cl, od, mi, k, rv, hK, h1x, h1d, ho, hm, hg, hf, H⟩ pl => by
    subst rv
    exact M_inst hK h1x h1d ho hm (T_callWith (Kp.fn hk) (T_spl (T_post H fun v h2 H => T_spl_nil H) he) he rfl) hg hf ht) hbase hform hline
theorem T_I2 {o e e' : Expr} {name : Str} {f : Addr} {apos pos : Pos} {Q : Value → Heap → Prop}
    (hx : T C A (eval o env) (fun ov h1 => E6 fun x dx Cl od mi k => A9 (ov = .ref x) ((KF C).In h1) (h1.get? x = some (instObj Cl dx)) (h1.get? dx = some od) (ONs od mi k) (mi name = none) (plainGet (KF C) Cl name = true) (findIn (KF C) (.ref Cl) name = some (some (.ref f))) (T C A (eval e env) (fun v h2 => T C A (eval e' env) (fun v' h3 => (KF C).In h3 ∧ T C A (call (.ref f) [.ref x, v, v'] []) Q E h3) E h2) E h1)) E h)
    (ht : isFn (KF C) (.ref f) = true) (hk : keepIn (KF C) (.ref f) = true)
    (hbase : attributeBase o name env (eval o env) = eval o env := by kernel_rfl)
    (hform : methodCallForm ([e, e'].length + ([] : List Keyword).length) (backTo pos (starEach [e, e'] env)) (backToKw pos (keywordEach [] env)) = true := by kernel_rfl) (hline : (apos.endLine == pos.line) = true := by kernel_rfl)
    (he : starEach [e, e'] env = (false, eval e env) :: starEach [e'] env := by kernel_rfl) (he' : starEach [e'] env = (false, eval e' env) :: starEach [] env := by kernel_rfl) (hp : (backTo pos (starEach [e'] env)).any (·.1) = false := by kernel_rfl) : T C A (eval (.Call (.Attribute o name apos) [e, e'] [] pos) env) Q E h :=
  T_Method (T_post hx fun ov h1 ⟨x, dx, Cl, od, mi, k, rv, hK, h1x, h1d, ho, hm, hg, hf, H⟩ pl => by
    subst rv
    exact M_inst hK h1x h1d ho hm (T_callWith (Kp.fn hk) (T_spl (T_post H fun v h2 H => T_spl (T_post H fun v' h3 H => T_spl_nil H) he') he) he hp) hg hf ht) hbase hform hline

/-! ## slices and sums of lists -/
theorem T_from {value lo : Expr} {p pos : Pos} {Q : Value → Heap → Prop}
    (hx : T C A (eval value env) (fun ov h1 => T C A (eval lo env) (fun iv h2 => E9 fun g l o vs k t L m led => A8 (ov = .ref l) (iv = .int k t) (0 ≤ k) (h2.get? l = some o) (LW o vs) (vs.length ≤ 1000) (W C g L m led h2) (∀ h3 a, W C g L m ((a, listO (vs.drop k.toNat) 0) :: led) h3 → Q (.ref a) h3)) E h1) E h)
    (ht : ∀ o r, letTemporaryGo value o r = pure () := by intro _ _; kernel_rfl) : T C A (eval (.Subscript value (.Slice (some lo) none none p) pos) env) Q E h := fun tk => by
  refine wpAny_Subscript_Slice slot_list_getitem.lookup (wpAny_mono (hx tk) (fun ov s1 H => ?_) fun _ _ x => x) ht
  obtain ⟨h1, tk1, rfl, H⟩ := H
  refine wpAny_Slice (wpAny_mono (H tk1) (fun iv s2 H => ?_) fun _ _ x => x)
  obtain ⟨h2, tk2, rfl, g, l, o, vs, k, t, L, m, led, rfl, rfl, hk, ho, hl, hz, X, hq⟩ := H
  refine wpAny_pure (wpAny_pure ?_)
  have X1 := X.push (o := { cls := .type "slice", data := .fields #[.int k t, .none, .none] })
  have hl1 : (h2.push { cls := .type "slice", data := .fields #[.int k t, .none, .none] }).IsList l vs.toArray := hl.isList (Heap.get?_push_of_some _ ho)
  refine ⟨hl1.typeIs, wpAny_getItem_list_slice hl1 (Heap.IsSliceOf.new _ _ _ _) (.int _ _) .none .none (by simp) ?_ (by rw [List.size_toArray, sizeLine_eq]; omega)⟩
  have e : slicePick vs.toArray (some k) none none = (vs.drop k.toNat).toArray := by
    have ek : k = (k.toNat : Int) := by omega
    rw [ek, slicePick_from']
    simp
    omega
  rw [e]
  exact ⟨_, _, rfl, hq _ _ (X1.drop1.push (o := listO (vs.drop k.toNat) 0))⟩
theorem T_upto {value hi : Expr} {p pos : Pos} {Q : Value → Heap → Prop}
    (hx : T C A (eval value env) (fun ov h1 => T C A (eval hi env) (fun iv h2 => E9 fun g l o vs k t L m led => A8 (ov = .ref l) (iv = .int k t) (0 ≤ k) (h2.get? l = some o) (LW o vs) (vs.length ≤ 1000) (W C g L m led h2) (∀ h3 a, W C g L m ((a, listO (vs.take k.toNat) 0) :: led) h3 → Q (.ref a) h3)) E h1) E h)
    (ht : ∀ o r, letTemporaryGo value o r = pure () := by intro _ _; kernel_rfl) : T C A (eval (.Subscript value (.Slice none (some hi) none p) pos) env) Q E h := fun tk => by
  refine wpAny_Subscript_Slice slot_list_getitem.lookup (wpAny_mono (hx tk) (fun ov s1 H => ?_) fun _ _ x => x) ht
  obtain ⟨h1, tk1, rfl, H⟩ := H
  refine wpAny_Slice (wpAny_pure (wpAny_mono (H tk1) (fun iv s2 H => ?_) fun _ _ x => x))
  obtain ⟨h2, tk2, rfl, g, l, o, vs, k, t, L, m, led, rfl, rfl, hk, ho, hl, hz, X, hq⟩ := H
  refine wpAny_pure ?_
  have X1 := X.push (o := { cls := .type "slice", data := .fields #[.none, .int k t, .none] })
  have hl1 : (h2.push { cls := .type "slice", data := .fields #[.none, .int k t, .none] }).IsList l vs.toArray := hl.isList (Heap.get?_push_of_some _ ho)
  refine ⟨hl1.typeIs, wpAny_getItem_list_slice hl1 (Heap.IsSliceOf.new _ _ _ _) .none (.int _ _) .none (by simp) ?_ (by rw [List.size_toArray, sizeLine_eq]; omega)⟩
  have e : slicePick vs.toArray none (some k) none = (vs.take k.toNat).toArray := by
    have ek : k = (k.toNat : Int) := by omega
    rw [ek, slicePick_upto']
    simp
    omega
  rw [e]
  exact ⟨_, _, rfl, hq _ _ (X1.drop1.push (o := listO (vs.take k.toNat) 0))⟩
theorem O_addL {l b : Addr} {vs ws : List Value} {o ob : Obj} {Q : Value → Heap → Prop} (X : W C g L m led h) (ho : h.get? l = some o) (hl : LW o vs) (hob : h.get? b = some ob) (hb : LW ob ws) (hz : vs.length + ws.length ≤ 1000)
    (hq : W C g L m ((h.objs.size, listO (vs ++ ws) 0) :: led) (h.push (listO (vs ++ ws) 0)) → Q (.ref h.objs.size) (h.push (listO (vs ++ ws) 0))) : T C A (binaryOp .Add (.ref l) (.ref b)) Q E h := fun tk => by
  obtain ⟨⟨cls, dd, data, sl⟩, n, hd⟩ := o, hl.2
  obtain ⟨⟨cls2, dd2, data2, sl2⟩, n2, hd2⟩ := ob, hb.2
  have hc := hl.1
  have hc2 := hb.1
  simp only at hc hd hc2 hd2
  subst hc hd hc2 hd2
  have e : vs.toArray ++ ws.toArray = (vs ++ ws).toArray := by simp
  refine concat_meets ⟨_, ho, rfl⟩ ⟨_, hob, rfl⟩ noFill_list_add seq_list_add PySem.F.slot_list_add PySem.F.entry_list_add (PySem.F.args_list_add_2 _ _) (list_addW l b vs.toArray ws.toArray n n2 dd dd2 sl sl2 (by rw [sizeLine_eq, List.size_toArray, List.size_toArray]; omega)) ⟨ho, hob, ?_⟩
  rw [e]
  exact ⟨_, _, rfl, hq X.push⟩
theorem preSum_eq {ns : List Int} {val : Nat → Int} (hv : ∀ (j : Nat) n, ns[j]? = some n → val j = n) : ∀ k, k ≤ ns.length → preSum val k = (ns.take k).sum := by
  intro k
  induction k with
  | zero => intro _; rfl
  | succ k ih =>
    intro hk
    have e : ns.take (k + 1) = ns.take k ++ [ns[k]] := by rw [List.take_add_one]; simp [show k < ns.length by omega]
    rw [e, List.sum_append, ← ih (by omega)]
    show preSum val k + val k = _
    rw [hv k ns[k] (by simp [show k < ns.length by omega])]
    simp
theorem C_sum {l : Addr} {o : Obj} {vs : List Value} {ns : List Int} {Q : Value → Heap → Prop} (hA : A.handled = none) (X : W C g L m led h) (ho : h.get? l = some o) (hl : LW o vs) (hi : IntsAre vs ns)
    (hq : ∀ h' t, W C g L m led h' → (∀ b o, h.get? b = some o → h'.get? b = some o) → Q (.int ns.sum t) h') : T C A (call (.builtin "sum") [.ref l]) Q E h := fun tk => by
  have hls : (C.st h tk).heap.IsList l vs.toArray := hl.isList ho
  have hne : l ≠ h.objs.size := fun e => by rw [e, get_size] at ho; cases ho
  refine call_sum_walkG (wpAny_pyIter_list hls ?_)
  refine ⟨h.objs.size, [h.objs.size, l], [h.objs.size], _, _, _, fun i => ns.getD i 0, rfl, Walks.list (A := A.in1) hA h.objs.size l hne vs.toArray, ⟨⟨_, Heap.get?_push_size _ rfl, rfl, rfl⟩, hls.at fun o e => Heap.get?_push_of_some _ e⟩, ?_, ?_, ?_⟩
  · intro b hb
    show b < (h.push _).objs.size
    rw [Heap.size_push]
    rcases List.mem_cons.mp hb with rfl | hb
    · exact Nat.lt_succ_self _
    · rw [List.mem_singleton.mp hb]; exact Nat.lt_succ_of_lt (Heap.lt_size ho)
  · intro i v hv
    obtain ⟨n, t, hn, rfl⟩ := ints_at hi i v (by simpa using hv)
    exact ⟨t, by show _ = Value.int (ns.getD i 0) t; rw [List.getD_eq_getElem?_getD, hn]; rfl⟩
  · intro h' tk' t' hk
    have e : preSum (fun i => ns.getD i 0) vs.toArray.size = ns.sum := by
      rw [preSum_eq (ns := ns) (fun j n e => by rw [List.getD_eq_getElem?_getD, e]; rfl) _ (by rw [List.size_toArray, hi.length]; exact Nat.le_refl _), List.take_of_length_le (by rw [List.size_toArray, hi.length]; exact Nat.le_refl _)]
    rw [e]
    have kk : ∀ b o, h.get? b = some o → h'.get? b = some o := fun b o q => hk b o (fun hm => by rw [List.mem_singleton.mp hm, get_size] at q; cases q) (Heap.get?_push_of_some _ q)
    exact ⟨h', tk', rfl, hq h' t' ⟨X.ns.keeps kk, fun b o e => kk b o (X.keep b o e), X.off, fun p hp => kk _ _ (X.at_ p hp), X.sep, X.nd, X.glob⟩ kk⟩
end
end Mine
end
section
open PySem PySem.W PyProof.Rows PySem.Calls PyProof.V PySem.Spec
set_option Elab.async false
set_option maxRecDepth 100000
set_option maxHeartbeats 4000000
set_option linter.unusedVariables false
namespace Mine

/-- the part of k that is g's or younger than h -/
def Fresh (g h k : Heap) : Heap := hideAll k ((List.range h.objs.size).filter fun a => (g.get? a).isNone && (h.get? a).isSome)
theorem Fresh.sub (g h k : Heap) : Sub (Fresh g h k) k := fun b o e => of_hideAll _ e
theorem Fresh.get {g h k : Heap} {b : Addr} {o : Obj} (e : k.get? b = some o) (ha : (∃ o', g.get? b = some o') ∨ h.get? b = none) : (Fresh g h k).get? b = some o :=
  hideAll_get _ e fun hm => by
    obtain ⟨_, hm⟩ := List.mem_filter.mp hm
    simp only [Bool.and_eq_true, Option.isNone_iff_eq_none] at hm
    rcases ha with ⟨o', e'⟩ | e'
    · rw [hm.1] at e'; cases e'
    · rw [e'] at hm; cases hm.2
theorem Fresh.ok {g h k : Heap} {b : Addr} {o : Obj} (e : (Fresh g h k).get? b = some o) : (∃ o', g.get? b = some o') ∨ h.get? b = none := by
  cases hg : g.get? b with
  | some o' => exact .inl ⟨o', rfl⟩
  | none =>
    right
    cases hh : h.get? b with
    | none => rfl
    | some o' =>
      have : (Fresh g h k).get? b = none := hideAll_none _ (List.mem_filter.mpr ⟨List.mem_range.mpr (Heap.lt_size hh), by simp [hg, hh]⟩)
      rw [this] at e; cases e
theorem Fresh.mono {g h k k' : Heap} (s : Sub k k') : Sub (Fresh g h k) (Fresh g h k') := fun b o e => Fresh.get (s b o (Fresh.sub g h k b o e)) (Fresh.ok e)
theorem Fresh.base {g h k : Heap} (s : Sub g k) : Sub g (Fresh g h k) := fun b o e => Fresh.get (s b o e) (.inl ⟨o, e⟩)

/-- what stands stays standing -/
def Dm (h0 h1 : Heap) : Prop := ∀ b, h1.get? b = none → h0.get? b = none
theorem Dm.of0 {h0 h1 : Heap} (k : Keep [] h0 h1) : Dm h0 h1 := fun b e => by
  cases q : h0.get? b with
  | none => rfl
  | some o => rw [k b o (by simp) q] at e; cases e
theorem Dm.of {S : List Addr} {h0 h1 : Heap} (k : Keep S h0 h1) (hs : ∀ r ∈ S, ∃ o, h1.get? r = some o) : Dm h0 h1 := fun b e => by
  cases q : h0.get? b with
  | none => rfl
  | some o =>
    by_cases hb : b ∈ S
    · obtain ⟨o', e'⟩ := hs b hb; rw [e'] at e; cases e
    · rw [k b o hb q] at e; cases e
theorem Dm.refl (h : Heap) : Dm h h := fun _ e => e
theorem Fresh.chain {g0 h0 g1 h1 k k' : Heap} (d : Dm h0 h1) (s : ∀ b o, k.get? b = some o → ((∃ o', (Fresh g0 h0 g1).get? b = some o') ∨ h1.get? b = none) → k'.get? b = some o) :
    Sub (Fresh (Fresh g0 h0 g1) h1 k) (Fresh g0 h0 k') := fun b o e => by
  have ok := Fresh.ok e
  refine Fresh.get (s b o (Fresh.sub _ _ _ b o e) ok) ?_
  rcases ok with ⟨o', e'⟩ | e'
  · exact Fresh.ok e'
  · exact .inr (d b e')

namespace W
variable {C : Cx} {g0 h0 g h h' : Heap} {L : Addr} {m m' : Str → Option Value} {led led' : List (Addr × Obj)}

theorem globF (X : W C g L m led h) (G0 : Glob C g0) (s : Sub g0 g) : Glob C (Fresh g0 h0 g) := G0.keeps (Fresh.base s)
theorem subF (X : W C g L m led h) : Sub (Fresh g0 h0 g) h := fun b o e => X.keep b o (Fresh.sub _ _ _ b o e)
theorem notF (X : W C g L m led h) {p : Addr × Obj} (hp : p ∈ led) : (Fresh g0 h0 g).get? p.1 = none := by
  cases e : (Fresh g0 h0 g).get? p.1 with
  | none => rfl
  | some o => have := Fresh.sub _ _ _ _ _ e; rw [(X.sep p hp).2] at this; cases this
/-- an object of the ledger that is new -/
theorem young {gc : Heap} {S : List Addr} (X : W C g L m led h) {p : Addr × Obj} (hp : p ∈ led) (hgc : Sub gc g) (hS : ∀ b o, h0.get? b = some o → b ∉ S → gc.get? b = some o) (hn : p.1 ∉ S) : h0.get? p.1 = none := by
  cases e : h0.get? p.1 with
  | none => rfl
  | some o => have := hgc _ _ (hS _ _ e hn); rw [(X.sep p hp).2] at this; cases this
/-- take in the ledger's first object, new -/
theorem take {p : Addr × Obj} (X : W C g L m (p :: led) h) (hy : h0.get? p.1 = none) : ∃ g', Sub g g' ∧ W C g' L m led h ∧ (Fresh g0 h0 g').get? p.1 = some p.2 := by
  obtain ⟨g', a, b, c⟩ := X.absorb1
  exact ⟨g', a, b, Fresh.get c (.inr hy)⟩

theorem call0F (X : W C g L m led h) (hK : Keep [] h h') (d : Dm h0 h) : ∃ g', Sub g g' ∧ W C g' L m led h' ∧ Sub (Fresh (Fresh g0 h0 g) h h') (Fresh g0 h0 g') := by
  obtain ⟨g', a, b, c⟩ := X.call0 hK
  refine ⟨g', a, b, Fresh.chain d fun b o e ok => c b o e (fun q => ?_) fun q => ?_⟩
  · subst q
    obtain ⟨oL, hL⟩ := X.ldom
    rcases ok with ⟨o', e'⟩ | e'
    · have := Fresh.sub _ _ _ _ _ e'; rw [X.off] at this; cases this
    · rw [hL] at e'; cases e'
  · obtain ⟨p, hp, rfl⟩ := List.mem_map.mp q
    rcases ok with ⟨o', e'⟩ | e'
    · have := Fresh.sub _ _ _ _ _ e'; rw [(X.sep p hp).2] at this; cases this
    · rw [X.at_ p hp] at e'; cases e'
/-- a call that gives a new object that will be turned -/
theorem callNew (X : W C g L m led h) {r : Addr} {o : Obj} (hK : Keep [] h h') (hr : h.get? r = none) (hr' : h'.get? r = some o) : W C g L m ((r, o) :: led) h' := by
  have k : ∀ b o, h.get? b = some o → h'.get? b = some o := fun b o e => hK b o (by simp) e
  refine ⟨X.ns.keeps k, X.keep.trans k, X.off, fun p hp => ?_, fun p hp => ?_, ?_, X.glob⟩
  · rcases List.mem_cons.mp hp with rfl | hp
    · exact hr'
    · exact k _ _ (X.at_ p hp)
  · rcases List.mem_cons.mp hp with rfl | hp
    · obtain ⟨oL, hL⟩ := X.ldom
      refine ⟨ne_of_get hr hL, ?_⟩
      cases e : g.get? r with
      | none => rfl
      | some o' => have := X.keep _ _ e; rw [hr] at this; cases this
    · exact X.sep p hp
  · refine List.nodup_cons.mpr ⟨fun hm => ?_, X.nd⟩
    obtain ⟨p, hp, e⟩ := List.mem_map.mp hm
    have := X.at_ p hp
    rw [e] at this
    rw [hr] at this; cases this
end W
end Mine
end
section
open PySem PySem.W PyProof.Rows PySem.Calls PyProof.V PySem.Spec
set_option Elab.async false
set_option maxRecDepth 100000
set_option maxHeartbeats 4000000
set_option linter.unusedVariables false
namespace Mine

namespace W
variable {C : Cx} {g h h' : Heap} {L : Addr} {m : Str → Option Value} {led led' : List (Addr × Obj)}
theorem call0K (X : W C g L m led h) (hK : Keep [] h h') : W C g L m led h' := by
  have k : ∀ b o, h.get? b = some o → h'.get? b = some o := fun b o e => hK b o (by simp) e
  exact ⟨X.ns.keeps k, X.keep.trans k, X.off, fun p hp => k _ _ (X.at_ p hp), X.sep, X.nd, X.glob⟩
theorem call1K (X : W C g L m led h) {d : Addr} {o o' : Obj} (hK : Keep [d] h h') (u : Up d o o' led led') (hd' : h'.get? d = some o') : W C g L m led' h' := by
  have hd := X.sep _ u.mem
  have k : ∀ b o, b ≠ d → h.get? b = some o → h'.get? b = some o := fun b o hb e => hK b o (by simpa using hb) e
  refine ⟨X.ns.extBut (fun b o hb e => k b o hb e) (Ne.symm hd.1), fun b o e => k b o (fun q => by rw [q, hd.2] at e; cases e) (X.keep b o e), X.off, fun p hp => ?_, fun p hp => ?_, ?_, X.glob⟩
  · rcases u.mem' X.nd p hp with rfl | ⟨hp, hne⟩
    · exact hd'
    · exact k _ _ hne (X.at_ p hp)
  · rcases u.mem' X.nd p hp with rfl | ⟨hp, hne⟩
    · exact hd
    · exact X.sep p hp
  · rw [u.fst]; exact X.nd
theorem headNe {p q : Addr × Obj} (X : W C g L m (p :: led) h) (hq : q ∈ led) : p.1 ≠ q.1 := fun e => (List.nodup_cons.mp X.nd).1 (by show p.1 ∈ _; rw [e]; exact List.mem_map_of_mem (f := (·.1)) hq)
theorem sub (X : W C g L m led h) (s : led'.Sublist led) : W C g L m led' h := X.perm (fun p hp => s.subset hp) ((s.map _).nodup X.nd)
theorem keepK (X : W C g L m led h) (k : ∀ b o, h.get? b = some o → h'.get? b = some o) : W C g L m led h' := X.call0K fun b o _ e => k b o e
end W

section
variable {C : Cx} {A : Around} {E : Value → Heap → Prop} {g h : Heap} {L : Addr} {m : Str → Option Value} {led led' : List (Addr × Obj)} {env : Env}

/-- a new tuple, a new list -/
def TupQ (C : Cx) (Q : Value → Heap → Prop) (vs : List Value) (h1 : Heap) : Prop := vs.length ≤ 1000 ∧ ∃ g L m led, W C g L m led h1 ∧
    ∀ h2 a, W C g L m ((a, tupO vs) :: led) h2 → (∀ b o, h1.get? b = some o → h2.get? b = some o) → Q (.ref a) h2
theorem TupQ.mk {Q : Value → Heap → Prop} {vs : List Value} (X : W C g L m led h) (hz : vs.length ≤ 1000) (hq : ∀ h2 a, W C g L m ((a, tupO vs) :: led) h2 → (∀ b o, h.get? b = some o → h2.get? b = some o) → Q (.ref a) h2) : TupQ C Q vs h := ⟨hz, _, _, _, _, X, hq⟩
def LstQ (C : Cx) (Q : Value → Heap → Prop) (vs : List Value) (h1 : Heap) : Prop := vs.length ≤ 1000 ∧ ∃ g L m led, W C g L m led h1 ∧
    ∀ h2 a, W C g L m ((a, listO vs) :: led) h2 → (∀ b o, h1.get? b = some o → h2.get? b = some o) → Q (.ref a) h2
theorem LstQ.mk {Q : Value → Heap → Prop} {vs : List Value} (X : W C g L m led h) (hz : vs.length ≤ 1000) (hq : ∀ h2 a, W C g L m ((a, listO vs) :: led) h2 → (∀ b o, h.get? b = some o → h2.get? b = some o) → Q (.ref a) h2) : LstQ C Q vs h := ⟨hz, _, _, _, _, X, hq⟩
theorem T_TupX {es : List Expr} {k : Nat} {pos : Pos} {Q : Value → Heap → Prop} (hx : T C A (spliced (backTo pos (starEach es env))) (TupQ C Q) E h) : T C A (eval (.Tuple es k pos) env) Q E h :=
  T_Tuple (T_post hx fun vs h1 ⟨hz, g, L, m, led, X, H⟩ => ⟨hz, H _ _ X.push fun b o e => Heap.get?_push_of_some _ e⟩)
theorem T_LstX {es : List Expr} {pos : Pos} {Q : Value → Heap → Prop} (hx : T C A (spliced (backTo pos (starEach es env))) (LstQ C Q) E h) : T C A (eval (.List es pos) env) Q E h :=
  T_List (T_post hx fun vs h1 ⟨hz, g, L, m, led, X, H⟩ => ⟨hz, H _ _ X.push fun b o e => Heap.get?_push_of_some _ e⟩)
theorem T_DctX {pos : Pos} {Q : Value → Heap → Prop} (X : W C g L m led h) (hq : ∀ h2 a, W C g L m ((a, dictO) :: led) h2 → Lo a → (∀ b o, h.get? b = some o → h2.get? b = some o) → Q (.ref a) h2) : T C A (eval (.Dict [] [] pos) env) Q E h :=
  T_Dict0 (hq _ _ X.push X.newLo fun b o e => Heap.get?_push_of_some _ e)

theorem T_Swap {elts : List Expr} {k : Nat} {tpos pos : Pos} {value : Expr} {names : List Str} {Q : Flow → Heap → Prop} (hA : A.handled = none)
    (hx : T C A (eval value env) (fun v h1 => E6 fun g a vs L m led => A5 (v = .ref a) (W C g L m led h1) (h1.get? a = some (tupO vs)) (vs.length = names.length) (∀ h2, W C g L m led h2 → T C A (assignInOrder (names.reverse.map fun n => bindName env n) vs.reverse) (fun _ => Q .next) E h2)) E h)
    (hw : swappedStores [.Tuple elts k tpos] value env = pure (some names) := by kernel_rfl)
    (hs : swapsWithSole [.Tuple elts k tpos] value pos.line env = pure false := by kernel_rfl) : T C A (exec (.Assign [.Tuple elts k tpos] value pos) env) Q E h := fun tk => by
  refine Assign_Tuple_swapped (names := names) (wpAny_mono (hx tk) (fun v s1 H => ?_) fun _ _ x => x) hs hw
  obtain ⟨h1, tk1, rfl, g, a, vs, L, m, led, rfl, X, ht, hl, H⟩ := H
  have ht' : (C.st h1 tk1).heap.IsTuple a vs.toArray := isTuple_of ht
  have e : names.length = vs.toArray.size := by rw [List.size_toArray, hl]
  rw [e]
  refine wpAny_unpackItems_tuple hA ht' fun h' he => ?_
  have kk : ∀ b o, h1.get? b = some o → h'.get? b = some o := fun b o e => he b o (fun q => by rw [q] at e; have : h1.get? h1.objs.size = some o := e; rw [get_size] at this; cases this) e
  exact H h' (X.keepK kk) tk1
theorem T_order_name {x : Str} {ts : List (Value → Sem Unit)} {v : Value} {xs : List Value} {Q : Unit → Heap → Prop} (hx : T C A (storeName env x v) (fun _ h1 => T C A (assignInOrder ts xs) Q E h1) E h) : T C A (assignInOrder ((fun v => bindName env x v) :: ts) (v :: xs)) Q E h :=
  T_order_cons (T_bindName hx)

end

/-! ## data -/
def IsI (v : Value) (i : Int) : Prop := ∃ t, v = .int i t
def IsS (v : Value) (x : Str) : Prop := ∃ t, v = .str x t
def All2 {α : Type} (R : Value → α → Prop) (vs : List Value) (xs : List α) : Prop := vs.length = xs.length ∧ ∀ (i : Nat) v x, vs[i]? = some v → xs[i]? = some x → R v x
namespace All2
variable {α : Type} {R S : Value → α → Prop} {vs ws : List Value} {xs ys : List α}
theorem nil : All2 R [] [] := ⟨rfl, fun i v x h => by cases h⟩
theorem get (a : All2 R vs xs) {i : Nat} {x : α} (hx : xs[i]? = some x) : ∃ v, vs[i]? = some v ∧ R v x := by
  have hlt : i < vs.length := by rw [a.1]; exact (List.getElem?_eq_some_iff.mp hx).1
  exact ⟨vs[i], by simp [hlt], a.2 i _ x (by simp [hlt]) hx⟩
theorem getV (a : All2 R vs xs) {i : Nat} {v : Value} (hv : vs[i]? = some v) : ∃ x, xs[i]? = some x ∧ R v x := by
  have hlt : i < xs.length := by rw [← a.1]; exact (List.getElem?_eq_some_iff.mp hv).1
  exact ⟨xs[i], by simp [hlt], a.2 i v _ hv (by simp [hlt])⟩
theorem mono (a : All2 R vs xs) (h : ∀ v x, R v x → S v x) : All2 S vs xs := ⟨a.1, fun i v x p q => h _ _ (a.2 i v x p q)⟩
theorem append (a : All2 R vs xs) (b : All2 R ws ys) : All2 R (vs ++ ws) (xs ++ ys) := by
  refine ⟨by simp [a.1, b.1], fun i v x hv hx => ?_⟩
  by_cases hi : i < vs.length
  · rw [List.getElem?_append_left hi] at hv
    rw [List.getElem?_append_left (by rw [← a.1]; exact hi)] at hx
    exact a.2 i v x hv hx
  · rw [List.getElem?_append_right (by omega)] at hv
    rw [List.getElem?_append_right (by rw [← a.1]; omega)] at hx
    rw [← a.1] at hx
    exact b.2 _ v x hv hx
theorem one {v : Value} {x : α} (r : R v x) : All2 R [v] [x] := by
  refine ⟨rfl, fun i v' x' hv hx => ?_⟩
  cases i with
  | zero => cases hv; cases hx; exact r
  | succ i => cases hv
theorem cons {v : Value} {x : α} (r : R v x) (a : All2 R vs xs) : All2 R (v :: vs) (x :: xs) := append (one r) a
theorem snoc {v : Value} {x : α} (a : All2 R vs xs) (r : R v x) : All2 R (vs ++ [v]) (xs ++ [x]) := a.append (one r)
theorem drop (a : All2 R vs xs) (k : Nat) : All2 R (vs.drop k) (xs.drop k) := ⟨by simp [a.1], fun i v x hv hx => by
  rw [List.getElem?_drop] at hv hx; exact a.2 _ v x hv hx⟩
theorem take (a : All2 R vs xs) (k : Nat) : All2 R (vs.take k) (xs.take k) := ⟨by simp [a.1], fun i v x hv hx => by
  rw [List.getElem?_take] at hv hx
  split at hv
  · rename_i h; rw [if_pos h] at hx; exact a.2 _ v x hv hx
  · cases hv⟩
end All2
theorem All2.ints {vs : List Value} {ns : List Int} (a : All2 IsI vs ns) : IntsAre vs ns := by
  induction vs generalizing ns with
  | nil => cases ns with
    | nil => exact .nil
    | cons _ _ => cases a.1
  | cons v r ih => cases ns with
    | nil => cases a.1
    | cons n q =>
      obtain ⟨t, rfl⟩ := a.2 0 v n rfl rfl
      exact .cons n t (ih ⟨by simpa using a.1, fun i v x hv hx => a.2 (i + 1) v x hv hx⟩)
structure Nd where
  val : Bool
  pkg : Str
  key : Str
  names : List Str
def kindS (b : Bool) : Str := if b then S_ "value" else S_ "fn"
def NdAt (g : Heap) (v : Value) (nd : Nd) : Prop := E6 fun a b t0 t1 t2 ns => A4 (v = .ref a) (g.get? a = some (tupO [.str (kindS nd.val) t0, .str nd.pkg t1, .str nd.key t2, .ref b])) (g.get? b = some (tupO ns)) (All2 IsS ns nd.names)
theorem NdAt.mono {g g' : Heap} (s : Sub g g') {v : Value} {nd : Nd} (x : NdAt g v nd) : NdAt g' v nd := let ⟨a, b, t0, t1, t2, ns, h1, h2, h3, h4⟩ := x; ⟨a, b, t0, t1, t2, ns, h1, s _ _ h2, s _ _ h3, h4⟩
/-- a list that stays, its items by R -/
def Lst {α : Type} (R : Heap → Value → α → Prop) (g : Heap) (v : Value) (xs : List α) : Prop := E3 fun a vs k => A3 (v = .ref a) (g.get? a = some (listO vs k)) (All2 (R g) vs xs)
theorem Lst.mono {α : Type} {R : Heap → Value → α → Prop} (hR : ∀ {g g' v x}, Sub g g' → R g v x → R g' v x) {g g' : Heap} (s : Sub g g') {v : Value} {xs : List α} (x : Lst R g v xs) : Lst R g' v xs :=
  let ⟨a, vs, k, h1, h2, h3⟩ := x; ⟨a, vs, k, h1, s _ _ h2, h3.mono fun _ _ => hR s⟩
end Mine
end
section
open PySem PySem.W PyProof.Rows PySem.Calls PyProof.V PySem.Spec
set_option Elab.async false
set_option maxRecDepth 100000
set_option maxHeartbeats 4000000
set_option linter.unusedVariables false
namespace Mine

theorem all_eq (xs ys : List Str) : ((List.range (min xs.length ys.length)).all (fun j => decide (xs[j]? = ys[j]?)) && xs.length == ys.length) = decide (xs = ys) := by
  rw [Bool.eq_iff_iff]
  simp only [Bool.and_eq_true, List.all_eq_true, List.mem_range, decide_eq_true_eq, beq_iff_eq]
  constructor
  · rintro ⟨h, e⟩
    apply List.ext_getElem? 
    intro i
    by_cases hi : i < xs.length
    · exact h i (by omega)
    · rw [List.getElem?_eq_none (by omega), List.getElem?_eq_none (by omega)]
  · rintro rfl
    exact ⟨fun _ _ => rfl, rfl⟩

section
variable {C : Cx} {A : Around} {E : Value → Heap → Prop} {g h : Heap} {L : Addr} {m : Str → Option Value} {led led' : List (Addr × Obj)} {env : Env}

theorem eqAt_strs {s : Shared} {vs ws : List Value} {xs ys : List Str} (hx : All2 IsS vs xs) (hy : All2 IsS ws ys) (A : Around) : ∀ j (h1 : j < vs.toArray.size) (h2 : j < ws.toArray.size), SeqAt.EqAt A s vs.toArray[j] ws.toArray[j] (decide (xs[j]? = ys[j]?)) := by
  intro j h1 h2
  rw [List.size_toArray] at h1 h2
  obtain ⟨x, ex, t, e1⟩ := hx.getV (i := j) (v := vs[j]) (by simp [h1])
  obtain ⟨y, ey, u, e2⟩ := hy.getV (i := j) (v := ws[j]) (by simp [h2])
  rw [ex, ey]
  have : SeqAt.EqAt A s (.str x t) (.str y u) (x == y) := SeqAt.EqAt.str_str x t y u
  have e3 : decide (some x = some y) = (x == y) := by
    by_cases h : x = y <;> simp [h]
  rw [e3]
  simpa [e1, e2] using this

theorem R_neT {a b : Addr} {vs ws : List Value} {xs ys : List Str} {Q : Value → Heap → Prop} {k : Nat} (ha : h.get? a = some (tupO vs)) (hb : h.get? b = some (tupO ws)) (hx : All2 IsS vs xs) (hy : All2 IsS ws ys) (hu : Lv k A) (hq : Q (.bool (!decide (xs = ys))) h) :
    T C A (compareOp .NotEq (.ref a) (.ref b)) Q E h := fun tk => by
  show wpAny _ A (richCompare .NotEq _ _) _ _ _
  refine SeqAt.RcNeAt.tuples (isTuple_of (h := (C.st h tk).heap) ha) (isTuple_of hb) (by have := hu.un; unfold cLine; omega) (eqAt_strs hx hy _) _ _ _ _ ?_
  rw [List.size_toArray, List.size_toArray, hx.1, hy.1, all_eq]
  exact ⟨_, _, rfl, hq⟩
theorem R_eqT {a b : Addr} {vs ws : List Value} {xs ys : List Str} {Q : Value → Heap → Prop} {k : Nat} (ha : h.get? a = some (tupO vs)) (hb : h.get? b = some (tupO ws)) (hx : All2 IsS vs xs) (hy : All2 IsS ws ys) (hu : Lv k A) (hq : Q (.bool (decide (xs = ys))) h) :
    T C A (compareOp .Eq (.ref a) (.ref b)) Q E h := fun tk => by
  show wpAny _ A (richCompare .Eq _ _) _ _ _
  refine SeqAt.RcAt.tuples (isTuple_of (h := (C.st h tk).heap) ha) (isTuple_of hb) (by have := hu.un; unfold cLine; omega) (eqAt_strs hx hy _) _ _ _ _ ?_
  rw [List.size_toArray, List.size_toArray, hx.1, hy.1, all_eq]
  exact ⟨_, _, rfl, hq⟩
theorem R_eqL {a b : Addr} {oa ob : Obj} {vs ws : List Value} {xs ys : List Str} {Q : Value → Heap → Prop} {k : Nat} (ha : h.get? a = some oa) (hva : LW oa vs) (hb : h.get? b = some ob) (hvb : LW ob ws) (hx : All2 IsS vs xs) (hy : All2 IsS ws ys) (hu : Lv k A) (hq : Q (.bool (decide (xs = ys))) h) :
    T C A (compareOp .Eq (.ref a) (.ref b)) Q E h := fun tk => by
  show wpAny _ A (richCompare .Eq _ _) _ _ _
  have hA : A.units < cLine := by have := hu.un; unfold cLine; omega
  have la : (C.st h tk).heap.IsList a vs.toArray := hva.isList ha
  have lb : (C.st h tk).heap.IsList b ws.toArray := hvb.isList hb
  by_cases hz : vs.length = ws.length
  · refine SeqAt.RcAt.lists la lb (by simpa using hz) hA (eqAt_strs hx hy _) _ _ _ _ ?_
    have e := all_eq xs ys
    have hl : xs.length = ys.length := by rw [← hx.1, ← hy.1]; exact hz
    rw [hl, Nat.min_self, beq_self_eq_true, Bool.and_true] at e
    rw [List.size_toArray, hz, hy.1, e]
    exact ⟨_, _, rfl, hq⟩
  · refine SeqAt.RcAt.lists_lengths la lb (by simpa using hz) hA _ _ _ _ ?_
    have : xs ≠ ys := fun e => hz (by rw [hx.1, hy.1, e])
    rw [decide_eq_false this] at hq
    exact ⟨_, _, rfl, hq⟩
theorem R_neL {a b : Addr} {oa ob : Obj} {vs ws : List Value} {xs ys : List Str} {Q : Value → Heap → Prop} {k : Nat} (ha : h.get? a = some oa) (hva : LW oa vs) (hb : h.get? b = some ob) (hvb : LW ob ws) (hx : All2 IsS vs xs) (hy : All2 IsS ws ys) (hu : Lv k A) (hq : Q (.bool (!decide (xs = ys))) h) :
    T C A (compareOp .NotEq (.ref a) (.ref b)) Q E h := fun tk => by
  show wpAny _ A (richCompare .NotEq _ _) _ _ _
  have hA : A.units < cLine := by have := hu.un; unfold cLine; omega
  have la : (C.st h tk).heap.IsList a vs.toArray := hva.isList ha
  have lb : (C.st h tk).heap.IsList b ws.toArray := hvb.isList hb
  by_cases hz : vs.length = ws.length
  · refine SeqAt.RcNeAt.lists la lb (by simpa using hz) hA (eqAt_strs hx hy _) _ _ _ _ ?_
    have e := all_eq xs ys
    have hl : xs.length = ys.length := by rw [← hx.1, ← hy.1]; exact hz
    rw [hl, Nat.min_self, beq_self_eq_true, Bool.and_true] at e
    rw [List.size_toArray, hz, hy.1, e]
    exact ⟨_, _, rfl, hq⟩
  · refine SeqAt.RcNeAt.lists_lengths la lb (by simpa using hz) hA _ _ _ _ ?_
    have : xs ≠ ys := fun e => hz (by rw [hx.1, hy.1, e])
    rw [decide_eq_false this] at hq
    exact ⟨_, _, rfl, hq⟩
/-- against [] -/
theorem R_neN {a b : Addr} {oa ob : Obj} {vs : List Value} {Q : Value → Heap → Prop} {k : Nat} (ha : h.get? a = some oa) (hva : LW oa vs) (hb : h.get? b = some ob) (hvb : LW ob []) (hu : Lv k A) (hq : Q (.bool (!vs.isEmpty)) h) :
    T C A (compareOp .NotEq (.ref a) (.ref b)) Q E h := fun tk => by
  show wpAny _ A (richCompare .NotEq _ _) _ _ _
  have hA : A.units < cLine := by have := hu.un; unfold cLine; omega
  have la : (C.st h tk).heap.IsList a vs.toArray := hva.isList ha
  have lb : (C.st h tk).heap.IsList b ([] : List Value).toArray := hvb.isList hb
  cases vs with
  | nil => exact SeqAt.RcNeAt.lists la lb rfl hA (e := fun _ => true) (fun j h1 => absurd h1 (by simp)) _ _ _ _ ⟨_, _, rfl, hq⟩
  | cons v r => exact SeqAt.RcNeAt.lists_lengths la lb (by simp) hA _ _ _ _ ⟨_, _, rfl, hq⟩
theorem R_eqN {a b : Addr} {oa ob : Obj} {vs : List Value} {Q : Value → Heap → Prop} {k : Nat} (ha : h.get? a = some oa) (hva : LW oa vs) (hb : h.get? b = some ob) (hvb : LW ob []) (hu : Lv k A) (hq : Q (.bool vs.isEmpty) h) :
    T C A (compareOp .Eq (.ref a) (.ref b)) Q E h := fun tk => by
  show wpAny _ A (richCompare .Eq _ _) _ _ _
  have hA : A.units < cLine := by have := hu.un; unfold cLine; omega
  have la : (C.st h tk).heap.IsList a vs.toArray := hva.isList ha
  have lb : (C.st h tk).heap.IsList b ([] : List Value).toArray := hvb.isList hb
  cases vs with
  | nil => exact SeqAt.RcAt.lists la lb rfl hA (e := fun _ => true) (fun j h1 => absurd h1 (by simp)) _ _ _ _ ⟨_, _, rfl, hq⟩
  | cons v r => exact SeqAt.RcAt.lists_lengths la lb (by simp) hA _ _ _ _ ⟨_, _, rfl, hq⟩
end
end Mine
end
section
open PySem PySem.W PyProof.Rows PySem.Calls PyProof.V PySem.Spec
set_option Elab.async false
set_option maxRecDepth 100000
set_option maxHeartbeats 4000000
set_option linter.unusedVariables false
namespace Mine

section
variable {C : Cx} {A : Around} {E : Value → Heap → Prop} {g h : Heap} {L : Addr} {m : Str → Option Value} {led led' : List (Addr × Obj)} {env : Env}

/-- a list's comprehension with one cell of its own -/
theorem LU_intro1 {elt target iter : Expr} {ifs : List Expr} {scope : Scope} {cl : List (Str × Addr)} {x1 : Str} {pos : Pos} {I : Addr} {fp wr : List Addr} {n : Nat} {P : Nat → Heap → Value → Prop} {St : Nat → Heap → Prop} {Q : Value → Heap → Prop} {y : Str} {yp : Pos} (it : It C A target I fp wr n P St) (hn : n ≤ 1000)
    (X : W C g L m led h) (hst : St 0 h) (ap : Apart wr g L led) (hwn : wr.Nodup) (hfp : ∀ b ∈ fp, b ∉ wr → ∃ o, g.get? b = some o) (hcells : ∀ k h, pushCells h scope.names = h.push cellO ∧ cellsFrom k scope.names cl = (x1, k) :: cl)
    (J : Nat → List Value → Heap → (Str → Option Value) → Addr → List (Addr × Obj) → Prop) (hJ : ∀ c, J 0 [] g (fun _ => none) c ((c, cellO) :: led))
    (turn : ∀ i v ys k g1 m1 led1 own h1 Lc acc c, i < n → Sub g g1 → J i ys g1 m1 c led1 → P i h1 v → W C g1 Lc m1 (own ++ (acc, listO ys k) :: led1) h1 →
      T C A (assign target (compEnv scope ((x1, c) :: cl) Lc env) v) (fun _ h2 => T C A (tests ifs (compEnv scope ((x1, c) :: cl) Lc env)) (fun ok h3 => (ok = true → T C A (eval elt (compEnv scope ((x1, c) :: cl) Lc env)) (fun y h4 => CTurn C Lc own acc k ys g1 (fun ys g m led => J (i + 1) ys g m c led) (ys ++ [y]) h4) noE h3) ∧ (ok = false → CTurn C Lc own acc k ys g1 (fun ys g m led => J (i + 1) ys g m c led) ys h3)) noE h2) noE h1)
    (done : ∀ ys k g1 m1 led1 h1 acc c, Sub g g1 → J n ys g1 m1 c led1 → W C g1 L (upd m y (.ref acc)) ((acc, listO ys k) :: led1) h1 → Q .none h1)
    (hy : env.kindOf y = some .local) (hp : (env.scope.kind == .class || (env.scope.kind == .module && env.locals != env.globals)) = false) (hL : env.locals = L) :
    LU C A env (.ListComp elt [⟨target, iter, ifs, 0⟩] scope pos) scope cl (newList []) (assign (.Name y yp) env) Q (.ref I) h := by
  refine fun tk => wpAny_newObj_type ⟨_, tk, rfl, ?_⟩ (by show ([] : List Value).toArray.size ≤ sizeLine; exact Nat.zero_le _)
  refine T_newEnv ?_
  obtain ⟨oL, hoL⟩ := X.ldom
  have X1 := X.push (o := listO [] 0)
  have X2 := X1.push (o := dictO)
  have X3 := X2.push (o := cellO)
  have hsz : (h.push (listO [] 0)).objs.size = h.objs.size + 1 := Heap.size_push ..
  have hsz2 : ((h.push (listO [] 0)).push dictO).objs.size = (h.push (listO [] 0)).objs.size + 1 := Heap.size_push ..
  show TCL C A (.compStart _ 0 (.ref I) (.ref h.objs.size) { scope := relabel scope env, locals := (h.push (listO [] 0)).objs.size, globals := env.globals, cells := cellsFrom ((h.push (listO [] 0)).objs.size + 1) scope.names cl, qual := env.qual, func := none, code := env.code, frame := env.frame, builtins := env.builtins }) _ noE (pushCells ((h.push (listO [] 0)).push dictO) scope.names)
  rw [(hcells 0 _).1, (hcells _ h).2]
  rw [hsz2] at X3
  generalize hLc : (h.push (listO [] 0)).objs.size = Lc at X2 X3 hsz ⊢
  generalize hh3 : ((h.push (listO [] 0)).push dictO).push cellO = h3 at X3 ⊢
  have hLL : L ≠ Lc := Ne.symm (X2.sep _ (.head _)).1
  have kh : ∀ b o, h.get? b = some o → h3.get? b = some o := fun b o e => by rw [← hh3]; exact Heap.get?_push_of_some _ (Heap.get?_push_of_some _ (Heap.get?_push_of_some _ e))
  have nAt : ∀ b, h.objs.size ≤ b → h.get? b = none := fun b hb => by
    cases e : h.get? b with
    | none => rfl
    | some o => exact absurd (Heap.lt_size e) (Nat.not_lt.mpr hb)
  have wrn : ∀ b ∈ wr, ¬ h.objs.size ≤ b := fun b hb hle => by
    obtain ⟨o, ho⟩ := it.live _ _ hst b hb
    rw [nAt b hle] at ho; cases ho
  have sLc : h.objs.size ≤ Lc := hsz ▸ Nat.le_succ _
  have n3 := List.nodup_cons.mp X3.nd
  have n2 := List.nodup_cons.mp n3.2
  have Xc : W C g Lc (fun _ => none) ([(L, oL)] ++ (h.objs.size, listO [] 0) :: (Lc + 1, cellO) :: led) h3 := by
    refine ⟨?_, X3.keep, (X2.sep _ (.head _)).2, ?_, ?_, ?_, X.glob⟩
    · have := (Heap.Ns.new (h.push (listO [] 0)) (.type "dict")).push cellO
      rw [hLc, hh3] at this; exact this
    · intro p hp
      rcases List.mem_cons.mp hp with rfl | hp
      · exact kh _ _ hoL
      · rcases List.mem_cons.mp hp with rfl | hp
        · exact X3.at_ _ (.tail _ (.tail _ (.head _)))
        · rcases List.mem_cons.mp hp with rfl | hp
          · exact X3.at_ _ (.head _)
          · exact X3.at_ p (.tail _ (.tail _ (.tail _ hp)))
    · intro p hp
      rcases List.mem_cons.mp hp with rfl | hp
      · exact ⟨hLL, X.off⟩
      · rcases List.mem_cons.mp hp with rfl | hp
        · exact ⟨fun e => n2.1 (by rw [← e]; exact .head _), (X3.sep _ (.tail _ (.tail _ (.head _)))).2⟩
        · rcases List.mem_cons.mp hp with rfl | hp
          · exact ⟨Nat.succ_ne_self _, (X3.sep _ (.head _)).2⟩
          · exact ⟨fun e => n2.1 (by rw [← e]; exact .tail _ (List.mem_map_of_mem (f := (·.1)) hp)), (X3.sep p (.tail _ (.tail _ (.tail _ hp)))).2⟩
    · refine List.nodup_cons.mpr ⟨fun hm => ?_, List.nodup_cons.mpr ⟨fun hm => ?_, List.nodup_cons.mpr ⟨fun hm => n3.1 (.tail _ (.tail _ hm)), (List.nodup_cons.mp n2.2).2⟩⟩⟩
      · rcases List.mem_cons.mp hm with e | hm
        · exact (X1.sep _ (.head _)).1 e.symm
        · rcases List.mem_cons.mp hm with e | hm
          · exact (X3.sep _ (.head _)).1 e.symm
          · obtain ⟨p, hp, e⟩ := List.mem_map.mp hm
            exact (X.sep p hp).1 e
      · rcases List.mem_cons.mp hm with e | hm
        · exact n3.1 (e ▸ (List.Mem.tail _ (.head _) : h.objs.size ∈ List.map (fun x => x.fst) ((Lc, dictO) :: (h.objs.size, listO [] 0) :: led)))
        · exact (List.nodup_cons.mp n2.2).1 hm
  have apc : Apart wr g Lc ([(L, oL)] ++ (h.objs.size, listO [] 0) :: (Lc + 1, cellO) :: led) := by
    refine ⟨ap.g, fun b hb e => wrn b hb (e ▸ sLc), fun b hb hm => ?_⟩
    rcases List.mem_cons.mp hm with e | hm
    · exact ap.L b hb e
    · rcases List.mem_cons.mp hm with e | hm
      · exact wrn b hb (e ▸ Nat.le_refl _)
      · rcases List.mem_cons.mp hm with e | hm
        · exact wrn b hb (by rw [e]; exact Nat.le_succ_of_le sLc)
        · exact ap.led b hb hm
  have stc : St 0 h3 := it.frame _ _ _ hst fun b _ o e => kh b o e
  have loop : TCL C A (.compLoop (.ListComp elt [⟨target, iter, ifs, 0⟩] scope pos) 0 (.ref I) (.ref h.objs.size) (compEnv scope ((x1, Lc + 1) :: cl) Lc env)) (fun _ h' => T C A (assign (.Name y yp) env (.ref h.objs.size)) (fun _ h'' => ∃ m, h''.Ns Lc m ∧ ∀ h5, Heap.SameBut Lc h'' h5 → Q .none h5) noE h') noE h3 := by
    refine TL_comp it hn Xc stc apc hwn hfp (fun i ys g m led => J i ys g m (Lc + 1) led) (hJ _) (fun i v ys k g1 m1 led1 own h1 a b c d e => turn i v ys k g1 m1 led1 own h1 Lc _ _ a b c d e) ?_
    intro ys k g1 m1 led1 h1 hs hJ1 X5
    exact W.useBack X.ns hoL X5 hy hp hL fun h6 X6 => done ys k g1 m1 led1 h6 _ (Lc + 1) hs hJ1 X6
  intro tk2
  refine codeAny_compStart_list (loop tk2) (wpAny_mono (it.self 0 h3 (fun v h' => v = .ref I ∧ h' = h3) stc ⟨rfl, rfl⟩ tk2) (fun v s3 H => ?_) fun _ _ x => noE_noted x)
  obtain ⟨h3', tk3, rfl, rfl, rfl⟩ := H
  exact loop tk3

theorem LU_src1 {elt target iter : Expr} {ifs : List Expr} {scope : Scope} {pos : Pos} {x : Value} {x1 : Str} {n : Nat} {P : Nat → Heap → Value → Prop} {Q : Value → Heap → Prop} {y : Str} {yp : Pos} (S : Src C A target x n P g L m led E h) (hn : n ≤ 1000)
    (hcells : ∀ k h, pushCells h scope.names = h.push cellO ∧ cellsFrom k scope.names (clOf env.cells scope.names []) = (x1, k) :: clOf env.cells scope.names [])
    (J : Nat → List Value → Heap → (Str → Option Value) → Addr → List (Addr × Obj) → Prop) (hJ : ∀ c, J 0 [] g (fun _ => none) c ((c, cellO) :: led))
    (turn : ∀ i v ys k g1 m1 led1 own h1 Lc acc c K K0, Hid (fun y h4 => CTurn C Lc own acc k ys g1 (fun ys g m led => J (i + 1) ys g m c led) (ys ++ [y]) h4) K → Hid (fun (_ : Unit) h3 => CTurn C Lc own acc k ys g1 (fun ys g m led => J (i + 1) ys g m c led) ys h3) K0 → i < n → Sub g g1 → J i ys g1 m1 c led1 → P i h1 v → W C g1 Lc m1 (own ++ (acc, listO ys k) :: led1) h1 →
      T C A (assign target (compEnv scope ((x1, c) :: clOf env.cells scope.names []) Lc env) v) (fun _ h2 => T C A (tests ifs (compEnv scope ((x1, c) :: clOf env.cells scope.names []) Lc env)) (fun ok h3 => (ok = true → T C A (eval elt (compEnv scope ((x1, c) :: clOf env.cells scope.names []) Lc env)) K noE h3) ∧ (ok = false → K0 () h3)) noE h2) noE h1)
    (done : ∀ ys k g1 m1 led1 h1 acc c, Sub g g1 → J n ys g1 m1 c led1 → W C g1 L (upd m y (.ref acc)) ((acc, listO ys k) :: led1) h1 → Q .none h1)
    (hy : env.kindOf y = some .local) (hp : (env.scope.kind == .class || (env.scope.kind == .module && env.locals != env.globals)) = false) (hL : env.locals = L) :
    T C A (pyIter x) (fun itv h2 => LU C A env (.ListComp elt [⟨target, iter, ifs, 0⟩] scope pos) scope (clOf env.cells scope.names []) (newList []) (assign (.Name y yp) env) Q itv h2) E h :=
  T_post S fun itv h2 ⟨I, e, X2, _, fp, wr, St, it, st, ap, nd, hf⟩ => e ▸ LU_intro1 it hn X2 st ap nd hf hcells J hJ (fun i v ys k g1 m1 led1 own h1 Lc acc c a1 a2 a3 a4 X => turn i v ys k g1 m1 led1 own h1 Lc acc c _ _ (Hid.refl _) (Hid.refl _) a1 a2 a3 a4 X) done hy hp hL

end
end Mine
end
section
open PySem PySem.W PyProof.Rows PySem.Calls PyProof.V PySem.Spec
set_option Elab.async false
set_option maxRecDepth 100000
set_option maxHeartbeats 4000000
set_option linter.unusedVariables false
namespace Mine

namespace W
variable {C : Cx} {g g' h h' : Heap} {L : Addr} {m : Str → Option Value} {led led' : List (Addr × Obj)}
/-- an object of the ghost will be turned again -/
theorem release {la : Addr} {o : Obj} (X : W C g' L m led h) (hg : g'.get? la = some o) (G : Glob C g) (s : Sub g g') (hn : g.get? la = none) :
    ∃ g'', Sub g g'' ∧ Sub g'' g' ∧ (∀ b o, g'.get? b = some o → b ≠ la → g''.get? b = some o) ∧ W C g'' L m ((la, o) :: led) h := by
  have k : ∀ b o, g'.get? b = some o → b ≠ la → (hideAll g' [la]).get? b = some o := fun b o e hb => hideAll_get _ e (by simpa using hb)
  have s2 : Sub g (hideAll g' [la]) := fun b o e => k b o (s b o e) (fun q => by rw [q, hn] at e; cases e)
  have s3 : Sub (hideAll g' [la]) g' := fun b o e => of_hideAll _ e
  have nn : ∀ b, g'.get? b = none → (hideAll g' [la]).get? b = none := fun b e => by
    cases q : (hideAll g' [la]).get? b with
    | none => rfl
    | some o => rw [s3 b o q] at e; cases e
  refine ⟨_, s2, s3, k, X.ns, s3.trans X.keep, nn _ X.off, fun p hp => ?_, fun p hp => ?_, ?_, G.keeps s2⟩
  · rcases List.mem_cons.mp hp with rfl | hp
    · exact X.keep _ _ hg
    · exact X.at_ p hp
  · rcases List.mem_cons.mp hp with rfl | hp
    · exact ⟨fun e => (by have := X.off; rw [← e, hg] at this; cases this), hideAll_none _ (.head _)⟩
    · exact ⟨(X.sep p hp).1, nn _ (X.sep p hp).2⟩
  · refine List.nodup_cons.mpr ⟨fun hm => ?_, X.nd⟩
    obtain ⟨p, hp, e⟩ := List.mem_map.mp hm
    have := (X.sep p hp).2
    rw [e, hg] at this; cases this
theorem rot3 {a b c : Addr × Obj} (X : W C g L m [a, b, c] h) : W C g L m [c, a, b] h := X.perm (fun p hp => by simp at hp ⊢; rcases hp with h | h | h <;> simp [h]) (by
  have := X.nd; simp at this ⊢
  refine ⟨⟨fun e => this.1.2 e.symm, fun e => this.2 e.symm⟩, this.1.1⟩)
end W
theorem All2.eraseIdx {α : Type} {R : Value → α → Prop} {vs : List Value} {xs : List α} (a : All2 R vs xs) (i : Nat) : All2 R (vs.eraseIdx i) (xs.eraseIdx i) := by
  refine ⟨by rw [List.length_eraseIdx, List.length_eraseIdx, a.1], fun j v x hv hx => ?_⟩
  rw [List.getElem?_eraseIdx] at hv hx
  by_cases h : j < i
  · rw [if_pos h] at hv hx; exact a.2 j v x hv hx
  · rw [if_neg h] at hv hx; exact a.2 _ v x hv hx
theorem erase_idx (x : Nat) : ∀ {ns : List Nat}, x ∈ ns → ∃ i, ns[i]? = some x ∧ (∀ j, j < i → ns[j]? ≠ some x) ∧ ns.erase x = ns.eraseIdx i
  | y :: r, hx => by
    by_cases h : y = x
    · subst h
      exact ⟨0, rfl, fun j hj => absurd hj (Nat.not_lt_zero _), by simp⟩
    · rcases List.mem_cons.mp hx with e | hx
      · exact absurd e.symm h
      · obtain ⟨i, a, b, c⟩ := erase_idx x hx
        refine ⟨i + 1, by simpa using a, fun j hj => ?_, ?_⟩
        · cases j with
          | zero => simpa using h
          | succ j => simpa using b j (by omega)
        · rw [List.erase_cons_tail (by simpa using h), c, List.eraseIdx_cons_succ]

/-- a dict of the packages -/
def PD {α : Type} (C : Cx) (R : Heap → Value → α → Prop) (g : Heap) (v : Value) (f : Nat → α) (pk : Nat → Str) : Prop :=
  E3 fun d o kvs => A5 (v = .ref d) (g.get? d = some o) (SD C o kvs) (Lo d) (∀ i, i < 2 → ∃ w, valueAt kvs (pk i) = some w ∧ R g w (f i))
theorem PD.mono {α : Type} {C : Cx} {R : Heap → Value → α → Prop} (hR : ∀ {g g' v x}, Sub g g' → R g v x → R g' v x) {g g' : Heap} (s : Sub g g') {v : Value} {f : Nat → α} {pk : Nat → Str} (x : PD C R g v f pk) : PD C R g' v f pk :=
  let ⟨d, o, kvs, a, b, c, e, f⟩ := x; ⟨d, o, kvs, a, s _ _ b, c, e, fun i hi => let ⟨w, p, q⟩ := f i hi; ⟨w, p, hR s q⟩⟩
end Mine
end
section
open PySem PySem.W PyProof.Rows PySem.Calls PyProof.V PySem.Spec
set_option Elab.async false
set_option maxRecDepth 100000
set_option maxHeartbeats 4000000
set_option linter.unusedVariables false
namespace Mine

section
variable {C : Cx} {A : Around} {E : Value → Heap → Prop} {g h : Heap} {L : Addr} {m : Str → Option Value} {led led' : List (Addr × Obj)} {env : Env}

theorem T_DictW {keys : List (Option Expr)} {values : List Expr} {pos : Pos} {Q : Value → Heap → Prop} (X : W C g L m led h)
    (hx : ∀ h2 d, W C g L m ((d, dictO) :: led) h2 → Lo d → (∀ b o, h.get? b = some o → h2.get? b = some o) → T C A (evalPairs (pairTrees keys values env pos)) (fun vs h3 => E1 fun kvs => (Carries (PySem.strKind C.prog C.w) vs kvs) ∧ (E4 fun g3 L3 m3 led3 => (W C g3 L3 m3 (led3 ++ (d, dictO) :: led) h3) ∧ (∀ h4 o, SD C o (merged [] kvs) → W C g3 L3 m3 (led3 ++ (d, o) :: led) h4 → Q (.ref d) h4))) E h2)
    (hall : keys.all (·.isSome) = true := by rfl) (hl : keys.length = values.length := by rfl) (h0 : keys ≠ [] := by simp) (hlen : keys.length ≤ 15 := by decide) : T C A (eval (.Dict keys values pos) env) Q E h := fun tk => by
  refine wpAny_Dict_walk (knd := PySem.strKind C.prog C.w) hall hl h0 hlen ?_
  refine wpAny_mono (hx _ h.objs.size X.push X.newLo (fun b o e => Heap.get?_push_of_some _ e) tk) (fun vs s1 H => ?_) fun _ _ x => x
  obtain ⟨h3, tk3, rfl, kvs, hc, g3, L3, m3, led3, X3, hq⟩ := H
  refine ⟨kvs, hc, SD.empty.of (X3.at_ (h.objs.size, dictO) (by simp)), fun h' hm hs => ?_⟩
  obtain ⟨o', ho', hd'⟩ := Heap.dictOf_iff.mp hm
  exact ⟨h', _, rfl, hq h' o' hd' (X3.same (Up.app _ .here) hs ho')⟩
theorem T_pair {k v : Expr} {ks : List (Option Expr)} {vs : List Expr} {pos : Pos} {Q : List (Value × Value) → Heap → Prop}
    (hx : T C A (eval k env) (fun kv h1 => T C A (eval v env) (fun vv h2 => T C A (evalPairs (pairTrees ks vs env pos)) (fun r h3 => Q ((kv, vv) :: r) h3) E h2) E h1) E h) : T C A (evalPairs (pairTrees (some k :: ks) (v :: vs) env pos)) Q E h := fun tk =>
  pairTrees_cons_walk (wpAny_mono (hx tk) (fun kv s1 H => by
    obtain ⟨h1, tk1, rfl, H⟩ := H
    exact wpAny_mono (H tk1) (fun vv s2 H => by
      obtain ⟨h2, tk2, rfl, H⟩ := H
      exact H tk2) fun _ _ x => x) fun _ _ x => x)
theorem T_pair0 {pos : Pos} {Q : List (Value × Value) → Heap → Prop} (hq : Q [] h) : T C A (evalPairs (pairTrees [] [] env pos)) Q E h := fun tk => pairTrees_nil_walk ⟨_, _, rfl, hq⟩

theorem T_C0 {x : Str} {f : Addr} {np pos : Pos} {Q : Value → Heap → Prop} (X : W C g L m led h) (hn : nsIn (KF C) mainGlobals x = some (some (.ref f))) (hk : keepIn (KF C) (.ref f) = true)
    (hx : T C A (call (.ref f) [] []) Q E h)
    (hkf : env.scope.kind = .function := by kernel_rfl) (hxk : env.kindOf x = some .globalImplicit := by kernel_rfl) (hg : env.globals = mainGlobals := by kernel_rfl) (hd : (x == ("__debug__" : Str)) = false := by kernel_rfl) : T C A (eval (.Call (.Name x np) [] [] pos) env) Q E h :=
  T_CallName (T_ldg X hn (T_callWith0 (P := fun h => (KF C).In h) (Kp.fn hk) (X.glob.K.keeps X.keep) hx) hkf hxk hg hd)

theorem W.addNews {h' : Heap} {N : List (Addr × Obj)} (X : W C g L m led h) (hK : Keep [] h h') (hy : ∀ p ∈ N, h.get? p.1 = none) (hat : ∀ p ∈ N, h'.get? p.1 = some p.2) (hn : (N.map (·.1)).Nodup) : W C g L m (N ++ led) h' := by
  have k : ∀ b o, h.get? b = some o → h'.get? b = some o := fun b o e => hK b o (by simp) e
  obtain ⟨oL, hL⟩ := X.ldom
  have gn : ∀ p ∈ N, g.get? p.1 = none := fun p hp => by
    cases e : g.get? p.1 with
    | none => rfl
    | some o' => have := X.keep _ _ e; rw [hy p hp] at this; cases this
  refine ⟨X.ns.keeps k, X.keep.trans k, X.off, fun p hp => ?_, fun p hp => ?_, ?_, X.glob⟩
  · rcases List.mem_append.mp hp with hp | hp
    · exact hat p hp
    · exact k _ _ (X.at_ p hp)
  · rcases List.mem_append.mp hp with hp | hp
    · exact ⟨ne_of_get (hy p hp) hL, gn p hp⟩
    · exact X.sep p hp
  · rw [List.map_append]
    refine List.nodup_append.mpr ⟨hn, X.nd, fun a ha b hb e => ?_⟩
    subst e
    obtain ⟨p, hp, e1⟩ := List.mem_map.mp ha
    obtain ⟨q, hq, e2⟩ := List.mem_map.mp hb
    have := X.at_ q hq
    rw [e2, ← e1, hy p hp] at this; cases this
end
end Mine
end
section
open PySem PySem.W PyProof.Rows PySem.Calls PyProof.V PySem.Spec
set_option Elab.async false
set_option maxRecDepth 100000
set_option maxHeartbeats 4000000
set_option linter.unusedVariables false
namespace Mine

theorem valueAt_stored {K : Type} [DecidableEq K] (kvs : List (K × Value)) (k k' : K) (v : Value) : valueAt (stored kvs k v) k' = if k' = k then some v else valueAt kvs k' := by
  unfold stored
  split
  · rename_i ha
    induction kvs with
    | nil => simp at ha
    | cons p r ih =>
      simp only [valueAt, List.map_cons, List.find?_cons] at ih ⊢
      by_cases hp : p.1 = k
      · by_cases hk : k' = k
        · subst hk; simp [hp]
        · have h1 : ¬ p.1 = k' := fun e => hk (e ▸ hp)
          have h2 : ¬ k = k' := fun e => hk e.symm
          simp only [hp, if_true]
          simp only [h2, decide_false, hk, if_false]
          by_cases hr : r.any (fun kv => decide (kv.1 = k)) = true
          · have := ih hr
            simp only [hk, if_false] at this
            rw [← this]
          · have e : r.map (fun kv => if kv.1 = k then (kv.1, v) else kv) = r := by
              have : ∀ x ∈ r, (fun kv => if kv.1 = k then (kv.1, v) else kv) x = x := fun x hx => by
                have : ¬ x.1 = k := fun e => hr (List.any_eq_true.mpr ⟨x, hx, by simpa using e⟩)
                simp [this]
              rw [List.map_congr_left this, List.map_id']
            rw [e]
      · have hr : r.any (fun kv => decide (kv.1 = k)) = true := by simpa [hp] using ha
        simp only [hp, if_false]
        by_cases hk2 : p.1 = k'
        · have : ¬ k' = k := fun e => hp (hk2.trans e)
          simp [hk2, this]
        · simp only [hk2, decide_false]
          exact ih hr
  · rename_i ha
    have hn : valueAt kvs k = none := by
      unfold valueAt
      rw [Option.map_eq_none_iff, List.find?_eq_none]
      intro x hx e
      exact ha (List.any_eq_true.mpr ⟨x, hx, e⟩)
    by_cases hk : k' = k
    · subst hk
      rw [if_pos rfl]
      unfold valueAt at hn ⊢
      rw [List.find?_append]
      rw [Option.map_eq_none_iff] at hn
      rw [hn]; simp
    · rw [if_neg hk]
      unfold valueAt
      rw [List.find?_append]
      have h2 : ¬ k = k' := fun e => hk e.symm
      simp [h2]

def keysAdd (ks : List (List Str)) (k : List Str) : List (List Str) := if k ∈ ks then ks else ks ++ [k]
theorem atKey_some {xs : List (List Str × Addr × Value)} {k : List Str} : (atKey xs k).isSome = decide (k ∈ xs.map (·.1)) := by
  rw [← any_kvsOf]
  unfold kvsOf
  rw [Bool.eq_iff_iff, List.any_eq_true, decide_eq_true_eq, List.mem_map]
  constructor
  · rintro ⟨x, hx, e⟩
    obtain ⟨y, hy, rfl⟩ := List.mem_map.mp hx
    exact ⟨y, hy, by simpa using e⟩
  · rintro ⟨y, hy, e⟩
    exact ⟨_, List.mem_map.mpr ⟨y, hy, rfl⟩, by simpa using e⟩
theorem storedH_keys (xs : List (List Str × Addr × Value)) (k : List Str) (a : Addr) (v : Value) : (storedH xs k a v).map (·.1) = keysAdd (xs.map (·.1)) k := by
  unfold storedH keysAdd
  rw [atKey_some]
  by_cases h : k ∈ xs.map (·.1)
  · rw [if_pos h, if_pos (by simpa using h), List.map_map]
    refine List.map_congr_left fun x _ => ?_
    show (putAt k v x).1 = x.1
    unfold putAt; split <;> rfl
  · rw [if_neg h, if_neg (by simpa using h)]; simp

abbrev TK (C : Cx) := tupleKind (PySem.strKind C.prog C.w)
def TDO (C : Cx) (g : Heap) (o : Obj) (xs : List (List Str × Addr × Value)) : Prop :=
  (o.ExactDict) ∧ (E2 fun es ep => A4 (o.data = .dict es ep) (es.toList = xs.map (entryOfKey (TK C))) ((xs.map (·.1)).Nodup) (∀ x ∈ xs, IsTupleKey (PySem.strKind C.prog C.w) g x.1 x.2.1))
theorem isTupleKey_mono {C : Cx} {g g' : Heap} (s : Sub g g') {ks : List Str} {a : Addr} (x : IsTupleKey (PySem.strKind C.prog C.w) g ks a) : IsTupleKey (PySem.strKind C.prog C.w) g' ks a := let ⟨o, i, n, h, r⟩ := x; ⟨o, i, n, s _ _ h, r⟩
theorem TDO.mono {C : Cx} {g g' : Heap} (s : Sub g g') {o : Obj} {xs : List (List Str × Addr × Value)} (x : TDO C g o xs) : TDO C g' o xs := let ⟨a, es, ep, b, c, d, e⟩ := x; ⟨a, es, ep, b, c, d, fun y hy => isTupleKey_mono s (e y hy)⟩
theorem TDO.empty {C : Cx} {g : Heap} : TDO C g dictO [] := ⟨⟨rfl, rfl, rfl⟩, #[], 0, rfl, rfl, List.nodup_nil, fun _ h => nomatch h⟩
theorem tupKey2 {C : Cx} {g : Heap} {a : Addr} {x y : Str} {t u : Tok} (h : g.get? a = some (tupO [.str x t, .str y u])) : IsTupleKey (PySem.strKind C.prog C.w) g [x, y] a :=
  ⟨_, _, _, h, rfl, rfl, .cons (strKind_is _ _ _ _) (.cons (strKind_is _ _ _ _) .nil)⟩

section
variable {C : Cx} {A : Around} {E : Value → Heap → Prop} {g h : Heap} {L : Addr} {m : Str → Option Value} {led led' : List (Addr × Obj)} {env : Env}
theorem S_setTD {d a : Addr} {o : Obj} {xs : List (List Str × Addr × Value)} {ks : List Str} {v : Value} {led' : Obj → List (Addr × Obj)} {k : Nat} {gg : Heap} {Q : Unit → Heap → Prop} (hA : Lv k A) (X : W C g L m led h) (sgg : Sub gg g) (u : ∀ o', Up d o o' led (led' o')) (hd : TDO C gg o xs) (ha : IsTupleKey (PySem.strKind C.prog C.w) gg ks a) (hz : xs.length ≤ 1000)
    (hq : ∀ h' o', TDO C gg o' (storedH xs ks a v) → W C g L m (led' o') h' → Q () h') : T C A (setItem (.ref d) (.ref a) v) Q E h := fun tk => by
  obtain ⟨hx, es, ep, hdat, he, hn, hk⟩ := hd
  have ho := X.at_ _ (u o).mem
  have hm : (C.st h tk).heap.DictOfH (TK C) d xs := ⟨o, es, ep, ho, hx, hdat, he, fun x hx => isTupleKey_mono (sgg.trans X.keep) (hk x hx), hn⟩
  refine wpAny_setItem_heap (hsz := by rw [sizeLine_eq]; omega) (tupleKind_room_in1 (by have := hA.un; unfold cLine; omega)) (isTupleKey_mono (sgg.trans X.keep) ha) hm fun h' hm' hs => ?_
  obtain ⟨o', es', ep', ho', hx', hdat', he', _, hn'⟩ := hm'
  refine ⟨_, _, rfl, hq h' o' ⟨hx', es', ep', hdat', he', hn', fun x hx => ?_⟩ (X.same (u o') hs ho')⟩
  rcases mem_storedH hx with ⟨y, hy, e1, e2⟩ | ⟨e1, e2⟩
  · rw [e1, e2]; exact hk y hy
  · rw [e1, e2]; exact ha

/-- the walk over a dict with keys of tuples -/
theorem src_td {elts : List Expr} {k : Nat} {p : Pos} {d : Addr} {o : Obj} {xs : List (List Str × Addr × Value)} (hA : A.handled = none) (X : W C g L m led h) (lo : Lo d) (hl : g.get? d = some o) (hd : TDO C g o xs) :
    Src C A (.Tuple elts k p) (.ref d) xs.length (fun i _ v => ∃ x, xs[i]? = some x ∧ v = .ref x.2.1) g L m led E h := by
  obtain ⟨hx, es, ep, hdat, he, hn, hk⟩ := hd
  have hsz : es.size = xs.length := by rw [← Array.length_toList, he, List.length_map]
  have := src_raw (C := C) (A := A) (E := E) (target := .Tuple elts k p) hA X lo hl hx hdat (.inr ⟨⟨elts, k, p, rfl⟩, fun e hm => by
    rw [he] at hm
    obtain ⟨x, _, rfl⟩ := List.mem_map.mp hm
    exact ⟨_, rfl⟩⟩)
  rw [hsz] at this
  refine T_post this fun itv h2' ⟨I, e, X2, hk2, fp, wr, St, it, r1, r2, r3, r4⟩ => ⟨I, e, X2, hk2, fp, wr, St, ⟨it.frame, it.live, fun i h Q hi hs hq => it.item i h Q hi hs fun v h' hP hs' hk => hq v h' ?_ hs' hk, it.done, it.self⟩, r1, r2, r3, r4⟩
  obtain ⟨e, he1, rfl⟩ := hP
  rw [← Array.getElem?_toList, he, List.getElem?_map] at he1
  obtain ⟨x, hx, rfl⟩ := Option.map_eq_some_iff.mp he1
  exact ⟨x, hx, rfl⟩
theorem tupKey_two {x y : Str} {a : Addr} (hk : IsTupleKey (PySem.strKind C.prog C.w) g [x, y] a) : ∃ t u, g.IsTuple a [.str x t, .str y u].toArray := by
  obtain ⟨o, items, n, ho, hc, hd, hi⟩ := hk
  generalize hil : items.toList = il at hi
  cases hi with
  | cons h1 r => cases r with
    | cons h2 r2 =>
      cases r2
      obtain ⟨t, rfl⟩ := Value.isStrOf_shape h1
      obtain ⟨u, rfl⟩ := Value.isStrOf_shape h2
      refine ⟨t, u, o, ho, hc, n, ?_⟩
      rw [hd, ← hil]
end
end Mine
end
section
open PySem PySem.W PyProof.Rows PySem.Calls PyProof.V PySem.Spec
set_option Elab.async false
set_option maxRecDepth 100000
set_option maxHeartbeats 4000000
set_option linter.unusedVariables false
namespace Mine

/-- a walk that goes on behind m items that lie there -/
theorem Walks.behind {prog : Program} {w : World} {A : Around} {I : Addr} {fp wr : List Addr} {n : Nat} {P : Nat → Value → Prop} {St : Nat → Heap → Prop} (W : Walks prog w A I fp wr n P St) (vs : List Value) :
    Walks prog w A I fp wr (vs.length + n) (fun j v => if j < vs.length then vs[j]? = some v else P (j - vs.length) v) (fun j h => vs.length ≤ j ∧ St (j - vs.length) h) where
  sub := W.sub
  frame := fun i h h' st k => ⟨st.1, W.frame _ h h' st.2 k⟩
  item := fun i s Q E hi st hq => W.item (i - vs.length) s Q E (by have := st.1; omega) st.2 fun v h' tk hp hs hk => hq v h' tk (by rw [if_neg (by have := st.1; omega)]; exact hp) ⟨by have := st.1; omega, by have := st.1; rw [show i + 1 - vs.length = i - vs.length + 1 by omega]; exact hs⟩ hk
  done := fun s Q E st hq => W.done s Q E (by have := st.2; rwa [show vs.length + n - vs.length = n by omega] at this) hq
  self := fun i s Q E st hq => W.self _ s Q E st.2 hq

theorem mapSeq_list (f : Array Value → Array Value) (xs : Array Value) (k : Nat) : ∃ k', Obj.mapSeq f { cls := .type "list", data := .seq xs k } = { cls := .type "list", data := .seq (f xs) k' } :=
  ⟨if ((f xs).size == xs.size) = true then k else k + 1, rfl⟩
section
variable {C : Cx} {A : Around} {E : Value → Heap → Prop} {g h : Heap} {L : Addr} {m : Str → Option Value} {led led' : List (Addr × Obj)} {env : Env}

theorem M_extendD {l d : Addr} {vs : List Value} {k : Nat} {o : Obj} {kvs : List (Str × Value)} {Q : Value → Heap → Prop} (hA : A.handled = none) (X : W C g L m ((l, listO vs k) :: led) h) (ho : h.get? d = some o) (hld : l ≠ d) (hd : SD C o kvs) (lo : Lo d) (hz : vs.length + kvs.length ≤ 900)
    (hq : ∀ h' ws k', W C g L m ((l, listO (vs ++ ws) k') :: led) h' → ws.length = kvs.length → (∀ (j : Nat) v, ws[j]? = some v → ∃ key x t, kvs[j]? = some (key, x) ∧ v = .str key t) → Q .none h') :
    T C A (call (.builtin "list.extend") [.ref l, .ref d]) Q E h := fun tk => by
  have hl : h.get? l = some (listO vs k) := X.at_ _ (.head _)
  have hT : (C.st h tk).TypeIs (.ref l) "list" := ⟨_, hl, rfl⟩
  obtain ⟨ep, hat⟩ := (hd.of (h := (C.st h tk).heap) ho).dictAt
  have K := kdl_dict (prog := C.prog) (w := C.w) (knd := PySem.strKind C.prog C.w) (kvs := kvs) (ep := ep) lo
  obtain ⟨oI, St, hit, Wk, st⟩ := K.iter A.in1 (C.st h tk) hA hat
  have hSI : l ≠ h.objs.size := Nat.ne_of_lt (Heap.lt_size hl)
  have hSf : l ∉ [h.objs.size, d] := by simp only [List.mem_cons, List.not_mem_nil, or_false, not_or]; exact ⟨hSI, hld⟩
  refine wpAny_call (codeAny_call_builtin (R := fun r s' => match r with | .ok (.ret v) => At C (Q v) s' | .ok _ => False | .error e => At C (E e) s') PySem.F.slot_list_extend.plain PySem.F.entry_list_extend (PySem.F.slot_list_extend.check _ _ _ _ _ _ _ _ hT (PySem.F.args_list_extend_2 _ _) ?_))
  show wpAny _ _ (Builtin.List.listExtendWith (.ref l) (.ref d) .none) _ _ _
  have key : ∀ (h1 : Heap) (c1 tk1 : Nat), St 0 h1 → (∀ b o, b ≠ l → h.get? b = some o → h1.get? b = some o) → h1.get? l = some (listO vs c1) →
      codeAny (model C.prog C.w) A (.builtin "list.extend.loop" ⟨[.ref l, .ref h.objs.size, .none], []⟩) (fun r s' => match r with | .ok (.ret v) => At C (Q v) s' | .ok _ => False | .error e => At C (E e) s') (C.st h1 tk1) := by
    intro h1 c1 tk1 hst hk hS1
    refine codeAny_extend_loopS (Walks.behind Wk vs).toS (by rw [sizeLine_eq]; omega) l hSf .none kvs.length vs.length _ vs.toArray c1 (by omega) (by omega) ⟨Nat.le_refl _, by rw [Nat.sub_self]; exact hst⟩ hS1 ⟨by simp, fun j v hj => ?_⟩ fun s' acc' c' hm hS' hacc => ?_
    · have hj' : vs[j]? = some v := by simpa using hj
      show (if j < vs.length then vs[j]? = some v else _)
      rw [if_pos (List.getElem?_eq_some_iff.mp hj').1]; exact hj'
    · rw [Moved.eq_with hm]
      have hlen : acc'.toList.length = vs.length + kvs.length := by rw [Array.length_toList]; exact hacc.1
      have hfst : acc'.toList = vs ++ acc'.toList.drop vs.length := by
        have : acc'.toList.take vs.length = vs := by
          apply List.ext_getElem?
          intro j
          rw [List.getElem?_take]
          split
          · rename_i hj
            have hj2 : j < acc'.toList.length := by omega
            have := hacc.2 j acc'.toList[j] (by rw [← Array.getElem?_toList]; simp [hj2])
            dsimp only at this
            rw [if_pos hj] at this
            rw [this]; simp [hj2]
          · rename_i hj
            rw [List.getElem?_eq_none (by omega)]
        conv => lhs; rw [← List.take_append_drop vs.length acc'.toList, this]
      refine ⟨s'.heap, s'.toks, rfl, hq s'.heap (acc'.toList.drop vs.length) c' ?_ (by rw [List.length_drop]; omega) fun j v hv => ?_⟩
      · have kk : ∀ b o, b ≠ l → h.get? b = some o → s'.heap.get? b = some o := fun b o hb e => hm.heap b o (fun hmem => by
          rcases List.mem_cons.mp hmem with e' | hmem
          · exact hb e'
          · rw [List.mem_singleton.mp hmem, get_size] at e; cases e) (hk b o hb e)
        refine X.call1K (d := l) (fun b o hb e => kk b o (by simpa using hb) e) .here ?_
        rw [← hfst]
        simpa using hS'
      · rw [List.getElem?_drop] at hv
        have := hacc.2 (vs.length + j) v (by rw [← Array.getElem?_toList]; exact hv)
        dsimp only at this
        rw [if_neg (by omega), show vs.length + j - vs.length = j by omega] at this
        obtain ⟨k, x, hx, hk⟩ := this
        obtain ⟨t, rfl⟩ := Value.isStrOf_shape hk
        exact ⟨k, x, t, hx, rfl⟩
  unfold Builtin.List.listExtendWith
  refine wpAny_bind (wpAny_typeOf (T := "dict") (K.type _ hat) ?_)
  have h1 : Builtin.List.listSameRef (.ref l) (.ref d) = false := by simp [Builtin.List.listSameRef, hld]
  simp only [h1, K.notList, K.notTuple, Bool.or_false, Bool.false_eq_true, if_false]
  refine wpAny_bind (hit _ _ ?_)
  have hS1 := Heap.get?_push_of_some oI hl
  refine wpAny_bind (wpAny_holding (K.hint _ _ _ _ (K.keep _ _ hat fun b _ o e => Heap.get?_push_of_some _ e) ?_))
  refine wpAny_ite_split (fun hc => ?_) (fun _ => wpAny_pure ⟨plainId_quiet PySem.F.plain_extend_loop _, key _ k tk st (fun b o _ e => Heap.get?_push_of_some _ e) hS1⟩)
  refine wpAny_bind (wpAny_rule ?_)
  refine wpAny_bind ?_
  show wpAny _ _ (updateSeq l (·.push .none) >>= fun _ => updateSeq l (·.pop)) _ _ _
  refine wpAny_bind (wpAny_updateSeq (hz := by rw [List.size_toArray, sizeLine_eq]; omega) (_hz' := by rw [Array.size_push, List.size_toArray, sizeLine_eq]; omega) hS1 rfl ?_)
  have hS2 := Heap.get?_update_self (Obj.mapSeq (·.push Value.none)) hS1 rfl
  refine wpAny_updateSeq (hz := by show (vs.toArray.push Value.none).size ≤ _; rw [Array.size_push, List.size_toArray, sizeLine_eq]; omega) (_hz' := by show (vs.toArray.push Value.none).pop.size ≤ _; rw [Array.size_pop, Array.size_push, List.size_toArray, sizeLine_eq]; omega) hS2 rfl ?_
  have hS3 := Heap.get?_update_self (Obj.mapSeq (·.pop)) hS2 rfl
  obtain ⟨c3, e3⟩ : ∃ c3, Obj.mapSeq (·.pop) (Obj.mapSeq (·.push Value.none) (listO vs k)) = listO vs c3 := by
    obtain ⟨c2, e2⟩ := mapSeq_list (·.push Value.none) vs.toArray k
    obtain ⟨c4, e4⟩ := mapSeq_list (·.pop) (vs.toArray.push Value.none) c2
    refine ⟨c4, ?_⟩
    show Obj.mapSeq (·.pop) (Obj.mapSeq (·.push Value.none) { cls := .type "list", data := .seq vs.toArray k }) = _
    rw [e2, e4]
    rw [Array.pop_push]
  rw [e3] at hS3
  refine wpAny_pure ⟨plainId_quiet PySem.F.plain_extend_loop _, key _ c3 tk ?_ (fun b o hb e => ?_) hS3⟩
  · refine Wk.frame 0 _ _ st fun b hb o e => ?_
    have hbS : b ≠ l := fun h => hSf (h ▸ hb)
    exact (Heap.get?_update_other _ _ (Ne.symm hbS)).trans ((Heap.get?_update_other _ _ (Ne.symm hbS)).trans e)
  · exact (Heap.get?_update_other _ _ (Ne.symm hb)).trans ((Heap.get?_update_other _ _ (Ne.symm hb)).trans (Heap.get?_push_of_some _ e))
end
end Mine
end
open PySem PySem.W PyProof.Rows PySem.Calls PyProof.V PySem.Spec
namespace Mine
local macro_rules | `(tactic| walk_at "lk") => `(tactic| first | with_reducible exact upd_same | ((with_reducible refine' upd_ne ?hne ?_); (case hne => decide); walk_at "lk") | assumption)
local macro_rules | `(tactic| walk_at "ld") => `(tactic| ((with_reducible refine' T_ld (by assumption) ?hv ?_); (case hv => walk_at "lk")))
local macro_rules | `(tactic| walk_at "up") => `(tactic| first | exact fun _ => Up.here | exact fun _ => Up.there Up.here | exact fun _ => Up.there (Up.there Up.here) | exact fun _ => Up.there (Up.there (Up.there Up.here)) | exact fun _ => Up.there (Up.there (Up.there (Up.there Up.here))) | exact fun _ => Up.there (Up.there (Up.there (Up.there (Up.there Up.here)))) | exact fun _ => Up.there (Up.there (Up.there (Up.there (Up.there (Up.there Up.here))))) | exact fun _ => Up.there (Up.there (Up.there (Up.there (Up.there (Up.there (Up.there Up.here)))))) | exact fun _ => Up.there (Up.there (Up.there (Up.there (Up.there (Up.there (Up.there (Up.there Up.here))))))))
local macro_rules | `(tactic| walk_at "mem") => `(tactic| first | exact List.Mem.head _ | (refine List.Mem.tail _ ?_; walk_at "mem"))
local macro_rules | `(tactic| walk_at "mm") => `(tactic| first | exact List.Mem.head _ | (refine List.Mem.tail _ ?_; walk_at "mm") | (refine List.mem_append_right _ ?_; walk_at "mm") | (simp; done))
local macro_rules | `(tactic| walk_at "at") => `(tactic| first | assumption | exact W.at_ (by assumption) _ (by walk_at "mem") | exact W.keep (by assumption) _ _ (by assumption))
local macro_rules | `(tactic| walk_at "n1") => `(tactic| first
  | with_reducible refine T_execs_cons ?_
  | with_reducible refine T_execs_nil ?_
  | with_reducible refine T_If ?_
  | with_reducible refine T_isNot ?_
  | with_reducible refine T_isCompare ?_
  | with_reducible refine T_Return ?_
  | with_reducible refine T_BinOp ?_
  | with_reducible refine T_Compare ?_
  | with_reducible refine T_Sub ?_
  | ((with_reducible refine T_int ?_); intro _)
  | ((with_reducible refine T_str ?_); intro _)
  | ((with_reducible refine T_strS ?_); intro _)
  | with_reducible refine T_bool ?_
  | with_reducible refine T_none ?_
  | with_reducible refine T_truthy_bool ?_
  | ((with_reducible refine I_add ?_); intro _)
  | ((with_reducible refine I_sub ?_); intro _)
  | with_reducible refine I_gt ?_
  | with_reducible refine I_lt ?_
  | with_reducible refine I_ge ?_
  | with_reducible refine I_eq ?_
  | with_reducible refine I_ne ?_
  | with_reducible refine T_Assign_Name ?_
  | with_reducible refine T_order_name ?_
  | with_reducible refine T_Assign_Sub ?_
  | walk_at "ld"
  | with_reducible refine Cont.ret ?_
  | with_reducible refine Turn.ret ?_
  | with_reducible refine WTurn.ret ?_
  | with_reducible refine Hid.out (by assumption) ?_)
local macro_rules | `(tactic| walk_at "n") => `(tactic| (walk_at "n1"; repeat walk_at "n1"))
local macro_rules | `(tactic| walk_at "Sl") => `(tactic| ((with_reducible refine' S_list ?a ?b ?c ?d ?e ?f ?g); (case a => walk_at "at"); (case b => assumption); (case c => first | decide | omega); (case d => first | decide | omega); (case e => first | rfl | assumption); (case g => kernel_rfl)))

local macro_rules | `(tactic| walk_at "spl") => `(tactic| ((with_reducible refine' T_spl ?_ ?he); (case he => rfl)))
local macro_rules | `(tactic| walk_at "st") => `(tactic| ((with_reducible refine' T_st ?X ?_ ?a ?b ?c); (case X => assumption); (case a => kernel_rfl); (case b => kernel_rfl); (case c => kernel_rfl)))
local macro_rules | `(tactic| walk_at "as") => `(tactic| ((with_reducible refine T_execs_cons ?_); (with_reducible refine T_Assign_Name ?_)))
local macro_rules | `(tactic| walk_at "tup") => `(tactic| with_reducible refine T_TupX ?_)
local macro_rules | `(tactic| walk_at "lst") => `(tactic| with_reducible refine T_LstX ?_)
local macro_rules | `(tactic| walk_at "end") => `(tactic| ((with_reducible refine T_spl_nil ?_); (first | refine TupQ.mk (by assumption) (Nat.le_of_ble_eq_true rfl) ?_ | refine LstQ.mk (by assumption) (Nat.le_of_ble_eq_true rfl) ?_)))
local macro_rules | `(tactic| walk_at "sl") => `(tactic| first | exact List.Sublist.refl _ | ((refine List.Sublist.cons_cons _ ?_); walk_at "sl") | ((refine List.Sublist.cons _ ?_); walk_at "sl"))
local macro_rules | `(tactic| walk_at "dp1") => `(tactic| first | walk_at "spl" | walk_at "tup" | walk_at "n1" | (walk_at "end"; intro _ _ _ _))
local macro_rules | `(tactic| walk_at "dp") => `(tactic| (walk_at "dp1"; repeat walk_at "dp1"))
local macro_rules | `(tactic| walk_at "sat") => `(tactic| ((with_reducible refine T_execs_cons ?_); (with_reducible refine T_Assign_Attr ?_ ?hs); (case hs => rfl)))

section
open PySem PySem.W PyProof.Rows PySem.Calls
set_option Elab.async false
set_option maxRecDepth 100000
set_option maxHeartbeats 4000000

/-- the reel: two ints -/
def Reel (o : Obj) : Prop := ∃ (a b : Int) (t u : Tok), LW o [.int a t, .int b u] ∧ 0 ≤ a ∧ 0 ≤ b ∧ b < 65521

theorem Int.fm_nn {a b : Int} (hb : 0 < b) : 0 ≤ a.fmod b ∧ a.fmod b < b := ⟨Int.fmod_nonneg_of_pos a hb, Int.fmod_lt_of_pos a hb⟩
theorem Int.fd_nn {a b : Int} (ha : 0 ≤ a) (hb : 0 < b) : 0 ≤ a.fdiv b := by
  rw [Int.fdiv_eq_ediv_of_nonneg _ (Int.le_of_lt hb)]; exact Int.ediv_nonneg ha (Int.le_of_lt hb)
theorem noPylong (a b : Int) (hb : b.natAbs < 2 ^ 30) : Builtin.divisionGoesByPylong a b = false := PyProof.noPylong_small (by omega)
theorem W.leave {C : Cx} {gc h h2 : Heap} {L : Addr} {m : Str → Option Value} {led : List (Addr × Obj)} {S : List Addr} (X : W C gc L m led h2) (hKeep : ∀ h2, Sub gc h2 → Keep S h h2) : Keep S h h2 := hKeep _ X.keep

theorem wound_ok {C : Cx} {A : Around} {E : Value → Heap → Prop} {g h : Heap} {r : Addr} {o : Obj} {many : Int} {t : Tok} {Q : Value → Heap → Prop}
    (hA : Lv 1 A) (hG : Glob C g) (hk : Sub g h) (hr : h.get? r = some o) (hg : g.get? r = none) (hR : Reel o) (hm : 0 < many) (hm' : many < 1000)
    (hq : ∀ (v : Int) t h' o', 0 ≤ v → v < many → Keep [r] h h' → h'.get? r = some o' → Reel o' → Q (.int v t) h') :
    T C A (call (.ref 187) [.ref r, .int many t] []) Q E h := by
  obtain ⟨a, b, ta, tb, hL, ha, hb, hb'⟩ := hR
  refine T_callC (T_call0 187 [(S_ "reel", .ref r), (S_ "many", .int many t)] [(r, o)] hG hk hA.room (by simpa using hr) (by simpa using hg) (by simp) ⟨_, _, _, rfl⟩ (by kernel_rfl) (by kernel_rfl) (by kernel_rfl) (by kernel_rfl) (fun _ => by kernel_rfl) (fun _ => by kernel_rfl) (by kernel_rfl) (by kernel_rfl) (by kernel_rfl) (by kernel_rfl) ?_)
  intro gc h1 L hgc hgS hKeep X
  have e1 : nm [(S_ "reel", .ref r), (S_ "many", .int many t)] (S_ "reel") = some (.ref r) := by kernel_rfl
  have e2 : nm [(S_ "reel", .ref r), (S_ "many", .int many t)] (S_ "many") = some (.int many t) := by kernel_rfl
  generalize nm [(S_ "reel", .ref r), (S_ "many", .int many t)] = m0 at X e1 e2
  refine T_execs_cons ?_
  walk_at "n"
  walk_at "Sl"
  walk_at "n"
  refine ⟨fun hc => ?_, fun hc => ?_⟩
  · walk_at "n"
    walk_at "Sl"
    walk_at "n"
    refine I_mod (by omega) fun t3 => ?_
    refine T_st X fun h2 X2 => ?_
    walk_at "n"
    walk_at "Sl"
    walk_at "n"
    refine I_div (by omega) (noPylong _ _ (by omega)) fun t4 => ?_
    walk_at "n"
    refine S_setList X2 (by walk_at "up") hL (by decide) (by decide) (by simp) fun h3 o3 hL3 hs3 hg3 X3 => ?_
    walk_at "n"
    have := Int.fm_nn (a := a) hm
    exact hq _ _ _ _ this.1 this.2 (X3.leave hKeep) hg3 ⟨_, _, _, _, hL3, Int.fd_nn ha hm, hb, hb'⟩
  · walk_at "n"
    walk_at "Sl"
    walk_at "n"
    refine I_mul (by mul_fits) fun t3 => ?_
    walk_at "n"
    refine I_mod (by omega) fun t4 => ?_
    walk_at "n"
    refine S_setList X (by walk_at "up") hL (by decide) (by decide) (by simp) fun h3 o3 hL3 hs3 hg3 X3 => ?_
    have f1 := Int.fm_nn (a := b * 171 + 11213) (b := 65521) (by decide)
    walk_at "n"
    walk_at "Sl"
    walk_at "n"
    refine I_div (by decide) (noPylong _ _ (by decide)) fun t4 => ?_
    walk_at "n"
    refine I_mod (by omega) fun t5 => ?_
    have := Int.fm_nn (a := ((b * 171 + 11213).fmod 65521).fdiv 8) hm
    exact hq _ _ _ _ this.1 this.2 (X3.leave hKeep) hg3 ⟨_, _, _, _, hL3, ha, f1.1, f1.2⟩
end
section
open PySem PySem.W PyProof.Rows PySem.Calls PyProof.V PySem.Spec
set_option Elab.async false
set_option maxRecDepth 100000
set_option maxHeartbeats 4000000
set_option linter.unusedVariables false
section
variable {C : Cx} {A : Around} {E : Value → Heap → Prop} {g h : Heap} {L : Addr} {m : Str → Option Value} {led led' : List (Addr × Obj)} {env : Env}

/-- a draw of the reel -/
theorem T_wound {np pos : Pos} {e e' : Expr} {Q : Value → Heap → Prop} (X : W C g L m led h) (hA : Lv 1 A)
    (hx : T C A (eval e env) (fun v h1 => T C A (eval e' env) (fun v' h2 => E8 fun g L m led r o many t => E1 fun led' : Obj → List (Addr × Obj) => A8 (v = .ref r) (v' = .int many t) (W C g L m led h2) ((∀ o', Up r o o' led (led' o'))) (Reel o) (0 < many) (many < 1000) (∀ (w : Int) t h3 o', 0 ≤ w → w < many → Reel o' → W C g L m (led' o') h3 → Keep [r] h2 h3 → Q (.int w t) h3)) E h1) E h)
    (hn : nsIn (KF C) mainGlobals (Str.ofString "_law_wound") = some (some (.ref 187)) := by kernel_rfl) (hk : keepIn (KF C) (.ref 187) = true := by kernel_rfl)
    (hkf : env.scope.kind = .function := by kernel_rfl) (hxk : env.kindOf (Str.ofString "_law_wound") = some .globalImplicit := by kernel_rfl) (hg : env.globals = mainGlobals := by kernel_rfl)
    (he : starEach [e, e'] env = (false, eval e env) :: starEach [e'] env := by kernel_rfl) (he' : starEach [e'] env = (false, eval e' env) :: starEach [] env := by kernel_rfl) (hp : (backTo pos (starEach [e'] env)).any (·.1) = false := by kernel_rfl) :
    T C A (eval (.Call (.Name (Str.ofString "_law_wound") np) [e, e'] [] pos) env) Q E h :=
  T_F2 X hn hk (T_post hx fun v h1 H => T_post H fun v' h2 ⟨g, L, m, led, r, o, many, t, led', hv, hv', X2, u, hR, h0, h1, Hf⟩ => by
    subst hv hv'
    refine ⟨X2.glob.K.keeps X2.keep, wound_ok hA X2.glob X2.keep (X2.at_ _ (u o).mem) (X2.sep _ (u o).mem).2 hR h0 h1 fun w t h3 o' a b c d e => ?_⟩
    exact Hf w t h3 o' a b e (X2.call1K c (u o') d) c) hkf hxk hg (by kernel_rfl) he he' hp

end
end
section
open PySem PySem.W PyProof.Rows PySem.Calls PyProof.V PySem.Spec
set_option Elab.async false
set_option maxRecDepth 100000
set_option maxHeartbeats 4000000
set_option linter.unusedVariables false

theorem reel_ok {C : Cx} {A : Around} {E : Value → Heap → Prop} {g h : Heap} {s : Addr} {os : Obj} {vs : List Value} {ns : List Int} {Q : Value → Heap → Prop}
    (hA : Lv 1 A) (hG : Glob C g) (hk : Sub g h) (hs : g.get? s = some os) (hl : LW os vs) (hi : IntsAre vs ns) (hz : ns.length ≤ 63)
    (hq : ∀ r o h', h.get? r = none → h'.get? r = some o → Reel o → Keep [] h h' → Q (.ref r) h') : T C A (call (.ref 180) [.ref s] []) Q E h := by
  refine T_callC (T_call0 180 [(S_ "script", .ref s)] [] hG hk hA.room (by simp) (by simp) (by simp) ⟨_, _, _, rfl⟩ (by kernel_rfl) (by kernel_rfl) (by kernel_rfl) (by kernel_rfl) (fun _ => by kernel_rfl) (fun _ => by kernel_rfl) (by kernel_rfl) (by kernel_rfl) (by kernel_rfl) (by kernel_rfl) ?_)
  intro gc h1 L hgc hgS hKeep X
  have e1 : nm [(S_ "script", .ref s)] (S_ "script") = some (.ref s) := by kernel_rfl
  generalize nm [(S_ "script", .ref s)] = m0 at X e1
  have hs1 : h1.get? s = some os := X.keep _ _ (hgc _ _ hs)
  have hlen : vs.length ≤ 63 := by rw [hi.length]; exact hz
  refine T_execs_cons ?_
  walk_at "n"
  refine T_post (Q := fun v h2 => IsI v ((ns[0]?).getD 0) ∧ h2 = h1) ?_ ?_
  · refine T_IfExp ?_
    walk_at "n"
    ((with_reducible refine T_B1 (x := Str.ofString "len") (f := .builtin "len") (by assumption) (by kernel_rfl) (by kernel_rfl) Kp.builtin ?_))
    walk_at "n"
    refine C_lenL hs1 hl (by omega) fun t => ?_
    walk_at "n"
    refine ⟨fun hc => ?_, fun hc => ?_⟩
    · have hc' : 0 < vs.length := by simpa using hc
      walk_at "n"
      obtain ⟨n, t, hn, hv⟩ := ints_at hi 0 vs[0] (by simp [hc'])
      refine S_list hs1 hl (by decide) (by decide) (v := vs[0]) (by simp [hc']) ⟨⟨t, ?_⟩, rfl⟩
      rw [hv, hn]; rfl
    · have hc' : vs.length = 0 := by
        have := of_decide_eq_false hc; omega
      walk_at "n"
      refine ⟨?_, rfl⟩
      have : ns[0]? = none := by rw [List.getElem?_eq_none_iff, ← hi.length]; omega
      rw [this]; exact ⟨_, rfl⟩
  · rintro v h2 ⟨⟨t, rfl⟩, rfl⟩
    generalize (ns[0]?).getD 0 = k
    walk_at "st"
    intro h2 X2
    walk_at "n"
    refine T_post (Q := fun v h3 => (∃ i, IsI v i ∧ 0 ≤ i) ∧ h3 = h2) ?_ ?_
    · refine T_IfExp ?_
      walk_at "n"
      refine ⟨fun hc => ?_, fun hc => ?_⟩
      · walk_at "n"
        exact ⟨⟨k, ⟨_, rfl⟩, by simpa using hc⟩, rfl⟩
      · have : k < 0 := by have := of_decide_eq_false hc; omega
        walk_at "n"
        refine I_mul (by first | mul_fits | exact .inl (by decide)) fun t => ?_
        walk_at "n"
        exact ⟨⟨_, ⟨_, rfl⟩, by omega⟩, rfl⟩
    · rintro v h3 ⟨⟨i, ⟨t, rfl⟩, hi0⟩, rfl⟩
      walk_at "st"
      intro h4 X4
      walk_at "n"
      refine T_List ?_
      walk_at "spl"
      refine T_post (Q := fun v h5 => (∃ a, IsI v a ∧ 0 ≤ a) ∧ h5 = h4) ?_ ?_
      · refine T_IfExp ?_
        walk_at "n"
        refine I_pow (by decide) (by decide) (by decide) fun t => ?_
        walk_at "n"
        refine ⟨fun hc => ?_, fun hc => ?_⟩
        · walk_at "n"
          exact ⟨⟨i, ⟨_, rfl⟩, hi0⟩, rfl⟩
        · walk_at "n"
          exact ⟨⟨0, ⟨_, rfl⟩, by decide⟩, rfl⟩
      · rintro v h5 ⟨⟨a, ⟨t, rfl⟩, ha0⟩, rfl⟩
        walk_at "spl"
        walk_at "n"
        refine I_mod (by decide) fun t => ?_
        walk_at "n"
        have f1 := Int.fm_nn (a := i) (b := 999863) (by decide)
        generalize i.fmod 999863 = q at f1 ⊢
        refine I_mul (by mul_fits) fun t => ?_
        ((with_reducible refine T_B1 (x := Str.ofString "int") (f := .type "int") (by assumption) (by kernel_rfl) (by kernel_rfl) Kp.type ?_))
        walk_at "n"
        refine C_intB fun t => ?_
        walk_at "n"
        refine I_mod (by decide) fun t => ?_
        have f2 := Int.fm_nn (a := q * 4 + (if decide (k < 0) = true then 1 else 0) + 57) (b := 65521) (by decide)
        (with_reducible refine T_spl_nil ?_)
        refine ⟨by simp, ?_⟩
        have hy : h.get? h5.objs.size = none := (X4.push (o := dictO)).young (S := []) (.head _) (Sub.refl gc) hgS (by simp)
        refine hq _ _ _ hy (Heap.get?_push_size _ rfl) ⟨_, _, _, _, ⟨rfl, _, rfl⟩, ha0, f2.1, f2.2⟩ ?_
        exact Keep.trans (X4.leave hKeep) fun b o _ e => Heap.get?_push_of_some _ e
end
section
open PySem PySem.W PyProof.Rows PySem.Calls PyProof.V PySem.Spec
set_option Elab.async false
set_option maxRecDepth 100000
set_option maxHeartbeats 4000000
set_option linter.unusedVariables false

abbrev sI (k : Int) : Str := Str.ofString (toString k)
def namesOf (k : Nat) : Nat → List Str
  | 0 => [S_ "v" ++ sI k]
  | 1 => [S_ "v" ++ sI k, S_ "w" ++ sI k]
  | 2 => [S_ "_", S_ "v" ++ sI k]
  | _ => [S_ "_"]
def valNd (p : Str) (k way : Nat) : Nd := ⟨true, p, p ++ S_ ".var#" ++ sI ((k : Int) + 1), namesOf k way⟩
def fnNd (p n : Str) : Nd := ⟨false, p, p ++ S_ "." ++ n, []⟩
def fnNames : List Str := [S_ "f", S_ "g", S_ "T.get"]
def pkgOf : Nat → Str
  | 0 => S_ "p"
  | _ => S_ "main"
def pkgNds (p : Str) (ws : List Nat) : List Nd := ws.mapIdx (valNd p) ++ fnNames.map (fnNd p)
def Ways (ws : List Nat) : Prop := 1 ≤ ws.length ∧ ws.length ≤ 4 ∧ ∀ w ∈ ws, w < 4
def NDs : Nat → List Nd → Prop
  | 0, l => l = []
  | i + 1, l => ∃ l0 ws, NDs i l0 ∧ Ways ws ∧ l = l0 ++ pkgNds (pkgOf i) ws

theorem sI_len {k : Int} (h0 : 0 ≤ k) (h1 : k ≤ 10) : (sI k).length ≤ 12 := by
  have := len_str_of_int k
  unfold sI
  omega
inductive Short : Str → Prop
  | lit {s : String} : s.length ≤ 100 → Short (Str.ofString s)
  | num {k : Int} : 0 ≤ k → k ≤ 10 → Short (Str.ofString (toString k))
  | any {x : Str} : x.length ≤ 100 → Short x
theorem Short.le {x : Str} (s : Short x) : x.length ≤ 100 := by
  cases s with
  | lit h => rw [ofString_len]; exact h
  | num a b => have := sI_len a b; unfold sI at this; omega
  | any h => exact h
theorem slen {x y : Str} (a : Short x) (b : Short y) : x.length + y.length ≤ 1000 := by have := a.le; have := b.le; omega
theorem slen3 {x y z : Str} (a : Short x) (b : Short y) (c : Short z) : (x ++ y).length + z.length ≤ 1000 := by have := a.le; have := b.le; have := c.le; rw [PySem.Str.length_append]; omega
theorem pkg_len (i : Nat) : (pkgOf i).length ≤ 4 := by
  cases i <;> simp [pkgOf, S_, ofString_len] <;> decide
theorem pk_at {t1 t2 : Tok} {i : Nat} {v : Value} (h : [Value.str (Str.ofString "p") t1, .str (Str.ofString "main") t2][i]? = some v) : ∃ tp, v = .str (pkgOf i) tp := by
  match i, h with
  | 0, h => cases h; exact ⟨_, rfl⟩
  | 1, h => cases h; exact ⟨_, rfl⟩
theorem pk_at2 {i : Nat} {s : Str} (h : [S_ "p", S_ "main"][i]? = some s) : s = pkgOf i := by
  match i, h with
  | 0, h => cases h; rfl
  | 1, h => cases h; rfl
theorem two {P : Nat → Prop} (h0 : P 0) (h1 : P 1) (i : Nat) (hi : i < 2) : P i := by
  match i, hi with
  | 0, _ => exact h0
  | 1, _ => exact h1
theorem NDs.len : ∀ {i : Nat} {l : List Nd}, NDs i l → l.length ≤ 7 * i
  | 0, l, h => by rw [show l = [] from h]; simp
  | i + 1, l, ⟨l0, ws, h, hw, e⟩ => by
    have := NDs.len h
    rw [e, List.length_append, pkgNds, List.length_append, List.length_mapIdx, List.length_map]
    have := hw.2.1
    simp [fnNames]
    omega

/-- W by a fact about the frame's names that are asked again -/
theorem nodes_ok {C : Cx} {A : Around} {E : Value → Heap → Prop} {g h : Heap} {r : Addr} {o : Obj} {Q : Value → Heap → Prop}
    (hA : Lv 2 A) (hG : Glob C g) (hk : Sub g h) (hr : h.get? r = some o) (hg : g.get? r = none) (hR : Reel o)
    (hq : ∀ v nds o' h', NDs 2 nds → Lst NdAt (Fresh g h h') v nds → Keep [r] h h' → h'.get? r = some o' → Reel o' → Q v h') : T C A (call (.ref 194) [.ref r] []) Q E h := by
  refine T_callC (T_call0 194 [(S_ "reel", .ref r)] [(r, o)] hG hk hA.room (by simpa using hr) (by simpa using hg) (by simp) ⟨_, _, _, rfl⟩ (by kernel_rfl) (by kernel_rfl) (by kernel_rfl) (by kernel_rfl) (fun _ => by kernel_rfl) (fun _ => by kernel_rfl) (by kernel_rfl) (by kernel_rfl) (by kernel_rfl) (by kernel_rfl) ?_)
  intro gc h1 L hgc hgS hKeep X
  have hA1 : Lv 1 (A.deeper (envF C 194 L)) := hA.deeper _
  generalize A.deeper (envF C 194 L) = A1 at hA1 ⊢
  have e1 : nm [(S_ "reel", .ref r)] (S_ "reel") = some (.ref r) := by kernel_rfl
  generalize nm [(S_ "reel", .ref r)] = m0 at X e1
  have yg : ∀ {g1 m1 led1 h2} (X1 : W C g1 L m1 led1 h2) (s : Sub gc g1) {p : Addr × Obj}, p ∈ led1 → p.1 ≠ r → h.get? p.1 = none := fun X1 s p hp hn => X1.young hp s hgS (by simpa using hn)
  refine T_execs_cons ?_
  walk_at "n"
  refine T_List ?_
  (with_reducible refine T_spl_nil ?_)
  refine ⟨by simp, ?_⟩
  have X1 := X.push (o := listO [] 0)
  have hfr : h1.objs.size ≠ r := fun e => by
    have h3 := X.at_ _ (.head _)
    rw [← e, get_size] at h3; cases h3
  generalize h1.objs.size = fa at X1 hfr ⊢
  walk_at "st"
  intro h2 X2
  walk_at "n"
  refine T_For ?_
  refine T_List ?_
  walk_at "spl"
  walk_at "n"
  walk_at "spl"
  walk_at "n"
  (with_reducible refine T_spl_nil ?_)
  refine ⟨by simp, ?_⟩
  rename_i t1 t2
  obtain ⟨g3, s3, X3, hl3⟩ := (X2.push (o := listO [.str (Str.ofString "p") t1, .str (Str.ofString "main") t2] 0)).absorb1
  refine TL_src (src_list hA1.hd X3 hl3 (LX.mk (k := 0)).lw) (fun i g' m led => E4 fun vs k o nds => A7 (led = [(fa, listO vs k), (r, o)]) (Reel o) (m (S_ "reel") = some (.ref r)) (m (S_ "found") = some (.ref fa)) (NDs i nds) (Sub gc g') (All2 (NdAt (Fresh g h g')) vs nds)) ?_ ?_ ?_
  · exact ⟨[], 0, o, [], rfl, hR, upd_ne (by decide) e1, upd_same, rfl, s3, .nil⟩
  · rintro i v g4 m4 led4 own h4 Kq hKq hi s4 ⟨vs, k, o4, nds, rfl, hR4, mr, mf, hN, sg4, hV⟩ hP X4
    obtain ⟨tp, rfl⟩ := pk_at hP
    have hi2 : i < 2 := hi
    refine assign_Name ?_
    walk_at "st"
    intro h5 X5
    have hlen := hN.len
    have hlv : vs.length ≤ 7 := by rw [hV.1]; have : i < 2 := hi; omega
    walk_at "n"
    refine T_For ?_
    ((with_reducible refine T_B1 (x := Str.ofString "range") (f := .type "range") (by assumption) (by kernel_rfl) (by kernel_rfl) Kp.type ?_))
    walk_at "n"
    ((with_reducible refine T_wound (by assumption) (by assumption) ?_))
    walk_at "n"
    refine ⟨_, _, _, _, r, o4, _, _, fun o' => own ++ [(fa, listO vs k), (r, o')], rfl, rfl, X5, fun o' => Up.app own (.there .here), hR4, by decide, by decide, ?_⟩
    intro w tw h6 o6 hw0 hw1 hR6 X6 _
    walk_at "n"
    refine C_range (by omega) (by omega) fun q1 q2 q3 => ?_
    have X7 := X6.push (o := { cls := .type "range", data := .fields #[.int 0 q1, .int (1 + w) q2, .int 1 q3] })
    obtain ⟨n, hn⟩ : ∃ n : Nat, 1 + w = (n : Int) := ⟨(1 + w).toNat, by omega⟩
    rw [hn] at X7 ⊢
    refine TL_src (src_range hA1.hd X7.drop1 (Heap.get?_push_size _ rfl) (by omega)) (fun j g' m led => E3 fun vs k o => E1 fun ws : List Nat => A9 (led = own ++ [(fa, listO vs k), (r, o)]) (Reel o) (m (S_ "reel") = some (.ref r)) (m (S_ "found") = some (.ref fa)) (m (S_ "package") = some (.str (pkgOf i) tp)) (ws.length = j) ((∀ w ∈ ws, w < 4)) (Sub gc g') (All2 (NdAt (Fresh g h g')) vs (nds ++ ws.mapIdx (valNd (pkgOf i))))) ?_ ?_ ?_
    · exact ⟨vs, k, o6, [], rfl, hR6, upd_ne (by decide) mr, upd_ne (by decide) mf, upd_same, rfl, by simp, sg4, by simpa using hV⟩
    · rintro j vj g8 m8 led8 own8 h8 Kq hKq hj s8 ⟨vs8, k8, o8, ws, rfl, hR8, mr8, mf8, mp8, hwl, hw4, sg8, hV8⟩ ⟨tj, rfl⟩ X8
      have hj4 : j < 4 := by omega
      refine assign_Name ?_
      walk_at "st"
      intro h9 X9
      walk_at "n"
      refine T_Swap (names := [Str.ofString "name", Str.ofString "way"]) hA1.hd ?_
      refine T_Tuple ?_
      walk_at "spl"
      walk_at "n"
      ((with_reducible refine T_B1 (x := Str.ofString "str") (f := .type "str") (by assumption) (by kernel_rfl) (by kernel_rfl) Kp.type ?_))
      walk_at "n"
      refine C_str (by omega) (by omega) fun ts => ?_
      refine O_addS (slen (.lit (by decide)) (.num (by omega) (by omega))) fun tv => ?_
      walk_at "spl"
      ((with_reducible refine T_wound (by assumption) (by assumption) ?_))
      walk_at "n"
      refine ⟨_, _, _, _, r, o8, _, _, fun o' => own8 ++ (own ++ [(fa, listO vs8 k8), (r, o')]), rfl, rfl, X9, fun o' => Up.app _ (Up.app _ (.there .here)), hR8, by decide, by decide, ?_⟩
      intro w2 tw2 h10 o10 hw20 hw21 hR10 X10 _
      (with_reducible refine T_spl_nil ?_)
      refine ⟨by simp, ?_⟩
      refine ⟨_, _, _, _, _, _, rfl, (X10.push (o := tupO [.str (S_ "v" ++ sI j) tv, .int w2 tw2])).drop1, Heap.get?_push_size _ rfl, rfl, fun h11 X11 => ?_⟩
      refine T_order_name ?_
      walk_at "st"
      intro h12 X12
      refine T_order_name ?_
      walk_at "st"
      intro h13 X13
      refine T_order_nil ?_
      walk_at "as"
      obtain ⟨way, rfl⟩ : ∃ way : Nat, w2 = (way : Int) := ⟨w2.toNat, by omega⟩
      have hway : way < 4 := by omega
      refine T_post (Q := fun v h14 => ∃ b ns, v = .ref b ∧ All2 IsS ns (namesOf j way) ∧ W C g8 L (upd (upd (upd m8 (Str.ofString "k") (.int j tj)) (Str.ofString "way") (.int way tw2)) (Str.ofString "name") (.str (S_ "v" ++ sI j) tv)) ((b, tupO ns) :: (own8 ++ (own ++ [(fa, listO vs8 k8), (r, o10)]))) h14) ?_ ?_
      · refine T_Sub ?_
        walk_at "lst"
        walk_at "spl"
        walk_at "tup"
        walk_at "spl"
        walk_at "n"
        walk_at "end"
        intro ha b1 Xa _
        walk_at "spl"
        walk_at "tup"
        walk_at "spl"
        walk_at "n"
        walk_at "spl"
        walk_at "n"
        ((with_reducible refine T_B1 (x := Str.ofString "str") (f := .type "str") (by assumption) (by kernel_rfl) (by kernel_rfl) Kp.type ?_))
        walk_at "n"
        refine C_str (by omega) (by omega) fun ts => ?_
        refine O_addS (slen (.lit (by decide)) (.num (by omega) (by omega))) fun tv2 => ?_
        walk_at "end"
        intro hb b2 Xb _
        walk_at "spl"
        walk_at "tup"
        walk_at "spl"
        walk_at "n"
        walk_at "spl"
        walk_at "n"
        walk_at "end"
        intro hc b3 Xc _
        walk_at "spl"
        walk_at "tup"
        walk_at "spl"
        walk_at "n"
        walk_at "end"
        intro hd b4 Xd _
        walk_at "end"
        intro he b5 Xe _
        walk_at "n"
        have hl := Xe.at_ _ (.head _)
        rcases way with _ | _ | _ | _ | _
        · refine S_list hl (LX.mk (k := 0)).lw (by decide) (by decide) rfl ⟨b1, _, rfl, ?_, Xe.sub (by walk_at "sl")⟩
          exact .one ⟨_, rfl⟩
        · refine S_list hl (LX.mk (k := 0)).lw (by decide) (by decide) rfl ⟨b2, _, rfl, ?_, Xe.sub (by walk_at "sl")⟩
          exact .cons ⟨_, rfl⟩ (.one ⟨_, rfl⟩)
        · refine S_list hl (LX.mk (k := 0)).lw (by decide) (by decide) rfl ⟨b3, _, rfl, ?_, Xe.sub (by walk_at "sl")⟩
          exact .cons ⟨_, rfl⟩ (.one ⟨_, rfl⟩)
        · refine S_list hl (LX.mk (k := 0)).lw (by decide) (by decide) rfl ⟨b4, _, rfl, ?_, Xe.sub (by walk_at "sl")⟩
          exact .one ⟨_, rfl⟩
        · omega
      · rintro v h14 ⟨b, ns, rfl, hns, X14⟩
        walk_at "st"
        intro h15 X15
        refine T_execs_cons ?_
        (((with_reducible refine T_Expr ?_); (with_reducible refine T_L1 F.slot_list_append F.type_list_append ?_)))
        walk_at "n"
        refine ⟨fa, vs8, k8, rfl, X15.at_ (fa, listO vs8 k8) (by walk_at "mm"), ?_⟩
        walk_at "tup"
        walk_at "spl"
        walk_at "n"
        walk_at "spl"
        walk_at "n"
        walk_at "spl"
        walk_at "n"
        refine O_addS (slen (.any (by have := pkg_len i; omega)) (.lit (by decide))) fun tv2 => ?_
        ((with_reducible refine T_B1 (x := Str.ofString "str") (f := .type "str") (by assumption) (by kernel_rfl) (by kernel_rfl) Kp.type ?_))
        walk_at "n"
        refine C_str (by omega) (by omega) fun ts => ?_
        refine O_addS (slen3 (.any (by have := pkg_len i; omega)) (.lit (by decide)) (.num (by omega) (by omega))) fun tv3 => ?_
        walk_at "spl"
        walk_at "n"
        walk_at "end"
        intro h16 na X16 _
        refine M_append X16 (.there (.there (.app own8 (.app own .here)))) (by have := hV8.1; simp at this; omega) fun h17 X17 => ?_
        refine ⟨.inl rfl, ?_⟩
        walk_at "n"
        obtain ⟨g18, s18, X18, f18⟩ := X17.take (g0 := g) (h0 := h) (yg X17 sg8 (.head _) (X17.headNe (q := (r, o10)) (by walk_at "mm")))
        obtain ⟨g19, s19, X19, f19⟩ := X18.take (g0 := g) (h0 := h) (yg X18 (sg8.trans s18) (.head _) (X18.headNe (q := (r, o10)) (by walk_at "mm")))
        refine ⟨g19, _, _, s18.trans s19, X19, vs8 ++ [.ref na], k8 + 1, o10, ws ++ [way], rfl, hR10, by walk_at "lk", by walk_at "lk", by walk_at "lk", by simp [hwl], ?_, (sg8.trans s18).trans s19, ?_⟩
        · intro w hw
          rcases List.mem_append.mp hw with hw | hw
          · exact hw4 w hw
          · rw [List.mem_singleton.mp hw]; exact hway
        · subst hwl
          rw [List.mapIdx_concat, ← List.append_assoc]
          refine (hV8.mono fun _ _ => NdAt.mono (Fresh.mono (s18.trans s19))).snoc ⟨na, b, _, _, _, ns, rfl, Fresh.mono s19 _ _ f18, f19, hns⟩
    · rintro g8 m8 led8 h8 s8 ⟨vs8, k8, o8, ws, rfl, hR8, mr8, mf8, mp8, hwl, hw4, sg8, hV8⟩ X8
      have hws : Ways ws := ⟨by omega, by omega, hw4⟩
      walk_at "n"
      refine T_For ?_
      walk_at "lst"
      walk_at "spl"
      walk_at "n"
      walk_at "spl"
      walk_at "n"
      walk_at "spl"
      walk_at "n"
      walk_at "end"
      intro h9 la X9 _
      obtain ⟨g9, s9, X9, hl9⟩ := X9.absorb1
      refine TL_src (src_list hA1.hd X9 hl9 (LX.mk (k := 0)).lw) (fun j g' m led => E2 fun vs k => A6 (led = own ++ [(fa, listO vs k), (r, o8)]) (m (S_ "reel") = some (.ref r)) (m (S_ "found") = some (.ref fa)) (m (S_ "package") = some (.str (pkgOf i) tp)) (Sub gc g') (All2 (NdAt (Fresh g h g')) vs (nds ++ (ws.mapIdx (valNd (pkgOf i)) ++ (fnNames.take j).map (fnNd (pkgOf i)))))) ?_ ?_ ?_
      · exact ⟨vs8, k8, rfl, mr8, mf8, mp8, sg8.trans s9, by simpa using hV8.mono fun _ _ => NdAt.mono (Fresh.mono s9)⟩
      · rintro j v ga ma leda owna ha Kq hKq hj sa ⟨vsa, ka, rfl, mra, mfa, mpa, sga, hVa⟩ hP Xa
        have hj3 : j < 3 := hj
        obtain ⟨nmS, tn, hnm, rfl⟩ : ∃ nmS tn, fnNames[j]? = some nmS ∧ v = .str nmS tn := by
          match j, hP with
          | 0, hP => cases hP; exact ⟨_, _, rfl, rfl⟩
          | 1, hP => cases hP; exact ⟨_, _, rfl, rfl⟩
          | 2, hP => cases hP; exact ⟨_, _, rfl, rfl⟩
        have hnl : nmS.length ≤ 100 := by
          match j, hnm with
          | 0, hP => cases hP; exact (Short.lit (by decide)).le
          | 1, hP => cases hP; exact (Short.lit (by decide)).le
          | 2, hP => cases hP; exact (Short.lit (by decide)).le
        refine assign_Name ?_
        walk_at "st"
        intro hb Xb
        refine T_execs_cons ?_
        (((with_reducible refine T_Expr ?_); (with_reducible refine T_L1 F.slot_list_append F.type_list_append ?_)))
        walk_at "n"
        refine ⟨fa, vsa, ka, rfl, Xb.at_ (fa, listO vsa ka) (by walk_at "mm"), ?_⟩
        walk_at "tup"
        walk_at "spl"
        walk_at "n"
        walk_at "spl"
        walk_at "n"
        walk_at "spl"
        walk_at "n"
        refine O_addS (slen (.any (by have := pkg_len i; omega)) (.lit (by decide))) fun tv2 => ?_
        walk_at "n"
        refine O_addS (slen3 (.any (by have := pkg_len i; omega)) (.lit (by decide)) (.any hnl)) fun tv3 => ?_
        walk_at "spl"
        walk_at "tup"
        walk_at "end"
        intro hc ea Xc _
        walk_at "end"
        intro hd na Xd _
        refine M_append Xd (.there (.there (.app owna (.app own .here)))) (by have := hVa.1; simp at this; omega) fun he Xe => ?_
        refine ⟨.inl rfl, ?_⟩
        walk_at "n"
        obtain ⟨g18, s18, X18, f18⟩ := Xe.take (g0 := g) (h0 := h) (yg Xe sga (.head _) (Xe.headNe (q := (r, o8)) (by walk_at "mm")))
        obtain ⟨g19, s19, X19, f19⟩ := X18.take (g0 := g) (h0 := h) (yg X18 (sga.trans s18) (.head _) (X18.headNe (q := (r, o8)) (by walk_at "mm")))
        refine ⟨g19, _, _, s18.trans s19, X19, vsa ++ [.ref na], ka + 1, rfl, by walk_at "lk", by walk_at "lk", by walk_at "lk", (sga.trans s18).trans s19, ?_⟩
        have e : (fnNames.take (j + 1)) = fnNames.take j ++ [nmS] := by rw [List.take_add_one, hnm]; rfl
        rw [e, List.map_append, ← List.append_assoc, ← List.append_assoc, List.append_assoc nds]
        exact (hVa.mono fun _ _ => NdAt.mono (Fresh.mono (s18.trans s19))).snoc ⟨na, ea, _, _, _, [], rfl, Fresh.mono s19 _ _ f18, f19, .nil⟩
      · rintro ga ma leda ha sa ⟨vsa, ka, rfl, mra, mfa, mpa, sga, hVa⟩ Xa
        walk_at "n"
        exact ⟨ga, ma, _, s8.trans (s9.trans sa), Xa, vsa, ka, o8, _, rfl, hR8, mra, mfa, ⟨nds, ws, hN, hws, rfl⟩, sga, hVa⟩
  · rintro g4 m4 led4 h4 s4 ⟨vs, k, o4, nds, rfl, hR4, mr, mf, hN, sg4, hV⟩ X4
    walk_at "n"
    obtain ⟨g5, s5, X5, f5⟩ := X4.take (g0 := g) (h0 := h) (yg X4 sg4 (.head _) hfr)
    refine hq _ nds o4 _ hN ⟨fa, vs, k, rfl, Fresh.mono X5.keep _ _ f5, hV.mono fun _ _ => NdAt.mono (Fresh.mono (s5.trans X5.keep))⟩ (hKeep _ (sg4.trans (s5.trans X5.keep))) (X5.at_ _ (.head _)) hR4
end
section
open PySem PySem.W PyProof.Rows PySem.Calls PyProof.V PySem.Spec
set_option Elab.async false
set_option maxRecDepth 100000
set_option maxHeartbeats 4000000
set_option linter.unusedVariables false

def IsN (v : Value) (n : Nat) : Prop := ∃ t, v = .int (n : Int) t
def NList (g : Heap) (v : Value) (l : List Nat) : Prop := Lst (fun _ => IsN) g v l
theorem NList.mono {g g' : Heap} {v : Value} {l : List Nat} (s : Sub g g') (x : NList g v l) : NList g' v l := Lst.mono (R := fun _ => IsN) (fun _ h => h) s x
def goalOk (nds : List Nd) (a b : Nd) : Prop := (a.pkg = S_ "main" ∨ b.pkg = S_ "p") ∧ b.names ≠ [S_ "_"]
def EdgesOk (nds : List Nd) (n : Nat) (es : List (List Nat)) : Prop := es.length = n ∧ ∀ (i : Nat) gs, es[i]? = some gs → gs.length ≤ 2 ∧ ∀ j ∈ gs, ∃ a b, nds[i]? = some a ∧ nds[j]? = some b ∧ goalOk nds a b

theorem edges_ok {C : Cx} {A : Around} {E : Value → Heap → Prop} {g h : Heap} {r : Addr} {o : Obj} {nv : Value} {nds : List Nd} {Q : Value → Heap → Prop}
    (hA : Lv 2 A) (hG : Glob C g) (hk : Sub g h) (hr : h.get? r = some o) (hg : g.get? r = none) (hR : Reel o) (hN : Lst NdAt g nv nds) (hz : nds.length ≤ 14)
    (hq : ∀ v es o' h', EdgesOk nds nds.length es → Lst NList (Fresh g h h') v es → Keep [r] h h' → h'.get? r = some o' → Reel o' → Q v h') : T C A (call (.ref 199) [.ref r, nv] []) Q E h := by
  obtain ⟨na, nvs, nk, rfl, hna, hnv⟩ := hN
  refine T_callC (T_call1 199 [(S_ "reel", .ref r), (S_ "nodes", .ref na)] [(S_ "nodes", .ref na)] (S_ "reel") (some (.ref r)) [(r, o)] hG hk hA.room (by simpa using hr) (by simpa using hg) (by simp) ⟨_, _, _, rfl⟩ (by kernel_rfl) (by kernel_rfl) (by kernel_rfl) (fun _ => by kernel_rfl) (fun _ => by kernel_rfl) (fun _ => by kernel_rfl) (fun _ => by kernel_rfl) (by kernel_rfl) (by kernel_rfl) (by kernel_rfl) (by kernel_rfl) ?_)
  intro gc h1 L cr oc hgc hgS hKeep ec hoc X
  have hA1 : Lv 1 (A.deeper (envF C 199 L)) := hA.deeper _
  generalize A.deeper (envF C 199 L) = A1 at hA1 ⊢
  have e1 : nm [(S_ "nodes", .ref na)] (S_ "nodes") = some (.ref na) := by kernel_rfl
  generalize nm [(S_ "nodes", .ref na)] = m0 at X e1
  have yg : ∀ {g1 m1 led1 h2} (X1 : W C g1 L m1 led1 h2) (s : Sub gc g1) {p : Addr × Obj}, p ∈ led1 → p.1 ≠ r → h.get? p.1 = none := fun X1 s p hp hn => X1.young hp s hgS (by simpa using hn)
  obtain ⟨g0, s0, X0, hcr⟩ := X.absorb1
  have rl : ∀ {g2 : Heap} {m2 led2 h2 pos} {Q : Value → Heap → Prop}, W C g2 L m2 led2 h2 → Sub g0 g2 → Q (.ref r) h2 → T C A1 (eval (.Name (Str.ofString "reel") pos) (envF C 199 L)) Q noE h2 := fun X2 s hq =>
    T_ldc (c := cr) (by rw [ec]; rfl) ⟨oc, X2.keep _ _ (s _ _ hcr), hoc⟩ hq
  refine T_execs_cons ?_
  refine T_Swap (names := [Str.ofString "is_tame", Str.ofString "found"]) hA1.hd ?_
  walk_at "tup"
  walk_at "spl"
  walk_at "n"
  ((with_reducible refine T_wound (by assumption) (by assumption) ?_))
  refine rl X0 (Sub.refl _) ?_
  walk_at "n"
  refine ⟨_, _, _, _, r, o, _, _, fun o' => [(r, o')], rfl, rfl, X0, fun o' => .here, hR, by decide, by decide, ?_⟩
  intro w tw h2 o2 hw0 hw1 hR2 X2 _
  walk_at "n"
  walk_at "spl"
  walk_at "lst"
  walk_at "end"
  intro h3 fa X3 _
  walk_at "end"
  intro h4 ta X4 _
  refine ⟨_, _, _, _, _, _, rfl, X4.drop1, X4.at_ _ (.head _), rfl, fun h5 X5 => ?_⟩
  have hfr : fa ≠ r := X5.headNe (q := (r, o2)) (.head _)
  refine T_order_name ?_
  walk_at "st"
  intro h6 X6
  refine T_order_name ?_
  walk_at "st"
  intro h7 X7
  refine T_order_nil ?_
  refine T_execs_cons ?_
  have hna0 : ∀ {g2}, Sub g0 g2 → g2.get? na = some (listO nvs nk) := fun s => s _ _ (s0 _ _ (hgc _ _ hna))
  have hnl : nvs.length = nds.length := hnv.1
  have hnd : ∀ {g2 : Heap}, Sub g0 g2 → All2 (NdAt g2) nvs nds := fun s => hnv.mono fun _ _ => NdAt.mono (hgc.trans (s0.trans s))
  refine T_AssignLComp ?_ (by rw [ec]; kernel_rfl) (by kernel_rfl) (by kernel_rfl) (by kernel_rfl) (by intro _; kernel_rfl)
  walk_at "n"
  refine LU_src (src_list hA1.hd X7 (hna0 (Sub.refl _)) (LX.mk (k := nk)).lw) (by omega) (fun _ _ => ⟨by kernel_rfl, by rw [ec]; kernel_rfl⟩)
    (fun i ys g' m led => E2 fun o' ks => A5 (led = [(fa, listO [] 0), (r, o')]) (Reel o') (All2 IsN ys ks) (ks.length = i) (Sub g0 g')) ?_ ?_ ?_ (by kernel_rfl) (by kernel_rfl) (by kernel_rfl)
  · exact ⟨o2, [], rfl, hR2, .nil, rfl, Sub.refl _⟩
  · rintro i v ys k g8 m8 led8 own h8 Lc acc Kq Kr hKq hKr hi s8 ⟨o8, ks, rfl, hR8, hys, hkl, sg8⟩ hP X8
    refine assign_Name ?_
    walk_at "st"
    intro h9 X9
    refine tests_nil ⟨fun _ => ?_, fun e => by cases e⟩
    ((with_reducible refine T_wound (by assumption) (by assumption) ?_))
    refine T_ldc (c := cr) (by show (clOf (envF C 199 L).cells _ []).lookup _ = _; rw [ec]; kernel_rfl) ⟨oc, X9.keep _ _ (sg8 _ _ hcr), hoc⟩ ?_
    walk_at "n"
    refine ⟨_, _, _, _, r, o8, _, _, fun o' => own ++ ((acc, listO ys k) :: [(fa, listO [] 0), (r, o')]), rfl, rfl, X9, fun o' => .app own (.there (.there .here)), hR8, by decide, by decide, ?_⟩
    intro w9 tw9 h10 o10 hw90 hw91 hR10 X10 _
    obtain ⟨wn, rfl⟩ : ∃ wn : Nat, w9 = (wn : Int) := ⟨w9.toNat, by omega⟩
    exact hKq _ _ ⟨g8, _, _, Sub.refl _, X10, o10, ks ++ [wn], rfl, hR10, hys.snoc ⟨_, rfl⟩, by simp [hkl], sg8⟩
  · rintro ys kr g8 m8 led8 h8 ra s8 ⟨o8, rks, rfl, hR8, hys, hkl, sg8⟩ X8
    rw [hnl] at hkl
    obtain ⟨g9, s9, X9, hra⟩ := X8.absorb1
    have hlr : ys.length = nds.length := by rw [hys.1, hkl]
    walk_at "n"
    refine T_For ?_
    ((with_reducible refine T_B1 (x := Str.ofString "enumerate") (f := .type "enumerate") (by assumption) (by kernel_rfl) (by kernel_rfl) Kp.type ?_))
    walk_at "n"
    have sg9 : Sub g0 g9 := sg8.trans s9
    refine C_enum hA1.hd X9 (hna0 sg9) (LX.mk (k := nk)).lw fun ha ea Xa _ Sa => ?_
    refine TL_src (Sa _ _ _ _) (fun i g' m led => E4 fun vs k o es => A9 (led = [(fa, listO vs k), (r, o)]) (Reel o) (m (S_ "nodes") = some (.ref na)) (m (S_ "ranks") = some (.ref ra)) (m (S_ "is_tame") = some (.bool (decide (0 < w)))) (m (S_ "found") = some (.ref fa)) (Sub g9 g') (All2 (NList (Fresh g h g')) vs es) (EdgesOk nds i es)) ?_ ?_ ?_
    · exact ⟨[], 0, o8, [], rfl, hR8, by walk_at "lk", by walk_at "lk", by walk_at "lk", by walk_at "lk", Sub.refl _, .nil, rfl, fun i gs h => by cases h⟩
    · rintro i v gb mb ledb own hb Kq hKq hi sb ⟨vs, k, ob, es, rfl, hRb, mn, mr, mt, mf, sgb, hV, hE⟩ ⟨T, t, x, rfl, hx, hT⟩ Xb
      have sb0 := sg9.trans sgb
      obtain ⟨nd, hnd1, hndx⟩ := (hnd sb0).getV hx
      refine T_assignTuple (vs := [.int i t, x]) hA1.hd Xb hT (by kernel_rfl) (by kernel_rfl) fun hc Xc _ => ?_
      refine T_order_cons (assign_Name ?_)
      walk_at "st"
      intro hd Xd
      refine T_order_cons (assign_Name ?_)
      walk_at "st"
      intro he Xe
      refine T_order_nil ?_
      refine T_execs_cons ?_
      refine T_Assign_Name ?_
      walk_at "lst"
      walk_at "end"
      intro hf ga Xf _
      walk_at "st"
      intro hg1 Xg
      walk_at "n"
      refine T_For ?_
      ((with_reducible refine T_B1 (x := Str.ofString "range") (f := .type "range") (by assumption) (by kernel_rfl) (by kernel_rfl) Kp.type ?_))
      ((with_reducible refine T_wound (by assumption) (by assumption) ?_))
      refine rl Xg sb0 ?_
      walk_at "n"
      refine ⟨_, _, _, _, r, ob, _, _, fun o' => (ga, listO [] 0) :: (own ++ [(fa, listO vs k), (r, o')]), rfl, rfl, Xg, fun o' => .there (.app own (.there .here)), hRb, by decide, by decide, ?_⟩
      intro w2 tw2 hh oh hw20 hw21 hRh Xh _
      refine C_range (by omega) (by omega) fun q1 q2 q3 => ?_
      have Xi := Xh.push (o := { cls := .type "range", data := .fields #[.int 0 q1, .int w2 q2, .int 1 q3] })
      obtain ⟨n, rfl⟩ : ∃ n : Nat, w2 = (n : Int) := ⟨w2.toNat, by omega⟩
      refine TL_src (src_range hA1.hd Xi.drop1 (Heap.get?_push_size _ rfl) (by omega)) (fun tt g' m led => E4 fun gvs gk o gs => A13 (led = (ga, listO gvs gk) :: (own ++ [(fa, listO vs k), (r, o)])) (Reel o) (m (S_ "nodes") = some (.ref na)) (m (S_ "ranks") = some (.ref ra)) (m (S_ "is_tame") = some (.bool (decide (0 < w)))) (m (S_ "found") = some (.ref fa)) (m (S_ "goals") = some (.ref ga)) (m (S_ "i") = some (.int i t)) (m (S_ "node") = some x) (Sub gb g') (All2 IsN gvs gs) (gs.length ≤ tt) (∀ j ∈ gs, ∃ b, nds[j]? = some b ∧ goalOk nds nd b)) ?_ ?_ ?_
      · exact ⟨[], 0, oh, [], rfl, hRh, by walk_at "lk", by walk_at "lk", by walk_at "lk", by walk_at "lk", by walk_at "lk", by walk_at "lk", by walk_at "lk", Sub.refl _, .nil, Nat.le_refl _, by simp⟩
      · rintro tt v gj mj ledj ownj hj Kq hKq htt sj ⟨gvs, gk, oj, gs, rfl, hRj, mnj, mrj, mtj, mfj, mgj, mij, mnodej, sgj, hgs, hgl, hgo⟩ ⟨tv, rfl⟩ Xj
        have sgj0 : Sub g0 gj := sb0.trans sgj
        refine assign_Name ?_
        walk_at "st"
        intro h20 X20
        walk_at "as"
        ((with_reducible refine T_wound (by assumption) (by assumption) ?_))
        refine rl X20 sgj0 ?_
        ((with_reducible refine T_B1 (x := Str.ofString "len") (f := .builtin "len") (by assumption) (by kernel_rfl) (by kernel_rfl) Kp.builtin ?_))
        walk_at "n"
        refine C_lenL (X20.keep _ _ (hna0 sgj0)) (LX.mk (k := nk)).lw (by omega) fun tl => ?_
        have hi' : i < nvs.length := hi
        refine ⟨_, _, _, _, r, oj, _, _, fun o' => ownj ++ ((ga, listO gvs gk) :: (own ++ [(fa, listO vs k), (r, o')])), rfl, rfl, X20, fun o' => .app ownj (.there (.app own (.there .here))), hRj, by omega, by omega, ?_⟩
        intro w3 tw3 h21 o21 hw30 hw31 hR21 X21 _
        obtain ⟨jn, rfl⟩ : ∃ jn : Nat, w3 = (jn : Int) := ⟨w3.toNat, by omega⟩
        walk_at "st"
        intro h22 X22
        obtain ⟨nb, hnb⟩ : ∃ nb, nds[jn]? = some nb := ⟨nds[jn]'(by omega), by simp⟩
        obtain ⟨y, hy, hyb⟩ := (hnd sgj0).get hnb
        obtain ⟨xa, xb, x0, x1, x2, xns, rfl, hxa, hxb, hxns⟩ := hndx.mono sgj
        obtain ⟨ya, yb, y0, y1, y2, yns, rfl, hya, hyb, hyns⟩ := hyb
        have hnaj := hna0 sgj0
        have hlw : LW (listO nvs nk) nvs := (LX.mk (k := nk)).lw
        walk_at "as"
        refine T_post (Q := fun v h' => v = .bool (nd.pkg == S_ "main" || nb.pkg == S_ "p") ∧ h' = h22) ?_ ?_
        · refine T_Or2 ?_
          walk_at "n"
          ((refine S_tup (by walk_at "at") (by first | decide | omega) (by first | decide | omega) (by first | rfl | assumption) ?_ (by kernel_rfl)))
          walk_at "n"
          refine O_eqS ?_
          walk_at "n"
          refine ⟨fun e => ⟨by rw [e]; rfl, rfl⟩, fun e => ?_⟩
          walk_at "n"
          walk_at "Sl"
          walk_at "n"
          ((refine S_tup (by walk_at "at") (by first | decide | omega) (by first | decide | omega) (by first | rfl | assumption) ?_ (by kernel_rfl)))
          walk_at "n"
          refine O_eqS ⟨by rw [e]; rfl, rfl⟩
        · rintro v h' ⟨rfl, rfl⟩
          walk_at "st"
          intro h23 X23
          walk_at "as"
          refine T_post (Q := fun v h' => (∃ b, v = .bool b) ∧ h' = h23) ?_ ?_
          · have hraj := sgj _ _ (sgb _ _ hra)
            have hlr2 := (LX.mk (vs := ys) (k := kr)).lw
            obtain ⟨rj, hrj⟩ : ∃ rj, rks[jn]? = some rj := ⟨rks[jn]'(by omega), by simp⟩
            obtain ⟨ri, hri⟩ : ∃ ri, rks[i]? = some ri := ⟨rks[i]'(by omega), by simp⟩
            obtain ⟨yj, hyj, tj1, rfl⟩ := hys.get hrj
            obtain ⟨yi, hyi, ti1, rfl⟩ := hys.get hri
            refine T_Or2 ?_
            walk_at "n"
            walk_at "Sl"
            walk_at "n"
            walk_at "Sl"
            walk_at "n"
            refine ⟨fun e => ⟨⟨_, rfl⟩, rfl⟩, fun e => ?_⟩
            refine T_And2 ?_
            walk_at "n"
            ((refine S_tup (by walk_at "at") (by first | decide | omega) (by first | decide | omega) (by first | rfl | assumption) ?_ (by kernel_rfl)))
            walk_at "n"
            refine O_eqS ?_
            walk_at "n"
            refine ⟨fun e => ⟨⟨_, rfl⟩, rfl⟩, fun e => ?_⟩
            walk_at "n"
            walk_at "Sl"
            walk_at "n"
            ((refine S_tup (by walk_at "at") (by first | decide | omega) (by first | decide | omega) (by first | rfl | assumption) ?_ (by kernel_rfl)))
            walk_at "n"
            refine O_eqS ⟨⟨_, rfl⟩, rfl⟩
          · rintro v h' ⟨⟨low, rfl⟩, rfl⟩
            walk_at "st"
            intro h24 X24
            refine T_execs_cons (T_If (T_post (Q := fun b h' => (∃ m' led', m' = upd (upd (upd (upd mj (Str.ofString "turn") (.int tt tv)) (Str.ofString "j") (.int jn tw3)) (Str.ofString "is_seen") (.bool (nd.pkg == S_ "main" || nb.pkg == S_ "p"))) (Str.ofString "is_low") (.bool low) ∧ led' = ownj ++ ((ga, listO gvs gk) :: (own ++ [(fa, listO vs k), (r, o21)])) ∧ W C gj L m' led' h') ∧ (b = true → goalOk nds nd nb)) ?_ ?_))
            · refine T_isAnd3 ?_
              refine T_isPlain ?_
              walk_at "n"
              refine ⟨fun e => ?_, fun e => ⟨⟨_, _, rfl, rfl, X24⟩, fun h => by cases h⟩⟩
              refine T_isAnd ?_
              walk_at "n"
              walk_at "Sl"
              walk_at "n"
              ((refine S_tup (by walk_at "at") (by first | decide | omega) (by first | decide | omega) (by first | rfl | assumption) ?_ (by kernel_rfl)))
              walk_at "tup"
              walk_at "spl"
              walk_at "n"
              walk_at "end"
              intro h25 ua X25 k25
              rename_i tu
              refine R_neT (k25 _ _ (X24.keep _ _ hyb)) (X25.at_ _ (.head _)) hyns (ys := [S_ "_"]) (.one ⟨_, rfl⟩) hA1 ?_
              walk_at "n"
              refine ⟨fun e2 => ?_, fun e2 => ⟨⟨_, _, rfl, rfl, X25.drop1⟩, fun h => by cases h⟩⟩
              have hgo2 : goalOk nds nd nb := by
                refine ⟨?_, by simpa using e2⟩
                simpa [or_comm] using e
              have Xf := X25.drop1
              refine T_isAnd1 (T_isOr ?_)
              refine T_isPlain ?_
              walk_at "n"
              refine ⟨fun e3 => ?_, fun e3 => ⟨⟨_, _, rfl, rfl, Xf⟩, fun _ => hgo2⟩⟩
              walk_at "n"
              refine T_isPlain ?_
              walk_at "n"
              exact ⟨⟨_, _, rfl, rfl, Xf⟩, fun _ => hgo2⟩
            · rintro b h26 ⟨⟨_, _, rfl, rfl, X26⟩, hb⟩
              refine ⟨fun hbt => ?_, fun _ => ?_⟩
              · refine T_execs_cons ?_
                (((with_reducible refine T_Expr ?_); (with_reducible refine T_L1 F.slot_list_append F.type_list_append ?_)))
                walk_at "n"
                refine ⟨ga, gvs, gk, rfl, X26.at_ (ga, listO gvs gk) (by walk_at "mm"), ?_⟩
                walk_at "n"
                refine M_append X26 (.app ownj .here) (by have := hgs.1; omega) fun h27 X27 => ?_
                refine ⟨.inl rfl, ?_⟩
                walk_at "n"
                refine ⟨gj, _, _, Sub.refl _, X27, gvs ++ [.int jn tw3], gk + 1, o21, gs ++ [jn], rfl, hR21, by walk_at "lk", by walk_at "lk", by walk_at "lk", by walk_at "lk", by walk_at "lk", by walk_at "lk", by walk_at "lk", sgj, hgs.snoc ⟨_, rfl⟩, by simp; omega, fun j hj => ?_⟩
                rcases List.mem_append.mp hj with hj | hj
                · exact hgo j hj
                · rw [List.mem_singleton.mp hj]; exact ⟨nb, hnb, hb hbt⟩
              · walk_at "n"
                exact ⟨gj, _, _, Sub.refl _, X26, gvs, gk, o21, gs, rfl, hR21, by walk_at "lk", by walk_at "lk", by walk_at "lk", by walk_at "lk", by walk_at "lk", by walk_at "lk", by walk_at "lk", sgj, hgs, by omega, hgo⟩
      · rintro gj mj ledj hj sj ⟨gvs, gk, oj, gs, rfl, hRj, mnj, mrj, mtj, mfj, mgj, mij, mnodej, sgj, hgs, hgl, hgo⟩ Xj
        refine T_execs_cons ?_
        (((with_reducible refine T_Expr ?_); (with_reducible refine T_L1 F.slot_list_append F.type_list_append ?_)))
        walk_at "n"
        refine ⟨fa, vs, k, rfl, Xj.at_ (fa, listO vs k) (by walk_at "mm"), ?_⟩
        walk_at "n"
        refine M_append Xj (.there (.app own .here)) (by have := hV.1; have := hE.1; have : i < nvs.length := hi; omega) fun hl Xl => ?_
        refine ⟨.inl rfl, ?_⟩
        walk_at "n"
        have sgj0 : Sub gc gj := s0.trans (sb0.trans sgj)
        obtain ⟨gm, sm, Xm, fm⟩ := Xl.take (g0 := g) (h0 := h) (yg Xl sgj0 (.head _) (Xl.headNe (q := (r, oj)) (by walk_at "mm")))
        refine ⟨gm, _, _, sgj.trans sm, Xm, vs ++ [.ref ga], k + 1, oj, es ++ [gs], rfl, hRj, mnj, mrj, mtj, mfj, sgb.trans (sgj.trans sm), ?_, ?_⟩
        · exact (hV.mono fun _ _ => NList.mono (Fresh.mono (sgj.trans sm))).snoc ⟨ga, gvs, gk, rfl, fm, hgs⟩
        · refine ⟨by simp [hE.1], fun i' gs' h' => ?_⟩
          by_cases hlt : i' < es.length
          · rw [List.getElem?_append_left hlt] at h'; exact hE.2 i' gs' h'
          · rw [List.getElem?_append_right (by omega)] at h'
            have e0 : i' - es.length = 0 := by
              by_cases h0 : i' - es.length = 0
              · exact h0
              · rw [List.getElem?_eq_none (by simp; omega)] at h'; cases h'
            rw [e0] at h'; cases h'
            have : i' = i := by have := hE.1; omega
            subst this
            exact ⟨by omega, fun j hj => let ⟨b, h1, h2⟩ := hgo j hj; ⟨nd, b, hnd1, h1, h2⟩⟩
    · rintro gb mb ledb hb sb ⟨vs, k, ob, es, rfl, hRb, mn, mr, mt, mf, sgb, hV, hE⟩ Xb
      walk_at "n"
      have sgb0 : Sub gc gb := s0.trans (sg9.trans sgb)
      obtain ⟨gd, sd, Xd, fd⟩ := Xb.take (g0 := g) (h0 := h) (yg Xb sgb0 (.head _) hfr)
      rw [hnl] at hE
      refine hq _ es ob _ hE ⟨fa, vs, k, rfl, Fresh.mono Xd.keep _ _ fd, hV.mono fun _ _ => NList.mono (Fresh.mono (sd.trans Xd.keep))⟩ (hKeep _ (sgb0.trans (sd.trans Xd.keep))) (Xd.at_ _ (.head _)) hRb
end
section
open PySem PySem.W PyProof.Rows PySem.Calls PyProof.V PySem.Spec
set_option Elab.async false
set_option maxRecDepth 100000
set_option maxHeartbeats 4000000
set_option linter.unusedVariables false

def rowOf (n : Nat) (gs : List Nat) : Nat := (((List.range n).filter fun j => gs.contains j).map fun j => 2 ^ j).sum
def wIn (k : Nat) (l : List Nat) (i : Nat) : List Nat := if (l.getD i 0).testBit k then l.set i (l.getD i 0 ||| l.getD k 0) else l
def wOut (n : Nat) (l : List Nat) (k : Nat) : List Nat := (List.range n).foldl (wIn k) l
def ledOf (es : List (List Nat)) : List Nat := (List.range es.length).foldl (wOut es.length) (es.map (rowOf es.length))
theorem wIn_len (k : Nat) (l : List Nat) (i : Nat) : (wIn k l i).length = l.length := by unfold wIn; split <;> simp
theorem fold_len {f : List Nat → Nat → List Nat} (hf : ∀ l i, (f l i).length = l.length) : ∀ (is : List Nat) (l : List Nat), (is.foldl f l).length = l.length
  | [], l => rfl
  | i :: r, l => by rw [List.foldl_cons, fold_len hf r, hf]
theorem wOut_len (n : Nat) (l : List Nat) (k : Nat) : (wOut n l k).length = l.length := fold_len (wIn_len k) _ _
theorem foldr_succ {α : Type} (f : α → Nat → α) (x : α) (n : Nat) : (List.range (n + 1)).foldl f x = f ((List.range n).foldl f x) n := by rw [List.range_succ, List.foldl_append]; rfl

theorem All2.intsN {vs : List Value} {ns : List Nat} (a : All2 IsN vs ns) : IntsAre vs (ns.map fun n : Nat => (n : Int)) := by
  refine All2.ints ⟨by simp [a.1], fun i v x hv hx => ?_⟩
  rw [List.getElem?_map] at hx
  obtain ⟨n, hn, rfl⟩ := Option.map_eq_some_iff.mp hx
  exact a.2 i v n hv hn
theorem cast_sum : ∀ ns : List Nat, (ns.map fun n : Nat => (n : Int)).sum = (ns.sum : Int)
  | [] => rfl
  | n :: r => by simp [cast_sum r]
theorem cast_contains (ns : List Nat) (j : Nat) : (ns.map fun n : Nat => (n : Int)).contains (j : Int) = ns.contains j := by
  induction ns with
  | nil => rfl
  | cons n r ih =>
    rw [List.map_cons, List.contains_cons, List.contains_cons, ih]
    congr 1
    rw [Bool.eq_iff_iff, beq_iff_eq, beq_iff_eq]
    omega
theorem bitNot2 (x : Int) : Builtin.bitNot (Builtin.bitNot x) = x := by unfold Builtin.bitNot; omega
theorem bitNot_neg (a : Nat) : decide (0 ≤ Builtin.bitNot (a : Int)) = false := by unfold Builtin.bitNot; rw [decide_eq_false_iff_not]; omega
theorem bitOr_nat (a b : Nat) : Builtin.bitOr (a : Int) (b : Int) = ((a ||| b : Nat) : Int) := by
  unfold Builtin.bitOr Builtin.bitAnd
  rw [bitNot_neg, bitNot_neg]
  show Builtin.bitNot (Builtin.bitNot _) = _
  rw [bitNot2, bitNot2, bitNot2]
  rfl
theorem testBit_int (a k : Nat) : (Builtin.bitAnd ((a : Int).fdiv (2 ^ ((k : Int).toNat))) 1 == 1) = a.testBit k := by
  have e : ((a : Int).fdiv (2 ^ ((k : Int).toNat))) = ((a / 2 ^ k : Nat) : Int) := by
    rw [Int.toNat_natCast, Int.fdiv_eq_ediv_of_nonneg _ (by exact Int.pow_nonneg (by decide))]
    push_cast
    rfl
  rw [e, bitAnd_m1, Nat.testBit_eq_decide_div_mod_eq]
  generalize a / 2 ^ k = q
  rw [Bool.eq_iff_iff, beq_iff_eq, decide_eq_true_eq]
  omega

theorem All2.set {α : Type} {R : Value → α → Prop} {vs : List Value} {xs : List α} {v : Value} {x : α} (a : All2 R vs xs) (i : Nat) (r : R v x) : All2 R (vs.set i v) (xs.set i x) := by
  refine ⟨by simp [a.1], fun j w y hw hy => ?_⟩
  rw [List.getElem?_set] at hw hy
  by_cases h : i = j
  · subst h
    simp only [if_true] at hw hy
    split at hw
    · rename_i h1
      rw [if_pos (by rw [← a.1]; exact h1)] at hy
      cases hw; cases hy; exact r
    · cases hw
  · rw [if_neg h] at hw hy
    exact a.2 j w y hw hy

def NListW (g : Heap) (v : Value) (l : List Nat) : Prop := E3 fun a o vs => A4 (v = .ref a) (g.get? a = some o) (LW o vs) (All2 IsN vs l)

theorem filter_one {α : Type} (p : α → Bool) (x : α) : List.filter p [x] = if p x = true then [x] else [] := by
  rw [List.filter_cons]; rfl

theorem led_ok {C : Cx} {A : Around} {E : Value → Heap → Prop} {g h : Heap} {ev : Value} {es : List (List Nat)} {Q : Value → Heap → Prop}
    (hA : Lv 1 A) (hG : Glob C g) (hk : Sub g h) (hE : Lst NList g ev es) (hz : es.length ≤ 14)
    (hq : ∀ v h', NListW (Fresh g h h') v (ledOf es) → Keep [] h h' → Q v h') : T C A (call (.ref 209) [ev] []) Q E h := by
  obtain ⟨ea, evs, ek, rfl, hea, hev⟩ := hE
  refine T_callC (T_call1 209 [(S_ "edges", .ref ea)] [] (S_ "edges") (some (.ref ea)) [] hG hk hA.room (by simp) (by simp) (by simp) ⟨_, _, _, rfl⟩ (by kernel_rfl) (by kernel_rfl) (by kernel_rfl) (fun _ => by kernel_rfl) (fun _ => by kernel_rfl) (fun _ => by kernel_rfl) (fun _ => by kernel_rfl) (by kernel_rfl) (by kernel_rfl) (by kernel_rfl) (by kernel_rfl) ?_)
  intro gc h1 L cr oc hgc hgS hKeep ec hoc X
  have hA1 : Lv 0 (A.deeper (envF C 209 L)) := hA.deeper _
  generalize A.deeper (envF C 209 L) = A1 at hA1 ⊢
  have yg : ∀ {g1 m1 led1 h2} (X1 : W C g1 L m1 led1 h2) (s : Sub gc g1) {p : Addr × Obj}, p ∈ led1 → h.get? p.1 = none := fun X1 s p hp => X1.young (S := []) hp s hgS (by simp)
  obtain ⟨g0, s0, X0, hcr⟩ := X.absorb1
  have hea0 : ∀ {g2}, Sub g0 g2 → g2.get? ea = some (listO evs ek) := fun s => s _ _ (s0 _ _ (hgc _ _ hea))
  have hel : evs.length = es.length := hev.1
  refine T_execs_cons ?_
  refine T_AssignLComp ?_ (by rw [ec]; kernel_rfl) (by kernel_rfl) (by kernel_rfl) (by kernel_rfl) (by intro _; kernel_rfl)
  refine T_ldc (c := cr) (by rw [ec]; rfl) ⟨oc, X0.keep _ _ hcr, hoc⟩ ?_
  refine LU_src1 (x1 := S_ "goals") (src_list hA1.hd X0 (hea0 (Sub.refl _)) (LX.mk (k := ek)).lw) (by omega) (fun _ _ => ⟨by kernel_rfl, by rw [ec]; kernel_rfl⟩)
    (fun i ys g' m c led => E1 fun o => A4 (led = [(c, o)]) ((∃ ov, o.data = .cell ov)) (Sub g0 g') (All2 IsN ys ((es.take i).map (rowOf es.length)))) ?_ ?_ ?_ (by kernel_rfl) (by kernel_rfl) (by kernel_rfl)
  · exact fun c => ⟨_, rfl, ⟨_, rfl⟩, Sub.refl _, by simpa using All2.nil⟩
  · rintro i v ys k g8 m8 led8 own h8 Lc acc c Kq Kr hKq hKr hi s8 ⟨o8, rfl, ⟨ov, ho8⟩, sg8, hys⟩ hP X8
    obtain ⟨gs, hgs, hgv⟩ := hev.getV hP
    obtain ⟨ga, gvs, gk, rfl, hga, hgvs⟩ := hgv
    refine assign_Name ?_
    refine T_stc (c := c) (o := o8) X8 (by kernel_rfl) (fun o' => .app own (.there .here)) ho8 ?_
    intro h9 o9 ho9 X9
    refine tests_nil ⟨fun _ => ?_, fun e => by cases e⟩
    ((with_reducible refine T_B1 (x := Str.ofString "sum") (f := .builtin "sum") (by assumption) (by kernel_rfl) (by kernel_rfl) Kp.builtin ?_))
    refine T_LComp ?_ (by rw [ec]; kernel_rfl) (by kernel_rfl) (by kernel_rfl) (by intro _; kernel_rfl)
    ((with_reducible refine T_B1 (x := Str.ofString "range") (f := .type "range") (by assumption) (by kernel_rfl) (by kernel_rfl) Kp.type ?_))
    ((with_reducible refine T_B1 (x := Str.ofString "len") (f := .builtin "len") (by assumption) (by kernel_rfl) (by kernel_rfl) Kp.builtin ?_))
    refine T_ldc (c := cr) (by rw [ec]; rfl) ⟨oc, X9.keep _ _ (sg8 _ _ hcr), hoc⟩ ?_
    refine C_lenL (X9.keep _ _ (hea0 sg8)) (LX.mk (k := ek)).lw (by omega) fun tl => ?_
    refine C_range (by omega) (by omega) fun q1 q2 q3 => ?_
    have Xr := X9.push (o := { cls := .type "range", data := .fields #[.int 0 q1, .int evs.length q2, .int 1 q3] })
    refine LC_src (src_range hA1.hd Xr.drop1 (Heap.get?_push_size _ rfl) (by omega)) (by omega) (fun _ _ => ⟨by kernel_rfl, by rw [ec]; kernel_rfl⟩)
      (fun j zs g' m led => A3 (led = own ++ ((acc, listO ys k) :: [(c, o9)])) (Sub g8 g') (All2 IsN zs (((List.range j).filter fun j => gs.contains j).map fun j => 2 ^ j))) ?_ ?_ ?_
    · exact ⟨rfl, Sub.refl _, .nil⟩
    · rintro j v zs kz ga1 m1 led1 own1 h10 Lc1 acc1 Kq Kr hKq hKr hj sga ⟨rfl, sga1, hzs⟩ ⟨tj, rfl⟩ X10
      refine assign_Name ?_
      walk_at "st"
      intro h11 X11
      refine tests_one ?_
      walk_at "n"
      refine T_ldc (c := c) (by rw [ec]; kernel_rfl) ⟨o9, X11.at_ (c, o9) (by walk_at "mm"), ho9⟩ ?_
      refine O_inInts (X11.keep _ _ (sga1 _ _ (sg8 _ _ (s0 _ _ (hgc _ _ hga))))) (LX.mk (k := gk)).lw hgvs.intsN ?_
      rw [cast_contains]
      walk_at "n"
      have er : (List.range (j + 1)).filter (fun j => gs.contains j) = (List.range j).filter (fun j => gs.contains j) ++ (if gs.contains j = true then [j] else []) := by
        rw [List.range_succ, List.filter_append, filter_one]
      refine ⟨fun e => ?_, fun e => ?_⟩
      · walk_at "n"
        refine I_pow (by omega) (by omega) (by decide) fun tp => ?_
        refine hKq _ _ ⟨ga1, _, _, Sub.refl _, X11, rfl, sga1, ?_⟩
        rw [er, if_pos e, List.map_append]
        refine hzs.snoc ⟨tp, ?_⟩
        rw [Int.toNat_natCast]
        push_cast
        rfl
      · refine hKr () _ ⟨ga1, _, _, Sub.refl _, X11, rfl, sga1, ?_⟩
        rw [er, if_neg (by rw [e]; decide), List.append_nil]
        exact hzs
    · rintro zs kz ga1 m1 led1 h10 acc1 sga ⟨rfl, sga1, hzs⟩ X10
      refine C_sum hA1.hd X10 (X10.at_ _ (.head _)) (LX.mk (k := kz)).lw hzs.intsN fun h11 ts X11 _ => ?_
      refine hKq _ _ ⟨ga1, _, _, sga, X11.drop1, o9, rfl, ⟨_, ho9⟩, sg8.trans sga1, ?_⟩
      have e : (es.take (i + 1)).map (rowOf es.length) = (es.take i).map (rowOf es.length) ++ [rowOf es.length gs] := by rw [List.take_add_one, hgs]; simp
      rw [e, cast_sum, hel]
      exact hys.snoc ⟨ts, rfl⟩
  · rintro ys k g8 m8 led8 h8 la c s8 ⟨o8, rfl, _, sg8, hys⟩ X8
    rw [hel, List.take_length] at hys
    have X9 := X8.sub (led' := [(la, listO ys k)]) (by walk_at "sl")
    clear X8
    generalize hl0 : es.map (rowOf es.length) = l0 at hys
    have hl0n : l0.length = es.length := by rw [← hl0, List.length_map]
    have hyl : ys.length = es.length := by rw [hys.1, hl0n]
    walk_at "n"
    refine T_For ?_
    ((with_reducible refine T_B1 (x := Str.ofString "range") (f := .type "range") (by assumption) (by kernel_rfl) (by kernel_rfl) Kp.type ?_))
    ((with_reducible refine T_B1 (x := Str.ofString "len") (f := .builtin "len") (by assumption) (by kernel_rfl) (by kernel_rfl) Kp.builtin ?_))
    walk_at "n"
    refine C_lenL (X9.at_ _ (.head _)) (LX.mk (k := k)).lw (by omega) fun tl => ?_
    refine C_range (by omega) (by omega) fun q1 q2 q3 => ?_
    have Xr := X9.push (o := { cls := .type "range", data := .fields #[.int 0 q1, .int ys.length q2, .int 1 q3] })
    refine TL_src (src_range hA1.hd Xr.drop1 (Heap.get?_push_size _ rfl) (by omega)) (fun k g' m led => E2 fun o vs => A5 (led = [(la, o)]) (LW o vs) (m (S_ "led") = some (.ref la)) (Sub g8 g') (All2 IsN vs ((List.range k).foldl (wOut es.length) l0))) ?_ ?_ ?_
    · exact ⟨_, ys, rfl, (LX.mk (k := k)).lw, upd_same, Sub.refl _, hys⟩
    · rintro kn v ga ma leda own h10 Kq hKq hkn sa ⟨oa, vsa, rfl, hoa, mla, sga, hva⟩ ⟨tk, rfl⟩ Xa
      refine assign_Name ?_
      walk_at "st"
      intro h11 Xb
      have hll : vsa.length = es.length := by rw [hva.1, fold_len (fun l i => wOut_len _ l i), hl0n]
      generalize hlk0 : (List.range kn).foldl (wOut es.length) l0 = lk at hva
      have hlk : lk.length = es.length := by rw [← hva.1, hll]
      walk_at "n"
      refine T_For ?_
      ((with_reducible refine T_B1 (x := Str.ofString "range") (f := .type "range") (by assumption) (by kernel_rfl) (by kernel_rfl) Kp.type ?_))
      ((with_reducible refine T_B1 (x := Str.ofString "len") (f := .builtin "len") (by assumption) (by kernel_rfl) (by kernel_rfl) Kp.builtin ?_))
      walk_at "n"
      refine C_lenL (Xb.at_ (la, oa) (by walk_at "mm")) hoa (by omega) fun tl => ?_
      refine C_range (by omega) (by omega) fun q1 q2 q3 => ?_
      have Xr := Xb.push (o := { cls := .type "range", data := .fields #[.int 0 q1, .int vsa.length q2, .int 1 q3] })
      refine TL_src (src_range hA1.hd Xr.drop1 (Heap.get?_push_size _ rfl) (by omega)) (fun i g' m led => E2 fun o vs => A6 (led = own ++ [(la, o)]) (LW o vs) (m (S_ "led") = some (.ref la)) (m (S_ "k") = some (.int kn tk)) (Sub ga g') (All2 IsN vs ((List.range i).foldl (wIn kn) lk))) ?_ ?_ ?_
      · exact ⟨oa, vsa, rfl, hoa, by walk_at "lk", by walk_at "lk", Sub.refl _, hva⟩
      · rintro i v gc1 mc ledc ownc h12 Kq hKq hi sc ⟨o, vs, rfl, ho, ml, mk, sgc, hv⟩ ⟨ti, rfl⟩ Xc
        refine assign_Name ?_
        walk_at "st"
        intro h13 Xd
        have hlv : vs.length = es.length := by rw [hv.1, fold_len (wIn_len kn), hlk]
        have hstep := foldr_succ (wIn kn) lk i
        generalize (List.range i).foldl (wIn kn) lk = li at hv hstep
        have hli : li.length = es.length := by rw [← hv.1, hlv]
        obtain ⟨ai, hai⟩ : ∃ ai, li[i]? = some ai := ⟨li[i]'(by omega), by simp⟩
        obtain ⟨ak, hak⟩ : ∃ ak, li[kn]? = some ak := ⟨li[kn]'(by omega), by simp⟩
        obtain ⟨vi, hvi, ti1, rfl⟩ := hv.get hai
        obtain ⟨vk, hvk, tk1, rfl⟩ := hv.get hak
        have hlaX := Xd.at_ (la, o) (by walk_at "mm")
        dsimp only at hlaX
        refine T_execs_cons (T_If ?_)
        walk_at "n"
        walk_at "Sl"
        walk_at "n"
        refine I_shr (by omega) fun t1 => ?_
        walk_at "n"
        refine I_and fun t2 => ?_
        walk_at "n"
        rw [testBit_int]
        refine ⟨fun e => ?_, fun e => ?_⟩
        · walk_at "n"
          walk_at "Sl"
          walk_at "n"
          walk_at "Sl"
          refine I_or fun t3 => ?_
          walk_at "n"
          refine S_setList Xd (fun _ => .app _ (.app _ .here)) ho (by omega) (by omega) (by rw [Int.toNat_natCast]; omega) fun h14 o14 ho14 hs14 hg14 X14 => ?_
          walk_at "n"
          rw [Int.toNat_natCast] at ho14
          refine ⟨gc1, _, _, Sub.refl _, X14, o14, _, rfl, ho14, by walk_at "lk", by walk_at "lk", sgc, ?_⟩
          rw [hstep]
          unfold wIn
          rw [List.getD_eq_getElem?_getD, hai, List.getD_eq_getElem?_getD, hak]
          simp only [Option.getD_some]
          rw [if_pos e]
          refine hv.set i ⟨t3, ?_⟩
          rw [bitOr_nat]
        · walk_at "n"
          refine ⟨gc1, _, _, Sub.refl _, Xd, o, vs, rfl, ho, by walk_at "lk", by walk_at "lk", sgc, ?_⟩
          rw [hstep]
          unfold wIn
          rw [List.getD_eq_getElem?_getD, hai]
          simp only [Option.getD_some]
          rw [if_neg (by rw [e]; decide)]
          exact hv
      · rintro gc1 mc ledc h12 sc ⟨o, vs, rfl, ho, ml, mk, sgc, hv⟩ Xc
        walk_at "n"
        refine ⟨gc1, mc, _, sgc, Xc, o, vs, rfl, ho, ml, sga.trans sgc, ?_⟩
        rw [foldr_succ, hlk0]
        unfold wOut
        rw [hll] at hv
        exact hv
    · rintro ga ma leda h10 sa ⟨oa, vsa, rfl, hoa, mla, sga, hva⟩ Xa
      walk_at "n"
      rw [hyl] at hva
      have sga0 := s0.trans (sg8.trans sga)
      obtain ⟨gd, sd, Xd, fd⟩ := Xa.take (g0 := g) (h0 := h) (yg Xa sga0 (.head _))
      refine hq _ _ ⟨la, oa, vsa, rfl, Fresh.mono Xd.keep _ _ fd, hoa, ?_⟩ (hKeep _ (sga0.trans (sd.trans Xd.keep)))
      unfold ledOf
      rw [hl0]
      exact hva
end
section
open PySem PySem.W PyProof.Rows PySem.Calls PyProof.V PySem.Spec
set_option Elab.async false
set_option maxRecDepth 100000
set_option maxHeartbeats 4000000
set_option linter.unusedVariables false

def bit (led : List Nat) (i j : Nat) : Bool := (led.getD i 0).testBit j
def free (led : List Nat) (left : List Nat) (one : Nat) : Bool := (left.filter fun j => bit led one j).isEmpty
def ordN (led : List Nat) : Nat → List Nat → List Nat
  | 0, _ => []
  | n + 1, left => match left.filter (free led left) with
    | [] => []
    | i :: _ => i :: ordN led n (left.erase i)
def pkgDue (led : List Nat) (tl : List Nat) : Nat ⊕ List Nat := match tl.find? fun i => bit led i i with
  | some i => .inl i
  | none => .inr (ordN led tl.length tl)
def dueFrom (led : List Nat) (key : Nat → Str) (told : Nat → List Nat) (inits : Nat → List Str) : Nat → Nat → List Str → Nat ⊕ List Str
  | _, 0, acc => .inr acc
  | i, n + 1, acc => match pkgDue led (told i) with
    | .inl k => .inl (10 * k + 3)
    | .inr l => dueFrom led key told inits (i + 1) n (acc ++ (l.map key ++ inits i))
def RDue (g : Heap) (v : Value) : Nat ⊕ List Str → Prop
  | .inl n => IsN v n
  | .inr xs => Lst (fun _ => IsS) g v xs
def keyOf (nds : List Nd) (i : Nat) : Str := ((nds[i]?).map Nd.key).getD (S_ "")
def SList (g : Heap) (v : Value) (l : List Str) : Prop := Lst (fun _ => IsS) g v l
theorem SList.mono {g g' : Heap} {v : Value} {l : List Str} (s : Sub g g') (x : SList g v l) : SList g' v l := Lst.mono (R := fun _ => IsS) (fun _ h => h) s x

theorem take_filter {p : Nat → Bool} {l : List Nat} {i x : Nat} (h : l[i]? = some x) : (l.take (i + 1)).filter p = (l.take i).filter p ++ (if p x = true then [x] else []) := by
  rw [List.take_add_one, h, List.filter_append]
  show _ ++ List.filter p [x] = _
  rw [filter_one]
theorem M_removeN {C : Cx} {A : Around} {E : Value → Heap → Prop} {g h : Heap} {L : Addr} {m : Str → Option Value} {led : List (Addr × Obj)} {l : Addr} {vs : List Value} {ns : List Nat} {k : Nat} {x : Nat} {t : Tok} {Q : Value → Heap → Prop}
    (X : W C g L m ((l, listO vs k) :: led) h) (hv : All2 IsN vs ns) (hx : x ∈ ns) (hz : ns.length ≤ 900)
    (hq : ∀ h' vs' k', All2 IsN vs' (ns.erase x) → W C g L m ((l, listO vs' k') :: led) h' → Q .none h') : T C A (call (.builtin "list.remove") [.ref l, .int (x : Int) t] []) Q E h := by
  obtain ⟨i, a, b, c⟩ := erase_idx x hx
  refine M_remove X hv.intsN (i := i) (x := (x : Int)) (by rw [List.getElem?_map, a]; rfl) (fun j hj e => ?_) (fun k' => .here) (by rw [hv.1]; exact hz) fun h' k' X' => hq h' _ k' ?_ X'
  · rw [List.getElem?_map] at e
    obtain ⟨n, hn, e2⟩ := Option.map_eq_some_iff.mp e
    have : n = x := by omega
    exact b j hj (this ▸ hn)
  · rw [c]; exact hv.eraseIdx i

theorem due_ok {C : Cx} {A : Around} {E : Value → Heap → Prop} {g h : Heap} {nv ev tv iv : Value} {nds : List Nd} {es : List (List Nat)} {told : Nat → List Nat} {inits : Nat → List Str} {Q : Value → Heap → Prop}
    (hA : Lv 2 A) (hG : Glob C g) (hk : Sub g h) (hN : Lst NdAt g nv nds) (hE : Lst NList g ev es) (hT : PD C NList g tv told pkgOf) (hI : PD C SList g iv inits pkgOf) (hz : es.length ≤ 14) (hzn : nds.length = es.length)
    (htl : ∀ i, i < 2 → (told i).length ≤ 14 ∧ (told i).Nodup ∧ ∀ j ∈ told i, j < es.length) (hil : ∀ i, i < 2 → (inits i).length ≤ 5)
    (hrd : ∀ i, i < 2 → (∀ j ∈ told i, bit (ledOf es) j j = false) → ∀ left : List Nat, left ≠ [] → (∀ j ∈ left, j ∈ told i) → ∃ one ∈ left, free (ledOf es) left one = true)
    (hq : ∀ v h', RDue (Fresh g h h') v (dueFrom (ledOf es) (keyOf nds) told inits 0 2 []) → Keep [] h h' → Q v h') : T C A (call (.ref 214) [nv, ev, tv, iv] []) Q E h := by
  obtain ⟨na, nvs, nk, rfl, hna, hnv⟩ := hN
  obtain ⟨ta, to, tkvs, rfl, hta, htd, tlo, htp⟩ := hT
  obtain ⟨ia, io, ikvs, rfl, hia, hid, ilo, hip⟩ := hI
  have hE' := hE
  obtain ⟨ea, evs, ek, rfl, hea, hev⟩ := hE
  refine T_callC (T_call2 214 [(S_ "nodes", .ref na), (S_ "edges", .ref ea), (S_ "told", .ref ta), (S_ "inits", .ref ia)] (S_ "led") (S_ "left") [] hG hk hA.room (by simp) (by simp) (by simp) ⟨_, _, _, rfl⟩ (by kernel_rfl) (by kernel_rfl) (by kernel_rfl) (by kernel_rfl) (fun _ => by kernel_rfl) (by decide) (fun _ => by kernel_rfl) (fun _ => by kernel_rfl) (fun _ => by kernel_rfl) (by kernel_rfl) (by kernel_rfl) (by kernel_rfl) (by kernel_rfl) ?_)
  intro gc h1 L c1 c2 o1 o2 hgc hgS hKeep ec hd1 hd2 X
  have hA1 : Lv 1 (A.deeper (envF C 214 L)) := hA.deeper _
  generalize A.deeper (envF C 214 L) = A1 at hA1 ⊢
  have e1 : nm [(S_ "nodes", .ref na), (S_ "edges", .ref ea), (S_ "told", .ref ta), (S_ "inits", .ref ia)] (S_ "nodes") = some (.ref na) := by kernel_rfl
  have e2 : nm [(S_ "nodes", .ref na), (S_ "edges", .ref ea), (S_ "told", .ref ta), (S_ "inits", .ref ia)] (S_ "edges") = some (.ref ea) := by kernel_rfl
  have e3 : nm [(S_ "nodes", .ref na), (S_ "edges", .ref ea), (S_ "told", .ref ta), (S_ "inits", .ref ia)] (S_ "told") = some (.ref ta) := by kernel_rfl
  have e4 : nm [(S_ "nodes", .ref na), (S_ "edges", .ref ea), (S_ "told", .ref ta), (S_ "inits", .ref ia)] (S_ "inits") = some (.ref ia) := by kernel_rfl
  generalize nm [(S_ "nodes", .ref na), (S_ "edges", .ref ea), (S_ "told", .ref ta), (S_ "inits", .ref ia)] = m0 at X e1 e2 e3 e4
  have yg : ∀ {g1 m1 led1 h2} (X1 : W C g1 L m1 led1 h2) (s : Sub gc g1) {p : Addr × Obj}, p ∈ led1 → h.get? p.1 = none := fun X1 s p hp => X1.young (S := []) hp s hgS (by simp)
  refine T_execs_cons (T_Assign_Tuple ?_ (by kernel_rfl) (by kernel_rfl))
  walk_at "tup"
  walk_at "spl"
  refine T_F1 (f := 209) X (by kernel_rfl) (by kernel_rfl) ?_
  walk_at "n"
  refine ⟨X.glob.K.keeps X.keep, ?_⟩
  refine led_ok hA1 (X.globF (g0 := g) (h0 := h) hG hgc) X.subF (hE'.mono (R := NList) NList.mono (Fresh.base hgc)) hz fun lv h2 hlv hK2 => ?_
  obtain ⟨g2, s2, X2, hF2⟩ := X.call0F hK2 (g0 := g) (h0 := h) (Dm.of0 (hKeep _ X.keep))
  obtain ⟨la, lo, lvs, rfl, hla, hlo, hlvs⟩ := hlv
  have hla2 := hF2 _ _ hla
  walk_at "spl"
  walk_at "lst"
  walk_at "end"
  intro h3 fa X3 _
  walk_at "end"
  intro h4 ua X4 _
  refine T_assignTuple (vs := [.ref la, .ref fa]) hA1.hd X4.drop1 (isTuple_of (X4.at_ _ (.head _))) (by kernel_rfl) (by kernel_rfl) fun h5 X5 _ => ?_
  refine T_order_cons (assign_Name ?_)
  refine T_stc (c := c1) (o := o1) X5 (by rw [ec]; kernel_rfl) (fun o' => .there (.there .here)) hd1 ?_
  intro h6 o6 hd6 X6
  refine T_order_cons (assign_Name ?_)
  walk_at "st"
  intro h7 X7
  refine T_order_nil ?_
  have X7' := X7.rot3
  obtain ⟨g8, s8, X8, hc1⟩ := X7'.absorb1
  clear X7 X7' X6 X5 X4 X3 X2 X
  have hla8 : g8.get? la = some lo := s8 _ _ (Fresh.sub _ _ _ _ _ hla2)
  have s08 : Sub gc g8 := s2.trans s8
  generalize hl : ledOf es = l at hlvs hrd hq
  have hll : l.length = es.length := by rw [← hl]; unfold ledOf; rw [fold_len (fun l i => wOut_len _ l i), List.length_map]
  generalize hkey : keyOf nds = key at hq
  walk_at "n"
  refine T_For ?_
  walk_at "lst"
  walk_at "spl"
  walk_at "n"
  walk_at "spl"
  walk_at "n"
  walk_at "end"
  intro h9 pa X9 _
  obtain ⟨g9, s9, X9, hpa⟩ := X9.absorb1
  refine TL_src (src_list hA1.hd X9 hpa (LX.mk (k := 0)).lw) (fun i g' m led => E4 fun fvs fk o acc => A10 (led = [(fa, listO fvs fk), (c2, o)]) ((∃ ov, o.data = .cell ov)) (m (S_ "nodes") = some (.ref na)) (m (S_ "told") = some (.ref ta)) (m (S_ "inits") = some (.ref ia)) (m (S_ "found") = some (.ref fa)) (Sub g8 g') (All2 IsS fvs acc) (acc.length ≤ i * 20) (dueFrom l key told inits 0 2 [] = dueFrom l key told inits i (2 - i) acc)) ?_ ?_ ?_
  · exact ⟨[], 0, o2, [], rfl, ⟨_, hd2⟩, by walk_at "lk", by walk_at "lk", by walk_at "lk", by walk_at "lk", s9, .nil, Nat.zero_le _, rfl⟩
  · rintro i v ga ma leda own ha Kq hKq hi sa ⟨fvs, fk, oa, acc, rfl, ⟨ova, hoa⟩, mn, mt, mi, mf, sga, hfv, hal, hdue⟩ hP Xa
    have hi2 : i < 2 := hi
    obtain ⟨tp, rfl⟩ := pk_at hP
    refine assign_Name ?_
    walk_at "st"
    intro hb Xb
    obtain ⟨wv, hwv, wa, wvs, wk, rfl, hwa, hwvs⟩ := htp i hi2
    obtain ⟨yv, hyv, ya, yvs, yk, rfl, hya, hyvs⟩ := hip i hi2
    obtain ⟨ht14, htnd, htlt⟩ := htl i hi2
    have sgga : Sub g ga := hgc.trans (s08.trans sga)
    have hta' := sgga _ _ hta
    have hia' := sgga _ _ hia
    refine T_execs_cons (T_Assign_Name ?_)
    ((with_reducible refine T_B1 (x := Str.ofString "list") (f := .type "list") (by assumption) (by kernel_rfl) (by kernel_rfl) Kp.type ?_))
    walk_at "n"
    ((refine S_dict (by walk_at "at") (by assumption) (by assumption) ?_ (by kernel_rfl)))
    refine C_listL Xb (Xb.keep _ _ (sgga _ _ hwa)) (LX.mk (k := wk)).lw (by rw [hwvs.1]; omega) fun hc lf lk Xc _ => ?_
    refine T_stc (c := c2) (o := oa) Xc (by rw [ec]; kernel_rfl) (fun o' => .there (.app own (.there .here))) hoa ?_
    intro hd od hod Xd
    obtain ⟨gd, sd, Xe, hlf⟩ := Xd.absorb1
    have hlfn : ga.get? lf = none := (Xd.sep _ (.head _)).2
    walk_at "n"
    refine T_For ?_
    have hleft : ∀ {g2 : Heap} {L2 : Addr} {m2 led2 h2 pos} {Q : Value → Heap → Prop}, W C g2 L2 m2 led2 h2 → (c2, od) ∈ led2 → Q (.ref lf) h2 → T C A1 (eval (.Name (Str.ofString "left") pos) (envF C 214 L)) Q noE h2 := fun X2 hm hq =>
      T_ldc (c := c2) (by rw [ec]; rfl) ⟨od, X2.at_ _ hm, hod⟩ hq
    refine hleft Xe (by simp) ?_
    refine TL_src (src_list hA1.hd Xe hlf (LX.mk (k := lk)).lw) (fun j g' m led => A8 (led = own ++ [(fa, listO fvs fk), (c2, od)]) (m (S_ "nodes") = some (.ref na)) (m (S_ "told") = some (.ref ta)) (m (S_ "inits") = some (.ref ia)) (m (S_ "found") = some (.ref fa)) (m (S_ "package") = some (.str (pkgOf i) tp)) (Sub gd g') (∀ x ∈ (told i).take j, bit l x x = false)) ?_ ?_ ?_
    · exact ⟨rfl, by walk_at "lk", by walk_at "lk", by walk_at "lk", by walk_at "lk", by walk_at "lk", Sub.refl _, by simp⟩
    · rintro j v gj mj ledj ownj hj Kq hKq hjl sj ⟨rfl, mnj, mtj, mij, mfj, mpj, sgj, hcy⟩ hPj Xj
      obtain ⟨x, hx, tx, rfl⟩ := hwvs.getV hPj
      have hxe : x < es.length := htlt x (List.mem_of_getElem? hx)
      refine assign_Name ?_
      walk_at "st"
      intro hk2 Xk
      obtain ⟨ax, hax⟩ : ∃ ax, l[x]? = some ax := ⟨l[x]'(by omega), by simp⟩
      obtain ⟨vx, hvx, tx1, rfl⟩ := hlvs.get hax
      have hlak : gj.get? la = some lo := sgj _ _ (sd _ _ (sga _ _ hla8))
      have hc1k : gj.get? c1 = some o6 := sgj _ _ (sd _ _ (sga _ _ hc1))
      refine T_execs_cons (T_If ?_)
      walk_at "n"
      refine T_ldc (c := c1) (by rw [ec]; rfl) ⟨o6, Xk.keep _ _ hc1k, hd6⟩ ?_
      walk_at "n"
      walk_at "Sl"
      walk_at "n"
      refine I_shr (by omega) fun t1 => ?_
      walk_at "n"
      refine I_and fun t2 => ?_
      walk_at "n"
      rw [testBit_int]
      have hbx : bit l x x = ax.testBit x := by unfold bit; rw [List.getD_eq_getElem?_getD, hax]; rfl
      refine ⟨fun e => ?_, fun e => ?_⟩
      · walk_at "n"
        refine I_mul (by first | mul_fits | exact .inl (by decide)) fun t3 => ?_
        walk_at "n"
        refine hq _ _ ?_ (hKeep _ (s08.trans (sga.trans (sd.trans (sgj.trans Xk.keep)))))
        have hf : (told i).find? (fun i => bit l i i) = some x := by
          rw [List.find?_eq_some_iff_getElem]
          have hjl2 : j < (told i).length := (List.getElem?_eq_some_iff.mp hx).1
          refine ⟨by rw [hbx]; exact e, j, hjl2, ?_, fun j' hj' => ?_⟩
          · have := List.getElem?_eq_getElem hjl2; rw [hx] at this; exact (Option.some.inj this).symm
          · rw [hcy _ (by rw [List.mem_take_iff_getElem]; exact ⟨j', by omega, rfl⟩)]; rfl
        have hp : pkgDue l (told i) = .inl x := by unfold pkgDue; rw [hf]
        rw [hdue]
        have h2i : 2 - i = (1 - i) + 1 := by omega
        rw [h2i, dueFrom, hp]
        have ex3 : (10 * (x : Int) + 3) = ((10 * x + 3 : Nat) : Int) := by omega
        show IsN (.int (10 * (x : Int) + 3) _) (10 * x + 3)
        rw [ex3]
        exact ⟨_, rfl⟩
      · walk_at "n"
        refine ⟨gj, _, _, Sub.refl _, Xk, rfl, by walk_at "lk", by walk_at "lk", by walk_at "lk", by walk_at "lk", by walk_at "lk", sgj, fun y hy => ?_⟩
        rw [List.take_add_one, hx] at hy
        rcases List.mem_append.mp hy with hy | hy
        · exact hcy y hy
        · simp at hy; subst hy; rw [hbx]; exact e
    · rintro gj mj ledj hj sj ⟨rfl, mnj, mtj, mij, mfj, mpj, sgj, hcy⟩ Xj
      obtain ⟨gq, sq, sq2, _, Xq⟩ := Xj.release (g := ga) (sgj _ _ hlf) Xb.glob (sd.trans sgj) hlfn
      have hnc : ∀ j ∈ told i, bit l j j = false := by
        have e : (told i).take wvs.length = told i := by rw [hwvs.1, List.take_length]
        rw [e] at hcy; exact hcy
      have hpd : pkgDue l (told i) = .inr (ordN l (told i).length (told i)) := by
        unfold pkgDue
        have : (told i).find? (fun i => bit l i i) = none := by rw [List.find?_eq_none]; intro x hx; rw [hnc x hx]; decide
        rw [this]
      have hrd' := hrd i hi2 hnc
      clear hcy sq2 hrd
      walk_at "n"
      refine T_While ?_
      refine TL_while Xq (fun k g' m led => E6 fun lvs lk left fvs2 fk2 dn => A14 (led = (lf, listO lvs lk) :: (own ++ [(fa, listO fvs2 fk2), (c2, od)])) (m (S_ "nodes") = some (.ref na)) (m (S_ "told") = some (.ref ta)) (m (S_ "inits") = some (.ref ia)) (m (S_ "found") = some (.ref fa)) (m (S_ "package") = some (.str (pkgOf i) tp)) (Sub gq g') (All2 IsN lvs left) (All2 IsS fvs2 (acc ++ dn.map key)) (left.Nodup) ((∀ j ∈ left, j ∈ told i)) (left.length = k) (dn.length + k = (told i).length) (ordN l (told i).length (told i) = dn ++ ordN l k left)) (told i).length ?_ ?_
      · exact ⟨wvs, lk, told i, fvs, fk, [], rfl, mnj, mtj, mij, mfj, mpj, Sub.refl _, hwvs, by simpa using hfv, htnd, fun _ h => h, rfl, by simp, rfl⟩
      · rintro k g1 m1 led1 h1 Kq hKq s1 ⟨lvs, lk1, left, fvs2, fk2, dn, rfl, mn1, mt1, mi1, mf1, mp1, sg1, hlv, hfv2, hnd, hsub, hlen, hdl, hord⟩ X1
        have hl14 : left.length ≤ 14 := by omega
        walk_at "n"
        refine hleft X1 (by simp) ?_
        walk_at "lst"
        walk_at "end"
        intro h2 na2 X2 _
        refine R_neN (X2.at_ (lf, listO lvs lk1) (by walk_at "mm")) (LX.mk (k := lk1)).lw (X2.at_ _ (.head _)) (LX.mk (k := 0)).lw hA1 ?_
        have X2 := X2.drop1
        walk_at "n"
        refine ⟨fun e => ?_, fun e => ?_⟩
        · have hne : left ≠ [] := by
            rintro rfl
            have : lvs = [] := List.length_eq_zero_iff.mp (by rw [hlv.1]; rfl)
            rw [this] at e; cases e
          obtain ⟨one, hone, hfree⟩ := hrd' left hne hsub
          have hfne : left.filter (free l left) ≠ [] := List.ne_nil_of_mem (List.mem_filter.mpr ⟨hone, hfree⟩)
          obtain ⟨x, xr, hxr⟩ : ∃ x xr, left.filter (free l left) = x :: xr := List.exists_cons_of_ne_nil hfne
          have hxl : x ∈ left := (List.mem_filter.mp (hxr ▸ List.mem_cons_self : x ∈ left.filter (free l left))).1
          obtain ⟨ga1, sa1, Xa1, hlf1⟩ := X2.absorb1
          have hlfn1 : g1.get? lf = none := (X2.sep _ (.head _)).2
          dsimp only at hlf1
          have sgA : Sub g8 ga1 := sga.trans (sq.trans (sg1.trans sa1))
          walk_at "as"
          refine T_post (Q := fun v h' => IsN v x ∧ ∃ g3, Sub ga1 g3 ∧ W C g3 L m1 (own ++ [(fa, listO fvs2 fk2), (c2, od)]) h') ?_ ?_
          · refine T_Sub (T_LComp ?_ (by rw [ec]; kernel_rfl) (by kernel_rfl) (by kernel_rfl) (by intro _; kernel_rfl))
            refine hleft Xa1 (by simp) ?_
            refine LC_src1 (x1 := S_ "one") (src_list hA1.hd Xa1 hlf1 (LX.mk (k := lk1)).lw) (by rw [hlv.1]; omega) (fun _ _ => ⟨by kernel_rfl, by rw [ec]; kernel_rfl⟩)
              (fun t ys g' m c led => E1 fun o => A4 (led = (c, o) :: (own ++ [(fa, listO fvs2 fk2), (c2, od)])) ((∃ ov, o.data = .cell ov)) (Sub ga1 g') (All2 IsN ys ((left.take t).filter (free l left)))) ?_ ?_ ?_
            · exact fun c => ⟨_, rfl, ⟨_, rfl⟩, Sub.refl _, by simpa using All2.nil⟩
            · rintro t v ys ky gu mu ledu ownu hu Lc acu c Kq Kr hKq hKr ht su ⟨oc1, rfl, ⟨ovc, hoc1⟩, sgu, hys⟩ hPu Xu
              obtain ⟨y, hy, ty, rfl⟩ := hlv.getV hPu
              have hyl : y ∈ left := List.mem_of_getElem? hy
              have hye : y < es.length := htlt y (hsub y hyl)
              refine assign_Name ?_
              refine T_stc (c := c) (o := oc1) Xu (by kernel_rfl) (fun o' => .app ownu (.there .here)) hoc1 ?_
              intro hw ow how Xw
              refine tests_one ?_
              walk_at "n"
              refine T_LComp ?_ (by rw [ec]; kernel_rfl) (by kernel_rfl) (by kernel_rfl) (by intro _; kernel_rfl)
              refine T_ldc (c := c2) (by rw [ec]; kernel_rfl) ⟨od, Xw.at_ (c2, od) (by walk_at "mm"), hod⟩ ?_
              obtain ⟨ay, hay⟩ : ∃ ay, l[y]? = some ay := ⟨l[y]'(by omega), by simp⟩
              obtain ⟨vy, hvy, ty1, rfl⟩ := hlvs.get hay
              refine LC_src (src_list hA1.hd Xw (sgu _ _ hlf1) (LX.mk (k := lk1)).lw) (by rw [hlv.1]; omega) (fun _ _ => ⟨by kernel_rfl, by rw [ec]; kernel_rfl⟩)
                (fun t2 zs g' m led => A3 (led = ownu ++ ((acu, listO ys ky) :: (c, ow) :: (own ++ [(fa, listO fvs2 fk2), (c2, od)]))) (Sub gu g') (All2 IsN zs ((left.take t2).filter (bit l y)))) ?_ ?_ ?_
              · exact ⟨rfl, Sub.refl _, by simpa using All2.nil⟩
              · rintro t2 v zs kz gx mx ledx ownx hx Lc2 acx Kq Kr hKq hKr ht2 sx ⟨rfl, sgx, hzs⟩ hPx Xx
                obtain ⟨z, hz2, tz, rfl⟩ := hlv.getV hPx
                refine assign_Name ?_
                walk_at "st"
                intro hy2 Xy
                have hlax : gx.get? la = some lo := sgx _ _ (sgu _ _ (sgA _ _ hla8))
                have hc1x : gx.get? c1 = some o6 := sgx _ _ (sgu _ _ (sgA _ _ hc1))
                refine tests_one ?_
                walk_at "n"
                refine T_ldc (c := c1) (by rw [ec]; kernel_rfl) ⟨o6, Xy.keep _ _ hc1x, hd6⟩ ?_
                refine T_ldc (c := c) (by rw [ec]; kernel_rfl) ⟨ow, Xy.at_ (c, ow) (by walk_at "mm"), how⟩ ?_
                walk_at "Sl"
                walk_at "n"
                refine I_shr (by omega) fun tt1 => ?_
                walk_at "n"
                refine I_and fun tt2 => ?_
                walk_at "n"
                rw [testBit_int]
                have hbz : bit l y z = ay.testBit z := by unfold bit; rw [List.getD_eq_getElem?_getD, hay]; rfl
                rw [← hbz]
                refine ⟨fun e => ?_, fun e => ?_⟩
                · walk_at "n"
                  refine ⟨gx, _, _, Sub.refl _, Xy, rfl, sgx, ?_⟩
                  rw [take_filter hz2, if_pos e]
                  exact hzs.snoc ⟨_, rfl⟩
                · refine hKr () _ ⟨gx, _, _, Sub.refl _, Xy, rfl, sgx, ?_⟩
                  rw [take_filter hz2, if_neg (by rw [e]; decide), List.append_nil]
                  exact hzs
              · rintro zs kz gx mx ledx hx acx sx ⟨rfl, sgx, hzs⟩ Xx
                rw [hlv.1, List.take_length] at hzs
                walk_at "lst"
                walk_at "end"
                intro hz1 nz Xz _
                refine R_eqN (Xz.at_ _ (.tail _ (.head _))) (LX.mk (k := kz)).lw (Xz.at_ _ (.head _)) (LX.mk (k := 0)).lw hA1 ?_
                have hfe : zs.isEmpty = free l left y := by
                  unfold free
                  have := hzs.1
                  cases zs <;> cases hq : left.filter (bit l y) <;> rw [hq] at this <;> first | rfl | (cases this) | (exact congrArg List.isEmpty hq |>.symm)
                walk_at "n"
                have Xz' := Xz.drop1.drop1
                refine ⟨fun e => ?_, fun e => ?_⟩
                · refine T_ldc (c := c) (by rw [ec]; kernel_rfl) ⟨ow, Xz'.at_ (c, ow) (by walk_at "mm"), how⟩ ?_
                  refine hKq _ _ ⟨gx, _, _, sgx, Xz', ow, rfl, ⟨_, how⟩, sgu.trans sgx, ?_⟩
                  rw [take_filter hy, if_pos (hfe ▸ e)]
                  exact hys.snoc ⟨_, rfl⟩
                · refine hKr () _ ⟨gx, _, _, sgx, Xz', ow, rfl, ⟨_, how⟩, sgu.trans sgx, ?_⟩
                  rw [take_filter hy, if_neg (by rw [← hfe, e]; decide), List.append_nil]
                  exact hys
            · rintro ys ky gu mu ledu hu acu c su ⟨oc1, rfl, _, sgu, hys⟩ Xu
              rw [hlv.1, List.take_length, hxr] at hys
              obtain ⟨v0, hv0, t0, rfl⟩ := hys.get (i := 0) rfl
              walk_at "n"
              refine S_list (Xu.at_ _ (.head _)) (LX.mk (k := ky)).lw (by decide) (by decide) hv0 ?_
              exact ⟨⟨_, rfl⟩, gu, sgu, Xu.drop1.drop1⟩
          · rintro v h3 ⟨⟨tx, rfl⟩, g3, s3, X3⟩
            obtain ⟨g4, s4, _, _, X4⟩ := X3.release (g := g1) (s3 _ _ hlf1) X2.glob (sa1.trans s3) hlfn1
            walk_at "st"
            intro h5 X5
            refine T_execs_cons (T_Expr (T_L1 F.slot_list_remove F.type_list_remove ?_))
            refine hleft X5 (by simp) ?_
            refine ⟨lf, lvs, lk1, rfl, X5.at_ _ (.head _), ?_⟩
            walk_at "n"
            refine M_removeN X5 hlv hxl (by omega) fun h6 lvs6 lk6 hlv6 X6 => ?_
            refine ⟨.inl rfl, ?_⟩
            refine T_execs_cons ?_
            (((with_reducible refine T_Expr ?_); (with_reducible refine T_L1 F.slot_list_append F.type_list_append ?_)))
            walk_at "n"
            refine ⟨fa, fvs2, fk2, rfl, X6.at_ (fa, listO fvs2 fk2) (by walk_at "mm"), ?_⟩
            have hxe : x < es.length := htlt x (hsub x hxl)
            obtain ⟨nd, hndx⟩ : ∃ nd, nds[x]? = some nd := ⟨nds[x]'(by omega), by simp⟩
            obtain ⟨y, hy, na', nb', n0, n1, n2, nns, rfl, hna', _, _⟩ := hnv.get hndx
            have sg4 : Sub g g4 := sgga.trans (sq.trans (sg1.trans s4))
            have hnk := sg4 _ _ hna
            have hna4 := sg4 _ _ hna'
            have hnlw : LW (listO nvs nk) nvs := (LX.mk (k := nk)).lw
            have hnz : nvs.length ≤ 14 := by rw [hnv.1]; omega
            walk_at "n"
            walk_at "Sl"
            walk_at "n"
            ((refine S_tup (by walk_at "at") (by first | decide | omega) (by first | decide | omega) (by first | rfl | assumption) ?_ (by kernel_rfl)))
            refine M_append X6 (.there (.app own .here)) (by rw [hfv2.1]; simp; omega) fun h7 X7 => ?_
            refine ⟨.inl rfl, ?_⟩
            walk_at "n"
            have hkx : key x = nd.key := by rw [← hkey]; unfold keyOf; rw [hndx]; rfl
            refine ⟨k - 1, g4, _, _, ?_, s4, X7, lvs6, lk6, left.erase x, _, _, dn ++ [x], rfl, by walk_at "lk", by walk_at "lk", by walk_at "lk", by walk_at "lk", by walk_at "lk", sg1.trans s4, hlv6, ?_, hnd.erase _, fun j hj => hsub j (List.mem_of_mem_erase hj), ?_, ?_, ?_⟩
            · have := List.length_pos_of_mem hxl; omega
            · rw [List.map_append, ← List.append_assoc]
              refine hfv2.snoc ⟨n2, ?_⟩
              rw [hkx]
            · rw [List.length_erase_of_mem hxl]; omega
            · have := List.length_pos_of_mem hxl; simp; omega
            · rw [hord]
              have hk1 : k = (k - 1) + 1 := by have := List.length_pos_of_mem hxl; omega
              rw [hk1, ordN, hxr]
              simp
        · have hnil : left = [] := by
            have : lvs = [] := by simpa using e
            exact List.length_eq_zero_iff.mp (by rw [← hlv.1, this]; rfl)
          subst hnil
          have hk0 : k = 0 := by simpa using hlen.symm
          subst hk0
          refine T_execs_cons (T_Expr (T_L1 F.slot_list_extend F.type_list_extend ?_))
          walk_at "n"
          refine ⟨fa, fvs2, fk2, rfl, X2.at_ (fa, listO fvs2 fk2) (by walk_at "mm"), ?_⟩
          have hia1 : g1.get? ia = some io := sg1 _ _ (sq _ _ hia')
          walk_at "n"
          ((refine S_dict (by walk_at "at") (by assumption) (by assumption) ?_ (by kernel_rfl)))
          have hil5 := hil i hi2
          refine M_extend X2 (X2.keep _ _ (sg1 _ _ (sq _ _ (sgga _ _ hya)))) (fun k' => .there (.app own .here)) (by rw [hfv2.1, hyvs.1]; simp; omega) fun h3 k3 X3 => ?_
          refine ⟨.inl rfl, ?_⟩
          walk_at "n"
          have X3' := X3.drop1
          refine ⟨g1, _, _, sq.trans sg1, X3', fvs2 ++ yvs, k3, od, acc ++ (dn.map key ++ inits i), rfl, ⟨_, hod⟩, mn1, mt1, mi1, mf1, sga.trans (sq.trans sg1), ?_, ?_, ?_⟩
          · rw [← List.append_assoc]; exact hfv2.append hyvs
          · simp; omega
          · rw [hdue]
            have h2i : 2 - i = (2 - (i + 1)) + 1 := by omega
            rw [h2i, dueFrom, hpd, hord]
            simp [ordN]
  · rintro ga ma leda ha sa ⟨fvs, fk, oa, acc, rfl, _, mn, mt, mi, mf, sga, hfv, hal, hdue⟩ Xa
    walk_at "n"
    have s0a := s08.trans sga
    obtain ⟨gd, sd, Xd, fd⟩ := Xa.take (g0 := g) (h0 := h) (yg Xa s0a (.head _))
    refine hq _ _ ?_ (hKeep _ (s0a.trans (sd.trans Xd.keep)))
    rw [hdue]
    exact ⟨fa, fvs, fk, rfl, Fresh.mono Xd.keep _ _ fd, hfv⟩
end
section
open PySem PySem.W PyProof.Rows PySem.Calls PyProof.V PySem.Spec
set_option Elab.async false
set_option maxRecDepth 100000
set_option maxHeartbeats 4000000
set_option linter.unusedVariables false

theorem Lv.under {k : Nat} {A : Around} {Cl : Addr} {rest : List Value} (x : Lv (k + 1) A) : Lv k (A.under (.builtin "type.__call__" ⟨.ref Cl :: rest, []⟩)) := by
  obtain ⟨a, b, c⟩ := x
  have e : (Code.builtin "type.__call__" ⟨.ref Cl :: rest, []⟩).cUnits ≤ 20 := by
    have : (Code.builtin "type.__call__" ⟨.ref Cl :: rest, []⟩).cUnits = (Code.builtin "type.__call__" ⟨[], []⟩).cUnits := rfl
    rw [this]; decide +kernel
  refine ⟨a, ?_, ?_⟩
  · show A.depth + 1 + k < 900; omega
  · show A.units + (Code.builtin "type.__call__" ⟨.ref Cl :: rest, []⟩).cUnits + 20 * k < 9000; omega

theorem named_ok {C : Cx} {A : Around} {E : Value → Heap → Prop} {g h : Heap} {L : Addr} {m : Str → Option Value} {led : List (Addr × Obj)} {v1 v2 v3 v4 : Value} {Q : Value → Heap → Prop} (hA : Lv 2 A) (X : W C g L m led h)
    (hq : ∀ x h', W C g L m led h' → (∀ b o, h.get? b = some o → h'.get? b = some o) → Q (.ref x) h') : T C A (call (.ref 126) [v1, v2, v3, v4] []) Q E h := by
  refine T_new (fI := 123) X (by kernel_rfl) (by kernel_rfl) (by kernel_rfl) fun x dx h1 X1 k1 nx ndx => ?_
  have hA1 : Lv 1 (A.under (.builtin "type.__call__" ⟨.ref 126 :: [v1, v2, v3, v4], []⟩)) := hA.under
  generalize A.under (.builtin "type.__call__" ⟨.ref 126 :: [v1, v2, v3, v4], []⟩) = A1 at hA1 ⊢
  refine T_call0 123 [(S_ "self", .ref x), (S_ "path", v1), (S_ "package", v2), (S_ "underlying", v3), (S_ "methods", v4)] [(x, instObj 126 dx), (dx, dictO)] X1.glob X1.keep hA1.room (by
      intro p hp
      rcases List.mem_cons.mp hp with rfl | hp
      · exact X1.at_ _ (.head _)
      · rw [List.mem_singleton.mp hp]; exact X1.at_ _ (.tail _ (.head _))) (by
      intro p hp
      rcases List.mem_cons.mp hp with rfl | hp
      · exact (X1.sep _ (.head _)).2
      · rw [List.mem_singleton.mp hp]; exact (X1.sep _ (.tail _ (.head _))).2) (by
      have := X1.headNe (q := (dx, dictO)) (.head _)
      simpa using this) ⟨_, _, _, rfl⟩ (by kernel_rfl) (by kernel_rfl) (by kernel_rfl) (by kernel_rfl) (fun _ => by kernel_rfl) (fun _ => by kernel_rfl) (by kernel_rfl) (by kernel_rfl) (by kernel_rfl) (by kernel_rfl) ?_
  intro gc h2 L2 hgc hgS hKeep Y
  have e1 : nm [(S_ "self", .ref x), (S_ "path", v1), (S_ "package", v2), (S_ "underlying", v3), (S_ "methods", v4)] (S_ "self") = some (.ref x) := by kernel_rfl
  have e2 : nm [(S_ "self", .ref x), (S_ "path", v1), (S_ "package", v2), (S_ "underlying", v3), (S_ "methods", v4)] (S_ "path") = some v1 := by kernel_rfl
  have e3 : nm [(S_ "self", .ref x), (S_ "path", v1), (S_ "package", v2), (S_ "underlying", v3), (S_ "methods", v4)] (S_ "package") = some v2 := by kernel_rfl
  have e4 : nm [(S_ "self", .ref x), (S_ "path", v1), (S_ "package", v2), (S_ "underlying", v3), (S_ "methods", v4)] (S_ "underlying") = some v3 := by kernel_rfl
  have e5 : nm [(S_ "self", .ref x), (S_ "path", v1), (S_ "package", v2), (S_ "underlying", v3), (S_ "methods", v4)] (S_ "methods") = some v4 := by kernel_rfl
  generalize nm [(S_ "self", .ref x), (S_ "path", v1), (S_ "package", v2), (S_ "underlying", v3), (S_ "methods", v4)] = m0 at Y e1 e2 e3 e4 e5
  refine T_execs_cons (T_Assign_Attr ?_ rfl)
  walk_at "n"
  refine T_setattr Y (Y.at_ _ (.head _)) (fun _ => .there .here) ONs.empty (by decide) (fun h3 o3 ho3 hs3 Y3 => ?_) (by kernel_rfl) (by kernel_rfl) (by kernel_rfl) (by kernel_rfl)
  walk_at "sat"
  walk_at "n"
  refine T_setattr Y3 (Y3.at_ _ (.head _)) (fun _ => .there .here) ho3 (by decide) (fun h4 o4 ho4 hs4 Y4 => ?_) (by kernel_rfl) (by kernel_rfl) (by kernel_rfl) (by kernel_rfl)
  walk_at "sat"
  walk_at "n"
  refine T_setattr Y4 (Y4.at_ _ (.head _)) (fun _ => .there .here) ho4 (by decide) (fun h5 o5 ho5 hs5 Y5 => ?_) (by kernel_rfl) (by kernel_rfl) (by kernel_rfl) (by kernel_rfl)
  walk_at "sat"
  walk_at "n"
  refine T_setattr Y5 (Y5.at_ _ (.head _)) (fun _ => .there .here) ho5 (by decide) (fun h6 o6 ho6 hs6 Y6 => ?_) (by kernel_rfl) (by kernel_rfl) (by kernel_rfl) (by kernel_rfl)
  walk_at "n"
  have K := hKeep _ Y6.keep
  have kk : ∀ b o, h.get? b = some o → h6.get? b = some o := fun b o e => K b o (fun hm => by
    rcases List.mem_cons.mp hm with rfl | hm
    · rw [nx] at e; cases e
    · rw [List.mem_singleton.mp hm, ndx] at e; cases e) (k1 b o e)
  exact ⟨rfl, hq x h6 (X.keepK kk) kk⟩

theorem T_F4 {C : Cx} {A : Around} {E : Value → Heap → Prop} {g h : Heap} {L : Addr} {m : Str → Option Value} {led : List (Addr × Obj)} {env : Env} {x : Str} {f : Addr} {np pos : Pos} {e1 e2 e3 e4 : Expr} {Q : Value → Heap → Prop} (X : W C g L m led h) (hn : nsIn (KF C) mainGlobals x = some (some (.ref f))) (hk : keepIn (KF C) (.ref f) = true)
    (hx : T C A (eval e1 env) (fun v1 h1 => T C A (eval e2 env) (fun v2 h2 => T C A (eval e3 env) (fun v3 h3 => T C A (eval e4 env) (fun v4 h4 => (KF C).In h4 ∧ T C A (call (.ref f) [v1, v2, v3, v4] []) Q E h4) E h3) E h2) E h1) E h)
    (hkf : env.scope.kind = .function := by kernel_rfl) (hxk : env.kindOf x = some .globalImplicit := by kernel_rfl) (hg : env.globals = mainGlobals := by kernel_rfl) (hd : (x == ("__debug__" : Str)) = false := by kernel_rfl)
    (s1 : starEach [e1, e2, e3, e4] env = (false, eval e1 env) :: starEach [e2, e3, e4] env := by kernel_rfl) (s2 : starEach [e2, e3, e4] env = (false, eval e2 env) :: starEach [e3, e4] env := by kernel_rfl) (s3 : starEach [e3, e4] env = (false, eval e3 env) :: starEach [e4] env := by kernel_rfl) (s4 : starEach [e4] env = (false, eval e4 env) :: starEach [] env := by kernel_rfl)
    (hp : (backTo pos (starEach [e2, e3, e4] env)).any (·.1) = false := by kernel_rfl) : T C A (eval (.Call (.Name x np) [e1, e2, e3, e4] [] pos) env) Q E h :=
  T_CallName (T_ldg X hn (T_callWith (Kp.fn hk) (T_spl (T_post hx fun v1 h1 H => T_spl (T_post H fun v2 h2 H => T_spl (T_post H fun v3 h3 H => T_spl (T_post H fun v4 h4 H => T_spl_nil H) s4) s3) s2) s1) s1 hp) hkf hxk hg hd)

theorem known_ok {C : Cx} {A : Around} {E : Value → Heap → Prop} {g h : Heap} {Q : Value → Heap → Prop} (hA : Lv 3 A) (hG : Glob C g) (hk : Sub g h)
    (hq : ∀ a h', Keep [] h h' → Q (.ref a) h') : T C A (call (.ref 137) [] []) Q E h := by
  refine T_callC (T_call0 137 [] [] hG hk hA.room (by simp) (by simp) (by simp) ⟨_, _, _, rfl⟩ (by kernel_rfl) (by kernel_rfl) (by kernel_rfl) (by kernel_rfl) (fun _ => by kernel_rfl) (fun _ => by kernel_rfl) (by kernel_rfl) (by kernel_rfl) (by kernel_rfl) (by kernel_rfl) ?_)
  intro gc h1 L hgc hgS hKeep X
  have hA1 : Lv 2 (A.deeper (envF C 137 L)) := hA.deeper _
  generalize A.deeper (envF C 137 L) = A1 at hA1 ⊢
  generalize nm [] = m0 at X
  refine T_execs_cons ?_
  with_reducible refine T_Assign_Name ?_
  walk_at "dp"
  walk_at "st"
  intro h2 X2
  walk_at "as"
  walk_at "dp"
  walk_at "st"
  intro h3 X3
  walk_at "as"
  walk_at "dp"
  walk_at "st"
  intro h4 X4
  walk_at "as"
  walk_at "dp"
  walk_at "st"
  intro h5 X5
  walk_at "as"
  have X5' := X5.sub (led' := []) (List.nil_sublist _)
  clear X X2 X3 X4 X5
  ((with_reducible refine T_DictW (by assumption) ?_ (by kernel_rfl) (by kernel_rfl) (List.cons_ne_nil _ _) (by decide)))
  intro h6 d6 X6 _ _
  (with_reducible refine T_pair ?_)
  walk_at "dp"
  (with_reducible refine T_pair0 ?_)
  refine ⟨[(_, _)], ⟨strKind_is _ _ _ _, rfl, trivial⟩, _, _, _, [], W.sub (led' := [(d6, dictO)]) (by assumption) (by walk_at "sl"), fun h7 o7 _ X7 => ?_⟩
  walk_at "st"
  intro h8 X8
  walk_at "as"
  ((with_reducible refine T_DictW (by assumption) ?_ (by kernel_rfl) (by kernel_rfl) (List.cons_ne_nil _ _) (by decide)))
  intro h9 d9 X9 _ _
  (with_reducible refine T_pair ?_)
  walk_at "dp"
  ((refine T_ldg (v := .ref 109) (by assumption) (by kernel_rfl) ?_))
  walk_at "dp"
  (with_reducible refine T_pair ?_)
  walk_at "dp"
  ((refine T_ldg (v := .ref 109) (by assumption) (by kernel_rfl) ?_))
  walk_at "dp"
  (with_reducible refine T_pair0 ?_)
  refine ⟨[(_, _), (_, _)], ⟨strKind_is _ _ _ _, rfl, strKind_is _ _ _ _, rfl, trivial⟩, _, _, _, [], W.sub (led' := [(d9, dictO), (d6, o7)]) (by assumption) (by walk_at "sl"), fun h10 o10 _ X10 => ?_⟩
  walk_at "st"
  intro h11 X11
  walk_at "as"
  ((with_reducible refine T_DictW (by assumption) ?_ (by kernel_rfl) (by kernel_rfl) (List.cons_ne_nil _ _) (by decide)))
  intro h12 d12 X12 _ _
  (with_reducible refine T_pair ?_)
  walk_at "dp"
  (with_reducible refine T_pair ?_)
  walk_at "dp"
  ((refine T_ldg (v := .ref 109) (by assumption) (by kernel_rfl) ?_))
  walk_at "dp"
  (with_reducible refine T_pair ?_)
  walk_at "dp"
  ((refine T_ldg (v := .ref 109) (by assumption) (by kernel_rfl) ?_))
  walk_at "dp"
  (with_reducible refine T_pair0 ?_)
  refine ⟨[(_, _), (_, _), (_, _)], ⟨strKind_is _ _ _ _, rfl, strKind_is _ _ _ _, rfl, strKind_is _ _ _ _, rfl, trivial⟩, _, _, _, [], W.sub (led' := [(d12, dictO), (d9, o10), (d6, o7)]) (by assumption) (by walk_at "sl"), fun h13 o13 _ X13 => ?_⟩
  walk_at "st"
  intro h14 X14
  refine T_execs_cons ?_
  with_reducible refine T_Return ?_
  ((with_reducible refine T_DictW (by assumption) ?_ (by kernel_rfl) (by kernel_rfl) (List.cons_ne_nil _ _) (by decide)))
  intro h15 d15 X15 _ _
  (with_reducible refine T_pair ?_)
  walk_at "n"
  refine T_F4 (f := 126) (by assumption) (by kernel_rfl) (by kernel_rfl) ?_
  walk_at "dp"
  ((with_reducible refine T_DctX (by assumption) ?_))
  intro h16 d16 X16 _ _
  refine ⟨X16.glob.K.keeps X16.keep, named_ok hA1 X16 fun n1 h17 X17 _ => ?_⟩
  have X17 := X17.sub (led' := [(d15, dictO), (d12, o13), (d9, o10), (d6, o7)]) (by walk_at "sl")
  (with_reducible refine T_pair ?_)
  walk_at "n"
  refine T_F4 (f := 126) (by assumption) (by kernel_rfl) (by kernel_rfl) ?_
  walk_at "dp"
  refine ⟨W.glob (by assumption) |>.K.keeps (W.keep (by assumption)), named_ok hA1 (by assumption) fun n2 h18 X18 _ => ?_⟩
  have X18 := X18.sub (led' := [(d15, dictO), (d12, o13), (d9, o10), (d6, o7)]) (by walk_at "sl")
  (with_reducible refine T_pair ?_)
  walk_at "n"
  refine T_F4 (f := 126) (by assumption) (by kernel_rfl) (by kernel_rfl) ?_
  walk_at "n"
  refine ⟨X18.glob.K.keeps X18.keep, named_ok hA1 X18 fun n3 h19 X19 _ => ?_⟩
  (with_reducible refine T_pair ?_)
  walk_at "n"
  refine T_F4 (f := 126) (by assumption) (by kernel_rfl) (by kernel_rfl) ?_
  walk_at "n"
  refine ⟨X19.glob.K.keeps X19.keep, named_ok hA1 X19 fun n4 h20 X20 _ => ?_⟩
  (with_reducible refine T_pair0 ?_)
  refine ⟨[(_, _), (_, _), (_, _), (_, _)], ⟨strKind_is _ _ _ _, rfl, strKind_is _ _ _ _, rfl, strKind_is _ _ _ _, rfl, strKind_is _ _ _ _, rfl, trivial⟩, _, _, _, [], X20, fun h21 o21 _ X21 => ?_⟩
  exact hq d15 h21 (hKeep _ X21.keep)
end
section
open PySem PySem.W PyProof.Rows PySem.Calls PyProof.V PySem.Spec
set_option Elab.async false
set_option maxRecDepth 100000
set_option maxHeartbeats 4000000
set_option linter.unusedVariables false

theorem T_call0D {C : Cx} {A : Around} {E : Value → Heap → Prop} {g h : Heap} (f : Addr) {pos : List Value} {kw : List (Str × Value)} (binds : List (Str × Value)) (S : List (Addr × Obj)) {Q : Value → Heap → Prop}
    (hG : Glob C g) (hk : Sub g h) (hroom : A.depth < recursionLimit)
    (hS : ∀ p ∈ S, h.get? p.1 = some p.2) (hSg : ∀ p ∈ S, g.get? p.1 = none) (hSn : (S.map (·.1)).Nodup)
    (hf : ∃ oc od osl, (KF C).lookup f = some ⟨oc, od, .func (fdAt C f), osl⟩) (hcd : codeIn (KF C) (fdAt C f).code (fdAt C f).qualname = true) (hbody : (fdAt C f).body = .stmts (bodyF C f))
    (hbind : ∀ S, peek (KF C) S (bindArgs (fdAt C f) ⟨pos, kw⟩) = some binds)
    (hkind : (binds.all fun y => (fdAt C f).scope.names.lookup y.1 == some .local) = true)
    (hc : ∀ n, cellsFrom n (fdAt C f).scope.names [] = [])
    (hm : ∀ L, (bindL (envF C f L).kindOf binds fun _ => none) = nm binds)
    (hclo : (fdAt C f).closure = []) (hco : (fdAt C f).scope.isCoroutine = false) (hgen : (fdAt C f).scope.isGenerator = false) (hkf : (fdAt C f).scope.kind = .function)
    (hb : ∀ gc h1 L, Sub g gc → (∀ b o, h.get? b = some o → b ∉ S.map (·.1) → gc.get? b = some o) → (∀ h2, Sub gc h2 → Keep (S.map (·.1)) h h2) →
      W C gc L (nm binds) S h1 →
      T C (A.deeper (envF C f L)) (execs (bodyF C f) (envF C f L)) (fun fl h2 => Q (retv fl) h2) noE h1) :
    TC C A (.call (.ref f) ⟨pos, kw⟩) Q E h := by
  obtain ⟨oc, od, osl, hf⟩ := hf
  refine T_enter0 (fd := fdAt C f) (binds := binds) S hG hk hf hcd hbody hroom hS hSg hSn (fun tk => kp_binds (hG.K.keeps hk) hbind) hkind hc (fun gc h1 L a b c X => ?_) hclo hco hgen hkf
  rw [hm] at X
  exact hb gc h1 L a b c X

theorem W.permP {C : Cx} {g h : Heap} {L : Addr} {m : Str → Option Value} {led led' : List (Addr × Obj)} (X : W C g L m led h) (p : led'.Perm led) : W C g L m led' h :=
  X.perm (fun _ hp => p.mem_iff.mp hp) ((p.map _).nodup_iff.mpr X.nd)
theorem perm7 {α : Type} (a b c d e x y : α) (l : List α) : (x :: y :: d :: b :: a :: c :: e :: l).Perm (a :: b :: c :: d :: e :: x :: y :: l) := by
  have h1 : ([a, b, c, d, e] ++ x :: (y :: l)).Perm (x :: ([a, b, c, d, e] ++ (y :: l))) := List.perm_middle
  have h2 : ([a, b, c, d, e] ++ y :: l).Perm (y :: ([a, b, c, d, e] ++ l)) := List.perm_middle
  have h3 : ([a, b, c] ++ d :: (e :: l)).Perm (d :: ([a, b, c] ++ (e :: l))) := List.perm_middle
  have h4 : ([a] ++ b :: (c :: e :: l)).Perm (b :: ([a] ++ (c :: e :: l))) := List.perm_middle
  exact (h1.trans ((h2.trans ((h3.trans (h4.cons d)).cons y)).cons x)).symm
theorem W.youngs {C : Cx} {g gc h1 h' : Heap} {L : Addr} {m : Str → Option Value} {N S : List (Addr × Obj)} {S0 : List Addr} (Y : W C g L m (N ++ S) h') (hgc : Sub gc g) (hS : ∀ b o, h1.get? b = some o → b ∉ S0 → gc.get? b = some o) (e : S0 = S.map (·.1)) : ∀ p ∈ N, h1.get? p.1 = none := fun p hp =>
  Y.young (List.mem_append_left _ hp) hgc hS fun hm => by
    have := Y.nd
    rw [List.map_append] at this
    exact (List.nodup_append.mp this).2.2 p.1 (List.mem_map_of_mem (f := (·.1)) hp) p.1 (e ▸ hm) rfl
theorem world_new {C : Cx} {A : Around} {E : Value → Heap → Prop} {g h : Heap} {L : Addr} {m : Str → Option Value} {led : List (Addr × Obj)} {Q : Value → Heap → Prop} (hA : Lv 5 A) (X : W C g L m led h)
    (hq : ∀ x dx od mi ao av ai am ab h', ONs od mi 20 → mi (S_ "order") = some (.ref ao) → mi (S_ "values") = some (.ref av) → mi (S_ "inits") = some (.ref ai) → mi (S_ "mentions") = some (.ref am) → mi (S_ "bodies") = some (.ref ab) → Lo av → Lo ai → Lo am → Lo ab →
      W C g L m ((x, instObj 169 dx) :: (dx, od) :: (ao, listO [] 0) :: (av, dictO) :: (ai, dictO) :: (am, dictO) :: (ab, dictO) :: led) h' → (∀ b o, h.get? b = some o → h'.get? b = some o) → Q (.ref x) h') : T C A (call (.ref 169) [] []) Q E h := by
  refine T_new (fI := 152) X (by kernel_rfl) (by kernel_rfl) (by kernel_rfl) fun x dx h1 X1 k1 nx ndx => ?_
  have hA1 : Lv 4 (A.under (.builtin "type.__call__" ⟨.ref 169 :: [], []⟩)) := hA.under
  generalize A.under (.builtin "type.__call__" ⟨.ref 169 :: [], []⟩) = A1 at hA1 ⊢
  refine T_call0D 152 [(S_ "self", .ref x), (S_ "packages", .none)] [(x, instObj 169 dx), (dx, dictO)] X1.glob X1.keep hA1.room (by
      intro p hp
      rcases List.mem_cons.mp hp with rfl | hp
      · exact X1.at_ _ (.head _)
      · rw [List.mem_singleton.mp hp]; exact X1.at_ _ (.tail _ (.head _))) (by
      intro p hp
      rcases List.mem_cons.mp hp with rfl | hp
      · exact (X1.sep _ (.head _)).2
      · rw [List.mem_singleton.mp hp]; exact (X1.sep _ (.tail _ (.head _))).2) (by
      have := X1.headNe (q := (dx, dictO)) (.head _)
      simpa using this) ⟨_, _, _, rfl⟩ (by kernel_rfl) (by kernel_rfl) (fun _ => by kernel_rfl) (by kernel_rfl) (fun _ => by kernel_rfl) (fun _ => by kernel_rfl) (by kernel_rfl) (by kernel_rfl) (by kernel_rfl) (by kernel_rfl) ?_
  intro gc h2 L2 hgc hgS hKeep Y0
  have hA2 : Lv 3 (A1.deeper (envF C 152 L2)) := hA1.deeper _
  generalize A1.deeper (envF C 152 L2) = A2 at hA2 ⊢
  have e1 : nm [(S_ "self", .ref x), (S_ "packages", .none)] (S_ "self") = some (.ref x) := by kernel_rfl
  have e2 : nm [(S_ "self", .ref x), (S_ "packages", .none)] (S_ "packages") = some .none := by kernel_rfl
  generalize nm [(S_ "self", .ref x), (S_ "packages", .none)] = m0 at Y0 e1 e2
  refine T_execs_cons (T_Assign_Attr ?_ rfl)
  walk_at "n"
  refine T_setattr (name := Str.ofString "packages") Y0 (Y0.at_ (x, instObj 169 dx) (by walk_at "mm")) (by walk_at "up") ONs.empty (by decide) (fun hs0 os0 ho1 _ Ys0 => ?_) (by kernel_rfl) (by kernel_rfl) (by kernel_rfl) (by kernel_rfl)
  walk_at "sat"
  refine T_C0 (f := 137) Ys0 (by kernel_rfl) (by kernel_rfl) (known_ok hA2 Ys0.glob Ys0.keep fun kn hkn Kkn => ?_)
  have Ykn := Ys0.call0K Kkn
  walk_at "n"
  refine T_setattr (name := Str.ofString "named") Ykn (Ykn.at_ (x, instObj 169 dx) (by walk_at "mm")) (by walk_at "up") ho1 (by decide) (fun hs1 os1 ho2 _ Ys1 => ?_) (by kernel_rfl) (by kernel_rfl) (by kernel_rfl) (by kernel_rfl)
  walk_at "sat"
  ((with_reducible refine T_DctX (by assumption) ?_))
  intro hd2 d2 Yd2 lo2 _
  walk_at "n"
  refine T_setattr (name := Str.ofString "globals") Yd2 (Yd2.at_ (x, instObj 169 dx) (by walk_at "mm")) (by walk_at "up") ho2 (by decide) (fun hs2 os2 ho3 _ Ys2 => ?_) (by kernel_rfl) (by kernel_rfl) (by kernel_rfl) (by kernel_rfl)
  have Yr2 := Ys2.drop1
  walk_at "sat"
  ((with_reducible refine T_DctX (by assumption) ?_))
  intro hd3 d3 Yd3 lo3 _
  walk_at "n"
  refine T_setattr (name := Str.ofString "consts") Yd3 (Yd3.at_ (x, instObj 169 dx) (by walk_at "mm")) (by walk_at "up") ho3 (by decide) (fun hs3 os3 ho4 _ Ys3 => ?_) (by kernel_rfl) (by kernel_rfl) (by kernel_rfl) (by kernel_rfl)
  have Yr3 := Ys3.drop1
  walk_at "sat"
  ((with_reducible refine T_DctX (by assumption) ?_))
  intro hd4 d4 Yd4 lo4 _
  walk_at "n"
  refine T_setattr (name := Str.ofString "funcs") Yd4 (Yd4.at_ (x, instObj 169 dx) (by walk_at "mm")) (by walk_at "up") ho4 (by decide) (fun hs4 os4 ho5 _ Ys4 => ?_) (by kernel_rfl) (by kernel_rfl) (by kernel_rfl) (by kernel_rfl)
  have Yr4 := Ys4.drop1
  walk_at "sat"
  ((with_reducible refine T_DctX (by assumption) ?_))
  intro hd5 d5 Yd5 lo5 _
  walk_at "n"
  refine T_setattr (name := Str.ofString "bodies") Yd5 (Yd5.at_ (x, instObj 169 dx) (by walk_at "mm")) (by walk_at "up") ho5 (by decide) (fun hs5 os5 ho6 _ Ys5 => ?_) (by kernel_rfl) (by kernel_rfl) (by kernel_rfl) (by kernel_rfl)
  walk_at "sat"
  ((with_reducible refine T_DctX (by assumption) ?_))
  intro hd6 d6 Yd6 lo6 _
  walk_at "n"
  refine T_setattr (name := Str.ofString "files") Yd6 (Yd6.at_ (x, instObj 169 dx) (by walk_at "mm")) (by walk_at "up") ho6 (by decide) (fun hs6 os6 ho7 _ Ys6 => ?_) (by kernel_rfl) (by kernel_rfl) (by kernel_rfl) (by kernel_rfl)
  have Yr6 := Ys6.drop1
  walk_at "sat"
  ((with_reducible refine T_DctX (by assumption) ?_))
  intro hd7 d7 Yd7 lo7 _
  walk_at "n"
  refine T_setattr (name := Str.ofString "scopes") Yd7 (Yd7.at_ (x, instObj 169 dx) (by walk_at "mm")) (by walk_at "up") ho7 (by decide) (fun hs7 os7 ho8 _ Ys7 => ?_) (by kernel_rfl) (by kernel_rfl) (by kernel_rfl) (by kernel_rfl)
  have Yr7 := Ys7.drop1
  walk_at "sat"
  walk_at "lst"
  walk_at "end"
  intro hd8 d8 Yd8 _
  walk_at "n"
  refine T_setattr (name := Str.ofString "order") Yd8 (Yd8.at_ (x, instObj 169 dx) (by walk_at "mm")) (by walk_at "up") ho8 (by decide) (fun hs8 os8 ho9 _ Ys8 => ?_) (by kernel_rfl) (by kernel_rfl) (by kernel_rfl) (by kernel_rfl)
  walk_at "sat"
  walk_at "lst"
  walk_at "end"
  intro hd9 d9 Yd9 _
  walk_at "n"
  refine T_setattr (name := Str.ofString "starts") Yd9 (Yd9.at_ (x, instObj 169 dx) (by walk_at "mm")) (by walk_at "up") ho9 (by decide) (fun hs9 os9 ho10 _ Ys9 => ?_) (by kernel_rfl) (by kernel_rfl) (by kernel_rfl) (by kernel_rfl)
  have Yr9 := Ys9.drop1
  walk_at "sat"
  walk_at "n"
  refine T_setattr (name := Str.ofString "settle") Yr9 (Yr9.at_ (x, instObj 169 dx) (by walk_at "mm")) (by walk_at "up") ho10 (by decide) (fun hs10 os10 ho11 _ Ys10 => ?_) (by kernel_rfl) (by kernel_rfl) (by kernel_rfl) (by kernel_rfl)
  walk_at "sat"
  walk_at "n"
  refine T_setattr (name := Str.ofString "want") Ys10 (Ys10.at_ (x, instObj 169 dx) (by walk_at "mm")) (by walk_at "up") ho11 (by decide) (fun hs11 os11 ho12 _ Ys11 => ?_) (by kernel_rfl) (by kernel_rfl) (by kernel_rfl) (by kernel_rfl)
  walk_at "sat"
  ((with_reducible refine T_DctX (by assumption) ?_))
  intro hd12 d12 Yd12 lo12 _
  walk_at "n"
  refine T_setattr (name := Str.ofString "mentions") Yd12 (Yd12.at_ (x, instObj 169 dx) (by walk_at "mm")) (by walk_at "up") ho12 (by decide) (fun hs12 os12 ho13 _ Ys12 => ?_) (by kernel_rfl) (by kernel_rfl) (by kernel_rfl) (by kernel_rfl)
  walk_at "sat"
  ((with_reducible refine T_DctX (by assumption) ?_))
  intro hd13 d13 Yd13 lo13 _
  walk_at "n"
  refine T_setattr (name := Str.ofString "measured") Yd13 (Yd13.at_ (x, instObj 169 dx) (by walk_at "mm")) (by walk_at "up") ho13 (by decide) (fun hs13 os13 ho14 _ Ys13 => ?_) (by kernel_rfl) (by kernel_rfl) (by kernel_rfl) (by kernel_rfl)
  have Yr13 := Ys13.drop1
  walk_at "sat"
  ((with_reducible refine T_DctX (by assumption) ?_))
  intro hd14 d14 Yd14 lo14 _
  walk_at "n"
  refine T_setattr (name := Str.ofString "values") Yd14 (Yd14.at_ (x, instObj 169 dx) (by walk_at "mm")) (by walk_at "up") ho14 (by decide) (fun hs14 os14 ho15 _ Ys14 => ?_) (by kernel_rfl) (by kernel_rfl) (by kernel_rfl) (by kernel_rfl)
  walk_at "sat"
  ((with_reducible refine T_DctX (by assumption) ?_))
  intro hd15 d15 Yd15 lo15 _
  walk_at "n"
  refine T_setattr (name := Str.ofString "inits") Yd15 (Yd15.at_ (x, instObj 169 dx) (by walk_at "mm")) (by walk_at "up") ho15 (by decide) (fun hs15 os15 ho16 _ Ys15 => ?_) (by kernel_rfl) (by kernel_rfl) (by kernel_rfl) (by kernel_rfl)
  walk_at "sat"
  walk_at "lst"
  walk_at "end"
  intro hd16 d16 Yd16 _
  walk_at "n"
  refine T_setattr (name := Str.ofString "late_keys") Yd16 (Yd16.at_ (x, instObj 169 dx) (by walk_at "mm")) (by walk_at "up") ho16 (by decide) (fun hs16 os16 ho17 _ Ys16 => ?_) (by kernel_rfl) (by kernel_rfl) (by kernel_rfl) (by kernel_rfl)
  have Yr16 := Ys16.drop1
  walk_at "sat"
  walk_at "lst"
  walk_at "end"
  intro hd17 d17 Yd17 _
  walk_at "n"
  refine T_setattr (name := Str.ofString "late_parts") Yd17 (Yd17.at_ (x, instObj 169 dx) (by walk_at "mm")) (by walk_at "up") ho17 (by decide) (fun hs17 os17 ho18 _ Ys17 => ?_) (by kernel_rfl) (by kernel_rfl) (by kernel_rfl) (by kernel_rfl)
  have Yr17 := Ys17.drop1
  walk_at "sat"
  walk_at "lst"
  walk_at "end"
  intro hd18 d18 Yd18 _
  walk_at "n"
  refine T_setattr (name := Str.ofString "late_sizes") Yd18 (Yd18.at_ (x, instObj 169 dx) (by walk_at "mm")) (by walk_at "up") ho18 (by decide) (fun hs18 os18 ho19 _ Ys18 => ?_) (by kernel_rfl) (by kernel_rfl) (by kernel_rfl) (by kernel_rfl)
  have Yr18 := Ys18.drop1
  walk_at "sat"
  walk_at "n"
  refine T_setattr (name := Str.ofString "is_whole") Yr18 (Yr18.at_ (x, instObj 169 dx) (by walk_at "mm")) (by walk_at "up") ho19 (by decide) (fun hs19 os19 ho20 _ Ys19 => ?_) (by kernel_rfl) (by kernel_rfl) (by kernel_rfl) (by kernel_rfl)
  walk_at "n"
  have K := hKeep _ Ys19.keep
  have K0 : ∀ b o, h.get? b = some o → hs19.get? b = some o := fun b o e => K b o (fun hm => by
    rcases List.mem_cons.mp hm with rfl | hm
    · rw [nx] at e; cases e
    · rw [List.mem_singleton.mp hm, ndx] at e; cases e) (k1 b o e)
  have ny := W.youngs (N := [(d15, dictO), (d14, dictO), (d12, dictO), (d8, listO [] 0), (d5, dictO)]) (S := [(x, instObj 169 dx), (dx, os19)]) (h1 := h1) Ys19 (Sub.refl gc) hgS rfl
  have ny' : ∀ p ∈ [(d15, dictO), (d14, dictO), (d12, dictO), (d8, listO [] 0), (d5, dictO)] ++ [(x, instObj 169 dx), (dx, os19)], h.get? p.1 = none := fun p hp => by
    rcases List.mem_append.mp hp with hp | hp
    · cases e : h.get? p.1 with
      | none => rfl
      | some o => have := ny p hp; rw [k1 _ _ e] at this; cases this
    · rcases List.mem_cons.mp hp with rfl | hp
      · exact nx
      · rw [List.mem_singleton.mp hp]; exact ndx
  refine ⟨rfl, hq x dx os19 _ d8 d14 d15 d12 d5 hs19 ho20 (by walk_at "lk") (by walk_at "lk") (by walk_at "lk") (by walk_at "lk") (by walk_at "lk") lo14 lo15 lo12 lo5 ?_ K0⟩
  exact (X.addNews (N := [(d15, dictO), (d14, dictO), (d12, dictO), (d8, listO [] 0), (d5, dictO)] ++ [(x, instObj 169 dx), (dx, os19)]) (fun b o _ e => K0 b o e) ny' (fun p hp => Ys19.at_ p hp) Ys19.nd).permP (perm7 _ _ _ _ _ _ _ _)
end
section
open PySem PySem.W PyProof.Rows PySem.Calls PyProof.V PySem.Spec
set_option Elab.async false
set_option maxRecDepth 100000
set_option maxHeartbeats 4000000
set_option linter.unusedVariables false

def NdOk (nd : Nd) : Prop := nd.pkg.length ≤ 10 ∧ nd.names.length ≤ 2 ∧ (∀ n ∈ nd.names, n.length ≤ 20) ∧ (nd.val = true → nd.names = [S_ "_"] ∨ ∃ n ∈ nd.names, n ≠ S_ "_")
def Says (nds : List Nd) (j : Nat) (x : List Str) : Prop := ∃ nd, nds[j]? = some nd ∧ ((nd.val = false ∧ x = [S_ "fn", nd.key]) ∨ (nd.val = true ∧ ∃ n ∈ nd.names, n ≠ S_ "_" ∧ x = [S_ "global", nd.pkg ++ S_ "." ++ n]))
def lockKey : List Str := [S_ "fn", S_ "sync.Mutex.Lock"]
def MentOk (nds : List Nd) (gs : List Nat) (nd : Nd) (sp : List (List Str)) : Prop :=
  (∀ x ∈ sp, (∃ j ∈ gs, Says nds j x) ∨ x = lockKey ∨ x = [S_ "global", nd.pkg ++ S_ ".late"]) ∧ (∀ j ∈ gs, ∃ x ∈ sp, Says nds j x)
def MentV (C : Cx) (nds : List Nd) (gs : List Nat) (nd : Nd) (g : Heap) (v : Value) : Prop := E3 fun d o xs => A6 (v = .ref d) (g.get? d = some o) (Lo d) (TDO C g o xs) (MentOk nds gs nd (xs.map (·.1))) (xs.length ≤ 20)
def BodV (g : Heap) (w : Value) (i : Nat) (nd : Nd) : Prop := E8 fun a b c t1 t2 t3 e ns => A5 (w = .ref a) (g.get? a = some (tupO [.ref b, .str nd.pkg t1, .none])) (g.get? b = some (tupO [.str (S_ "var") t2, .int ((10 * i + 3 : Nat) : Int) t3, .ref c, .none, e])) (g.get? c = some (tupO ns)) (All2 IsS ns nd.names)
theorem MentV.mono {C : Cx} {nds : List Nd} {gs : List Nat} {nd : Nd} {g g' : Heap} {v : Value} (s : Sub g g') (x : MentV C nds gs nd g v) : MentV C nds gs nd g' v := let ⟨d, o, xs, a, b, c, e, f1, f2⟩ := x; ⟨d, o, xs, a, s _ _ b, c, e.mono s, f1, f2⟩
theorem BodV.mono {g g' : Heap} {v : Value} {i : Nat} {nd : Nd} (s : Sub g g') (x : BodV g v i nd) : BodV g' v i nd := let ⟨a, b, c, t1, t2, t3, e, ns, p, q, r, u, w⟩ := x; ⟨a, b, c, t1, t2, t3, e, ns, p, s _ _ q, s _ _ r, s _ _ u, w⟩

/-- the mentions of the first n nodes -/
def MentK (C : Cx) (g : Heap) (nds : List Nd) (es : List (List Nat)) (n : Nat) (mk : List (Str × Value)) : Prop :=
  (∀ (i : Nat) nd gs, i < n → nds[i]? = some nd → es[i]? = some gs → ∃ w, valueAt mk nd.key = some w ∧ MentV C nds gs nd g w) ∧ (∀ k, valueAt mk k ≠ none → ∃ nd ∈ nds, nd.key = k)
def BodK (g : Heap) (nds : List Nd) (n : Nat) (bk : List (Str × Value)) : Prop := ∀ (i : Nat) nd, i < n → nds[i]? = some nd → nd.val = true → ∃ w, valueAt bk nd.key = some w ∧ BodV g w i nd
theorem MentK.mono {C : Cx} {g g' : Heap} {nds : List Nd} {es : List (List Nat)} {n : Nat} {mk : List (Str × Value)} (s : Sub g g') (x : MentK C g nds es n mk) : MentK C g' nds es n mk := ⟨fun i nd gs a b c => let ⟨w, p, q⟩ := x.1 i nd gs a b c; ⟨w, p, q.mono s⟩, x.2⟩
theorem BodK.mono {g g' : Heap} {nds : List Nd} {n : Nat} {bk : List (Str × Value)} (s : Sub g g') (x : BodK g nds n bk) : BodK g' nds n bk := fun i nd a b c => let ⟨w, p, q⟩ := x i nd a b c; ⟨w, p, q.mono s⟩

/-- the world as it stands -/
structure WR (C : Cx) (g : Heap) (v : Value) (nds : List Nd) (es : List (List Nat)) (told : Nat → List Nat) (inits : Nat → List Str) (x dx : Addr) (od : Obj) (mi : Str → Option Value) (ao av ai am ab : Addr) (om ob : Obj) (mk bk : List (Str × Value)) : Prop where
  v : v = .ref x
  inst : g.get? x = some (instObj 169 dx)
  dict : g.get? dx = some od
  ns : ONs od mi 20
  mo : mi (S_ "order") = some (.ref ao)
  mv : mi (S_ "values") = some (.ref av)
  mi' : mi (S_ "inits") = some (.ref ai)
  mm : mi (S_ "mentions") = some (.ref am)
  mb : mi (S_ "bodies") = some (.ref ab)
  order : SList g (.ref ao) [S_ "p", S_ "main"]
  vals : PD C SList g (.ref av) (fun i => (told i).map (keyOf nds)) pkgOf
  inits : PD C SList g (.ref ai) inits pkgOf
  ment : g.get? am = some om
  mentD : SD C om mk
  lom : Lo am
  mentK : MentK C g nds es nds.length mk
  bod : g.get? ab = some ob
  bodD : SD C ob bk
  lob : Lo ab
  bodK : BodK g nds nds.length bk

theorem key_ne {nds : List Nd} (hk : (nds.map Nd.key).Nodup) {i j : Nat} {a b : Nd} (ha : nds[i]? = some a) (hb : nds[j]? = some b) (h : i ≠ j) : a.key ≠ b.key := by
  intro e
  have h1 : (nds.map Nd.key)[i]? = some a.key := by rw [List.getElem?_map, ha]; rfl
  have h2 : (nds.map Nd.key)[j]? = some a.key := by rw [List.getElem?_map, hb, e]; rfl
  have l1 := (List.getElem?_eq_some_iff.mp h1)
  have l2 := (List.getElem?_eq_some_iff.mp h2)
  obtain ⟨l1, e1⟩ := l1
  obtain ⟨l2, e2⟩ := l2
  exact h ((List.getElem_inj hk).mp (e1.trans e2.symm))

theorem lawworld_ok {C : Cx} {A : Around} {E : Value → Heap → Prop} {g h : Heap} {r : Addr} {o : Obj} {nv ev tv iv : Value} {nds : List Nd} {es : List (List Nat)} {told : Nat → List Nat} {inits : Nat → List Str} {Q : Value → Heap → Prop}
    (hA : Lv 6 A) (hG : Glob C g) (hk : Sub g h) (hr : h.get? r = some o) (hg : g.get? r = none) (hR : Reel o) (hN : Lst NdAt g nv nds) (hE : Lst NList g ev es) (hT : PD C NList g tv told pkgOf) (hI : PD C SList g iv inits pkgOf)
    (hz : nds.length ≤ 14) (hzn : es.length = nds.length) (hnd : ∀ nd ∈ nds, NdOk nd) (hes : EdgesOk nds nds.length es) (htl : ∀ i, i < 2 → (told i).length ≤ 14 ∧ ∀ j ∈ told i, j < nds.length) (hnk : (nds.map Nd.key).Nodup)
    (hq : ∀ v o' h' x dx od mi ao av ai am ab om ob mk bk, WR C (Fresh g h h') v nds es told inits x dx od mi ao av ai am ab om ob mk bk → Keep [r] h h' → h'.get? r = some o' → Reel o' → Q v h') : T C A (call (.ref 204) [.ref r, nv, ev, tv, iv] []) Q E h := by
  obtain ⟨na, nvs, nk, rfl, hna, hnv⟩ := hN
  obtain ⟨ta, to, tkvs, rfl, hta, htd, tlo, htp⟩ := hT
  obtain ⟨ia, io, ikvs, rfl, hia, hid, ilo, hip⟩ := hI
  obtain ⟨ea, evs, ek, rfl, hea, hev⟩ := hE
  refine T_callC (T_call1 204 [(S_ "reel", .ref r), (S_ "nodes", .ref na), (S_ "edges", .ref ea), (S_ "told", .ref ta), (S_ "inits", .ref ia)] [(S_ "reel", .ref r), (S_ "edges", .ref ea), (S_ "told", .ref ta), (S_ "inits", .ref ia)] (S_ "nodes") (some (.ref na)) [(r, o)] hG hk hA.room (by simpa using hr) (by simpa using hg) (by simp) ⟨_, _, _, rfl⟩ (by kernel_rfl) (by kernel_rfl) (by kernel_rfl) (fun _ => by kernel_rfl) (fun _ => by kernel_rfl) (fun _ => by kernel_rfl) (fun _ => by kernel_rfl) (by kernel_rfl) (by kernel_rfl) (by kernel_rfl) (by kernel_rfl) ?_)
  intro gc h1 L cn on hgc hgS hKeep ec hon X
  have hA1 : Lv 5 (A.deeper (envF C 204 L)) := hA.deeper _
  generalize A.deeper (envF C 204 L) = A1 at hA1 ⊢
  have hAw : Lv 1 A1 := hA1.mono (by decide)
  have e1 : nm [(S_ "reel", .ref r), (S_ "edges", .ref ea), (S_ "told", .ref ta), (S_ "inits", .ref ia)] (S_ "reel") = some (.ref r) := by kernel_rfl
  have e2 : nm [(S_ "reel", .ref r), (S_ "edges", .ref ea), (S_ "told", .ref ta), (S_ "inits", .ref ia)] (S_ "edges") = some (.ref ea) := by kernel_rfl
  have e3 : nm [(S_ "reel", .ref r), (S_ "edges", .ref ea), (S_ "told", .ref ta), (S_ "inits", .ref ia)] (S_ "told") = some (.ref ta) := by kernel_rfl
  have e4 : nm [(S_ "reel", .ref r), (S_ "edges", .ref ea), (S_ "told", .ref ta), (S_ "inits", .ref ia)] (S_ "inits") = some (.ref ia) := by kernel_rfl
  generalize nm [(S_ "reel", .ref r), (S_ "edges", .ref ea), (S_ "told", .ref ta), (S_ "inits", .ref ia)] = m0 at X e1 e2 e3 e4
  have yg : ∀ {g1 m1 led1 h2} (X1 : W C g1 L m1 led1 h2) (s : Sub gc g1) {p : Addr × Obj}, p ∈ led1 → p.1 ≠ r → h.get? p.1 = none := fun X1 s p hp hn => X1.young hp s hgS (by simpa using hn)
  obtain ⟨g0, s0, X0, hcn⟩ := X.absorb1
  refine T_execs_cons ?_
  with_reducible refine T_Assign_Name ?_
  refine T_C0 (f := 169) X0 (by kernel_rfl) (by kernel_rfl) (world_new hA1 X0 fun x dx od mi ao av ai am ab h2 hmi mo mv mi' mm mb lov loi lom lob X2 _ => ?_)
  have hxr : x ≠ r := X2.headNe (q := (r, o)) (by walk_at "mm")
  obtain ⟨g3, s3, X3, hx3⟩ := X2.take (g0 := g) (h0 := h) (yg X2 s0 (.head _) hxr)
  have hdr : dx ≠ r := X3.headNe (q := (r, o)) (by walk_at "mm")
  obtain ⟨g4, s4, X4, hdx4⟩ := X3.take (g0 := g) (h0 := h) (yg X3 (s0.trans s3) (.head _) hdr)
  have hx4 := Fresh.mono (g := g) (h := h) s4 _ _ hx3
  clear X2 X3 X
  have s04 : Sub gc g4 := s0.trans (s3.trans s4)
  walk_at "st"
  intro h5 X5
  -- what the world's attributes are
  have at_ : ∀ {g6 m6 led6 h6 pos apos} {nmA : Str} {v : Value} {Q : Value → Heap → Prop}, W C g6 L m6 led6 h6 → Sub g4 g6 → m6 (S_ "world") = some (.ref x) → mi nmA = some v → Q v h6 → plainGet (KF C) 169 nmA = true → findIn (KF C) (.ref 169) nmA = some none → handedIn v = true → T C A1 (eval (.Attribute (.Name (Str.ofString "world") pos) nmA apos) (envF C 204 L)) Q noE h6 := by
    intro g6 m6 led6 h6 pos apos nmA v Q X6 s6 hw hm hq p1 p2 p3
    refine T_Attr ?_
    refine T_ld X6 hw ?_
    exact T_getattr (X6.glob.K.keeps X6.keep) (X6.keep _ _ (s6 _ _ (Fresh.sub _ _ _ _ _ hx4))) (X6.keep _ _ (s6 _ _ (Fresh.sub _ _ _ _ _ hdx4))) hmi hm hq p1 (by kernel_rfl) p2 p3
  refine T_execs_cons (T_Expr (T_L1 F.slot_list_extend F.type_list_extend ?_))
  refine at_ X5 (Sub.refl _) upd_same mo ?_ (by kernel_rfl) (by kernel_rfl) rfl
  refine ⟨ao, [], 0, rfl, X5.at_ (ao, listO [] 0) (by walk_at "mm"), ?_⟩
  walk_at "lst"
  walk_at "spl"
  walk_at "n"
  walk_at "spl"
  walk_at "n"
  walk_at "end"
  intro h6 pa X6 _
  refine M_extend X6 (X6.at_ _ (.head _)) (fun k' => .there .here) (by simp) fun h7 k7 X7 => ?_
  refine ⟨.inl rfl, ?_⟩
  have X7' := X7.drop1
  have har : ao ≠ r := X7'.headNe (q := (r, o)) (by walk_at "mm")
  obtain ⟨g8, s8, X8, hao8⟩ := X7'.take (g0 := g) (h0 := h) (yg X7' s04 (.head _) har)
  have s48 : Sub gc g8 := s04.trans s8
  clear X7 X7' X6 X5 X4
  have hnl : nvs.length = nds.length := hnv.1
  have ndl : ∀ {g6 m6 led6 h6 pos} {env : Env} {Q : Value → Heap → Prop}, W C g6 L m6 led6 h6 → Sub g0 g6 → Q (.ref na) h6 → T C A1 (eval (.Name (Str.ofString "nodes") pos) (envF C 204 L)) Q noE h6 := fun X6 s6 hq =>
    T_ldc (c := cn) (by rw [ec]; rfl) ⟨on, X6.keep _ _ (s6 _ _ hcn), hon⟩ hq
  have s08 : Sub g0 g8 := s3.trans (s4.trans s8)
  walk_at "n"
  refine T_For ?_
  walk_at "lst"
  walk_at "spl"
  walk_at "n"
  walk_at "spl"
  walk_at "n"
  walk_at "end"
  intro h9 pb X9 _
  obtain ⟨g9, s9, X9, hpb⟩ := X9.absorb1
  refine TL_src (src_list hA1.hd X9 hpb (LX.mk (k := 0)).lw) (fun i g' m led => E4 fun ov vk oi ik => A12 (led = [(av, ov), (ai, oi), (am, dictO), (ab, dictO), (r, o)]) (SD C ov vk) (SD C oi ik) (vk.length ≤ i) (ik.length ≤ i) (m (S_ "world") = some (.ref x)) (m (S_ "reel") = some (.ref r)) (m (S_ "edges") = some (.ref ea)) (m (S_ "told") = some (.ref ta)) (m (S_ "inits") = some (.ref ia)) (Sub g8 g') (∀ i', i' < i → ∃ w w', valueAt vk (pkgOf i') = some w ∧ SList (Fresh g h g') w ((told i').map (keyOf nds)) ∧ valueAt ik (pkgOf i') = some w' ∧ SList (Fresh g h g') w' (inits i'))) ?_ ?_ ?_
  · exact ⟨dictO, [], dictO, [], rfl, SD.empty, SD.empty, Nat.le_refl _, Nat.le_refl _, by walk_at "lk", by walk_at "lk", by walk_at "lk", by walk_at "lk", by walk_at "lk", s9, fun i' hi' => absurd hi' (Nat.not_lt_zero _)⟩
  · rintro i v ga ma leda own ha Kq hKq hi sa ⟨ov, vk, oi, ik, rfl, hov, hoi, hvk, hik, mw, mr, me, mt, mi2, sga, hval⟩ hP Xa
    have hi2 : i < 2 := hi
    obtain ⟨tp, rfl⟩ := pk_at hP
    refine assign_Name ?_
    walk_at "st"
    intro hb Xb
    obtain ⟨wv, hwv, wa, wvs, wk, rfl, hwa, hwvs⟩ := htp i hi2
    obtain ⟨yv, hyv, ya, yvs, yk, rfl, hya, hyvs⟩ := hip i hi2
    obtain ⟨ht14, htlt⟩ := htl i hi2
    have sgga : Sub g ga := hgc.trans (s48.trans sga)
    have s0a : Sub g0 ga := s08.trans sga
    have hta' := sgga _ _ hta
    have hia' := sgga _ _ hia
    have hna' := sgga _ _ hna
    have hnw : LW (listO nvs nk) nvs := (LX.mk (k := nk)).lw
    refine T_execs_cons ?_
    with_reducible refine T_Assign_Sub ?_
    refine T_LComp ?_ (by rw [ec]; kernel_rfl) (by kernel_rfl) (by kernel_rfl) (by intro _; kernel_rfl)
    walk_at "n"
    ((refine S_dict (by walk_at "at") (by assumption) (by assumption) ?_ (by kernel_rfl)))
    refine LC_src (src_list hA1.hd Xb (sgga _ _ hwa) (LX.mk (k := wk)).lw) (by rw [hwvs.1]; omega) (fun _ _ => ⟨by kernel_rfl, by rw [ec]; kernel_rfl⟩)
      (fun t ys g' m led => A3 (led = own ++ [(av, ov), (ai, oi), (am, dictO), (ab, dictO), (r, o)]) (Sub ga g') (All2 IsS ys (((told i).take t).map (keyOf nds)))) ?_ ?_ ?_
    · exact ⟨rfl, Sub.refl _, by simpa using All2.nil⟩
    · rintro t v ys k gu mu ledu ownu hu Lc acu Kq Kr hKq hKr ht su ⟨rfl, sgu, hys⟩ hPu Xu
      obtain ⟨j, hj, tj, rfl⟩ := hwvs.getV hPu
      have hjl : j < nds.length := htlt j (List.mem_of_getElem? hj)
      obtain ⟨nd, hndj⟩ : ∃ nd, nds[j]? = some nd := ⟨nds[j], by simp⟩
      obtain ⟨y, hy, n1, n2, t0, t1, t2, nns, rfl, hn1, _, _⟩ := hnv.get hndj
      refine assign_Name ?_
      walk_at "st"
      intro hw Xw
      refine tests_nil ⟨fun _ => ?_, fun e => by cases e⟩
      have hnu := sgu _ _ hna'
      have hn1u := sgu _ _ (sgga _ _ hn1)
      walk_at "n"
      refine T_ldc (c := cn) (by rw [ec]; kernel_rfl) ⟨on, Xw.keep _ _ (sgu _ _ (s0a _ _ hcn)), hon⟩ ?_
      walk_at "n"
      walk_at "Sl"
      walk_at "n"
      ((refine S_tup (by walk_at "at") (by first | decide | omega) (by first | decide | omega) (by first | rfl | assumption) ?_ (by kernel_rfl)))
      refine hKq _ _ ⟨gu, _, _, Sub.refl _, Xw, rfl, sgu, ?_⟩
      rw [List.take_add_one, hj]
      rw [List.map_append]
      refine hys.snoc ⟨t2, ?_⟩
      unfold keyOf
      rw [hndj]; rfl
    · rintro ys k gu mu ledu hu acu su ⟨rfl, sgu, hys⟩ Xu
      rw [hwvs.1, List.take_length] at hys
      refine at_ Xu ((s8.trans sga).trans sgu) (by walk_at "lk") mv ?_ (by kernel_rfl) (by kernel_rfl) rfl
      walk_at "n"
      refine S_setDict Xu (fun _ => .there (.app own .here)) hov (by omega) fun hc ov' hov' _ Xc => ?_
      refine T_execs_cons ?_
      with_reducible refine T_Assign_Sub ?_
      have hia'' := sgu _ _ hia'
      walk_at "n"
      ((refine S_dict (by walk_at "at") (by assumption) (by assumption) ?_ (by kernel_rfl)))
      refine at_ Xc ((s8.trans sga).trans sgu) (by walk_at "lk") mi' ?_ (by kernel_rfl) (by kernel_rfl) rfl
      walk_at "n"
      refine S_setDict Xc (fun _ => .there (.app own (.there .here))) hoi (by omega) fun hd oi' hoi' _ Xd => ?_
      walk_at "n"
      have sgu0 : Sub gc gu := s48.trans (sga.trans sgu)
      obtain ⟨ge, se, Xe, fe⟩ := Xd.take (g0 := g) (h0 := h) (yg Xd sgu0 (.head _) (Xd.headNe (q := (r, o)) (by walk_at "mm")))
      refine ⟨ge, _, _, sgu.trans se, Xe, ov', _, oi', _, rfl, hov', hoi', ?_, ?_, by walk_at "lk", by walk_at "lk", by walk_at "lk", by walk_at "lk", by walk_at "lk", sga.trans (sgu.trans se), ?_⟩
      · have := stored_length_le vk (pkgOf i) (.ref acu); omega
      · have := stored_length_le ik (pkgOf i) (.ref ya); omega
      · intro i' hi'
        have fy : (Fresh g h ge).get? ya = some (listO yvs yk) := Fresh.base (sgga.trans (sgu.trans se)) _ _ hya
        by_cases hii : i' = i
        · subst hii
          refine ⟨.ref acu, .ref ya, by rw [valueAt_stored, if_pos rfl], ⟨acu, ys, k, rfl, fe, hys⟩, by rw [valueAt_stored, if_pos rfl], ⟨ya, yvs, yk, rfl, fy, hyvs⟩⟩
        · obtain ⟨w, w', p1, p2, p3, p4⟩ := hval i' (by omega)
          have hne : pkgOf i' ≠ pkgOf i := by
            have h1 : i' = 0 := by omega
            have h2 : i = 1 := by omega
            subst h1 h2
            decide
          refine ⟨w, w', by rw [valueAt_stored, if_neg hne]; exact p1, p2.mono (Fresh.mono (sgu.trans se)), by rw [valueAt_stored, if_neg hne]; exact p3, p4.mono (Fresh.mono (sgu.trans se))⟩
  · rintro ga ma leda ha sa ⟨ov, vk, oi, ik, rfl, hov, hoi, hvk, hik, mw, mr, me, mt, mi2, sga, hval⟩ Xa
    have s8a : Sub gc ga := s48.trans sga
    obtain ⟨gb, sb, Xb, fav⟩ := Xa.take (g0 := g) (h0 := h) (yg Xa s8a (.head _) (Xa.headNe (q := (r, o)) (by walk_at "mm")))
    obtain ⟨gd, sd, Xd, fai⟩ := Xb.take (g0 := g) (h0 := h) (yg Xb (s8a.trans sb) (.head _) (Xb.headNe (q := (r, o)) (by walk_at "mm")))
    have sgd : Sub g8 gd := sga.trans (sb.trans sd)
    have hvals : PD C SList (Fresh g h gd) (.ref av) (fun i => (told i).map (keyOf nds)) pkgOf := ⟨av, ov, vk, rfl, Fresh.mono sd _ _ fav, hov, lov, fun i hi => let ⟨w, _, a, b, _, _⟩ := hval i hi; ⟨w, a, b.mono (Fresh.mono (sb.trans sd))⟩⟩
    have hinits : PD C SList (Fresh g h gd) (.ref ai) inits pkgOf := ⟨ai, oi, ik, rfl, fai, hoi, loi, fun i hi => let ⟨_, w, _, _, a, b⟩ := hval i hi; ⟨w, a, b.mono (Fresh.mono (sb.trans sd))⟩⟩
    clear hval Xa Xb fav fai hvk hik
    walk_at "n"
    refine T_For ?_
    ((with_reducible refine T_B1 (x := Str.ofString "enumerate") (f := .type "enumerate") (by assumption) (by kernel_rfl) (by kernel_rfl) Kp.type ?_))
    have s0d : Sub g0 gd := s08.trans sgd
    refine ndl (env := envF C 204 L) Xd s0d ?_
    have sgc : Sub gc gd := s48.trans sgd
    refine C_enum hA1.hd Xd (sgc _ _ (hgc _ _ hna)) (LX.mk (k := nk)).lw fun he ee Xe _ Se => ?_
    refine TL_src (Se _ _ _ _) (fun i g' m led => E5 fun om mk ob bk o => A12 (led = [(am, om), (ab, ob), (r, o)]) (SD C om mk) (SD C ob bk) (Reel o) (mk.length ≤ i) (bk.length ≤ i) (m (S_ "world") = some (.ref x)) (m (S_ "reel") = some (.ref r)) (m (S_ "edges") = some (.ref ea)) (Sub gd g') (MentK C (Fresh g h g') nds es i mk) (BodK (Fresh g h g') nds i bk)) ?_ ?_ ?_
    · exact ⟨dictO, [], dictO, [], o, rfl, SD.empty, SD.empty, hR, Nat.le_refl _, Nat.le_refl _, mw, mr, me, Sub.refl _, ⟨fun i nd gs hi => absurd hi (Nat.not_lt_zero _), fun k hk => absurd rfl hk⟩, fun i nd hi => absurd hi (Nat.not_lt_zero _)⟩
    · rintro i v gf mf ledf own hf Kq hKq hi sf ⟨om, mk, ob, bk, of, rfl, hom, hob, hRf, hmk, hbk, mwf, mrf, mef, sgf, hMK, hBK⟩ ⟨T, t, xv, rfl, hxv, hTt⟩ Xf
      have hil : i < nds.length := by rw [← hnl]; exact hi
      have s0f : Sub g0 gf := s0d.trans sgf
      have sggf : Sub g gf := hgc.trans (sgc.trans sgf)
      obtain ⟨nd, hndi, hndv⟩ := hnv.getV hxv
      obtain ⟨xa, xb, x0, x1, x2, xns, rfl, hxa', hxb', hxns⟩ := hndv
      have hxa := sggf _ _ hxa'
      obtain ⟨gs, hgs⟩ : ∃ gs, es[i]? = some gs := ⟨es[i]'(by omega), by simp⟩
      obtain ⟨gv, hgv, gla, gvs, gk, rfl, hgla, hgvs⟩ := hev.get hgs
      have hgok := hes.2 i gs hgs
      have hnko := hnd nd (List.mem_of_getElem? hndi)
      refine T_assignTuple (vs := [.int i t, .ref xa]) hA1.hd Xf hTt (by kernel_rfl) (by kernel_rfl) fun h10 X10 _ => ?_
      refine T_order_cons (assign_Name ?_)
      walk_at "st"
      intro h11 X11
      refine T_order_cons (assign_Name ?_)
      walk_at "st"
      intro h12 X12
      refine T_order_nil ?_
      walk_at "as"
      ((with_reducible refine T_DctX (by assumption) ?_))
      intro h13 sp X13 losp _
      walk_at "st"
      intro h14 X14
      have heaf := sggf _ _ hea
      have hevw : LW (listO evs ek) evs := (LX.mk (k := ek)).lw
      have hevl : evs.length = es.length := hev.1
      walk_at "n"
      refine T_For ?_
      walk_at "n"
      walk_at "Sl"
      refine TL_src (src_list hA1.hd X14 (sggf _ _ hgla) (LX.mk (k := gk)).lw) (fun t' g' m led => E3 fun os xs o => A13 (led = (sp, os) :: (own ++ [(am, om), (ab, ob), (r, o)])) (TDO C (Fresh g h g') os xs) (Reel o) (m (S_ "world") = some (.ref x)) (m (S_ "reel") = some (.ref r)) (m (S_ "edges") = some (.ref ea)) (m (S_ "spoken") = some (.ref sp)) (m (S_ "node") = some (.ref xa)) (m (S_ "i") = some (.int i t)) (Sub gf g') ((∀ y ∈ xs.map (·.1), ∃ j ∈ gs, Says nds j y)) ((∀ j ∈ gs.take t', ∃ y ∈ xs.map (·.1), Says nds j y)) (xs.length ≤ t')) ?_ ?_ ?_
      · exact ⟨dictO, [], of, rfl, TDO.empty, hRf, by walk_at "lk", by walk_at "lk", by walk_at "lk", by walk_at "lk", by walk_at "lk", by walk_at "lk", Sub.refl _, by simp, by simp, Nat.le_refl _⟩
      · rintro t' v gl ml ledl ownl hl Kq hKq ht' sl ⟨os, xs, ol, rfl, hos, hRl, mwl, mrl, mel, msl, mnl, mil, sgl, hall, hcov, hxl⟩ hPl Xl
        obtain ⟨j, hj, tj, rfl⟩ := hgvs.getV hPl
        have hjm : j ∈ gs := List.mem_of_getElem? hj
        have hgl2 : gs.length ≤ 2 := hgok.1
        have ht2 : t' < gs.length := (List.getElem?_eq_some_iff.mp hj).1
        obtain ⟨_, nb, _, hnb, hgo⟩ := hgok.2 j hjm
        have hnbo := hnd nb (List.mem_of_getElem? hnb)
        obtain ⟨y, hy, ya, yb, y0, y1, y2, yns, rfl, hya, hyb, hyns⟩ := hnv.get hnb
        have s0l : Sub g0 gl := s0f.trans sgl
        have scl : Sub gc gl := sgc.trans (sgf.trans sgl)
        have sggl : Sub g gl := sggf.trans sgl
        have hjn : j < nds.length := (List.getElem?_eq_some_iff.mp hnb).1
        refine assign_Name ?_
        walk_at "st"
        intro h15 X15
        refine T_execs_cons (T_Assign_Tuple ?_ (by kernel_rfl) (by kernel_rfl))
        have hnal := sggl _ _ hna
        have hnw : LW (listO nvs nk) nvs := (LX.mk (k := nk)).lw
        walk_at "n"
        refine ndl (env := envF C 204 L) X15 s0l ?_
        walk_at "n"
        walk_at "Sl"
        refine T_assignTuple (vs := [.str (kindS nb.val) y0, .str nb.pkg y1, .str nb.key y2, .ref yb]) hA1.hd X15 (isTuple_of (X15.keep _ _ (sggl _ _ hya))) (by kernel_rfl) (by kernel_rfl) fun h16 X16 _ => ?_
        refine T_order_cons (assign_Name ?_)
        walk_at "st"
        intro h17 X17
        refine T_order_cons (assign_Name ?_)
        walk_at "st"
        intro h18 X18
        refine T_order_cons (assign_Name ?_)
        walk_at "st"
        intro h19 X19
        refine T_order_cons (assign_Name ?_)
        walk_at "st"
        intro h20 X20
        refine T_order_nil ?_
        generalize hm20 : upd (upd (upd (upd (upd ml (Str.ofString "j") (.int j tj)) (Str.ofString "word") (.str (kindS nb.val) y0)) (Str.ofString "package") (.str nb.pkg y1)) (Str.ofString "key") (.str nb.key y2)) (Str.ofString "names") (.ref yb) = m20 at X20
        have en : m20 (S_ "names") = some (.ref yb) := by rw [← hm20]; walk_at "lk"
        have ek : m20 (S_ "key") = some (.str nb.key y2) := by rw [← hm20]; walk_at "lk"
        have ep : m20 (S_ "package") = some (.str nb.pkg y1) := by rw [← hm20]; walk_at "lk"
        have ew : m20 (S_ "word") = some (.str (kindS nb.val) y0) := by rw [← hm20]; walk_at "lk"
        have ewl : m20 (S_ "world") = some (.ref x) := by rw [← hm20]; walk_at "lk"
        have erl : m20 (S_ "reel") = some (.ref r) := by rw [← hm20]; walk_at "lk"
        have eel : m20 (S_ "edges") = some (.ref ea) := by rw [← hm20]; walk_at "lk"
        have esl : m20 (S_ "spoken") = some (.ref sp) := by rw [← hm20]; walk_at "lk"
        have enl : m20 (S_ "node") = some (.ref xa) := by rw [← hm20]; walk_at "lk"
        have eil : m20 (S_ "i") = some (.int i t) := by rw [← hm20]; walk_at "lk"
        refine T_execs_cons ?_
        refine T_AssignLComp ?_ (by rw [ec]; kernel_rfl) (by kernel_rfl) (by kernel_rfl) (by kernel_rfl) (by intro _; kernel_rfl)
        walk_at "n"
        refine LU_src (src_tuple hA1.hd X20 (sggl _ _ hyb)) (by rw [hyns.1]; have := hnbo.2.1; omega) (fun _ _ => ⟨by kernel_rfl, by rw [ec]; kernel_rfl⟩)
          (fun q ys g' m led => A3 (led = ownl ++ ((sp, os) :: (own ++ [(am, om), (ab, ob), (r, ol)]))) (Sub gl g') (All2 IsS ys ((nb.names.take q).filter (· != S_ "_")))) ?_ ?_ ?_ (by kernel_rfl) (by kernel_rfl) (by kernel_rfl)
        · exact ⟨rfl, Sub.refl _, by simpa using All2.nil⟩
        · rintro q v ys k gu mu ledu ownu hu Lc acu Kq Kr hKq hKr hq2 su ⟨rfl, sgu, hys⟩ hPu Xu
          obtain ⟨nmv, hnm, tn, rfl⟩ := hyns.getV hPu
          refine assign_Name ?_
          walk_at "st"
          intro hw2 Xw
          refine tests_one ?_
          walk_at "n"
          refine O_neS ?_
          walk_at "n"
          have er : (nb.names.take (q + 1)).filter (· != S_ "_") = (nb.names.take q).filter (· != S_ "_") ++ (if (nmv != S_ "_") = true then [nmv] else []) := by
            rw [List.take_add_one, hnm, List.filter_append]
            show _ ++ List.filter _ [nmv] = _
            rw [filter_one]
          refine ⟨fun e => ?_, fun e => ?_⟩
          · walk_at "n"
            refine ⟨gu, _, _, Sub.refl _, Xw, rfl, sgu, ?_⟩
            rw [er, if_pos e]
            exact hys.snoc ⟨_, rfl⟩
          · refine hKr () _ ⟨gu, _, _, Sub.refl _, Xw, rfl, sgu, ?_⟩
            rw [er, if_neg (by rw [e]; decide), List.append_nil]
            exact hys
        · rintro ys kf gu mu ledu hu acu su ⟨rfl, sgu, hys⟩ Xu
          rw [hyns.1, List.take_length] at hys
          have scu : Sub gc gu := scl.trans sgu
          generalize hm21 : upd m20 (Str.ofString "names") (.ref acu) = m21 at Xu
          have e21 : ∀ {y : Str} {v : Value}, y ≠ S_ "names" → m20 y = some v → m21 y = some v := fun hn e => by rw [← hm21]; exact upd_ne hn e
          have fnm : m21 (S_ "names") = some (.ref acu) := by rw [← hm21]; exact upd_same
          have fk := e21 (by decide) ek
          have fp := e21 (by decide) ep
          have fw := e21 (by decide) ew
          have fwl := e21 (by decide) ewl
          have frl := e21 (by decide) erl
          have fel := e21 (by decide) eel
          have fsl := e21 (by decide) esl
          have fnl := e21 (by decide) enl
          have fil := e21 (by decide) eil
          have fin : ∀ {g5 h5 os' o5 ks a}, Sub gu g5 → Says nds j ks → TDO C (Fresh g h g5) os' (storedH xs ks a (.bool true)) → Reel o5 → W C g5 L m21 (ownl ++ ((sp, os') :: (own ++ [(am, om), (ab, ob), (r, o5)]))) h5 →
              E3 fun g2 m2 led2 => A3 (Sub gl g2) (W C g2 L m2 (ownl ++ led2) h5) (E3 fun os xs o => A13 (led2 = (sp, os) :: (own ++ [(am, om), (ab, ob), (r, o)])) (TDO C (Fresh g h g2) os xs) (Reel o) (m2 (S_ "world") = some (.ref x)) (m2 (S_ "reel") = some (.ref r)) (m2 (S_ "edges") = some (.ref ea)) (m2 (S_ "spoken") = some (.ref sp)) (m2 (S_ "node") = some (.ref xa)) (m2 (S_ "i") = some (.int i t)) (Sub gf g2) ((∀ y ∈ xs.map (·.1), ∃ j ∈ gs, Says nds j y)) ((∀ j ∈ gs.take (t' + 1), ∃ y ∈ xs.map (·.1), Says nds j y)) (xs.length ≤ t' + 1)) := by
            intro g5 h5 os' o5 ks a s5 hsay hos' hR5 X5
            refine ⟨g5, m21, _, sgu.trans s5, X5, os', _, o5, rfl, hos', hR5, fwl, frl, fel, fsl, fnl, fil, sgl.trans (sgu.trans s5), ?_, ?_, ?_⟩
            · intro y hy
              rw [storedH_keys] at hy
              unfold keysAdd at hy
              split at hy
              · exact hall y hy
              · rcases List.mem_append.mp hy with hy | hy
                · exact hall y hy
                · rw [List.mem_singleton.mp hy]; exact ⟨j, hjm, hsay⟩
            · intro j' hj'
              rw [List.take_add_one, hj] at hj'
              rw [storedH_keys]
              unfold keysAdd
              rcases List.mem_append.mp hj' with hj' | hj'
              · obtain ⟨y, hy, hs⟩ := hcov j' hj'
                refine ⟨y, ?_, hs⟩
                split
                · exact hy
                · exact List.mem_append.mpr (.inl hy)
              · have hjj : j' = j := by simpa using hj'
                subst hjj
                refine ⟨ks, ?_, hsay⟩
                split
                · assumption
                · exact List.mem_append.mpr (.inr (.head _))
            · have e : ∀ l : List (List Str × Addr × Value), l.length = (l.map (·.1)).length := fun l => by simp
              rw [e, storedH_keys]
              unfold keysAdd
              split <;> simp <;> omega
          refine T_execs_cons (T_If ?_)
          walk_at "n"
          refine O_eqS ?_
          walk_at "n"
          refine ⟨fun e => ?_, fun e => ?_⟩
          · have hval : nb.val = false := by
              cases hv : nb.val with
              | false => rfl
              | true => rw [hv] at e; exact absurd e (by decide)
            walk_at "n"
            walk_at "tup"
            walk_at "spl"
            walk_at "n"
            walk_at "spl"
            walk_at "n"
            walk_at "end"
            intro h22 ta2 X22 _
            obtain ⟨g2, s2, X23, f2⟩ := X22.take (g0 := g) (h0 := h) (yg X22 scu (.head _) (X22.headNe (q := (r, ol)) (by walk_at "mm")))
            refine S_setTD hA1 X23 (Fresh.sub g h g2) (fun _ => .there (.app ownl .here)) (hos.mono (Fresh.mono (sgu.trans s2))) (tupKey2 f2) (by omega) fun h24 os2 hos2 X24 => ?_
            walk_at "n"
            exact fin s2 ⟨nb, hnb, .inl ⟨hval, rfl⟩⟩ hos2 hRl X24.drop1
          · have hval : nb.val = true := by
              cases hv : nb.val with
              | true => rfl
              | false => rw [hv] at e; exact absurd e (by decide)
            have hex : ∃ n ∈ nb.names, n ≠ S_ "_" := (hnbo.2.2.2 hval).resolve_left hgo.2
            have hpos : 0 < (nb.names.filter (· != S_ "_")).length := by
              obtain ⟨n, hn, hne⟩ := hex
              exact List.length_pos_of_mem (List.mem_filter.mpr ⟨hn, by simpa using hne⟩)
            have hyl : ys.length = (nb.names.filter (· != S_ "_")).length := hys.1
            have hyl2 : (nb.names.filter (· != S_ "_")).length ≤ 2 := Nat.le_trans (List.length_filter_le _ _) hnbo.2.1
            walk_at "n"
            walk_at "tup"
            walk_at "spl"
            walk_at "n"
            walk_at "spl"
            walk_at "n"
            refine O_addS (slen (.any (by have := hnbo.1; omega)) (.lit (by decide))) fun tv2 => ?_
            walk_at "n"
            ((with_reducible refine T_wound (by assumption) (by assumption) ?_))
            walk_at "n"
            ((with_reducible refine T_B1 (x := Str.ofString "len") (f := .builtin "len") (by assumption) (by kernel_rfl) (by kernel_rfl) Kp.builtin ?_))
            walk_at "n"
            refine C_lenL (Xu.at_ _ (.head _)) (LX.mk (k := kf)).lw (by omega) fun tl => ?_
            refine ⟨_, _, _, _, r, ol, _, _, fun o' => (acu, listO ys kf) :: (ownl ++ ((sp, os) :: (own ++ [(am, om), (ab, ob), (r, o')]))), rfl, rfl, Xu, fun o' => .there (.app ownl (.there (.app own (.there (.there .here))))), hRl, by omega, by omega, ?_⟩
            intro w tw h22 o22 hw0 hw1 hR22 X22 _
            obtain ⟨wn, rfl⟩ : ∃ wn : Nat, w = (wn : Int) := ⟨w.toNat, by omega⟩
            obtain ⟨nmv, hnmv⟩ : ∃ nmv, (nb.names.filter (· != S_ "_"))[wn]? = some nmv := ⟨(nb.names.filter (· != S_ "_"))[wn]'(by omega), by simp⟩
            obtain ⟨vn, hvn, tn, rfl⟩ := hys.get hnmv
            have hnmm := List.mem_filter.mp (List.mem_of_getElem? hnmv)
            refine S_list (X22.at_ _ (.head _)) (LX.mk (k := kf)).lw (by omega) (by omega) hvn ?_
            refine O_addS (slen3 (.any (by have := hnbo.1; omega)) (.lit (by decide)) (.any (by have := hnbo.2.2.1 nmv hnmm.1; omega))) fun tv3 => ?_
            walk_at "end"
            intro h23 ta2 X23 _
            obtain ⟨g2, s2, X24, f2⟩ := X23.take (g0 := g) (h0 := h) (yg X23 scu (.head _) (X23.headNe (q := (r, o22)) (by walk_at "mm")))
            refine S_setTD hA1 X24 (Fresh.sub g h g2) (fun _ => .there (.app ownl .here)) (hos.mono (Fresh.mono (sgu.trans s2))) (tupKey2 f2) (by omega) fun h24 os2 hos2 X25 => ?_
            walk_at "n"
            refine fin s2 ⟨nb, hnb, .inr ⟨hval, nmv, hnmm.1, by simpa using hnmm.2, rfl⟩⟩ hos2 hR22 X25.drop1
      · rintro gl ml ledl hl sl ⟨os, xs, ol, rfl, hos, hRl, mwl, mrl, mel, msl, mnl, mil, sgl, hall, hcov, hxl⟩ Xl
        have hgl2 : gs.length ≤ 2 := hgok.1
        have hgvl : gvs.length = gs.length := hgvs.1
        rw [hgvl, List.take_length] at hcov
        have s0l : Sub g0 gl := s0f.trans sgl
        have scl : Sub gc gl := sgc.trans (sgf.trans sgl)
        have hxal := sgl _ _ hxa
        walk_at "as"
        ((with_reducible refine T_wound (by assumption) (by assumption) ?_))
        walk_at "n"
        refine ⟨_, _, _, _, r, ol, _, _, fun o' => (sp, os) :: (own ++ [(am, om), (ab, ob), (r, o')]), rfl, rfl, Xl, fun o' => .there (.app own (.there (.there .here))), hRl, by decide, by decide, ?_⟩
        intro w tw h20 o20 hw0 hw1 hR20 X20 _
        walk_at "st"
        intro h21 X21
        generalize hm21 : upd ml (Str.ofString "more") (.int w tw) = m21 at X21
        have e21 : ∀ {y : Str} {v : Value}, y ≠ S_ "more" → ml y = some v → m21 y = some v := fun hn e => by rw [← hm21]; exact upd_ne hn e
        have emore : m21 (S_ "more") = some (.int w tw) := by rw [← hm21]; exact upd_same
        have ewl := e21 (by decide) mwl
        have erl := e21 (by decide) mrl
        have eel := e21 (by decide) mel
        have esl := e21 (by decide) msl
        have enl := e21 (by decide) mnl
        have eil := e21 (by decide) mil
        -- the two mentions that may come on top
        refine T_execs_cons (T_post (Q := fun fl h' => fl = .next ∧ ∃ g2 os2 xs2, Sub gl g2 ∧ W C g2 L m21 ((sp, os2) :: (own ++ [(am, om), (ab, ob), (r, o20)])) h' ∧ TDO C (Fresh g h g2) os2 xs2 ∧ (∀ y ∈ xs2.map (·.1), (∃ j ∈ gs, Says nds j y) ∨ y = lockKey) ∧ (∀ y ∈ xs.map (·.1), y ∈ xs2.map (·.1)) ∧ xs2.length ≤ 4) ?_ ?_)
        · refine T_If ?_
          walk_at "n"
          refine ⟨fun e => ?_, fun e => ?_⟩
          · walk_at "n"
            walk_at "tup"
            walk_at "spl"
            walk_at "n"
            walk_at "spl"
            walk_at "n"
            walk_at "end"
            intro h22 ta2 X22 _
            obtain ⟨g2, s2, X23, f2⟩ := X22.take (g0 := g) (h0 := h) (yg X22 scl (.head _) (X22.headNe (q := (r, o20)) (by walk_at "mm")))
            refine S_setTD hA1 X23 (Fresh.sub g h g2) (fun _ => .here) (hos.mono (Fresh.mono s2)) (tupKey2 f2) (by omega) fun h24 os2 hos2 X24 => ?_
            walk_at "n"
            refine ⟨rfl, g2, os2, _, s2, X24, hos2, ?_, ?_, ?_⟩
            · intro y hy
              rw [storedH_keys] at hy
              unfold keysAdd at hy
              split at hy
              · exact .inl (hall y hy)
              · rcases List.mem_append.mp hy with hy | hy
                · exact .inl (hall y hy)
                · right; rw [List.mem_singleton.mp hy]; rfl
            · intro y hy
              rw [storedH_keys]
              unfold keysAdd
              split
              · exact hy
              · exact List.mem_append.mpr (.inl hy)
            · have e : ∀ l : List (List Str × Addr × Value), l.length = (l.map (·.1)).length := fun l => by simp
              rw [e, storedH_keys]
              unfold keysAdd
              split <;> simp <;> omega
          · walk_at "n"
            exact ⟨rfl, gl, os, xs, Sub.refl _, X21, hos, fun y hy => .inl (hall y hy), fun _ hy => hy, by omega⟩
        · rintro fl h22 ⟨rfl, g2, os2, xs2, s2, X22, hos2, hall2, hsub2, hxl2⟩
          have sc2 : Sub gc g2 := scl.trans s2
          have hxa2 := s2 _ _ hxal
          refine T_execs_cons (T_post (Q := fun fl h' => fl = .next ∧ ∃ g3 os3 xs3, Sub g2 g3 ∧ W C g3 L m21 ((sp, os3) :: (own ++ [(am, om), (ab, ob), (r, o20)])) h' ∧ TDO C (Fresh g h g3) os3 xs3 ∧ MentOk nds gs nd (xs3.map (·.1)) ∧ xs3.length ≤ 20) ?_ ?_)
          · refine T_If ?_
            walk_at "n"
            refine ⟨fun e => ?_, fun e => ?_⟩
            · walk_at "n"
              walk_at "tup"
              walk_at "spl"
              walk_at "n"
              walk_at "spl"
              walk_at "n"
              ((refine S_tup (by walk_at "at") (by first | decide | omega) (by first | decide | omega) (by first | rfl | assumption) ?_ (by kernel_rfl)))
              walk_at "n"
              refine O_addS (slen (.any (by have := hnko.1; omega)) (.lit (by decide))) fun tv2 => ?_
              walk_at "end"
              intro h23 ta2 X23 _
              obtain ⟨g3, s3', X24, f3⟩ := X23.take (g0 := g) (h0 := h) (yg X23 sc2 (.head _) (X23.headNe (q := (r, o20)) (by walk_at "mm")))
              refine S_setTD hA1 X24 (Fresh.sub g h g3) (fun _ => .here) (hos2.mono (Fresh.mono s3')) (tupKey2 f3) (by omega) fun h24 os3 hos3 X25 => ?_
              walk_at "n"
              refine ⟨rfl, g3, os3, _, s3', X25, hos3, ⟨?_, ?_⟩, ?_⟩
              · intro y hy
                rw [storedH_keys] at hy
                unfold keysAdd at hy
                have old : ∀ y ∈ xs2.map (·.1), (∃ j ∈ gs, Says nds j y) ∨ y = lockKey ∨ y = [S_ "global", nd.pkg ++ S_ ".late"] := fun y hy => (hall2 y hy).imp id .inl
                split at hy
                · exact old y hy
                · rcases List.mem_append.mp hy with hy | hy
                  · exact old y hy
                  · right; right; rw [List.mem_singleton.mp hy]
              · intro j hj
                obtain ⟨y, hy, hs⟩ := hcov j hj
                refine ⟨y, ?_, hs⟩
                rw [storedH_keys]
                unfold keysAdd
                split
                · exact hsub2 y hy
                · exact List.mem_append.mpr (.inl (hsub2 y hy))
              · have e : ∀ l : List (List Str × Addr × Value), l.length = (l.map (·.1)).length := fun l => by simp
                rw [e, storedH_keys]
                unfold keysAdd
                split <;> simp <;> omega
            · walk_at "n"
              refine ⟨rfl, g2, os2, xs2, Sub.refl _, X22, hos2, ⟨fun y hy => (hall2 y hy).imp id .inl, fun j hj => let ⟨y, hy, hs⟩ := hcov j hj; ⟨y, hsub2 y hy, hs⟩⟩, by omega⟩
          · rintro fl h23 ⟨rfl, g3, os3, xs3, s3', X23, hos3, hMO, hxl3⟩
            have sc3 : Sub gc g3 := sc2.trans s3'
            have hxa3 := s3' _ _ hxa2
            have s43 : Sub g4 g3 := s8.trans (sgd.trans (sgf.trans (sgl.trans (s2.trans s3'))))
            refine T_execs_cons ?_
            with_reducible refine T_Assign_Sub ?_
            walk_at "n"
            refine at_ X23 s43 ewl mm ?_ (by kernel_rfl) (by kernel_rfl) rfl
            walk_at "n"
            ((refine S_tup (by walk_at "at") (by first | decide | omega) (by first | decide | omega) (by first | rfl | assumption) ?_ (by kernel_rfl)))
            refine S_setDict X23 (fun _ => .there (.app own .here)) hom (by omega) fun h24 om' hom' _ X24 => ?_
            have hmk' : (stored mk nd.key (.ref sp)).length ≤ i + 1 := by have := stored_length_le mk nd.key (.ref sp); omega
            -- the end of the turn
            have fin : ∀ {g5 h5 ob' bk'}, Sub g3 g5 → W C g5 L m21 ((sp, os3) :: (own ++ [(am, om'), (ab, ob'), (r, o20)])) h5 → SD C ob' bk' → bk'.length ≤ i + 1 → BodK (Fresh g h g5) nds (i + 1) bk' →
                E3 fun g2 m2 led2 => A3 (Sub gf g2) (W C g2 L m2 (own ++ led2) h5) (E5 fun om mk ob bk o => A12 (led2 = [(am, om), (ab, ob), (r, o)]) (SD C om mk) (SD C ob bk) (Reel o) (mk.length ≤ i + 1) (bk.length ≤ i + 1) (m2 (S_ "world") = some (.ref x)) (m2 (S_ "reel") = some (.ref r)) (m2 (S_ "edges") = some (.ref ea)) (Sub gd g2) (MentK C (Fresh g h g2) nds es (i + 1) mk) (BodK (Fresh g h g2) nds (i + 1) bk)) := by
              intro g5 h5 ob' bk' s5 X5 hob' hbk' hBK'
              obtain ⟨g6, s6, X6, f6⟩ := X5.take (g0 := g) (h0 := h) (yg X5 (sc3.trans s5) (.head _) (X5.headNe (q := (r, o20)) (by walk_at "mm")))
              have sf6 : Sub gf g6 := sgl.trans (s2.trans (s3'.trans (s5.trans s6)))
              refine ⟨g6, m21, _, sf6, X6, om', _, ob', bk', o20, rfl, hom', hob', hR20, hmk', hbk', ewl, erl, eel, sgf.trans sf6, ⟨?_, ?_⟩, hBK'.mono (Fresh.mono s6)⟩
              · intro i' nd' gs' hi' hnd' hgs'
                rw [valueAt_stored]
                by_cases hii : i' = i
                · subst hii
                  rw [hndi] at hnd'; cases hnd'
                  rw [hgs] at hgs'; cases hgs'
                  rw [if_pos rfl]
                  exact ⟨_, rfl, sp, os3, xs3, rfl, f6, losp, hos3.mono (Fresh.mono (s5.trans s6)), hMO, hxl3⟩
                · rw [if_neg (key_ne hnk hnd' hndi hii)]
                  obtain ⟨w', p1, p2⟩ := hMK.1 i' nd' gs' (by omega) hnd' hgs'
                  exact ⟨w', p1, p2.mono (Fresh.mono sf6)⟩
              · intro k hk
                rw [valueAt_stored] at hk
                by_cases hkk : k = nd.key
                · exact ⟨nd, List.mem_of_getElem? hndi, hkk.symm⟩
                · rw [if_neg hkk] at hk; exact hMK.2 k hk
            have hBKo : nd.val = false → BodK (Fresh g h g3) nds (i + 1) bk := fun e i' nd' hi' hnd' hv' => by
              by_cases hii : i' = i
              · subst hii
                rw [hndi] at hnd'; cases hnd'
                rw [e] at hv'; cases hv'
              · obtain ⟨w', p1, p2⟩ := hBK i' nd' (by omega) hnd' hv'
                exact ⟨w', p1, p2.mono (Fresh.mono (sgl.trans (s2.trans s3')))⟩
            refine T_execs_cons (T_If ?_)
            walk_at "n"
            ((refine S_tup (by walk_at "at") (by first | decide | omega) (by first | decide | omega) (by first | rfl | assumption) ?_ (by kernel_rfl)))
            walk_at "n"
            refine O_eqS ?_
            walk_at "n"
            refine ⟨fun e => ?_, fun e => ?_⟩
            · have hval : nd.val = true := by
                cases hv : nd.val with
                | true => rfl
                | false => rw [hv] at e; exact absurd e (by decide)
              refine T_execs_cons ?_
              with_reducible refine T_Assign_Sub ?_
              walk_at "tup"
              walk_at "spl"
              walk_at "tup"
              walk_at "spl"
              walk_at "n"
              walk_at "spl"
              walk_at "n"
              refine I_mul (by first | mul_fits | exact .inl (by decide)) fun t3 => ?_
              walk_at "n"
              walk_at "spl"
              walk_at "n"
              ((refine S_tup (by walk_at "at") (by first | decide | omega) (by first | decide | omega) (by first | rfl | assumption) ?_ (by kernel_rfl)))
              walk_at "spl"
              walk_at "n"
              walk_at "spl"
              walk_at "tup"
              walk_at "end"
              intro h25 te X25 _
              walk_at "end"
              intro h26 tc X26 _
              walk_at "spl"
              walk_at "n"
              ((refine S_tup (by walk_at "at") (by first | decide | omega) (by first | decide | omega) (by first | rfl | assumption) ?_ (by kernel_rfl)))
              walk_at "spl"
              walk_at "n"
              walk_at "end"
              intro h27 tb X27 _
              refine at_ X27 s43 ewl mb ?_ (by kernel_rfl) (by kernel_rfl) rfl
              walk_at "n"
              ((refine S_tup (by walk_at "at") (by first | decide | omega) (by first | decide | omega) (by first | rfl | assumption) ?_ (by kernel_rfl)))
              refine S_setDict X27 (fun _ => .there (.there (.there (.there (.app own (.there .here)))))) hob (by omega) fun h28 ob' hob' _ X28 => ?_
              walk_at "n"
              obtain ⟨g5, s5, X29, f5⟩ := X28.take (g0 := g) (h0 := h) (yg X28 sc3 (.head _) (X28.headNe (q := (r, o20)) (by walk_at "mm")))
              obtain ⟨g6, s6, X30, f6⟩ := X29.take (g0 := g) (h0 := h) (yg X29 (sc3.trans s5) (.head _) (X29.headNe (q := (r, o20)) (by walk_at "mm")))
              refine fin (s5.trans s6) X30.drop1 hob' (by have := stored_length_le bk nd.key (.ref tb); omega) ?_
              intro i' nd' hi' hnd' hv'
              rw [valueAt_stored]
              by_cases hii : i' = i
              · subst hii
                rw [hndi] at hnd'; cases hnd'
                rw [if_pos rfl]
                have ex3 : (10 * (i' : Int) + 3) = ((10 * i' + 3 : Nat) : Int) := by omega
                rw [ex3] at f6
                exact ⟨_, rfl, tb, tc, xb, _, _, _, _, xns, rfl, Fresh.mono s6 _ _ f5, f6, Fresh.base (sggf.trans (sgl.trans (s2.trans (s3'.trans (s5.trans s6))))) _ _ hxb', hxns⟩
              · rw [if_neg (key_ne hnk hnd' hndi hii)]
                obtain ⟨w', p1, p2⟩ := hBK i' nd' (by omega) hnd' hv'
                exact ⟨w', p1, p2.mono (Fresh.mono (sgl.trans (s2.trans (s3'.trans (s5.trans s6)))))⟩
            · have hval : nd.val = false := by
                cases hv : nd.val with
                | false => rfl
                | true => rw [hv] at e; exact absurd e (by decide)
              walk_at "n"
              exact fin (Sub.refl _) X24 hob (by omega) (hBKo hval)
    · rintro gf mf ledf hf sf ⟨om, mk, ob, bk, of, rfl, hom, hob, hRf, hmk, hbk, mwf, mrf, mef, sgf, hMK, hBK⟩ Xf
      walk_at "n"
      have s1 : Sub gc gf := sgc.trans sgf
      obtain ⟨gg, sg, Xg, fam⟩ := Xf.take (g0 := g) (h0 := h) (yg Xf s1 (.head _) (Xf.headNe (q := (r, of)) (by walk_at "mm")))
      obtain ⟨gk, sk, Xk, fab⟩ := Xg.take (g0 := g) (h0 := h) (yg Xg (s1.trans sg) (.head _) (Xg.headNe (q := (r, of)) (by walk_at "mm")))
      have sF : Sub (Fresh g h gk) (Fresh g h hf) := Fresh.mono Xk.keep
      have sFf : Sub (Fresh g h gf) (Fresh g h gk) := Fresh.mono (sg.trans sk)
      have sFd : Sub (Fresh g h gd) (Fresh g h gk) := Fresh.mono (sgf.trans (sg.trans sk))
      have sF4 : Sub (Fresh g h g4) (Fresh g h gk) := Fresh.mono ((s8.trans sgd).trans (sgf.trans (sg.trans sk)))
      have sF8 : Sub (Fresh g h g8) (Fresh g h gk) := Fresh.mono (sgd.trans (sgf.trans (sg.trans sk)))
      rw [hnl] at hMK hBK
      refine hq _ of _ x dx od mi ao av ai am ab om ob mk bk ⟨rfl, sF _ _ (sF4 _ _ hx4), sF _ _ (sF4 _ _ hdx4), hmi, mo, mv, mi', mm, mb, ⟨ao, _, _, rfl, sF _ _ (sF8 _ _ hao8), .cons ⟨_, rfl⟩ (.one ⟨_, rfl⟩)⟩, hvals.mono (R := SList) SList.mono (sFd.trans sF), hinits.mono (R := SList) SList.mono (sFd.trans sF), sF _ _ (Fresh.mono sk _ _ fam), hom, lom, hMK.mono (sFf.trans sF), sF _ _ fab, hob, lob, hBK.mono (sFf.trans sF)⟩ (hKeep _ (s1.trans (sg.trans (sk.trans Xk.keep)))) (Xk.at_ _ (.head _)) hRf
end
section
open PySem PySem.W PyProof.Rows PySem.Calls PyProof.V PySem.Spec
set_option Elab.async false
set_option maxRecDepth 100000
set_option maxHeartbeats 4000000
set_option linter.unusedVariables false

def nmOf (nd : Nd) (n : Str) : Str := nd.pkg ++ S_ "." ++ n
def OwnOk (nds : List Nd) (tl : List Nat) (kvs : List (Str × Value)) : Prop :=
  (∀ s v, valueAt kvs s = some v → ∃ i ∈ tl, ∃ nd, nds[i]? = some nd ∧ IsS v nd.key ∧ ∃ n ∈ nd.names, n ≠ S_ "_" ∧ s = nmOf nd n) ∧
  (∀ i ∈ tl, ∀ nd, nds[i]? = some nd → ∀ n ∈ nd.names, n ≠ S_ "_" → valueAt kvs (nmOf nd n) ≠ none)

theorem WR.mono {C : Cx} {g g' : Heap} {v : Value} {nds : List Nd} {es : List (List Nat)} {told : Nat → List Nat} {inits : Nat → List Str} {x dx : Addr} {od : Obj} {mi : Str → Option Value} {ao av ai am ab : Addr} {om ob : Obj} {mk bk : List (Str × Value)} (s : Sub g g')
    (w : WR C g v nds es told inits x dx od mi ao av ai am ab om ob mk bk) : WR C g' v nds es told inits x dx od mi ao av ai am ab om ob mk bk :=
  ⟨w.v, s _ _ w.inst, s _ _ w.dict, w.ns, w.mo, w.mv, w.mi', w.mm, w.mb, w.order.mono s, w.vals.mono (R := SList) SList.mono s, w.inits.mono (R := SList) SList.mono s, s _ _ w.ment, w.mentD, w.lom, w.mentK.mono s, s _ _ w.bod, w.bodD, w.lob, w.bodK.mono s⟩

section
variable {C : Cx} {A : Around} {E : Value → Heap → Prop} {g h : Heap} {L : Addr} {m : Str → Option Value} {led : List (Addr × Obj)}
  {nds : List Nd} {es : List (List Nat)} {told : Nat → List Nat} {inits : Nat → List Str} {wv : Value} {x dx : Addr} {od : Obj} {mi : Str → Option Value} {ao av ai am ab : Addr} {om ob : Obj} {mk bk : List (Str × Value)}

theorem so_new {kv : Value} {tl : List Nat} {Q : Value → Heap → Prop} (hA : Lv 2 A) (X : W C g L m led h) (wr : WR C g wv nds es told inits x dx od mi ao av ai am ab om ob mk bk) (hK : SList g kv (tl.map (keyOf nds))) (hz : tl.length ≤ 14)
    (htl : ∀ i ∈ tl, ∃ nd, nds[i]? = some nd ∧ nd.val = true) (hnd : ∀ nd ∈ nds, NdOk nd)
    (hq : ∀ x2 dx2 od2 mi2 ow oo kvs h', ONs od2 mi2 3 → mi2 (S_ "world") = some wv → mi2 (S_ "keys") = some kv → mi2 (S_ "owners") = some (.ref ow) → (∀ n, n ≠ S_ "world" → n ≠ S_ "keys" → n ≠ S_ "owners" → mi2 n = none) → SD C oo kvs → Lo ow → OwnOk nds tl kvs → kvs.length ≤ 60 →
      W C g L m ((x2, instObj 95 dx2) :: (dx2, od2) :: (ow, oo) :: led) h' → (∀ b o, h.get? b = some o → h'.get? b = some o) → Q (.ref x2) h') : T C A (call (.ref 95) [wv, kv] []) Q E h := by
  obtain ⟨ka, kvs0, kk, rfl, hka, hkv⟩ := hK
  refine T_new (fI := 68) X (by kernel_rfl) (by kernel_rfl) (by kernel_rfl) fun sx sdx h1 X1 k1 nx ndx => ?_
  have hA1 : Lv 1 (A.under (.builtin "type.__call__" ⟨.ref 95 :: [wv, .ref ka], []⟩)) := hA.under
  generalize A.under (.builtin "type.__call__" ⟨.ref 95 :: [wv, .ref ka], []⟩) = A1 at hA1 ⊢
  refine T_call0 68 [(S_ "self", .ref sx), (S_ "world", wv), (S_ "keys", .ref ka)] [(sx, instObj 95 sdx), (sdx, dictO)] X1.glob X1.keep hA1.room (by
      intro p hp
      rcases List.mem_cons.mp hp with rfl | hp
      · exact X1.at_ _ (.head _)
      · rw [List.mem_singleton.mp hp]; exact X1.at_ _ (.tail _ (.head _))) (by
      intro p hp
      rcases List.mem_cons.mp hp with rfl | hp
      · exact (X1.sep _ (.head _)).2
      · rw [List.mem_singleton.mp hp]; exact (X1.sep _ (.tail _ (.head _))).2) (by
      have := X1.headNe (q := (sdx, dictO)) (.head _)
      simpa using this) ⟨_, _, _, rfl⟩ (by kernel_rfl) (by kernel_rfl) (by kernel_rfl) (by kernel_rfl) (fun _ => by kernel_rfl) (fun _ => by kernel_rfl) (by kernel_rfl) (by kernel_rfl) (by kernel_rfl) (by kernel_rfl) ?_
  intro gc h2 L2 hgc hgS hKeep Y
  have hA2 : Lv 0 (A1.deeper (envF C 68 L2)) := hA1.deeper _
  generalize A1.deeper (envF C 68 L2) = A2 at hA2 ⊢
  have e1 : nm [(S_ "self", .ref sx), (S_ "world", wv), (S_ "keys", .ref ka)] (S_ "self") = some (.ref sx) := by kernel_rfl
  have e2 : nm [(S_ "self", .ref sx), (S_ "world", wv), (S_ "keys", .ref ka)] (S_ "world") = some wv := by kernel_rfl
  have e3 : nm [(S_ "self", .ref sx), (S_ "world", wv), (S_ "keys", .ref ka)] (S_ "keys") = some (.ref ka) := by kernel_rfl
  generalize nm [(S_ "self", .ref sx), (S_ "world", wv), (S_ "keys", .ref ka)] = m0 at Y e1 e2 e3
  have wrc := wr.mono hgc
  have hv := wr.v
  subst hv
  refine T_execs_cons (T_Assign_Attr ?_ rfl)
  walk_at "n"
  refine T_setattr (name := Str.ofString "world") Y (Y.at_ (sx, instObj 95 sdx) (by walk_at "mm")) (by walk_at "up") ONs.empty (by decide) (fun h3 o3 ho3 _ Y3 => ?_) (by kernel_rfl) (by kernel_rfl) (by kernel_rfl) (by kernel_rfl)
  walk_at "sat"
  walk_at "n"
  refine T_setattr (name := Str.ofString "keys") Y3 (Y3.at_ (sx, instObj 95 sdx) (by walk_at "mm")) (by walk_at "up") ho3 (by decide) (fun h4 o4 ho4 _ Y4 => ?_) (by kernel_rfl) (by kernel_rfl) (by kernel_rfl) (by kernel_rfl)
  walk_at "sat"
  ((with_reducible refine T_DctX (by assumption) ?_))
  intro h5 ow Y5 low _
  walk_at "n"
  refine T_setattr (name := Str.ofString "owners") Y5 (Y5.at_ (sx, instObj 95 sdx) (by walk_at "mm")) (by walk_at "up") ho4 (by decide) (fun h6 o6 ho6 _ Y6 => ?_) (by kernel_rfl) (by kernel_rfl) (by kernel_rfl) (by kernel_rfl)
  generalize hmi2 : upd (upd (upd (fun _ => none) (Str.ofString "world") (.ref x)) (Str.ofString "keys") (.ref ka)) (Str.ofString "owners") (.ref ow) = mi2 at ho6
  have mw2 : mi2 (S_ "world") = some (.ref x) := by rw [← hmi2]; walk_at "lk"
  have mk2 : mi2 (S_ "keys") = some (.ref ka) := by rw [← hmi2]; walk_at "lk"
  have mo2 : mi2 (S_ "owners") = some (.ref ow) := by rw [← hmi2]; exact upd_same
  have mn2 : ∀ n, n ≠ S_ "world" → n ≠ S_ "keys" → n ≠ S_ "owners" → mi2 n = none := fun n a b c => by rw [← hmi2]; exact upd_ne c (upd_ne b (upd_ne a rfl))
  walk_at "n"
  refine T_For ?_
  walk_at "n"
  refine TL_src (src_list hA2.hd Y6 (hgc _ _ hka) (LX.mk (k := kk)).lw) (fun i g' m led => E2 fun oo kvs => A7 (led = [(ow, oo), (sx, instObj 95 sdx), (sdx, o6)]) (SD C oo kvs) (kvs.length ≤ 2 * i) (OwnOk nds (tl.take i) kvs) (m (S_ "self") = some (.ref sx)) (m (S_ "world") = some (.ref x)) (Sub gc g')) ?_ ?_ ?_
  · exact ⟨dictO, [], rfl, SD.empty, Nat.le_refl _, ⟨fun s v hv => (by cases hv), (by simp)⟩, e1, e2, Sub.refl _⟩
  · rintro i v ga ma leda own ha Kq hKq hi sa ⟨oo, kvs, rfl, hoo, hkl, hOw, ms, mw, sga⟩ hP Ya
    obtain ⟨ks, hks, tk, rfl⟩ := hkv.getV hP
    rw [List.getElem?_map] at hks
    obtain ⟨j, hj, rfl⟩ := Option.map_eq_some_iff.mp hks
    have hjt : j ∈ tl := List.mem_of_getElem? hj
    obtain ⟨nd, hnj, hval⟩ := htl j hjt
    have hkey : keyOf nds j = nd.key := by unfold keyOf; rw [hnj]; rfl
    rw [hkey]
    have hnk := hnd nd (List.mem_of_getElem? hnj)
    have hit : i < tl.length := (List.getElem?_eq_some_iff.mp hj).1
    have wra := wrc.mono sga
    obtain ⟨bw, hbw, ba, bb, bc, t1, t2, t3, be, bns, rfl, hba, hbb, hbc, hbns⟩ := wra.bodK j nd (List.getElem?_eq_some_iff.mp hnj).1 hnj hval
    refine assign_Name ?_
    walk_at "st"
    intro hb Yb
    refine T_execs_cons (T_Assign_Tuple ?_ (by kernel_rfl) (by kernel_rfl))
    refine T_Sub (T_Attr ?_)
    walk_at "n"
    refine T_getattr (Yb.glob.K.keeps Yb.keep) (Yb.keep _ _ wra.inst) (Yb.keep _ _ wra.dict) wra.ns wra.mb ?_ (by kernel_rfl) (by kernel_rfl) (by kernel_rfl) rfl
    walk_at "n"
    refine S_dict (Yb.keep _ _ wra.bod) wra.bodD hbw ?_
    refine T_assignTuple (vs := [.ref bb, .str nd.pkg t1, .none]) hA2.hd Yb (isTuple_of (Yb.keep _ _ hba)) (by kernel_rfl) (by kernel_rfl) fun hc Yc _ => ?_
    refine T_order_cons (assign_Name ?_)
    walk_at "st"
    intro hd Yd
    refine T_order_cons (assign_Name ?_)
    walk_at "st"
    intro he Ye
    refine T_order_cons (assign_Name ?_)
    walk_at "st"
    intro hf Yf
    refine T_order_nil ?_
    walk_at "n"
    refine T_For ?_
    walk_at "n"
    ((refine S_tup (by walk_at "at") (by first | decide | omega) (by first | decide | omega) (by first | rfl | assumption) ?_ (by kernel_rfl)))
    have htk : tl.take (i + 1) = tl.take i ++ [j] := by rw [List.take_add_one, hj]; rfl
    refine TL_src (src_tuple hA2.hd Yf hbc) (fun q g' m led => E2 fun oo kvs => A11 (led = own ++ [(ow, oo), (sx, instObj 95 sdx), (sdx, o6)]) (SD C oo kvs) (kvs.length ≤ 2 * i + q) (m (S_ "self") = some (.ref sx)) (m (S_ "world") = some (.ref x)) (m (S_ "package") = some (.str nd.pkg t1)) (m (S_ "key") = some (.str nd.key tk)) (Sub ga g') ((∀ s v, valueAt kvs s = some v → ∃ i' ∈ tl.take (i + 1), ∃ nd, nds[i']? = some nd ∧ IsS v nd.key ∧ ∃ n ∈ nd.names, n ≠ S_ "_" ∧ s = nmOf nd n)) ((∀ i' ∈ tl.take i, ∀ nd, nds[i']? = some nd → ∀ n ∈ nd.names, n ≠ S_ "_" → valueAt kvs (nmOf nd n) ≠ none)) ((∀ n ∈ nd.names.take q, n ≠ S_ "_" → valueAt kvs (nmOf nd n) ≠ none))) ?_ ?_ ?_
    · refine ⟨oo, kvs, rfl, hoo, by omega, by walk_at "lk", by walk_at "lk", by walk_at "lk", by walk_at "lk", Sub.refl _, fun s v hv => ?_, hOw.2, by simp⟩
      obtain ⟨i', h1, h2⟩ := hOw.1 s v hv
      exact ⟨i', by rw [htk]; exact List.mem_append.mpr (.inl h1), h2⟩
    · rintro q v gu mu ledu ownu hu Kq hKq hq2 su ⟨oo2, kvs2, rfl, hoo2, hkl2, msu, mwu, mpu, mku, sgu, hA_, hB_, hC_⟩ hPu Yu
      obtain ⟨nmv, hnm, tn, rfl⟩ := hbns.getV hPu
      refine assign_Name ?_
      walk_at "st"
      intro hw2 Yw
      have hnmm : nmv ∈ nd.names := List.mem_of_getElem? hnm
      have htk2 : nd.names.take (q + 1) = nd.names.take q ++ [nmv] := by rw [List.take_add_one, hnm]; rfl
      have hq2' : q < 2 := by have h1 := hnk.2.1; have h2 := hbns.1; have h3 : q < bns.length := hq2; omega
      refine T_execs_cons (T_If ?_)
      walk_at "n"
      refine O_neS ?_
      walk_at "n"
      refine ⟨fun e => ?_, fun e => ?_⟩
      · refine T_execs_cons ?_
        with_reducible refine T_Assign_Sub ?_
        walk_at "n"
        refine T_Attr ?_
        walk_at "n"
        refine T_getattr (Yw.glob.K.keeps Yw.keep) (Yw.at_ (sx, instObj 95 sdx) (by walk_at "mm")) (Yw.at_ (sdx, o6) (by walk_at "mm")) ho6 mo2 ?_ (by kernel_rfl) (by kernel_rfl) (by kernel_rfl) rfl
        walk_at "n"
        refine O_addS (slen (.any (by have := hnk.1; omega)) (.lit (by decide))) fun tv2 => ?_
        walk_at "n"
        refine O_addS (slen3 (.any (by have := hnk.1; omega)) (.lit (by decide)) (.any (by have := hnk.2.2.1 nmv hnmm; omega))) fun tv3 => ?_
        refine S_setDict Yw (fun _ => .app ownu (.app own .here)) hoo2 (by omega) fun hx2 oo3 hoo3 _ Yx => ?_
        walk_at "n"
        refine ⟨gu, _, _, Sub.refl _, Yx, oo3, _, rfl, hoo3, ?_, by walk_at "lk", by walk_at "lk", by walk_at "lk", by walk_at "lk", sgu, ?_, ?_, ?_⟩
        · have := stored_length_le kvs2 (nd.pkg ++ Str.ofString "." ++ nmv) (.str nd.key tk); omega
        · intro s v hv
          rw [valueAt_stored] at hv
          split at hv
          · rename_i hs
            cases hv
            exact ⟨j, by rw [htk]; exact List.mem_append.mpr (.inr (.head _)), nd, hnj, ⟨_, rfl⟩, nmv, hnmm, by simpa using e, hs⟩
          · exact hA_ s v hv
        · intro i' hi' nd' hnd' n hn hne
          rw [valueAt_stored]
          split
          · simp
          · exact hB_ i' hi' nd' hnd' n hn hne
        · intro n hn hne
          rw [valueAt_stored]
          split
          · simp
          · rename_i hs
            rw [htk2] at hn
            rcases List.mem_append.mp hn with hn | hn
            · exact hC_ n hn hne
            · rw [List.mem_singleton.mp hn] at hs; exact absurd rfl hs
      · walk_at "n"
        refine ⟨gu, _, _, Sub.refl _, Yw, oo2, kvs2, rfl, hoo2, by omega, by walk_at "lk", by walk_at "lk", by walk_at "lk", by walk_at "lk", sgu, hA_, hB_, ?_⟩
        intro n hn hne
        rw [htk2] at hn
        rcases List.mem_append.mp hn with hn | hn
        · exact hC_ n hn hne
        · rw [List.mem_singleton.mp hn] at hne
          exact absurd (by simpa using e) hne
    · rintro gu mu ledu hu su ⟨oo2, kvs2, rfl, hoo2, hkl2, msu, mwu, mpu, mku, sgu, hA_, hB_, hC_⟩ Yu
      walk_at "n"
      have hbl : bns.length ≤ 2 := by rw [hbns.1]; exact hnk.2.1
      refine ⟨gu, _, _, sgu, Yu, oo2, kvs2, rfl, hoo2, by omega, ⟨hA_, ?_⟩, msu, mwu, sga.trans sgu⟩
      intro i' hi' nd' hnd' n hn hne
      rw [htk] at hi'
      rcases List.mem_append.mp hi' with hi' | hi'
      · exact hB_ i' hi' nd' hnd' n hn hne
      · rw [List.mem_singleton.mp hi', hnj] at hnd'
        cases hnd'
        exact hC_ n (by rw [hbns.1, List.take_length]; exact hn) hne
  · rintro ga ma leda ha sa ⟨oo, kvs, rfl, hoo, hkl, hOw, ms, mw, sga⟩ Ya
    walk_at "n"
    have K := hKeep _ (sga.trans Ya.keep)
    have K0 : ∀ b o, h.get? b = some o → ha.get? b = some o := fun b o e => K b o (fun hm => by
      rcases List.mem_cons.mp hm with rfl | hm
      · rw [nx] at e; cases e
      · rw [List.mem_singleton.mp hm, ndx] at e; cases e) (k1 b o e)
    have hkl2 : kvs0.length = tl.length := by rw [hkv.1, List.length_map]
    rw [hkl2, List.take_length] at hOw
    rw [hkl2] at hkl
    refine ⟨rfl, hq sx sdx o6 mi2 ow oo kvs ha ho6 mw2 mk2 mo2 mn2 hoo low hOw (by omega) ?_ K0⟩
    have nd := Ya.nd
    refine X.addNews (N := [(sx, instObj 95 sdx), (sdx, o6), (ow, oo)]) (fun b o _ e => K0 b o e) ?_ ?_ ?_
    · intro p hp
      simp at hp
      rcases hp with rfl | rfl | rfl
      · exact nx
      · exact ndx
      · have := Ya.young (h0 := h1) (p := (ow, oo)) (by simp) sga hgS (by simp at nd ⊢; grind)
        cases e : h.get? ow with
        | none => rfl
        | some o => rw [k1 _ _ e] at this; cases this
    · intro p hp
      refine Ya.at_ p ?_
      simp at hp ⊢
      rcases hp with rfl | rfl | rfl <;> simp
    · simp at nd ⊢
      grind
end
end
section
open PySem PySem.W PyProof.Rows PySem.Calls PyProof.V PySem.Spec
set_option Elab.async false
set_option maxRecDepth 100000
set_option maxHeartbeats 4000000
set_option linter.unusedVariables false

def Ed (es : List (List Nat)) (i j : Nat) : Prop := ∃ gs, es[i]? = some gs ∧ j ∈ gs
inductive FnP (nds : List Nd) (es : List (List Nat)) (i : Nat) : Nat → Prop
  | refl : FnP nds es i i
  | step {m b nd} : FnP nds es i m → Ed es m b → nds[b]? = some nd → nd.val = false → FnP nds es i b
def Found (nds : List Nd) (es : List (List Nat)) (tl : List Nat) (i j : Nat) : Prop := j ∈ tl ∧ ∃ m, FnP nds es i m ∧ Ed es m j

/-- what the names must be -/
structure Pk (nds : List Nd) : Prop where
  keys : (nds.map Nd.key).Nodup
  lock : ∀ nd ∈ nds, nd.key ≠ S_ "sync.Mutex.Lock"
  own : ∀ (i j : Nat) (a b : Nd) n n', nds[i]? = some a → nds[j]? = some b → a.val = true → b.val = true → n ∈ a.names → n' ∈ b.names → n ≠ S_ "_" → n' ≠ S_ "_" → nmOf a n = nmOf b n' → i = j
  late : ∀ (a b : Nd) n, a ∈ nds → b ∈ nds → n ∈ b.names → a.pkg ++ S_ ".late" ≠ nmOf b n
  ok : ∀ nd ∈ nds, NdOk nd

/-- StartOrder as it stands -/
structure SOR (C : Cx) (g : Heap) (nds : List Nd) (tl : List Nat) (wv kv : Value) (sx sdx : Addr) (od : Obj) (mi : Str → Option Value) (ow : Addr) (oo : Obj) (kvs : List (Str × Value)) : Prop where
  inst : g.get? sx = some (instObj 95 sdx)
  dict : g.get? sdx = some od
  ns : ONs od mi 3
  mw : mi (S_ "world") = some wv
  mky : mi (S_ "keys") = some kv
  mo : mi (S_ "owners") = some (.ref ow)
  mn : ∀ n, n ≠ S_ "world" → n ≠ S_ "keys" → n ≠ S_ "owners" → mi n = none
  own : g.get? ow = some oo
  ownD : SD C oo kvs
  low : Lo ow
  ok : OwnOk nds tl kvs
theorem SOR.mono {C : Cx} {g g' : Heap} {nds : List Nd} {tl : List Nat} {wv kv : Value} {sx sdx : Addr} {od : Obj} {mi : Str → Option Value} {ow : Addr} {oo : Obj} {kvs : List (Str × Value)} (s : Sub g g') (x : SOR C g nds tl wv kv sx sdx od mi ow oo kvs) : SOR C g' nds tl wv kv sx sdx od mi ow oo kvs :=
  ⟨s _ _ x.inst, s _ _ x.dict, x.ns, x.mw, x.mky, x.mo, x.mn, s _ _ x.own, x.ownD, x.low, x.ok⟩

theorem len_le {α : Type} [DecidableEq α] : ∀ {l l' : List α}, l.Nodup → (∀ x ∈ l, x ∈ l') → l.length ≤ l'.length
  | [], _, _, _ => Nat.zero_le _
  | x :: r, l', hn, hs => by
    have hn' := List.nodup_cons.mp hn
    have hx := hs x (.head _)
    have := len_le (l := r) (l' := l'.erase x) hn'.2 fun y hy => (List.mem_erase_of_ne (fun e => hn'.1 (by rw [← e]; exact hy))).mpr (hs y (.tail _ hy))
    rw [List.length_erase_of_mem hx] at this
    have hp := List.length_pos_of_mem hx
    rw [List.length_cons]; omega

theorem SD.nodup {C : Cx} {o : Obj} {kvs : List (Str × Value)} (x : SD C o kvs) : (kvs.map (·.1)).Nodup := let ⟨_, _, _, _, _, _, h⟩ := x; h
theorem SD.len {C : Cx} {o : Obj} {kvs : List (Str × Value)} (x : SD C o kvs) {l : List Str} (h : ∀ k, valueAt kvs k ≠ none → k ∈ l) : kvs.length ≤ l.length := by
  have := len_le (l := kvs.map (·.1)) (l' := l) x.nodup fun k hk => h k (by
    obtain ⟨p, hp, rfl⟩ := List.mem_map.mp hk
    intro e
    unfold valueAt at e
    rw [Option.map_eq_none_iff, List.find?_eq_none] at e
    exact e p hp (by simp))
  simpa using this

section
variable {nds : List Nd} {es : List (List Nat)} {tl : List Nat} {i : Nat}
/-- the search's state; P: what is met but whose mentions are not all seen yet -/
structure Inv (nds : List Nd) (es : List (List Nat)) (tl : List Nat) (i : Nat) (P : Nat → Prop) (ws : List Str) (M F : Str → Prop) : Prop where
  a : ∀ s, (s ∈ ws ∨ M s) → s = S_ "sync.Mutex.Lock" ∨ ∃ m nd, FnP nds es i m ∧ nds[m]? = some nd ∧ s = nd.key
  b : ∀ nd, nds[i]? = some nd → nd.key ∈ ws ∨ M nd.key
  c : ∀ m nd, nds[m]? = some nd → M nd.key → ¬ P m → ∀ b nb, Ed es m b → nds[b]? = some nb → nb.val = false → nb.key ∈ ws ∨ M nb.key
  d : ∀ s, F s → ∃ j nj, Found nds es tl i j ∧ nds[j]? = some nj ∧ s = nj.key
  e : ∀ m nd, nds[m]? = some nd → M nd.key → ¬ P m → ∀ j nj, Ed es m j → nds[j]? = some nj → nj.val = true → j ∈ tl → F nj.key
end

theorem reached_ok {C : Cx} {A : Around} {E : Value → Heap → Prop} {g h : Heap} {nds : List Nd} {es : List (List Nat)} {tl : List Nat} {told : Nat → List Nat} {inits : Nat → List Str} {wv kv : Value} {x dx : Addr} {od : Obj} {mi : Str → Option Value} {ao av ai am ab : Addr} {om ob : Obj} {mk bk : List (Str × Value)}
    {sx sdx : Addr} {od2 : Obj} {mi2 : Str → Option Value} {ow : Addr} {oo : Obj} {kvs : List (Str × Value)} {i : Nat} {ndi : Nd} {t0 : Tok} {Q : Value → Heap → Prop}
    (hA : Lv 1 A) (hG : Glob C g) (hk : Sub g h) (wr : WR C g wv nds es told inits x dx od mi ao av ai am ab om ob mk bk) (so : SOR C g nds tl wv kv sx sdx od2 mi2 ow oo kvs) (pk : Pk nds) (hes : EdgesOk nds nds.length es) (hz : nds.length ≤ 14) (hi : nds[i]? = some ndi)
    (htl : ∀ j ∈ tl, ∃ nd, nds[j]? = some nd ∧ nd.val = true)
    (hq : ∀ d o fk h', Keep [] h h' → h.get? d = none → h'.get? d = some o → SD C o fk → Lo d → fk.length ≤ 14 → (∀ s, valueAt fk s ≠ none ↔ ∃ j nj, Found nds es tl i j ∧ nds[j]? = some nj ∧ s = nj.key) → Q (.ref d) h') : T C A (call (.ref 75) [.ref sx, .str ndi.key t0] []) Q E h := by
  refine T_callC (T_call0 75 [(S_ "self", .ref sx), (S_ "key", .str ndi.key t0)] [] hG hk hA.room (by simp) (by simp) (by simp) ⟨_, _, _, rfl⟩ (by kernel_rfl) (by kernel_rfl) (by kernel_rfl) (by kernel_rfl) (fun _ => by kernel_rfl) (fun _ => by kernel_rfl) (by kernel_rfl) (by kernel_rfl) (by kernel_rfl) (by kernel_rfl) ?_)
  intro gc h1 L hgc hgS hKeep X
  have hA1 : Lv 0 (A.deeper (envF C 75 L)) := hA.deeper _
  generalize A.deeper (envF C 75 L) = A1 at hA1 ⊢
  have e1 : nm [(S_ "self", .ref sx), (S_ "key", .str ndi.key t0)] (S_ "self") = some (.ref sx) := by kernel_rfl
  have e2 : nm [(S_ "self", .ref sx), (S_ "key", .str ndi.key t0)] (S_ "key") = some (.str ndi.key t0) := by kernel_rfl
  generalize nm [(S_ "self", .ref sx), (S_ "key", .str ndi.key t0)] = m0 at X e1 e2
  have yg : ∀ {g1 m1 led1 h2} (X1 : W C g1 L m1 led1 h2) (s : Sub gc g1) {p : Addr × Obj}, p ∈ led1 → h.get? p.1 = none := fun X1 s p hp => X1.young (S := []) hp s hgS (by simp)
  have hwv := wr.v
  subst hwv
  refine T_execs_cons ?_
  refine T_Swap (names := [Str.ofString "found", Str.ofString "met", Str.ofString "waiting"]) hA1.hd ?_
  walk_at "tup"
  walk_at "spl"
  ((with_reducible refine T_DctX (by assumption) ?_))
  intro h2 fd X2 lofd _
  walk_at "spl"
  ((with_reducible refine T_DctX (by assumption) ?_))
  intro h3 md X3 lomd _
  walk_at "spl"
  walk_at "lst"
  walk_at "spl"
  walk_at "n"
  walk_at "end"
  intro h4 wl X4 _
  walk_at "end"
  intro h5 ta X5 _
  refine ⟨_, _, _, _, _, _, rfl, X5.drop1, X5.at_ _ (.head _), rfl, fun h6 X6 => ?_⟩
  refine T_order_name ?_
  walk_at "st"
  intro h7 X7
  refine T_order_name ?_
  walk_at "st"
  intro h8 X8
  refine T_order_name ?_
  walk_at "st"
  intro h9 X9
  refine T_order_nil ?_
  walk_at "n"
  refine T_While ?_
  refine TL_while X9 (fun k g' m led => E7 fun fo fk mo mkk wvs wk ws => A12 (led = [(wl, listO wvs wk), (md, mo), (fd, fo)]) (SD C mo mkk) (SD C fo fk) (All2 IsS wvs ws) (m (S_ "self") = some (.ref sx)) (m (S_ "found") = some (.ref fd)) (m (S_ "met") = some (.ref md)) (m (S_ "waiting") = some (.ref wl)) (Sub gc g') (Inv nds es tl i (fun _ => False) ws (fun s => valueAt mkk s ≠ none) (fun s => valueAt fk s ≠ none)) (k = ws.length + (20 - mkk.length) * 25) (k ≤ 501)) (1 + 20 * 25) ?_ ?_
  · refine ⟨dictO, [], dictO, [], [.str ndi.key t0], 0, [ndi.key], rfl, SD.empty, SD.empty, .one ⟨_, rfl⟩, by walk_at "lk", by walk_at "lk", by walk_at "lk", by walk_at "lk", Sub.refl _, ⟨?_, ?_, ?_, ?_, ?_⟩, rfl, Nat.le_refl _⟩
    · rintro s (hs | hs)
      · rw [List.mem_singleton.mp hs]; exact .inr ⟨i, ndi, .refl, hi, rfl⟩
      · exact absurd rfl hs
    · intro nd hnd
      rw [hi] at hnd; cases hnd
      exact .inl (.head _)
    · intro m nd _ hm; exact absurd rfl hm
    · intro s hs; exact absurd rfl hs
    · intro m nd _ hm; exact absurd rfl hm
  · rintro k g1 m1 led1 h10 Kq hKq s1 ⟨fo, fk, mo, mkk, wvs, wk, ws, rfl, hmo, hfo, hwv, ms, mf, mm, mw, sg1, inv, rfl, hk501⟩ X10
    have hml : mkk.length ≤ 15 := by
      have := hmo.len (l := nds.map Nd.key ++ [S_ "sync.Mutex.Lock"]) fun s hs => by
        rcases inv.a s (.inr hs) with e | ⟨m, nd, _, hnd, e⟩
        · rw [e]; simp
        · rw [e]; exact List.mem_append.mpr (.inl (List.mem_map_of_mem (List.mem_of_getElem? hnd)))
      simp at this; omega
    walk_at "n"
    walk_at "lst"
    walk_at "end"
    intro h11 na X11 _
    refine R_neN (X11.at_ _ (.tail _ (.head _))) (LX.mk (k := wk)).lw (X11.at_ _ (.head _)) (LX.mk (k := 0)).lw hA1 ?_
    have X11 := X11.drop1
    walk_at "n"
    refine ⟨fun e => ?_, fun e => ?_⟩
    · have hne : wvs ≠ [] := by rintro rfl; cases e
      obtain ⟨wv0, y, rfl⟩ : ∃ l y, wvs = l ++ [y] := ⟨wvs.dropLast, wvs.getLast hne, (List.dropLast_concat_getLast hne).symm⟩
      have hwsne : ws ≠ [] := by rintro rfl; have := hwv.1; simp at this
      obtain ⟨ws0, s, rfl⟩ : ∃ l y, ws = l ++ [y] := ⟨ws.dropLast, ws.getLast hwsne, (List.dropLast_concat_getLast hwsne).symm⟩
      have hl0 : wv0.length = ws0.length := by have := hwv.1; simpa using this
      have hwv0 : All2 IsS wv0 ws0 := by
        have := hwv.take wv0.length
        rwa [List.take_left, hl0, List.take_left] at this
      obtain ⟨ts, rfl⟩ : IsS y s := hwv.2 wv0.length y s (by simp) (by rw [hl0]; simp)
      have hw0l : ws0.length ≤ 500 := by simp at hk501; omega
      refine T_execs_cons ?_
      with_reducible refine T_Assign_Name ?_
      refine T_L0 F.slot_list_pop F.type_list_pop ?_
      walk_at "n"
      refine ⟨wl, wv0 ++ [.str s ts], wk, rfl, X11.at_ _ (.head _), M_pop X11 .here (by omega) fun h12 X12 => ?_⟩
      walk_at "st"
      intro h13 X13
      refine T_execs_cons (T_If ?_)
      walk_at "n"
      refine D_notIn (X13.at_ (md, mo) (by walk_at "mm")) hmo lomd ?_
      walk_at "n"
      refine ⟨fun e2 => ?_, fun e2 => ?_⟩
      · have hnM : valueAt mkk s = none := by simpa using e2
        refine T_execs_cons ?_
        with_reducible refine T_Assign_Sub ?_
        walk_at "n"
        refine S_setDict X13 (fun _ => .there .here) hmo (by omega) fun h14 mo' hmo' _ X14 => ?_
        have hst : stored mkk s (.bool true) = mkk ++ [(s, .bool true)] := stored_absent hnM _
        have hM' : ∀ t, valueAt (stored mkk s (.bool true)) t ≠ none ↔ (t = s ∨ valueAt mkk t ≠ none) := fun t => by
          rw [valueAt_stored]
          by_cases h : t = s
          · simp [h]
          · simp [h]
        have hlen' : (stored mkk s (.bool true)).length = mkk.length + 1 := by rw [hst]; simp
        have wr1 := wr.mono (hgc.trans sg1)
        have so1 := so.mono (hgc.trans sg1)
        walk_at "n"
        refine T_For ?_
        refine T_D2 F.slot_dict_get F.type_dict_get ?_
        refine T_Attr (T_Attr ?_)
        walk_at "n"
        refine T_getattr (X14.glob.K.keeps X14.keep) (X14.keep _ _ so1.inst) (X14.keep _ _ so1.dict) so1.ns so1.mw ?_ (by kernel_rfl) (by kernel_rfl) (by kernel_rfl) rfl
        refine T_getattr (X14.glob.K.keeps X14.keep) (X14.keep _ _ wr1.inst) (X14.keep _ _ wr1.dict) wr1.ns wr1.mm ?_ (by kernel_rfl) (by kernel_rfl) (by kernel_rfl) rfl
        refine ⟨am, om, rfl, X14.keep _ _ wr1.ment, (let ⟨_, _, h, _⟩ := wr1.mentD; h), ?_⟩
        walk_at "n"
        ((with_reducible refine T_DctX (by assumption) ?_))
        intro h15 ed X15 loed k15
        refine M_get (X15.keep _ _ wr1.ment) wr1.mentD wr1.lom ?_
        obtain ⟨g2, s2, X16, hed⟩ := X15.absorb1
        obtain ⟨d, o, xs, hd, hdo, hld, htd, hxs, hx20⟩ : ∃ d o xs, (valueAt mk s).getD (.ref ed) = .ref d ∧ g2.get? d = some o ∧ Lo d ∧ TDO C g2 o xs ∧ ((xs = [] ∧ ∀ (m : Nat) nd, nds[m]? = some nd → s ≠ nd.key) ∨ ∃ (m : Nat) (nd : Nd) (gs : List Nat), nds[m]? = some nd ∧ s = nd.key ∧ es[m]? = some gs ∧ MentOk nds gs nd (xs.map (·.1))) ∧ xs.length ≤ 20 := by
          have hE : ∀ {m : Nat} {nd}, nds[m]? = some nd → ∃ gs, es[m]? = some gs := fun h => by
            have hlt := (List.getElem?_eq_some_iff.mp h).1
            exact ⟨es[_]'(by rw [hes.1]; exact hlt), List.getElem?_eq_getElem _⟩
          cases hv : valueAt mk s with
          | none =>
            refine ⟨ed, dictO, [], rfl, hed, loed, TDO.empty, .inl ⟨rfl, fun m nd hnd hs => ?_⟩, by simp⟩
            obtain ⟨gs, hgs⟩ := hE hnd
            obtain ⟨w, hw, _⟩ := wr1.mentK.1 m nd gs (List.getElem?_eq_some_iff.mp hnd).1 hnd hgs
            rw [← hs, hv] at hw; cases hw
          | some w0 =>
            obtain ⟨nd, hnd, hks⟩ := wr1.mentK.2 s (by rw [hv]; simp)
            obtain ⟨m, hm⟩ := List.mem_iff_getElem?.mp hnd
            obtain ⟨gs, hgs⟩ := hE hm
            obtain ⟨w, hw, d, o, xs, rfl, h1, h2, h3, h4, h5⟩ := wr1.mentK.1 m nd gs (List.getElem?_eq_some_iff.mp hm).1 hm hgs
            rw [hks, hv] at hw; cases hw
            exact ⟨d, o, xs, rfl, s2 _ _ h1, h2, h3.mono s2, .inr ⟨m, nd, gs, hm, hks.symm, hgs, h4⟩, h5⟩
        rw [hd]
        have sg2 : Sub gc g2 := sg1.trans s2
        have hes2 : ∀ {m : Nat} {gs : List Nat} {j : Nat}, es[m]? = some gs → j ∈ gs → ∃ nj, nds[j]? = some nj := fun h1 h2 => let ⟨_, b, _, hb, _⟩ := (hes.2 _ _ h1).2 _ h2; ⟨b, hb⟩
        refine TL_src (src_td hA1.hd X16 hld hdo htd) (fun q g' m led => E5 fun fo fk wvs wk ws => A11 (led = [(wl, listO wvs wk), (md, mo'), (fd, fo)]) (SD C fo fk) (All2 IsS wvs ws) (m (S_ "self") = some (.ref sx)) (m (S_ "found") = some (.ref fd)) (m (S_ "met") = some (.ref md)) (m (S_ "waiting") = some (.ref wl)) (Sub g2 g') (ws.length ≤ ws0.length + q) (Inv nds es tl i (fun m => ∃ nd, nds[m]? = some nd ∧ nd.key = s) ws (fun t => t = s ∨ valueAt mkk t ≠ none) (fun s => valueAt fk s ≠ none)) (∀ y ∈ (xs.take q).map (·.1), ∀ j nj, Says nds j y → nds[j]? = some nj → (nj.val = false → nj.key ∈ ws ∨ (nj.key = s ∨ valueAt mkk nj.key ≠ none)) ∧ (nj.val = true → j ∈ tl → valueAt fk nj.key ≠ none))) ?_ ?_ ?_
        · refine ⟨fo, fk, wv0, wk + 1, ws0, rfl, hfo, hwv0, by walk_at "lk", by walk_at "lk", by walk_at "lk", by walk_at "lk", Sub.refl _, Nat.le_refl _, ⟨?_, ?_, ?_, inv.d, ?_⟩, by simp⟩
          · rintro t (ht | rfl | ht)
            · exact inv.a t (.inl (List.mem_append.mpr (.inl ht)))
            · exact inv.a t (.inl (List.mem_append.mpr (.inr (.head _))))
            · exact inv.a t (.inr ht)
          · intro nd hnd
            rcases inv.b nd hnd with h | h
            · rcases List.mem_append.mp h with h | h
              · exact .inl h
              · exact .inr (.inl (List.mem_singleton.mp h))
            · exact .inr (.inr h)
          · intro m nd hm hmm hp b nb hb hnb hv
            rcases hmm with hmm | hmm
            · exact absurd ⟨nd, hm, hmm⟩ hp
            · rcases inv.c m nd hm hmm (fun h => h) b nb hb hnb hv with h | h
              · rcases List.mem_append.mp h with h | h
                · exact .inl h
                · exact .inr (.inl (List.mem_singleton.mp h))
              · exact .inr (.inr h)
          · intro m nd hm hmm hp
            rcases hmm with hmm | hmm
            · exact absurd ⟨nd, hm, hmm⟩ hp
            · exact inv.e m nd hm hmm fun h => h
        · rintro q v gq mq ledq ownq hq1 Kq hKq hq2 sq ⟨fo, fk, wvs, wk', ws, rfl, hfo, hwv, msq, mfq, mmq, mwq, sgq, hwl, inv2, hpr⟩ ⟨xq, hxq, rfl⟩ Xq
          have hxm : xq ∈ xs := List.mem_of_getElem? hxq
          have hq20 : q < 20 := by have := (List.getElem?_eq_some_iff.mp hxq).1; omega
          obtain ⟨mN, ndm, gsm, hmN, hsk, hgsm, hMO⟩ := hxs.resolve_left (fun h => by rw [h.1] at hxm; cases hxm)
          have hxk : xq.1 ∈ xs.map (·.1) := List.mem_map_of_mem hxm
          -- the mention has two words
          have hsay := hMO.1 _ hxk
          obtain ⟨wd, td, hwt⟩ : ∃ wd td, xq.1 = [wd, td] := by
            rcases hsay with ⟨j, _, nd, _, ⟨_, e⟩ | ⟨_, n, _, _, e⟩⟩ | e | e
            · exact ⟨_, _, e⟩
            · exact ⟨_, _, e⟩
            · exact ⟨_, _, e⟩
            · exact ⟨_, _, e⟩
          have htk : (xs.take (q + 1)).map (·.1) = (xs.take q).map (·.1) ++ [xq.1] := by rw [List.take_add_one, hxq, List.map_append]; rfl
          have hik : IsTupleKey (PySem.strKind C.prog C.w) g2 [wd, td] xq.2.1 := by
            obtain ⟨_, _, _, _, _, _, hkk⟩ := htd
            rw [← hwt]; exact hkk xq hxm
          obtain ⟨t1, t2, hT⟩ := tupKey_two (isTupleKey_mono (sgq.trans Xq.keep) hik)
          refine T_assignTuple (vs := [.str wd t1, .str td t2]) hA1.hd Xq hT (by kernel_rfl) (by kernel_rfl) fun h20 X20 _ => ?_
          refine T_order_cons (assign_Name ?_)
          walk_at "st"
          intro h21 X21
          refine T_order_cons (assign_Name ?_)
          walk_at "st"
          intro h22 X22
          refine T_order_nil ?_
          have hFm : FnP nds es i mN := by
            rcases inv2.a s (.inr (.inl rfl)) with e | ⟨m, nd, hp, hnd, e⟩
            · exact absurd (hsk.symm.trans e) (pk.lock ndm (List.mem_of_getElem? hmN))
            · have : m = mN := by
                by_cases h : m = mN
                · exact h
                · exact absurd (e.symm.trans hsk) (key_ne pk.keys hnd hmN h)
              rw [← this]; exact hp
          have sgcq : Sub gc gq := sg2.trans sgq
          have soq := so.mono (hgc.trans sgcq)
          -- what the next state says of the mentions
          have step : ∀ {ws' : List Str} {F' : Str → Prop}, (∀ t, t ∈ ws → t ∈ ws') → (∀ t, valueAt fk t ≠ none → F' t) → (∀ j nj, Says nds j xq.1 → nds[j]? = some nj → (nj.val = false → nj.key ∈ ws' ∨ (nj.key = s ∨ valueAt mkk nj.key ≠ none)) ∧ (nj.val = true → j ∈ tl → F' nj.key)) →
              ∀ y ∈ (xs.take (q + 1)).map (·.1), ∀ j nj, Says nds j y → nds[j]? = some nj → (nj.val = false → nj.key ∈ ws' ∨ (nj.key = s ∨ valueAt mkk nj.key ≠ none)) ∧ (nj.val = true → j ∈ tl → F' nj.key) := by
            intro ws' F' h1 h2 h3 y hy j nj hs hnj
            rw [htk] at hy
            rcases List.mem_append.mp hy with hy | hy
            · exact ⟨fun hv => ((hpr y hy j nj hs hnj).1 hv).imp (h1 _) id, fun hv hjt => h2 _ ((hpr y hy j nj hs hnj).2 hv hjt)⟩
            · rw [List.mem_singleton.mp hy] at hs; exact h3 j nj hs hnj
          refine T_execs_cons (T_If ?_)
          walk_at "n"
          refine O_eqS ?_
          walk_at "n"
          refine ⟨fun e3 => ?_, fun e3 => ?_⟩
          · have hwd : wd = S_ "fn" := by simpa using e3
            refine T_execs_cons ?_
            (((with_reducible refine T_Expr ?_); (with_reducible refine T_L1 F.slot_list_append F.type_list_append ?_)))
            walk_at "n"
            refine ⟨wl, wvs, wk', rfl, X22.at_ (wl, listO wvs wk') (by walk_at "mm"), ?_⟩
            walk_at "n"
            refine M_append X22 (.app ownq .here) (by rw [hwv.1]; omega) fun h23 X23 => ?_
            refine ⟨.inl rfl, ?_⟩
            walk_at "n"
            refine ⟨gq, _, _, Sub.refl _, X23, fo, fk, wvs ++ [.str td t2], wk' + 1, ws ++ [td], rfl, hfo, hwv.snoc ⟨_, rfl⟩, by walk_at "lk", by walk_at "lk", by walk_at "lk", by walk_at "lk", sgq, by simp; omega, ⟨?_, ?_, ?_, inv2.d, inv2.e⟩, ?_⟩
            · rintro t (ht | ht)
              · rcases List.mem_append.mp ht with ht | ht
                · exact inv2.a t (.inl ht)
                · rw [List.mem_singleton.mp ht]
                  rcases hsay with ⟨j, hjg, nd, hnd, ⟨hv, e⟩ | ⟨_, n, _, _, e⟩⟩ | e | e
                  · rw [hwt] at e
                    have : td = nd.key := by injection e with _ e; injection e
                    exact .inr ⟨j, nd, .step hFm ⟨gsm, hgsm, hjg⟩ hnd hv, hnd, this⟩
                  · rw [hwt, hwd] at e
                    injection e with e _; exact absurd e (by decide)
                  · rw [hwt] at e
                    unfold lockKey at e
                    injection e with _ e; injection e with e; exact .inl e
                  · rw [hwt, hwd] at e
                    injection e with e _; exact absurd e (by decide)
              · exact inv2.a t (.inr ht)
            · intro nd hnd
              exact (inv2.b nd hnd).imp (fun h => List.mem_append.mpr (.inl h)) id
            · intro m nd hm hmm hp b nb hb hnb hv
              exact (inv2.c m nd hm hmm hp b nb hb hnb hv).imp (fun h => List.mem_append.mpr (.inl h)) id
            · refine step (fun t h => List.mem_append.mpr (.inl h)) (fun _ h => h) fun j nj hs hnj => ?_
              obtain ⟨nd, hnd, ⟨hv, e⟩ | ⟨_, n, _, _, e⟩⟩ := hs
              · rw [hnj] at hnd; cases hnd
                refine ⟨fun _ => .inl (List.mem_append.mpr (.inr ?_)), fun hv2 => by rw [hv] at hv2; cases hv2⟩
                rw [hwt] at e
                injection e with _ e; injection e with e
                rw [e]; exact .head _
              · rw [hwt, hwd] at e
                injection e with e _; exact absurd e (by decide)
          · have hwd : wd ≠ S_ "fn" := by simpa using e3
            have hnofn : ∀ j nj, Says nds j xq.1 → nds[j]? = some nj → nj.val = true ∧ ∃ n ∈ nj.names, n ≠ S_ "_" ∧ td = nmOf nj n := by
              intro j nj hs hnj
              obtain ⟨nd, hnd, ⟨_, e⟩ | ⟨hv, n, hn, hne, e⟩⟩ := hs
              · rw [hwt] at e; injection e with e _; exact absurd e hwd
              · rw [hnj] at hnd; cases hnd
                rw [hwt] at e; injection e with _ e; injection e with e
                exact ⟨hv, n, hn, hne, e⟩
            refine T_execs_cons (T_If ?_)
            walk_at "n"
            refine T_Attr ?_
            walk_at "n"
            refine T_getattr (X22.glob.K.keeps X22.keep) (X22.keep _ _ soq.inst) (X22.keep _ _ soq.dict) soq.ns soq.mo ?_ (by kernel_rfl) (by kernel_rfl) (by kernel_rfl) rfl
            refine D_in (X22.keep _ _ soq.own) soq.ownD soq.low ?_
            walk_at "n"
            refine ⟨fun e4 => ?_, fun e4 => ?_⟩
            · obtain ⟨v, hv⟩ := Option.isSome_iff_exists.mp e4
              obtain ⟨i', hi't, nd', hnd', ⟨tv, rfl⟩, n', hn', hne', htd'⟩ := soq.ok.1 td v hv
              obtain ⟨nd'', hnd'', hval'⟩ := htl i' hi't
              rw [hnd'] at hnd''; cases hnd''
              refine T_execs_cons ?_
              with_reducible refine T_Assign_Sub ?_
              walk_at "n"
              refine T_Attr ?_
              walk_at "n"
              refine T_getattr (X22.glob.K.keeps X22.keep) (X22.keep _ _ soq.inst) (X22.keep _ _ soq.dict) soq.ns soq.mo ?_ (by kernel_rfl) (by kernel_rfl) (by kernel_rfl) rfl
              walk_at "n"
              refine S_dict (X22.keep _ _ soq.own) soq.ownD hv ?_
              have hfl : fk.length ≤ 14 := by
                have := hfo.len (l := nds.map Nd.key) fun s hs => by
                  obtain ⟨j, nj, _, hnj, e⟩ := inv2.d s hs
                  rw [e]; exact List.mem_map_of_mem (List.mem_of_getElem? hnj)
                simp at this; omega
              refine S_setDict X22 (fun _ => .app ownq (.there (.there .here))) hfo (by omega) fun h23 fo' hfo' _ X23 => ?_
              walk_at "n"
              have hF' : ∀ t, valueAt (stored fk nd'.key (.bool true)) t ≠ none ↔ (t = nd'.key ∨ valueAt fk t ≠ none) := fun t => by
                rw [valueAt_stored]
                by_cases h : t = nd'.key
                · simp [h]
                · simp [h]
              have hEi : Ed es mN i' := by
                rcases hsay with ⟨j, hjg, hs⟩ | e | e
                · obtain ⟨nj, hnj⟩ := hes2 hgsm hjg
                  obtain ⟨hvj, n, hn, hne, htd2⟩ := hnofn j nj hs hnj
                  have := pk.own i' j nd' nj n' n hnd' hnj hval' hvj hn' hn hne' hne (htd'.symm.trans htd2)
                  rw [this]; exact ⟨gsm, hgsm, hjg⟩
                · rw [hwt] at e; unfold lockKey at e; injection e with e _; exact absurd e hwd
                · rw [hwt] at e; injection e with _ e; injection e with e
                  exact absurd (e.symm.trans htd') (pk.late ndm nd' n' (List.mem_of_getElem? hmN) (List.mem_of_getElem? hnd') hn')
              refine ⟨gq, _, _, Sub.refl _, X23, fo', _, wvs, wk', ws, rfl, hfo', hwv, by walk_at "lk", by walk_at "lk", by walk_at "lk", by walk_at "lk", sgq, by omega, ⟨inv2.a, inv2.b, inv2.c, ?_, ?_⟩, ?_⟩
              · intro t ht
                rcases (hF' t).mp ht with rfl | ht
                · exact ⟨i', nd', ⟨hi't, mN, hFm, hEi⟩, hnd', rfl⟩
                · exact inv2.d t ht
              · intro m nd hm hmm hp j nj hj hnj hv hjt
                exact (hF' _).mpr (.inr (inv2.e m nd hm hmm hp j nj hj hnj hv hjt))
              · refine step (fun _ h => h) (fun t h => (hF' t).mpr (.inr h)) fun j nj hs hnj => ?_
                obtain ⟨hvj, n, hn, hne, htd2⟩ := hnofn j nj hs hnj
                refine ⟨fun hv => (by rw [hvj] at hv; cases hv), fun _ _ => (hF' _).mpr (.inl ?_)⟩
                have := pk.own i' j nd' nj n' n hnd' hnj hval' hvj hn' hn hne' hne (htd'.symm.trans htd2)
                subst this
                rw [hnd'] at hnj; cases hnj; rfl
            · walk_at "n"
              refine ⟨gq, _, _, Sub.refl _, X22, fo, fk, wvs, wk', ws, rfl, hfo, hwv, by walk_at "lk", by walk_at "lk", by walk_at "lk", by walk_at "lk", sgq, by omega, inv2, ?_⟩
              refine step (fun _ h => h) (fun _ h => h) fun j nj hs hnj => ?_
              obtain ⟨hvj, n, hn, hne, htd2⟩ := hnofn j nj hs hnj
              refine ⟨fun hv => (by rw [hvj] at hv; cases hv), fun _ hjt => absurd ?_ (soq.ok.2 j hjt nj hnj n hn hne)⟩
              rw [← htd2]
              cases hvt : valueAt kvs td with
              | none => rfl
              | some v => rw [hvt] at e4; cases e4
        · rintro gq mq ledq hq1 sq ⟨fo, fk, wvs, wk', ws, rfl, hfo, hwv, msq, mfq, mmq, mwq, sgq, hwl, inv2, hpr⟩ Xq
          walk_at "n"
          rw [List.take_length] at hpr
          refine ⟨ws.length + (20 - (stored mkk s (.bool true)).length) * 25, gq, _, _, ?_, s2.trans sgq, Xq, fo, fk, mo', _, wvs, wk', ws, rfl, hmo', hfo, hwv, msq, mfq, mmq, mwq, sg2.trans sgq, ⟨?_, ?_, ?_, inv2.d, ?_⟩, rfl, ?_⟩
          · rw [hlen']; simp; omega
          · intro t ht
            exact inv2.a t (ht.imp id fun h => (hM' t).mp h)
          · intro nd hnd
            exact (inv2.b nd hnd).imp id fun h => (hM' _).mpr h
          · intro m nd hm hmm _ b nb hb hnb hv
            by_cases hp : nd.key = s
            · obtain ⟨mN, ndm, gsm, hmN, hsk, hgsm, hMO⟩ := hxs.resolve_left (fun h => h.2 m nd hm hp.symm)
              have hmm2 : m = mN := by
                by_cases h : m = mN
                · exact h
                · exact absurd (hp.trans hsk) (key_ne pk.keys hm hmN h)
              subst hmm2
              obtain ⟨gs', hgs', hbg⟩ := hb
              rw [hgsm] at hgs'; cases hgs'
              obtain ⟨y, hy, hsy⟩ := hMO.2 b hbg
              exact ((hpr y hy b nb hsy hnb).1 hv).imp id fun h => (hM' _).mpr h
            · refine (inv2.c m nd hm ((hM' _).mp hmm) (fun ⟨nd', h1, h2⟩ => hp ?_) b nb hb hnb hv).imp id fun h => (hM' _).mpr h
              rw [hm] at h1; cases h1; exact h2
          · intro m nd hm hmm _ j nj hj hnj hv hjt
            by_cases hp : nd.key = s
            · obtain ⟨mN, ndm, gsm, hmN, hsk, hgsm, hMO⟩ := hxs.resolve_left (fun h => h.2 m nd hm hp.symm)
              have hmm2 : m = mN := by
                by_cases h : m = mN
                · exact h
                · exact absurd (hp.trans hsk) (key_ne pk.keys hm hmN h)
              subst hmm2
              obtain ⟨gs', hgs', hbg⟩ := hj
              rw [hgsm] at hgs'; cases hgs'
              obtain ⟨y, hy, hsy⟩ := hMO.2 j hbg
              exact (hpr y hy j nj hsy hnj).2 hv hjt
            · refine inv2.e m nd hm ((hM' _).mp hmm) (fun ⟨nd', h1, h2⟩ => hp ?_) j nj hj hnj hv hjt
              rw [hm] at h1; cases h1; exact h2
          · rw [hlen']; simp at hk501 ⊢; omega
      · have hM : valueAt mkk s ≠ none := by
          intro e3; rw [e3] at e2; cases e2
        walk_at "n"
        refine ⟨ws0.length + (20 - mkk.length) * 25, g1, _, _, by simp, Sub.refl _, X13, fo, fk, mo, mkk, wv0, wk + 1, ws0, rfl, hmo, hfo, hwv0, by walk_at "lk", by walk_at "lk", by walk_at "lk", by walk_at "lk", sg1, ⟨?_, ?_, ?_, inv.d, inv.e⟩, rfl, by simp at hk501; omega⟩
        · intro t ht
          exact inv.a t (ht.imp (fun h => List.mem_append.mpr (.inl h)) id)
        · intro nd hnd
          rcases inv.b nd hnd with h | h
          · rcases List.mem_append.mp h with h | h
            · exact .inl h
            · rw [List.mem_singleton.mp h]; exact .inr hM
          · exact .inr h
        · intro m nd hm hmm hp b nb hb hnb hv
          rcases inv.c m nd hm hmm hp b nb hb hnb hv with h | h
          · rcases List.mem_append.mp h with h | h
            · exact .inl h
            · rw [List.mem_singleton.mp h]; exact .inr hM
          · exact .inr h
    · have hws : ws = [] := by
        have h0 : wvs = [] := by simpa using e
        exact List.length_eq_zero_iff.mp (by rw [← hwv.1, h0]; rfl)
      subst hws
      walk_at "n"
      have hall : ∀ m, FnP nds es i m → ∀ nd, nds[m]? = some nd → valueAt mkk nd.key ≠ none := by
        intro m hm
        induction hm with
        | refl => intro nd hnd; exact (inv.b nd hnd).resolve_left (by simp)
        | step hp he hb hv ih =>
          intro nd hnd
          rw [hb] at hnd; cases hnd
          obtain ⟨gs, hgs, hbg⟩ := he
          obtain ⟨a, b', ha, hb', _⟩ := (hes.2 _ gs hgs).2 _ hbg
          exact (inv.c _ a ha (ih a ha) (fun h => h) _ _ ⟨gs, hgs, hbg⟩ hb hv).resolve_left (by simp)
      have hfl : fk.length ≤ 14 := by
        have := hfo.len (l := nds.map Nd.key) fun s hs => by
          obtain ⟨j, nj, _, hnj, e⟩ := inv.d s hs
          rw [e]; exact List.mem_map_of_mem (List.mem_of_getElem? hnj)
        simp at this; omega
      refine hq fd fo fk h11 (hKeep _ (sg1.trans X11.keep)) (yg X11 sg1 (p := (fd, fo)) (by simp)) (X11.at_ (fd, fo) (by walk_at "mm")) hfo lofd hfl fun s => ⟨inv.d s, ?_⟩
      rintro ⟨j, nj, ⟨hjt, m, hm, he⟩, hnj, rfl⟩
      obtain ⟨gs, hgs, hjg⟩ := id he
      obtain ⟨a, b', ha, hb', _⟩ := (hes.2 _ gs hgs).2 _ hjg
      obtain ⟨nd', hnd', hv'⟩ := htl j hjt
      rw [hnj] at hnd'; cases hnd'
      exact inv.e m a ha (hall m hm a ha) (fun h => h) j nj he hnj hv' hjt
end
section
open PySem PySem.W PyProof.Rows PySem.Calls PyProof.V PySem.Spec
set_option Elab.async false
set_option maxRecDepth 100000
set_option maxHeartbeats 4000000
set_option linter.unusedVariables false

inductive Plus (R : Nat → Nat → Prop) (i : Nat) : Nat → Prop
  | one {j} : R i j → Plus R i j
  | step {m j} : Plus R i m → R m j → Plus R i j
def KeySet (nds : List Nd) (P : Nat → Prop) (fk : List (Str × Value)) : Prop := ∀ s, valueAt fk s ≠ none ↔ ∃ j nj, P j ∧ nds[j]? = some nj ∧ s = nj.key
def NdV (C : Cx) (g : Heap) (nds : List Nd) (R : Nat → Nat → Prop) (i : Nat) (v : Value) : Prop := E3 fun d o fk => A6 (v = .ref d) (g.get? d = some o) (SD C o fk) (Lo d) (fk.length ≤ 14) (KeySet nds (R i) fk)
theorem NdV.mono {C : Cx} {g g' : Heap} {nds : List Nd} {R : Nat → Nat → Prop} {i : Nat} {v : Value} (s : Sub g g') (x : NdV C g nds R i v) : NdV C g' nds R i v := let ⟨d, o, fk, a, b, r1, r2, r3, r4⟩ := x; ⟨d, o, fk, a, s _ _ b, r1, r2, r3, r4⟩
def NeedsK (C : Cx) (g : Heap) (nds : List Nd) (tl : List Nat) (R : Nat → Nat → Prop) (nk : List (Str × Value)) : Prop := ∀ i ∈ tl, ∀ nd, nds[i]? = some nd → ∃ w, valueAt nk nd.key = some w ∧ NdV C g nds R i w
theorem NeedsK.mono {C : Cx} {g g' : Heap} {nds : List Nd} {tl : List Nat} {R : Nat → Nat → Prop} {nk : List (Str × Value)} (s : Sub g g') (x : NeedsK C g nds tl R nk) : NeedsK C g' nds tl R nk := fun i hi nd hn => let ⟨w, a, b⟩ := x i hi nd hn; ⟨w, a, b.mono s⟩

theorem keys_strs {ws : List Value} {kvs : List (Str × Value)} (hl : ws.length = kvs.length) (h : ∀ (j : Nat) v, ws[j]? = some v → ∃ key x t, kvs[j]? = some (key, x) ∧ v = .str key t) : All2 IsS ws (kvs.map (·.1)) := by
  refine ⟨by simp [hl], fun i v x hv hx => ?_⟩
  obtain ⟨key, y, t, h1, rfl⟩ := h i v hv
  rw [List.getElem?_map, h1] at hx
  cases hx
  exact ⟨t, rfl⟩
theorem mem_keys {kvs : List (Str × Value)} {s : Str} : s ∈ kvs.map (·.1) ↔ valueAt kvs s ≠ none := by
  unfold valueAt
  rw [ne_eq, Option.map_eq_none_iff, List.find?_eq_none]
  constructor
  · intro h e
    obtain ⟨p, hp, rfl⟩ := List.mem_map.mp h
    exact e p hp (by simp)
  · intro h
    refine Classical.byContradiction fun hn => h fun p hp e => hn ?_
    have : p.1 = s := by simpa using e
    exact List.mem_map.mpr ⟨p, hp, this⟩

structure InvW (nds : List Nd) (R : Nat → Nat → Prop) (i : Nat) (ws : List Str) (F : Str → Prop) : Prop where
  a : ∀ s, (s ∈ ws ∨ F s) → ∃ m nd, Plus R i m ∧ nds[m]? = some nd ∧ s = nd.key
  b : ∀ m nd, R i m → nds[m]? = some nd → nd.key ∈ ws ∨ F nd.key
  c : ∀ m nd, nds[m]? = some nd → F nd.key → ∀ b nb, R m b → nds[b]? = some nb → nb.key ∈ ws ∨ F nb.key

theorem whole_ok {C : Cx} {A : Around} {E : Value → Heap → Prop} {g h : Heap} {nds : List Nd} {tl : List Nat} {R : Nat → Nat → Prop} {sv : Value} {na : Addr} {no : Obj} {nk : List (Str × Value)} {i : Nat} {ndi : Nd} {t0 : Tok} {Q : Value → Heap → Prop}
    (hA : Lv 1 A) (hG : Glob C g) (hk : Sub g h) (hna : g.get? na = some no) (hno : SD C no nk) (hnK : NeedsK C g nds tl R nk) (hkn : (nds.map Nd.key).Nodup) (hR : ∀ i j, R i j → j ∈ tl) (htl : ∀ j ∈ tl, j < nds.length) (hz : nds.length ≤ 14) (hit : i ∈ tl) (hi : nds[i]? = some ndi)
    (hq : ∀ d o fk h', Keep [] h h' → h.get? d = none → h'.get? d = some o → SD C o fk → Lo d → KeySet nds (Plus R i) fk → Q (.ref d) h') : T C A (call (.ref 82) [sv, .ref na, .str ndi.key t0] []) Q E h := by
  refine T_callC (T_call0 82 [(S_ "self", sv), (S_ "needs", .ref na), (S_ "key", .str ndi.key t0)] [] hG hk hA.room (by simp) (by simp) (by simp) ⟨_, _, _, rfl⟩ (by kernel_rfl) (by kernel_rfl) (by kernel_rfl) (by kernel_rfl) (fun _ => by kernel_rfl) (fun _ => by kernel_rfl) (by kernel_rfl) (by kernel_rfl) (by kernel_rfl) (by kernel_rfl) ?_)
  intro gc h1 L hgc hgS hKeep X
  have hA1 : Lv 0 (A.deeper (envF C 82 L)) := hA.deeper _
  generalize A.deeper (envF C 82 L) = A1 at hA1 ⊢
  have e1 : nm [(S_ "self", sv), (S_ "needs", .ref na), (S_ "key", .str ndi.key t0)] (S_ "needs") = some (.ref na) := by kernel_rfl
  have e2 : nm [(S_ "self", sv), (S_ "needs", .ref na), (S_ "key", .str ndi.key t0)] (S_ "key") = some (.str ndi.key t0) := by kernel_rfl
  generalize nm [(S_ "self", sv), (S_ "needs", .ref na), (S_ "key", .str ndi.key t0)] = m0 at X e1 e2
  have yg : ∀ {g1 m1 led1 h2} (X1 : W C g1 L m1 led1 h2) (s : Sub gc g1) {p : Addr × Obj}, p ∈ led1 → h.get? p.1 = none := fun X1 s p hp => X1.young (S := []) hp s hgS (by simp)
  obtain ⟨w0, hw0, d0, o0, fk0, rfl, hd0, hfo0, hlo0, hfl0, hks0⟩ := hnK i hit ndi hi
  have hnac := hgc _ _ hna
  have hall : ∀ m, Plus R i m → m ∈ tl := fun m hm => by cases hm with
    | one h => exact hR _ _ h
    | step _ h => exact hR _ _ h
  refine T_execs_cons ?_
  refine T_Swap (names := [Str.ofString "found", Str.ofString "waiting"]) hA1.hd ?_
  walk_at "tup"
  walk_at "spl"
  ((with_reducible refine T_DctX (by assumption) ?_))
  intro h2 fd X2 lofd _
  walk_at "spl"
  ((with_reducible refine T_B1 (x := Str.ofString "list") (f := .type "list") (by assumption) (by kernel_rfl) (by kernel_rfl) Kp.type ?_))
  walk_at "n"
  ((refine S_dict (by walk_at "at") (by assumption) (by assumption) ?_ (by kernel_rfl)))
  refine C_listD hA1.hd X2 (X2.keep _ _ (hgc _ _ hd0)) hfo0 hlo0 (by omega) fun h3 wl wvs0 wk0 X3 _ hwl0 hws0 => ?_
  walk_at "end"
  intro h4 ta X4 _
  refine ⟨_, _, _, _, _, _, rfl, X4.drop1, X4.at_ _ (.head _), rfl, fun h5 X5 => ?_⟩
  refine T_order_name ?_
  walk_at "st"
  intro h6 X6
  refine T_order_name ?_
  walk_at "st"
  intro h7 X7
  refine T_order_nil ?_
  walk_at "n"
  refine T_While ?_
  refine TL_while X7 (fun k g' m led => E5 fun fo fk wvs wk ws => A10 (led = [(wl, listO wvs wk), (fd, fo)]) (SD C fo fk) (All2 IsS wvs ws) (m (S_ "needs") = some (.ref na)) (m (S_ "found") = some (.ref fd)) (m (S_ "waiting") = some (.ref wl)) (Sub gc g') (InvW nds R i ws (fun s => valueAt fk s ≠ none)) (k = ws.length + (20 - fk.length) * 25) (k ≤ 514)) (fk0.length + 20 * 25) ?_ ?_
  · refine ⟨dictO, [], wvs0, wk0, fk0.map (·.1), rfl, SD.empty, keys_strs hwl0 hws0, by walk_at "lk", by walk_at "lk", by walk_at "lk", Sub.refl _, ⟨?_, ?_, ?_⟩, by simp, by omega⟩
    · rintro s (hs | hs)
      · obtain ⟨j, nj, h1, h2, h3⟩ := (hks0 s).mp (mem_keys.mp hs)
        exact ⟨j, nj, .one h1, h2, h3⟩
      · exact absurd rfl hs
    · intro m nd hm hnd
      exact .inl (mem_keys.mpr ((hks0 _).mpr ⟨m, nd, hm, hnd, rfl⟩))
    · intro m nd _ hm; exact absurd rfl hm
  · rintro k g1 m1 led1 h10 Kq hKq s1 ⟨fo, fk, wvs, wk, ws, rfl, hfo, hwv, mn, mf, mw, sg1, inv, rfl, hk514⟩ X10
    have hfl : fk.length ≤ 14 := by
      have := hfo.len (l := nds.map Nd.key) fun s hs => by
        obtain ⟨m, nd, _, hnd, e⟩ := inv.a s (.inr hs)
        rw [e]; exact List.mem_map_of_mem (List.mem_of_getElem? hnd)
      simp at this; omega
    walk_at "n"
    walk_at "lst"
    walk_at "end"
    intro h11 na2 X11 _
    refine R_neN (X11.at_ _ (.tail _ (.head _))) (LX.mk (k := wk)).lw (X11.at_ _ (.head _)) (LX.mk (k := 0)).lw hA1 ?_
    have X11 := X11.drop1
    walk_at "n"
    refine ⟨fun e => ?_, fun e => ?_⟩
    · have hne : wvs ≠ [] := by rintro rfl; cases e
      obtain ⟨wv0, y, rfl⟩ : ∃ l y, wvs = l ++ [y] := ⟨wvs.dropLast, wvs.getLast hne, (List.dropLast_concat_getLast hne).symm⟩
      have hwsne : ws ≠ [] := by rintro rfl; have := hwv.1; simp at this
      obtain ⟨ws0, s, rfl⟩ : ∃ l y, ws = l ++ [y] := ⟨ws.dropLast, ws.getLast hwsne, (List.dropLast_concat_getLast hwsne).symm⟩
      have hl0 : wv0.length = ws0.length := by have := hwv.1; simpa using this
      have hwv0 : All2 IsS wv0 ws0 := by
        have := hwv.take wv0.length
        rwa [List.take_left, hl0, List.take_left] at this
      obtain ⟨ts, rfl⟩ : IsS y s := hwv.2 wv0.length y s (by simp) (by rw [hl0]; simp)
      have hw0l : ws0.length ≤ 514 := by simp at hk514; omega
      refine T_execs_cons ?_
      with_reducible refine T_Assign_Name ?_
      refine T_L0 F.slot_list_pop F.type_list_pop ?_
      walk_at "n"
      refine ⟨wl, wv0 ++ [.str s ts], wk, rfl, X11.at_ _ (.head _), M_pop X11 .here (by omega) fun h12 X12 => ?_⟩
      walk_at "st"
      intro h13 X13
      obtain ⟨m, nd, hpm, hnd, rfl⟩ := inv.a s (.inl (List.mem_append.mpr (.inr (.head _))))
      refine T_execs_cons (T_If ?_)
      walk_at "n"
      refine D_notIn (X13.at_ (fd, fo) (by walk_at "mm")) hfo lofd ?_
      walk_at "n"
      refine ⟨fun e2 => ?_, fun e2 => ?_⟩
      · have hnM : valueAt fk nd.key = none := by simpa using e2
        refine T_execs_cons ?_
        with_reducible refine T_Assign_Sub ?_
        walk_at "n"
        refine S_setDict X13 (fun _ => .there .here) hfo (by omega) fun h14 fo' hfo' _ X14 => ?_
        have hst : stored fk nd.key (.bool true) = fk ++ [(nd.key, .bool true)] := stored_absent hnM _
        have hlen' : (stored fk nd.key (.bool true)).length = fk.length + 1 := by rw [hst]; simp
        have hM' : ∀ t, valueAt (stored fk nd.key (.bool true)) t ≠ none ↔ (t = nd.key ∨ valueAt fk t ≠ none) := fun t => by
          rw [valueAt_stored]
          by_cases h : t = nd.key
          · simp [h]
          · simp [h]
        obtain ⟨w1, hw1, d1, o1, fk1, rfl, hd1, hfo1, hlo1, hfl1, hks1⟩ := hnK m (hall m hpm) nd hnd
        have hna1 := sg1 _ _ hnac
        refine T_execs_cons (T_Expr (T_L1 F.slot_list_extend F.type_list_extend ?_))
        walk_at "n"
        refine ⟨wl, wv0, _, rfl, X14.at_ _ (.head _), ?_⟩
        walk_at "n"
        ((refine S_dict (by walk_at "at") (by assumption) (by assumption) ?_ (by kernel_rfl)))
        have hwd : wl ≠ d1 := fun e => by
          have h1 := (X14.sep (wl, listO wv0 (wk + 1)) (.head _)).2
          have h2 := sg1 _ _ (hgc _ _ hd1)
          rw [← e] at h2
          rw [h2] at h1; cases h1
        refine M_extendD hA1.hd X14 (X14.keep _ _ (sg1 _ _ (hgc _ _ hd1))) hwd hfo1 hlo1 (by omega) fun h15 wvs1 wk1 X15 hl1 hs1 => ?_
        refine ⟨.inl rfl, ?_⟩
        walk_at "n"
        have hl1' : wvs1.length ≤ 14 := by omega
        refine ⟨(ws0 ++ fk1.map (·.1)).length + (20 - (stored fk nd.key (.bool true)).length) * 25, g1, _, _, ?_, Sub.refl _, X15, fo', _, wv0 ++ wvs1, wk1, ws0 ++ fk1.map (·.1), rfl, hfo', hwv0.append (keys_strs hl1 hs1), by walk_at "lk", by walk_at "lk", by walk_at "lk", sg1, ⟨?_, ?_, ?_⟩, rfl, ?_⟩
        · rw [hlen']; simp; omega
        · rintro t (ht | ht)
          · rcases List.mem_append.mp ht with ht | ht
            · exact inv.a t (.inl (List.mem_append.mpr (.inl ht)))
            · obtain ⟨j, nj, h1, h2, h3⟩ := (hks1 t).mp (mem_keys.mp ht)
              exact ⟨j, nj, .step hpm h1, h2, h3⟩
          · rcases (hM' t).mp ht with rfl | ht
            · exact ⟨m, nd, hpm, hnd, rfl⟩
            · exact inv.a t (.inr ht)
        · intro m' nd' hm' hnd'
          rcases inv.b m' nd' hm' hnd' with h | h
          · rcases List.mem_append.mp h with h | h
            · exact .inl (List.mem_append.mpr (.inl h))
            · exact .inr ((hM' _).mpr (.inl (List.mem_singleton.mp h)))
          · exact .inr ((hM' _).mpr (.inr h))
        · intro m' nd' hnd' hF b nb hb hnb
          rcases (hM' _).mp hF with e3 | hF
          · have : m' = m := by
              by_cases h : m' = m
              · exact h
              · exact absurd e3 (key_ne hkn hnd' hnd h)
            subst this
            exact .inl (List.mem_append.mpr (.inr (mem_keys.mpr ((hks1 _).mpr ⟨b, nb, hb, hnb, rfl⟩))))
          · rcases inv.c m' nd' hnd' hF b nb hb hnb with h | h
            · rcases List.mem_append.mp h with h | h
              · exact .inl (List.mem_append.mpr (.inl h))
              · exact .inr ((hM' _).mpr (.inl (List.mem_singleton.mp h)))
            · exact .inr ((hM' _).mpr (.inr h))
        · rw [hlen']; simp at hk514 ⊢; omega
      · have hM : valueAt fk nd.key ≠ none := by
          intro e3; rw [e3] at e2; cases e2
        walk_at "n"
        refine ⟨ws0.length + (20 - fk.length) * 25, g1, _, _, by simp, Sub.refl _, X13, fo, fk, wv0, wk + 1, ws0, rfl, hfo, hwv0, by walk_at "lk", by walk_at "lk", by walk_at "lk", sg1, ⟨?_, ?_, ?_⟩, rfl, by simp at hk514; omega⟩
        · intro t ht
          exact inv.a t (ht.imp (fun h => List.mem_append.mpr (.inl h)) id)
        · intro m' nd' hm' hnd'
          rcases inv.b m' nd' hm' hnd' with h | h
          · rcases List.mem_append.mp h with h | h
            · exact .inl h
            · rw [List.mem_singleton.mp h]; exact .inr hM
          · exact .inr h
        · intro m' nd' hnd' hF b nb hb hnb
          rcases inv.c m' nd' hnd' hF b nb hb hnb with h | h
          · rcases List.mem_append.mp h with h | h
            · exact .inl h
            · rw [List.mem_singleton.mp h]; exact .inr hM
          · exact .inr h
    · have hws : ws = [] := by
        have h0 : wvs = [] := by simpa using e
        exact List.length_eq_zero_iff.mp (by rw [← hwv.1, h0]; rfl)
      subst hws
      walk_at "n"
      refine hq fd fo fk h11 (hKeep _ (sg1.trans X11.keep)) (yg X11 sg1 (p := (fd, fo)) (by simp)) (X11.at_ (fd, fo) (by walk_at "mm")) hfo lofd fun s => ⟨fun hs => inv.a s (.inr hs), ?_⟩
      have hcl : ∀ m, Plus R i m → ∀ nd, nds[m]? = some nd → valueAt fk nd.key ≠ none := by
        intro m hm
        induction hm with
        | one h => intro nd hnd; exact (inv.b _ nd h hnd).resolve_left (by simp)
        | step hp h ih =>
          rename_i m' j'
          intro nd hnd
          have hm't := hall m' hp
          obtain ⟨nd', hnd'⟩ : ∃ nd', nds[m']? = some nd' := ⟨nds[m']'(htl m' hm't), by simp [htl m' hm't]⟩
          exact (inv.c m' nd' hnd' (ih nd' hnd') j' nd h hnd).resolve_left (by simp)
      rintro ⟨j, nj, hj, hnj, rfl⟩
      exact hcl j hj nj hnj
end
section
open PySem PySem.W PyProof.Rows
set_option Elab.async false
set_option maxRecDepth 100000
set_option maxHeartbeats 4000000
set_option linter.unusedVariables false

theorem rowOf_succ (n : Nat) (gs : List Nat) : rowOf (n + 1) gs = rowOf n gs + (if gs.contains n = true then 2 ^ n else 0) := by
  unfold rowOf
  rw [List.range_succ, List.filter_append, filter_one, List.map_append, List.sum_append]
  split <;> simp
theorem rowOf_lt (gs : List Nat) : ∀ n, rowOf n gs < 2 ^ n
  | 0 => by simp [rowOf]
  | n + 1 => by
    rw [rowOf_succ, Nat.pow_succ]
    have := rowOf_lt gs n
    split <;> omega
theorem rowOf_bit (gs : List Nat) (j : Nat) : ∀ n, (rowOf n gs).testBit j = (decide (j < n) && gs.contains j)
  | 0 => by simp [rowOf]
  | n + 1 => by
    rw [rowOf_succ]
    have ih := rowOf_bit gs j n
    by_cases hc : gs.contains n = true
    · rw [if_pos hc, Nat.add_comm]
      by_cases h1 : j < n
      · rw [Nat.testBit_two_pow_add_gt h1, ih]
        have h2 : j < n + 1 := by omega
        simp [h1, h2]
      · by_cases h2 : j = n
        · subst h2
          rw [Nat.testBit_two_pow_add_eq, ih, hc]
          simp
        · have h3 : ¬ j < n + 1 := by omega
          rw [Nat.testBit_lt_two_pow]
          · simp [h3]
          · have := rowOf_lt gs n
            have h4 : 2 ^ (n + 1) ≤ 2 ^ j := Nat.pow_le_pow_right (by decide) (by omega)
            rw [Nat.pow_succ] at h4
            omega
    · rw [if_neg hc, Nat.add_zero, ih]
      have hc' : gs.contains n = false := by simpa using hc
      by_cases h2 : j = n
      · subst h2; rw [hc']; simp
      · by_cases h1 : j < n
        · have h3 : j < n + 1 := by omega
          simp [h1, h3]
        · have h3 : ¬ j < n + 1 := by omega
          simp [h1, h3]

theorem bit_wIn (k : Nat) (l : List Nat) (i i' j : Nat) (hi : i < l.length) : bit (wIn k l i) i' j = if i' = i then (bit l i j || (bit l i k && bit l k j)) else bit l i' j := by
  unfold wIn
  by_cases hb : (l.getD i 0).testBit k = true
  · rw [if_pos hb]
    have hb' : bit l i k = true := hb
    by_cases h : i' = i
    · subst h
      rw [if_pos rfl, hb', Bool.true_and]
      unfold bit
      rw [List.getD_eq_getElem?_getD, List.getElem?_set_self hi]
      simp [Nat.testBit_or, List.getD_eq_getElem?_getD]
    · rw [if_neg h]
      unfold bit
      rw [List.getD_eq_getElem?_getD, List.getElem?_set_ne (fun e => h e.symm), List.getD_eq_getElem?_getD]
  · rw [if_neg hb]
    have hb' : bit l i k = false := by unfold bit; simpa using hb
    by_cases h : i' = i
    · subst h; rw [if_pos rfl, hb']; simp
    · rw [if_neg h]

theorem bit_inner (k : Nat) (l : List Nat) (i j : Nat) : ∀ r, r ≤ l.length → bit ((List.range r).foldl (wIn k) l) i j = if i < r then (bit l i j || (bit l i k && bit l k j)) else bit l i j := by
  have gen : ∀ r, r ≤ l.length → ∀ i j, bit ((List.range r).foldl (wIn k) l) i j = if i < r then (bit l i j || (bit l i k && bit l k j)) else bit l i j := by
    intro r
    induction r with
    | zero => intro _ i j; simp
    | succ r ih =>
      intro hr i j
      rw [foldr_succ]
      have ih := ih (by omega)
      generalize hl' : (List.range r).foldl (wIn k) l = l' at ih
      have hlen : l'.length = l.length := by rw [← hl', fold_len (wIn_len k)]
      rw [bit_wIn k l' r i j (by omega)]
      have hk : ∀ j, bit l' k j = bit l k j := fun j => by
        rw [ih k j]
        split
        · cases bit l k j <;> simp
        · rfl
      by_cases h : i = r
      · subst h
        rw [if_pos rfl, if_pos (by omega), hk, ih i j, ih i k, if_neg (by omega), if_neg (by omega)]
      · rw [if_neg h, ih i j]
        by_cases h1 : i < r
        · rw [if_pos h1, if_pos (by omega)]
        · rw [if_neg h1, if_neg (by omega)]
  intro r hr; exact gen r hr i j

theorem bit_wOut (n : Nat) (l : List Nat) (hl : l.length = n) (k i j : Nat) (hi : i < n) : bit (wOut n l k) i j = (bit l i j || (bit l i k && bit l k j)) := by
  unfold wOut
  rw [bit_inner k l i j n (by omega), if_pos hi]

/-- the walk's state behind the first k rounds -/
def ledK (es : List (List Nat)) (k : Nat) : List Nat := (List.range k).foldl (wOut es.length) (es.map (rowOf es.length))
theorem ledK_len (es : List (List Nat)) (k : Nat) : (ledK es k).length = es.length := by unfold ledK; rw [fold_len (fun l i => wOut_len _ l i), List.length_map]
theorem ledK_succ (es : List (List Nat)) (k i j : Nat) (hi : i < es.length) : bit (ledK es (k + 1)) i j = (bit (ledK es k) i j || (bit (ledK es k) i k && bit (ledK es k) k j)) := by
  have : ledK es (k + 1) = wOut es.length (ledK es k) k := foldr_succ _ _ _
  rw [this, bit_wOut es.length _ (ledK_len es k) k i j hi]
theorem ledK_zero (es : List (List Nat)) (hes : ∀ (i : Nat) gs, es[i]? = some gs → ∀ j ∈ gs, j < es.length) (i j : Nat) (hi : i < es.length) : bit (ledK es 0) i j = true ↔ Ed es i j := by
  show bit (es.map (rowOf es.length)) i j = true ↔ _
  unfold bit
  have hg : es[i]? = some es[i] := List.getElem?_eq_getElem hi
  rw [List.getD_eq_getElem?_getD, List.getElem?_map, hg]
  show (rowOf es.length es[i]).testBit j = true ↔ _
  rw [rowOf_bit]
  simp only [Bool.and_eq_true, decide_eq_true_eq, List.contains_iff_mem]
  constructor
  · rintro ⟨_, h⟩; exact ⟨es[i], hg, h⟩
  · rintro ⟨gs, h1, h2⟩
    rw [hg] at h1; cases h1
    exact ⟨hes i _ hg j h2, h2⟩

theorem Plus.trans {R : Nat → Nat → Prop} {i m j : Nat} (a : Plus R i m) (b : Plus R m j) : Plus R i j := by
  induction b with
  | one h => exact .step a h
  | step _ h ih => exact .step ih h

theorem led_plus (es : List (List Nat)) (hes : ∀ (i : Nat) gs, es[i]? = some gs → ∀ j ∈ gs, j < es.length) (i j : Nat) (hi : i < es.length) : bit (ledOf es) i j = true ↔ Plus (Ed es) i j := by
  have hE : ledOf es = ledK es es.length := rfl
  rw [hE]
  have sound : ∀ k, k ≤ es.length → ∀ i j, i < es.length → bit (ledK es k) i j = true → Plus (Ed es) i j := by
    intro k
    induction k with
    | zero => intro _ i j hi h; exact .one ((ledK_zero es hes i j hi).mp h)
    | succ k ih =>
      intro hk i j hi h
      rw [ledK_succ es k i j hi] at h
      rcases (Bool.or_eq_true _ _).mp h with h | h
      · exact ih (by omega) i j hi h
      · obtain ⟨h1, h2⟩ := (Bool.and_eq_true _ _).mp h
        exact (ih (by omega) i k hi h1).trans (ih (by omega) k j (by omega) h2)
  have mono : ∀ k i j, i < es.length → bit (ledK es 0) i j = true → bit (ledK es k) i j = true := by
    intro k
    induction k with
    | zero => intro i j _ h; exact h
    | succ k ih => intro i j hi h; rw [ledK_succ es k i j hi, ih i j hi h]; rfl
  have closed : ∀ k, k ≤ es.length → ∀ m, m < k → ∀ i j, i < es.length → bit (ledK es k) i m = true → bit (ledK es k) m j = true → bit (ledK es k) i j = true := by
    intro k
    induction k with
    | zero => intro _ m hm; omega
    | succ k ih =>
      intro hk m hm i j hi h1 h2
      have hml : m < es.length := by omega
      rw [ledK_succ es k i m hi] at h1
      rw [ledK_succ es k m j hml] at h2
      rw [ledK_succ es k i j hi]
      have ih := ih (by omega)
      by_cases hmk : m = k
      · subst hmk
        have a : bit (ledK es m) i m = true := by
          rcases (Bool.or_eq_true _ _).mp h1 with h | h
          · exact h
          · exact ((Bool.and_eq_true _ _).mp h).1
        have b : bit (ledK es m) m j = true := by
          rcases (Bool.or_eq_true _ _).mp h2 with h | h
          · exact h
          · exact ((Bool.and_eq_true _ _).mp h).2
        rw [a, b]; simp
      · have hmk' : m < k := by omega
        rcases (Bool.or_eq_true _ _).mp h1 with a | a <;> rcases (Bool.or_eq_true _ _).mp h2 with b | b
        · rw [ih m hmk' i j hi a b]; rfl
        · obtain ⟨b1, b2⟩ := (Bool.and_eq_true _ _).mp b
          rw [ih m hmk' i k hi a b1, b2]; simp
        · obtain ⟨a1, a2⟩ := (Bool.and_eq_true _ _).mp a
          rw [a1, ih m hmk' k j (by omega) a2 b]; simp
        · obtain ⟨a1, _⟩ := (Bool.and_eq_true _ _).mp a
          obtain ⟨_, b2⟩ := (Bool.and_eq_true _ _).mp b
          rw [a1, b2]; simp
  constructor
  · exact sound _ (Nat.le_refl _) i j hi
  · intro h
    induction h with
    | one h => exact mono _ _ _ hi ((ledK_zero es hes _ _ hi).mpr h)
    | step hp h ih =>
      rename_i m j'
      have hm : m < es.length := by
        cases hp with
        | one e => obtain ⟨gs, h1, h2⟩ := e; exact hes _ gs h1 _ h2
        | step _ e => obtain ⟨gs, h1, h2⟩ := e; exact hes _ gs h1 _ h2
      exact closed _ (Nat.le_refl _) m hm _ _ hi ih (mono _ _ _ hm ((ledK_zero es hes _ _ hm).mpr h))
end
section
open PySem PySem.W PyProof.Rows
set_option Elab.async false
set_option maxRecDepth 100000
set_option maxHeartbeats 4000000
set_option linter.unusedVariables false

/-- the told list of a package: its values -/
structure TellOk (nds : List Nd) (P : Str) (tl : List Nat) : Prop where
  mem : ∀ i, i ∈ tl ↔ ∃ nd, nds[i]? = some nd ∧ nd.val = true ∧ nd.pkg = P
  nodup : tl.Nodup
def PkgsOk (nds : List Nd) : Prop := ∀ nd ∈ nds, nd.pkg = S_ "p" ∨ nd.pkg = S_ "main"

section
variable {nds : List Nd} {es : List (List Nat)} {tl : List Nat} {P : Str}

theorem ed_ok (hes : EdgesOk nds nds.length es) {i j : Nat} (h : Ed es i j) : ∃ a b, nds[i]? = some a ∧ nds[j]? = some b ∧ goalOk nds a b := let ⟨gs, h1, h2⟩ := h; (hes.2 i gs h1).2 j h2
theorem fnp_plus {i m : Nat} (h : FnP nds es i m) : m = i ∨ Plus (Ed es) i m := by
  induction h with
  | refl => exact .inl rfl
  | step _ e _ _ ih =>
    rcases ih with rfl | ih
    · exact .inr (.one e)
    · exact .inr (.step ih e)
theorem found_to {i j : Nat} (h : Plus (Found nds es tl) i j) : Plus (Ed es) i j := by
  have one : ∀ {a b}, Found nds es tl a b → Plus (Ed es) a b := fun ⟨_, m, hm, he⟩ => by
    rcases fnp_plus hm with rfl | h
    · exact .one he
    · exact .step h he
  induction h with
  | one h => exact one h
  | step _ h ih => exact ih.trans (one h)

/-- p's nodes lead to p's alone -/
theorem p_closed (hes : EdgesOk nds nds.length es) {i j : Nat} {a b : Nd} (ha : nds[i]? = some a) (hb : nds[j]? = some b) (hp : a.pkg = S_ "p") (h : Plus (Ed es) i j) : b.pkg = S_ "p" := by
  induction h generalizing b with
  | one e =>
    obtain ⟨a', b', ha', hb', hg, _⟩ := ed_ok hes e
    rw [ha] at ha'; cases ha'
    rw [hb] at hb'; cases hb'
    rcases hg with hg | hg
    · rw [hp] at hg; exact absurd hg (by decide)
    · exact hg
  | step hpm e ih =>
    obtain ⟨a', b', ha', hb', hg, _⟩ := ed_ok hes e
    rw [hb] at hb'; cases hb'
    have := ih ha'
    rcases hg with hg | hg
    · rw [this] at hg; exact absurd hg (by decide)
    · exact hg

theorem found_plus (hes : EdgesOk nds nds.length es) (hpk : PkgsOk nds) (ht : TellOk nds P tl) {i j : Nat} (hi : i ∈ tl) (hj : j ∈ tl) : Plus (Found nds es tl) i j ↔ Plus (Ed es) i j := by
  refine ⟨found_to, fun h => ?_⟩
  obtain ⟨ni, hni, hvi, hPi⟩ := (ht.mem i).mp hi
  have key : ∀ m nm, Plus (Ed es) i m → nds[m]? = some nm → nm.pkg = P → (nm.val = false → ∃ v, (v = i ∨ Plus (Found nds es tl) i v) ∧ FnP nds es v m) ∧ (nm.val = true → Plus (Found nds es tl) i m) := by
    intro m nm hm
    induction hm generalizing nm with
    | one e =>
      rename_i m
      intro hnm hPm
      refine ⟨fun hv => ⟨i, .inl rfl, .step .refl e hnm hv⟩, fun hv => .one ⟨(ht.mem m).mpr ⟨nm, hnm, hv, hPm⟩, i, .refl, e⟩⟩
    | step hp e ih =>
      rename_i m' m
      intro hnm hPm
      obtain ⟨a', b', ha', hb', hg, _⟩ := ed_ok hes e
      rw [hnm] at hb'; cases hb'
      have hPa : a'.pkg = P := by
        rcases hpk ni (List.mem_of_getElem? hni) with hp0 | hp0
        · have := p_closed hes hni ha' hp0 hp
          rw [this, ← hPi, hp0]
        · rcases hg with hg | hg
          · rw [hg, ← hPi, hp0]
          · rw [hPm, ← hPi, hp0] at hg; exact absurd hg (by decide)
      obtain ⟨v, hv, hf⟩ : ∃ v, (v = i ∨ Plus (Found nds es tl) i v) ∧ FnP nds es v m' := by
        cases hva : a'.val with
        | false => exact (ih a' ha' hPa).1 hva
        | true => exact ⟨m', .inr ((ih a' ha' hPa).2 hva), .refl⟩
      refine ⟨fun hvm => ⟨v, hv, .step hf e hnm hvm⟩, fun hvm => ?_⟩
      have hfd : Found nds es tl v m := ⟨(ht.mem m).mpr ⟨nm, hnm, hvm, hPm⟩, m', hf, e⟩
      rcases hv with rfl | hv
      · exact .one hfd
      · exact .step hv hfd
  obtain ⟨nj, hnj, hvj, hPj⟩ := (ht.mem j).mp hj
  exact (key j nj h hnj hPj).2 hvj
end

/-- a finite order has a least element -/
theorem least (R : Nat → Nat → Bool) (htr : ∀ a b c, R a b = true → R b c = true → R a c = true) : ∀ (n : Nat) (l : List Nat), l.length ≤ n → l ≠ [] → (∀ x ∈ l, R x x = false) → ∃ x ∈ l, ∀ y ∈ l, R x y = false := by
  intro n
  induction n with
  | zero => intro l hl hne; exact absurd (List.length_eq_zero_iff.mp (by omega)) hne
  | succ n ih =>
    intro l hl hne hir
    obtain ⟨x, r, rfl⟩ := List.exists_cons_of_ne_nil hne
    by_cases h : (x :: r).filter (R x) = []
    · refine ⟨x, .head _, fun y hy => ?_⟩
      rw [List.filter_eq_nil_iff] at h
      simpa using h y hy
    · have hsub : ∀ y ∈ (x :: r).filter (R x), y ∈ x :: r := fun y hy => (List.mem_filter.mp hy).1
      have hlen : ((x :: r).filter (R x)).length ≤ n := by
        rw [List.filter_cons, hir x (.head _)]
        simp only [Bool.false_eq_true, if_false]
        have := List.length_filter_le (R x) r
        rw [List.length_cons] at hl
        omega
      obtain ⟨z, hz, hzm⟩ := ih _ hlen h fun y hy => hir y (hsub y hy)
      refine ⟨z, hsub z hz, fun y hy => ?_⟩
      cases hr : R z y with
      | false => rfl
      | true =>
        have := hzm y (List.mem_filter.mpr ⟨hy, htr _ _ _ (List.mem_filter.mp hz).2 hr⟩)
        rw [hr] at this; cases this

theorem free_iff (l left : List Nat) (one : Nat) : free l left one = true ↔ ∀ j ∈ left, bit l one j = false := by
  unfold free
  rw [List.isEmpty_iff, List.filter_eq_nil_iff]
  constructor
  · intro h j hj; simpa using h j hj
  · intro h j hj; rw [h j hj]; decide

/-- a free one is there -/
theorem free_ex {nds : List Nd} {es : List (List Nat)} {tl : List Nat} (hes : EdgesOk nds nds.length es) (hlen : es.length = nds.length) (htl : ∀ i ∈ tl, i < nds.length) (hac : ∀ j ∈ tl, bit (ledOf es) j j = false) (left : List Nat) (hne : left ≠ []) (hsub : ∀ j ∈ left, j ∈ tl) :
    ∃ one ∈ left, free (ledOf es) left one = true := by
  have hes' : ∀ (i : Nat) gs, es[i]? = some gs → ∀ j ∈ gs, j < es.length := fun i gs h j hj => by
    obtain ⟨_, b, _, hb, _⟩ := (hes.2 i gs h).2 j hj
    rw [hlen]; exact (List.getElem?_eq_some_iff.mp hb).1
  obtain ⟨x, hx, h⟩ := least (fun a b => decide (a < es.length) && bit (ledOf es) a b) (fun a b c h1 h2 => by
    simp only [Bool.and_eq_true, decide_eq_true_eq] at h1 h2 ⊢
    exact ⟨h1.1, (led_plus es hes' a c h1.1).mpr (((led_plus es hes' a b h1.1).mp h1.2).trans ((led_plus es hes' b c h2.1).mp h2.2))⟩) left.length left (Nat.le_refl _) hne (fun y hy => by rw [hac y (hsub y hy)]; simp)
  refine ⟨x, hx, (free_iff _ _ _).mpr fun y hy => ?_⟩
  have := h y hy
  have hxl : x < es.length := by rw [hlen]; exact htl x (hsub x hx)
  simpa [hxl] using this
end
section
open PySem PySem.W PyProof.Rows PySem.Calls PyProof.V PySem.Spec
set_option Elab.async false
set_option maxRecDepth 100000
set_option maxHeartbeats 4000000
set_option linter.unusedVariables false

/-- i is not yet done, and all its needs are -/
def Rdy (nds : List Nd) (R : Nat → Nat → Prop) (D : Str → Prop) (i : Nat) : Prop := (∀ nd, nds[i]? = some nd → ¬ D nd.key) ∧ ∀ j nj, R i j → nds[j]? = some nj → D nj.key

theorem ready_ok {C : Cx} {A : Around} {E : Value → Heap → Prop} {g h : Heap} {nds : List Nd} {tl : List Nat} {R : Nat → Nat → Prop} {wv kv : Value} {sx sdx : Addr} {od2 : Obj} {mi2 : Str → Option Value} {ow : Addr} {oo : Obj} {kvs : List (Str × Value)}
    {dd : Addr} {od : Obj} {dk : List (Str × Value)} {na : Addr} {no : Obj} {nk : List (Str × Value)} {p i0 : Nat} {Q : Value → Heap → Prop}
    (hA : Lv 1 A) (hG : Glob C g) (hk : Sub g h) (so : SOR C g nds tl wv kv sx sdx od2 mi2 ow oo kvs) (hkv : SList g kv (tl.map (keyOf nds))) (hna : g.get? na = some no) (hno : SD C no nk) (hnK : NeedsK C g nds tl R nk)
    (hd : h.get? dd = some od) (hdg : g.get? dd = none) (hdk : SD C od dk) (hdl : Lo dd) (htl : ∀ j ∈ tl, j < nds.length) (hz : tl.length ≤ 14)
    (hp : tl[p]? = some i0) (hr : Rdy nds R (fun s => valueAt dk s ≠ none) i0) (hn : ∀ q i, q < p → tl[q]? = some i → ¬ Rdy nds R (fun s => valueAt dk s ≠ none) i)
    (hq : ∀ t h', Keep [] h h' → Q (.str (keyOf nds i0) t) h') : T C A (call (.ref 87) [.ref sx, .ref dd, .ref na] []) Q E h := by
  refine T_callC (T_call1 87 [(S_ "self", .ref sx), (S_ "done", .ref dd), (S_ "needs", .ref na)] [(S_ "self", .ref sx), (S_ "needs", .ref na)] (S_ "done") (some (.ref dd)) [(dd, od)] hG hk hA.room (by simpa using hd) (by simpa using hdg) (by simp) ⟨_, _, _, rfl⟩ (by kernel_rfl) (by kernel_rfl) (by kernel_rfl) (fun _ => by kernel_rfl) (fun _ => by kernel_rfl) (fun _ => by kernel_rfl) (fun _ => by kernel_rfl) (by kernel_rfl) (by kernel_rfl) (by kernel_rfl) (by kernel_rfl) ?_)
  intro gc h1 L cd oc hgc hgS hKeep ec hoc X
  have hA1 : Lv 0 (A.deeper (envF C 87 L)) := hA.deeper _
  generalize A.deeper (envF C 87 L) = A1 at hA1 ⊢
  have e1 : nm [(S_ "self", .ref sx), (S_ "needs", .ref na)] (S_ "self") = some (.ref sx) := by kernel_rfl
  have e2 : nm [(S_ "self", .ref sx), (S_ "needs", .ref na)] (S_ "needs") = some (.ref na) := by kernel_rfl
  generalize nm [(S_ "self", .ref sx), (S_ "needs", .ref na)] = m0 at X e1 e2
  obtain ⟨g0, s0, X0, hcd⟩ := X.absorb1
  obtain ⟨ka, kvs0, kk, rfl, hka, hkvs⟩ := hkv
  have hkl : kvs0.length = tl.length := by rw [hkvs.1, List.length_map]
  have so0 := so.mono (hgc.trans s0)
  have fin : ∀ {g1 m1 led1 h2}, W C g1 L m1 led1 h2 → Sub g0 g1 → (dd, od) ∈ led1 → Keep [] h h2 := fun X1 s1 hm b o _ e => by
    by_cases hb : b = dd
    · subst hb
      rw [hd] at e; cases e
      exact X1.at_ _ hm
    · exact hKeep _ (s0.trans (s1.trans X1.keep)) b o (by simpa using hb) e
  refine T_execs_cons (T_For ?_)
  refine T_Attr ?_
  walk_at "n"
  refine T_getattr (X0.glob.K.keeps X0.keep) (X0.keep _ _ so0.inst) (X0.keep _ _ so0.dict) so0.ns so0.mky ?_ (by kernel_rfl) (by kernel_rfl) (by kernel_rfl) rfl
  refine TL_src (src_list hA1.hd X0 (s0 _ _ (hgc _ _ hka)) (LX.mk (k := kk)).lw) (fun i g' m led => A5 (led = [(dd, od)]) (m (S_ "self") = some (.ref sx)) (m (S_ "needs") = some (.ref na)) (Sub g0 g') (i ≤ p)) ?_ ?_ ?_
  · exact ⟨rfl, e1, e2, Sub.refl _, Nat.zero_le _⟩
  · rintro q v ga ma leda own ha Kq hKq hi sa ⟨rfl, ms, mn, sga, hqp⟩ hP Xa
    obtain ⟨ks, hks, tk, rfl⟩ := hkvs.getV hP
    rw [List.getElem?_map] at hks
    obtain ⟨i, hiq, rfl⟩ := Option.map_eq_some_iff.mp hks
    have hit : i ∈ tl := List.mem_of_getElem? hiq
    obtain ⟨nd, hnd⟩ : ∃ nd, nds[i]? = some nd := ⟨nds[i]'(htl i hit), by simp [htl i hit]⟩
    have hkey : keyOf nds i = nd.key := by unfold keyOf; rw [hnd]; rfl
    obtain ⟨w1, hw1, d1, o1, fk1, rfl, hd1, hfo1, hlo1, hfl1, hks1⟩ := hnK i hit nd hnd
    have sgga : Sub g ga := hgc.trans (s0.trans sga)
    have hqi : q < tl.length := (List.getElem?_eq_some_iff.mp hiq).1
    refine assign_Name ?_
    walk_at "st"
    intro hb Xb
    rw [hkey] at Xb
    have dl : ∀ {g2 : Heap} {L2 : Addr} {m2 led2 h2 pos} {Q : Value → Heap → Prop}, W C g2 L2 m2 led2 h2 → Sub g0 g2 → Q (.ref dd) h2 → T C A1 (eval (.Name (Str.ofString "done") pos) (envF C 87 L)) Q noE h2 := fun X2 s2 hq =>
      T_ldc (c := cd) (by rw [ec]; rfl) ⟨oc, X2.keep _ _ (s2 _ _ hcd), hoc⟩ hq
    refine T_execs_cons (T_If (T_post (Q := fun b h' => (∃ g2, Sub ga g2 ∧ W C g2 L (upd ma (Str.ofString "key") (.str nd.key tk)) (own ++ [(dd, od)]) h') ∧ (b = true ↔ Rdy nds R (fun s => valueAt dk s ≠ none) i)) ?_ ?_))
    · refine T_isAnd ?_
      walk_at "n"
      refine dl Xb sga ?_
      refine D_notIn (Xb.at_ (dd, od) (by walk_at "mm")) hdk hdl ?_
      walk_at "n"
      refine ⟨fun e => ?_, fun e => ⟨⟨ga, Sub.refl _, Xb⟩, ⟨fun h => (by cases h), fun h => ?_⟩⟩⟩
      · have hnd0 : valueAt dk nd.key = none := by simpa using e
        refine T_isAnd1 ?_
        walk_at "n"
        refine T_LComp ?_ (by rw [ec]; kernel_rfl) (by kernel_rfl) (by kernel_rfl) (by intro _; kernel_rfl)
        have hna' := sgga _ _ hna
        walk_at "n"
        ((refine S_dict (by walk_at "at") (by assumption) (by assumption) ?_ (by kernel_rfl)))
        refine LC_src (src_strs hA1.hd Xb hlo1 (sgga _ _ hd1) hfo1) (by omega) (fun _ _ => ⟨by kernel_rfl, by rw [ec]; kernel_rfl⟩)
          (fun t ys g' m led => A3 (led = own ++ [(dd, od)]) (Sub ga g') (All2 IsS ys (((fk1.map (·.1)).take t).filter fun s => (valueAt dk s).isNone))) ?_ ?_ ?_
        · exact ⟨rfl, Sub.refl _, by simpa using All2.nil⟩
        · rintro t v ys k gu mu ledu ownu hu Lc acu Kq Kr hKq hKr ht su ⟨rfl, sgu, hys⟩ ⟨s, y, ts, hst, rfl⟩ Xu
          have hsk : (fk1.map (·.1))[t]? = some s := by rw [List.getElem?_map, hst]; rfl
          refine assign_Name ?_
          walk_at "st"
          intro hw Xw
          refine tests_one ?_
          walk_at "n"
          refine T_ldc (c := cd) (by rw [ec]; kernel_rfl) ⟨oc, Xw.keep _ _ (sgu _ _ (sga _ _ hcd)), hoc⟩ ?_
          refine D_notIn (Xw.at_ (dd, od) (by walk_at "mm")) hdk hdl ?_
          walk_at "n"
          have er : ((fk1.map (·.1)).take (t + 1)).filter (fun s => (valueAt dk s).isNone) = ((fk1.map (·.1)).take t).filter (fun s => (valueAt dk s).isNone) ++ (if (valueAt dk s).isNone = true then [s] else []) := by
            rw [List.take_add_one, hsk, List.filter_append]
            show _ ++ List.filter _ [s] = _
            rw [filter_one]
          have eb : (!(valueAt dk s).isSome) = (valueAt dk s).isNone := by cases valueAt dk s <;> rfl
          rw [eb]
          refine ⟨fun e => ?_, fun e => ?_⟩
          · walk_at "n"
            refine ⟨gu, _, _, Sub.refl _, Xw, rfl, sgu, ?_⟩
            rw [er, if_pos e]
            exact hys.snoc ⟨_, rfl⟩
          · refine hKr () _ ⟨gu, _, _, Sub.refl _, Xw, rfl, sgu, ?_⟩
            rw [er, if_neg (by rw [e]; decide), List.append_nil]
            exact hys
        · rintro ys k gu mu ledu hu acu su ⟨rfl, sgu, hys⟩ Xu
          have htake : (fk1.map (·.1)).take fk1.length = fk1.map (·.1) := by rw [List.take_of_length_le (by simp)]
          rw [htake] at hys
          walk_at "lst"
          walk_at "end"
          intro hz1 nz Xz _
          refine R_eqN (Xz.at_ _ (.tail _ (.head _))) (LX.mk (k := k)).lw (Xz.at_ _ (.head _)) (LX.mk (k := 0)).lw hA1 ?_
          walk_at "n"
          refine ⟨⟨gu, sgu, Xz.drop1.drop1⟩, ?_⟩
          have hiff : ys.isEmpty = true ↔ ∀ s ∈ fk1.map (·.1), valueAt dk s ≠ none := by
            rw [List.isEmpty_iff_length_eq_zero, hys.1, List.length_eq_zero_iff, List.filter_eq_nil_iff]
            constructor
            · intro h s hs e; exact h s hs (by rw [e]; rfl)
            · intro h s hs e; exact h s hs (by simpa using e)
          rw [hiff]
          constructor
          · intro h
            refine ⟨fun nd' hnd' => ?_, fun j nj hj hnj => h _ (mem_keys.mpr ((hks1 _).mpr ⟨j, nj, hj, hnj, rfl⟩))⟩
            rw [hnd] at hnd'; cases hnd'
            exact fun h => h hnd0
          · intro h s hs
            obtain ⟨j, nj, hj, hnj, rfl⟩ := (hks1 s).mp (mem_keys.mp hs)
            exact h.2 j nj hj hnj
      · have hnd0 : valueAt dk nd.key ≠ none := by
          intro e3; rw [e3] at e; cases e
        exact absurd hnd0 (h.1 nd hnd)
    · rintro b hc ⟨⟨g2, s2, Xc⟩, hb⟩
      refine ⟨fun e => ?_, fun e => ?_⟩
      · have hri := hb.mp e
        have hq0 : q = p := by
          by_cases h : q = p
          · exact h
          · exact absurd hri (hn q i (by omega) hiq)
        subst hq0
        rw [hp] at hiq; cases hiq
        walk_at "n"
        rw [← hkey]
        exact hq tk hc (fin Xc (sga.trans s2) (by simp))
      · walk_at "n"
        refine ⟨g2, _, _, s2, Xc, rfl, by walk_at "lk", by walk_at "lk", sga.trans s2, ?_⟩
        by_cases h : q = p
        · subst h
          rw [hp] at hiq; cases hiq
          rw [hb.mpr hr] at e; cases e
        · omega
  · rintro ga ma leda ha sa ⟨rfl, ms, mn, sga, hqp⟩ Xa
    have := (List.getElem?_eq_some_iff.mp hp).1
    omega
end
section
open PySem PySem.W PyProof.Rows
set_option Elab.async false
set_option maxRecDepth 100000
set_option maxHeartbeats 4000000
set_option linter.unusedVariables false

def rest (tl dn : List Nat) : List Nat := tl.filter fun i => !dn.contains i
theorem mem_rest {tl dn : List Nat} {i : Nat} : i ∈ rest tl dn ↔ i ∈ tl ∧ i ∉ dn := by
  unfold rest
  rw [List.mem_filter]
  simp
theorem rest_erase {tl dn : List Nat} (hn : tl.Nodup) {x : Nat} : (rest tl dn).erase x = rest tl (dn ++ [x]) := by
  unfold rest
  rw [List.Nodup.erase_eq_filter (hn.filter _), List.filter_filter]
  refine List.filter_congr fun y hy => ?_
  by_cases h : y = x
  · subst h; simp
  · have : (y == x) = false := by simpa using h
    simp [h]

/-- the first ready one -/
theorem pick {nds : List Nd} {es : List (List Nat)} {tl dn : List Nat} {P : Str} (hes : EdgesOk nds nds.length es) (hlen : es.length = nds.length) (hpk : PkgsOk nds) (hk : (nds.map Nd.key).Nodup) (ht : TellOk nds P tl)
    (hac : ∀ j ∈ tl, bit (ledOf es) j j = false) (hdn : ∀ i ∈ dn, i ∈ tl) (hcl : ∀ i ∈ dn, ∀ j, Found nds es tl i j → j ∈ dn) (D : Str → Prop) (hD : ∀ s, D s ↔ ∃ i ∈ dn, ∃ nd, nds[i]? = some nd ∧ s = nd.key) (hne : rest tl dn ≠ []) :
    ∃ p x r, tl[p]? = some x ∧ Rdy nds (Found nds es tl) D x ∧ (∀ (q : Nat) (i : Nat), q < p → tl[q]? = some i → ¬ Rdy nds (Found nds es tl) D i) ∧ (rest tl dn).filter (free (ledOf es) (rest tl dn)) = x :: r ∧ x ∈ tl ∧ x ∉ dn ∧ ∀ j, Found nds es tl x j → j ∈ dn := by
  have hes' : ∀ (i : Nat) gs, es[i]? = some gs → ∀ j ∈ gs, j < es.length := fun i gs h j hj => by
    obtain ⟨_, b, _, hb, _⟩ := (hes.2 i gs h).2 j hj
    rw [hlen]; exact (List.getElem?_eq_some_iff.mp hb).1
  have hlt : ∀ i ∈ tl, i < nds.length := fun i hi => by
    obtain ⟨nd, hnd, _⟩ := (ht.mem i).mp hi
    exact (List.getElem?_eq_some_iff.mp hnd).1
  have hDi : ∀ i nd, nds[i]? = some nd → (D nd.key ↔ i ∈ dn) := fun i nd hnd => by
    rw [hD]
    constructor
    · rintro ⟨i', hi', nd', hnd', e⟩
      by_cases h : i = i'
      · rw [h]; exact hi'
      · exact absurd e (key_ne hk hnd hnd' h)
    · intro h; exact ⟨i, h, nd, hnd, rfl⟩
  -- ready, by its number
  have rdy : ∀ i ∈ tl, (Rdy nds (Found nds es tl) D i ↔ (i ∉ dn ∧ ∀ j, Found nds es tl i j → j ∈ dn)) := fun i hi => by
    obtain ⟨nd, hnd, _⟩ := (ht.mem i).mp hi
    constructor
    · rintro ⟨h1, h2⟩
      refine ⟨fun h => h1 nd hnd ((hDi i nd hnd).mpr h), fun j hj => ?_⟩
      obtain ⟨nj, hnj, _⟩ := (ht.mem j).mp hj.1
      exact (hDi j nj hnj).mp (h2 j nj hj hnj)
    · rintro ⟨h1, h2⟩
      refine ⟨fun nd' hnd' h => ?_, fun j nj hj hnj => (hDi j nj hnj).mpr (h2 j hj)⟩
      exact h1 ((hDi i nd' hnd').mp h)
  -- free = ready
  have fr : ∀ i ∈ rest tl dn, (free (ledOf es) (rest tl dn) i = true ↔ Rdy nds (Found nds es tl) D i) := fun i hi => by
    obtain ⟨hit, hid⟩ := mem_rest.mp hi
    rw [rdy i hit, free_iff]
    have hil : i < es.length := by rw [hlen]; exact hlt i hit
    constructor
    · intro h
      refine ⟨hid, fun j hj => ?_⟩
      refine Classical.byContradiction fun hjd => ?_
      have h1 := h j (mem_rest.mpr ⟨hj.1, hjd⟩)
      have h2 := (led_plus es hes' i j hil).mpr (found_to (.one hj))
      rw [h1] at h2; cases h2
    · rintro ⟨_, h⟩ j hj
      obtain ⟨hjt, hjd⟩ := mem_rest.mp hj
      cases hb : bit (ledOf es) i j with
      | false => rfl
      | true =>
        have hp := (found_plus hes hpk ht hit hjt).mpr ((led_plus es hes' i j hil).mp hb)
        have : ∀ m, Plus (Found nds es tl) i m → m ∈ dn := fun m hm => by
          induction hm with
          | one h1 => exact h _ h1
          | step _ h1 ih => exact hcl _ ih _ h1
        exact absurd (this j hp) hjd
  obtain ⟨x0, hx0, hf0⟩ := free_ex hes hlen hlt hac (rest tl dn) hne fun j hj => (mem_rest.mp hj).1
  obtain ⟨x, r, hxr⟩ := List.exists_cons_of_ne_nil (List.ne_nil_of_mem (List.mem_filter.mpr ⟨hx0, hf0⟩))
  have hxm := List.mem_filter.mp (hxr ▸ List.mem_cons_self : x ∈ (rest tl dn).filter (free (ledOf es) (rest tl dn)))
  obtain ⟨hxt, hxd⟩ := mem_rest.mp hxm.1
  have hxR := (fr x hxm.1).mp hxm.2
  obtain ⟨p, hp⟩ := List.mem_iff_getElem?.mp hxt
  refine ⟨p, x, r, hp, hxR, ?_, hxr, hxt, hxd, ((rdy x hxt).mp hxR).2⟩
  intro q i hqp hq hri
  have hit : i ∈ tl := List.mem_of_getElem? hq
  have hid := ((rdy i hit).mp hri).1
  have him : i ∈ rest tl dn := mem_rest.mpr ⟨hit, hid⟩
  have hif := (fr i him).mpr hri
  -- the list with both tests
  have e : (rest tl dn).filter (free (ledOf es) (rest tl dn)) = tl.filter fun i => free (ledOf es) (rest tl dn) i && !dn.contains i := by
    conv => lhs; rw [show rest tl dn = tl.filter (fun i => !dn.contains i) from rfl, List.filter_filter]
    rfl
  rw [e] at hxr
  generalize hpr : (fun i => free (ledOf es) (rest tl dn) i && !dn.contains i) = pr at hxr
  have hsplit : tl = tl.take p ++ x :: tl.drop (p + 1) := by
    have hpl := (List.getElem?_eq_some_iff.mp hp).1
    have hpe := (List.getElem?_eq_some_iff.mp hp).2
    rw [← hpe]
    simp
  rw [hsplit, List.filter_append] at hxr
  have hi1 : i ∈ (tl.take p).filter pr := by
    refine List.mem_filter.mpr ⟨?_, by rw [← hpr]; show (free _ _ i && _) = true; rw [hif]; simpa using hid⟩
    rw [List.mem_take_iff_getElem]
    have hql := (List.getElem?_eq_some_iff.mp hq)
    exact ⟨q, by have := hql.1; omega, hql.2⟩
  obtain ⟨y, ys, hy⟩ := List.exists_cons_of_ne_nil (List.ne_nil_of_mem hi1)
  rw [hy] at hxr
  have hyx : y = x := by injection hxr
  have hym := (List.mem_filter.mp (hy ▸ List.mem_cons_self : y ∈ (tl.take p).filter pr)).1
  rw [hyx] at hym
  rw [List.mem_take_iff_getElem] at hym
  obtain ⟨k, hk1, hk2⟩ := hym
  have hpl := (List.getElem?_eq_some_iff.mp hp)
  have := (List.getElem_inj ht.nodup).mp (hk2.trans hpl.2.symm)
  omega
end
section
open PySem PySem.W PyProof.Rows PySem.Calls PyProof.V PySem.Spec
set_option Elab.async false
set_option maxRecDepth 100000
set_option maxHeartbeats 4000000
set_option linter.unusedVariables false

theorem LU_srcD {C : Cx} {A : Around} {E : Value → Heap → Prop} {g h : Heap} {L : Addr} {m : Str → Option Value} {led : List (Addr × Obj)} {env : Env} {kx vx target iter : Expr} {scope : Scope} {pos : Pos} {x : Value} {n : Nat} {P : Nat → Heap → Value → Prop} {Q : Value → Heap → Prop} {y : Str} {yp : Pos} (S : Src C A target x n P g L m led E h) (hn : n ≤ 1000)
    (hcells : ∀ k h, pushCells h scope.names = h ∧ cellsFrom k scope.names (clOf env.cells scope.names []) = clOf env.cells scope.names [])
    (J : Nat → List (Str × Value) → Heap → (Str → Option Value) → List (Addr × Obj) → Prop) (hJ : J 0 [] g (fun _ => none) led)
    (turn : ∀ i v ys o g1 m1 led1 own h1 Lc acc (K : Str → Value → Heap → Prop), (∀ kk, Hid (fun y h4 => DTurn C Lc own acc o g1 (J (i + 1) (stored ys kk y)) h4) (K kk)) → i < n → Sub g g1 → J i ys g1 m1 led1 → P i h1 v → W C g1 Lc m1 (own ++ (acc, o) :: led1) h1 →
      T C A (assign target (compEnv scope (clOf env.cells scope.names []) Lc env) v) (fun _ h2 => T C A (eval kx (compEnv scope (clOf env.cells scope.names []) Lc env)) (fun kv h3 => ∃ kk tt, kv = .str kk tt ∧ T C A (eval vx (compEnv scope (clOf env.cells scope.names []) Lc env)) (K kk) noE h3) noE h2) noE h1)
    (done : ∀ ys o g1 m1 led1 h1 acc, Sub g g1 → SD C o ys → Lo acc → J n ys g1 m1 led1 → W C g1 L (upd m y (.ref acc)) ((acc, o) :: led1) h1 → Q .none h1)
    (hy : env.kindOf y = some .local) (hp : (env.scope.kind == .class || (env.scope.kind == .module && env.locals != env.globals)) = false) (hL : env.locals = L) :
    T C A (pyIter x) (fun itv h2 => LU C A env (.DictComp kx vx [⟨target, iter, [], 0⟩] scope pos) scope (clOf env.cells scope.names []) newDict (assign (.Name y yp) env) Q itv h2) E h :=
  T_post S fun itv h2 ⟨I, e, X2, _, fp, wr, St, it, st, ap, nd, hf⟩ => e ▸ LU_introD it hn X2 st ap nd hf hcells J hJ (fun i v ys o g1 m1 led1 own h1 Lc acc a1 a2 a3 a4 X => turn i v ys o g1 m1 led1 own h1 Lc acc _ (fun _ => Hid.refl _) a1 a2 a3 a4 X) done hy hp hL

theorem needs_ok {C : Cx} {E : Value → Heap → Prop} {g h : Heap} {nds : List Nd} {es : List (List Nat)} {tl : List Nat} {told : Nat → List Nat} {inits : Nat → List Str} {wv kv : Value} {x dx : Addr} {od : Obj} {mi : Str → Option Value} {ao av ai am ab : Addr} {om ob : Obj} {mk bk : List (Str × Value)}
    {sx sdx : Addr} {od2 : Obj} {mi2 : Str → Option Value} {ow : Addr} {oo : Obj} {kvs : List (Str × Value)} {P : Str} {Q : Flow → Heap → Prop} {A1 : Around} {gc g0 h1 : Heap} {L cs : Addr} {oc : Obj} {m0 : Str → Option Value}
    (hA1 : Lv 1 A1) (hG : Glob C g) (wr : WR C g wv nds es told inits x dx od mi ao av ai am ab om ob mk bk) (so : SOR C g nds tl wv kv sx sdx od2 mi2 ow oo kvs) (hkv : SList g kv (tl.map (keyOf nds))) (pk : Pk nds) (hes : EdgesOk nds nds.length es) (hz : nds.length ≤ 14) (hz2 : tl.length ≤ 14)
    (ht : TellOk nds P tl) (hgc : Sub g gc) (hgS : ∀ b o, h.get? b = some o → b ∉ ([] : List (Addr × Obj)).map (·.1) → gc.get? b = some o) (s0 : Sub gc g0) (X0 : W C g0 L m0 [] h1) (hcs : g0.get? cs = some oc) (ec : (envF C 92 L).cells = [(S_ "self", cs)]) (hoc : oc.data = .cell (some (.ref sx)))
    (hq : ∀ nk no g9 h9 na, SD C no nk → Lo na → nk.length = tl.length → (Fresh g h g9).get? na = some no → NeedsK C (Fresh g h g9) nds tl (Found nds es tl) nk → Sub g0 g9 → W C g9 L (upd m0 (S_ "needs") (.ref na)) [] h9 → Q .next h9) :
    T C A1 (exec ((bodyF C 92).getD 0 noS) (envF C 92 L)) Q E h1 := by
  refine T_noE ?_
  have yg : ∀ {g1 m1 L1 led1 h2} (X1 : W C g1 L1 m1 led1 h2) (s : Sub gc g1) {p : Addr × Obj}, p ∈ led1 → h.get? p.1 = none := fun X1 s p hp => X1.young (S := []) hp s hgS (by simp)
  obtain ⟨ka, kvs0, kk, rfl, hka, hkvs⟩ := id hkv
  have hkl : kvs0.length = tl.length := by rw [hkvs.1, List.length_map]
  have s0g : Sub g g0 := hgc.trans s0
  have sl : ∀ {g2 : Heap} {L2 m2 led2 h2 pos} {Q : Value → Heap → Prop}, W C g2 L2 m2 led2 h2 → Sub g0 g2 → Q (.ref sx) h2 → T C A1 (eval (.Name (Str.ofString "self") pos) (envF C 92 L)) Q noE h2 := fun X2 s2 hq =>
    T_ldc (c := cs) (by rw [ec]; rfl) ⟨oc, X2.keep _ _ (s2 _ _ hcs), hoc⟩ hq
  have htlv : ∀ j ∈ tl, ∃ nd, nds[j]? = some nd ∧ nd.val = true := fun j hj => let ⟨nd, a, b, _⟩ := (ht.mem j).mp hj; ⟨nd, a, b⟩
  have hkey : ∀ {j nd}, nds[j]? = some nd → keyOf nds j = nd.key := fun h => by unfold keyOf; rw [h]; rfl
  refine T_AssignDComp ?_ (by rw [ec]; kernel_rfl) (by kernel_rfl) (by kernel_rfl) (by kernel_rfl) (by intro _; kernel_rfl)
  refine T_Attr ?_
  refine sl X0 (Sub.refl _) ?_
  have so0 := so.mono s0g
  refine T_getattr (X0.glob.K.keeps X0.keep) (X0.keep _ _ so0.inst) (X0.keep _ _ so0.dict) so0.ns so0.mky ?_ (by kernel_rfl) (by kernel_rfl) (by kernel_rfl) rfl
  refine LU_srcD (src_list hA1.hd X0 (s0g _ _ hka) (LX.mk (k := kk)).lw) (by omega) (fun _ _ => ⟨by kernel_rfl, by rw [ec]; kernel_rfl⟩)
    (fun i ys g' m led => A5 (led = []) (Sub g0 g') (ys.length = i) ((∀ s, valueAt ys s ≠ none → ∃ q j, q < i ∧ tl[q]? = some j ∧ s = keyOf nds j)) (∀ q j nd, q < i → tl[q]? = some j → nds[j]? = some nd → ∃ w, valueAt ys nd.key = some w ∧ NdV C (Fresh g h g') nds (Found nds es tl) j w)) ?_ ?_ ?_ (by kernel_rfl) (by kernel_rfl) (by kernel_rfl)
  · exact ⟨rfl, Sub.refl _, rfl, fun s hs => absurd rfl hs, fun q j nd hq => absurd hq (Nat.not_lt_zero _)⟩
  · rintro i v ys o g8 m8 led8 own h8 Lc acc Kq hKq hi s8 ⟨rfl, sg8, hyl, hys, hnv⟩ hP X8
    obtain ⟨ks, hks, tk, rfl⟩ := hkvs.getV hP
    rw [List.getElem?_map] at hks
    obtain ⟨j, hj, rfl⟩ := Option.map_eq_some_iff.mp hks
    have hjt : j ∈ tl := List.mem_of_getElem? hj
    obtain ⟨nd, hnd, hval⟩ := htlv j hjt
    rw [hkey hnd]
    have so8 := so.mono (s0g.trans sg8)
    refine assign_Name ?_
    walk_at "st"
    intro h9 X9
    walk_at "n"
    refine ⟨_, _, rfl, ?_⟩
    refine T_I1 (f := 75) ?_ (by kernel_rfl) (by kernel_rfl)
    refine T_ldc (c := cs) (by rw [ec]; kernel_rfl) ⟨oc, X9.keep _ _ (sg8 _ _ hcs), hoc⟩ ?_
    refine ⟨sx, sdx, 95, od2, mi2, 3, rfl, X9.glob.K.keeps X9.keep, X9.keep _ _ so8.inst, X9.keep _ _ so8.dict, so8.ns, so8.mn _ (by decide) (by decide) (by decide), by kernel_rfl, by kernel_rfl, ?_⟩
    walk_at "n"
    refine ⟨X9.glob.K.keeps X9.keep, ?_⟩
    have hgc8 : Sub g g8 := s0g.trans sg8
    refine reached_ok hA1 (X9.globF (g0 := g) (h0 := h) hG hgc8) X9.subF (wr.mono (Fresh.base hgc8)) (so.mono (Fresh.base hgc8)) pk hes hz hnd htlv fun d od3 fk h10 hK10 hdn hd3 hfk hlod hfl hksF => ?_
    have X10 := X9.callNew hK10 hdn hd3
    obtain ⟨g11, s11, X11, f11⟩ := X10.take (g0 := g) (h0 := h) (yg X10 (s0.trans sg8) (.head _))
    have hdist : ∀ q j', q < i → tl[q]? = some j' → keyOf nds j' ≠ nd.key := fun q j' hq hj' e => by
      obtain ⟨nd', hnd', _⟩ := htlv j' (List.mem_of_getElem? hj')
      rw [hkey hnd'] at e
      by_cases h : j' = j
      · subst h
        have h1 := List.getElem?_eq_some_iff.mp hj'
        have h2 := List.getElem?_eq_some_iff.mp hj
        have := (List.getElem_inj ht.nodup).mp (h1.2.trans h2.2.symm)
        omega
      · exact key_ne pk.keys hnd' hnd h e
    have habs : valueAt ys nd.key = none := by
      cases hv : valueAt ys nd.key with
      | none => rfl
      | some w =>
        obtain ⟨q, j', hq, hj', e⟩ := hys nd.key (by rw [hv]; simp)
        exact absurd e.symm (hdist q j' hq hj')
    refine hKq _ _ _ ⟨g11, _, [], s11, X11, rfl, sg8.trans s11, ?_, ?_, ?_⟩
    · rw [stored_absent habs]; simp [hyl]
    · intro s hs
      rw [valueAt_stored] at hs
      by_cases h : s = nd.key
      · exact ⟨i, j, by omega, hj, by rw [hkey hnd]; exact h⟩
      · rw [if_neg h] at hs
        obtain ⟨q, j', hq, hj', e⟩ := hys s hs
        exact ⟨q, j', by omega, hj', e⟩
    · intro q j' nd' hq hj' hnd'
      rw [valueAt_stored]
      by_cases h : q = i
      · subst h
        rw [hj] at hj'; cases hj'
        rw [hnd] at hnd'; cases hnd'
        rw [if_pos rfl]
        exact ⟨_, rfl, d, od3, fk, rfl, f11, hfk, hlod, hfl, hksF⟩
      · have := hdist q j' (by omega) hj'
        rw [hkey hnd'] at this
        rw [if_neg this]
        obtain ⟨w, p1, p2⟩ := hnv q j' nd' (by omega) hj' hnd'
        exact ⟨w, p1, p2.mono (Fresh.mono s11)⟩
  · rintro nk no g8 m8 led8 h8 na s8 hno hlona ⟨rfl, sg8, hnl, hns, hnv⟩ X8
    rw [hkl] at hnl hns hnv
    obtain ⟨g9, s9, X9, hna⟩ := X8.take (g0 := g) (h0 := h) (yg X8 (s0.trans sg8) (.head _))
    have hnK : NeedsK C (Fresh g h g9) nds tl (Found nds es tl) nk := fun i hi nd hnd => by
      obtain ⟨q, hq⟩ := List.mem_iff_getElem?.mp hi
      obtain ⟨w, p1, p2⟩ := hnv q i nd (List.getElem?_eq_some_iff.mp hq).1 hq hnd
      exact ⟨w, p1, p2.mono (Fresh.mono s9)⟩
    exact hq nk no g9 _ na hno hlona hnl hna hnK (sg8.trans s9) X9

theorem order_ok {C : Cx} {A : Around} {E : Value → Heap → Prop} {g h : Heap} {nds : List Nd} {es : List (List Nat)} {tl : List Nat} {told : Nat → List Nat} {inits : Nat → List Str} {wv kv : Value} {x dx : Addr} {od : Obj} {mi : Str → Option Value} {ao av ai am ab : Addr} {om ob : Obj} {mk bk : List (Str × Value)}
    {sx sdx : Addr} {od2 : Obj} {mi2 : Str → Option Value} {ow : Addr} {oo : Obj} {kvs : List (Str × Value)} {P : Str} {Q : Value → Heap → Prop}
    (hA : Lv 2 A) (hG : Glob C g) (hk : Sub g h) (wr : WR C g wv nds es told inits x dx od mi ao av ai am ab om ob mk bk) (so : SOR C g nds tl wv kv sx sdx od2 mi2 ow oo kvs) (hkv : SList g kv (tl.map (keyOf nds))) (pk : Pk nds) (hes : EdgesOk nds nds.length es) (hlen : es.length = nds.length) (hz : nds.length ≤ 14) (hz2 : tl.length ≤ 14)
    (ht : TellOk nds P tl) (hpk : PkgsOk nds) (hac : ∀ j ∈ tl, bit (ledOf es) j j = false)
    (hq : ∀ v h', SList (Fresh g h h') v ((ordN (ledOf es) tl.length tl).map (keyOf nds)) → Keep [] h h' → Q v h') : T C A (call (.ref 92) [.ref sx] []) Q E h := by
  refine T_callC (T_call1 92 [(S_ "self", .ref sx)] [] (S_ "self") (some (.ref sx)) [] hG hk hA.room (by simp) (by simp) (by simp) ⟨_, _, _, rfl⟩ (by kernel_rfl) (by kernel_rfl) (by kernel_rfl) (fun _ => by kernel_rfl) (fun _ => by kernel_rfl) (fun _ => by kernel_rfl) (fun _ => by kernel_rfl) (by kernel_rfl) (by kernel_rfl) (by kernel_rfl) (by kernel_rfl) ?_)
  intro gc h1 L cs oc hgc hgS hKeep ec hoc X
  have hA1 : Lv 1 (A.deeper (envF C 92 L)) := hA.deeper _
  generalize A.deeper (envF C 92 L) = A1 at hA1 ⊢
  have yg : ∀ {g1 m1 L1 led1 h2} (X1 : W C g1 L1 m1 led1 h2) (s : Sub gc g1) {p : Addr × Obj}, p ∈ led1 → h.get? p.1 = none := fun X1 s p hp => X1.young (S := []) hp s hgS (by simp)
  obtain ⟨g0, s0, X0, hcs⟩ := X.absorb1
  obtain ⟨ka, kvs0, kk, rfl, hka, hkvs⟩ := id hkv
  have hkl : kvs0.length = tl.length := by rw [hkvs.1, List.length_map]
  have s0g : Sub g g0 := hgc.trans s0
  have sl : ∀ {g2 : Heap} {L2 m2 led2 h2 pos} {Q : Value → Heap → Prop}, W C g2 L2 m2 led2 h2 → Sub g0 g2 → Q (.ref sx) h2 → T C A1 (eval (.Name (Str.ofString "self") pos) (envF C 92 L)) Q noE h2 := fun X2 s2 hq =>
    T_ldc (c := cs) (by rw [ec]; rfl) ⟨oc, X2.keep _ _ (s2 _ _ hcs), hoc⟩ hq
  have htlv : ∀ j ∈ tl, ∃ nd, nds[j]? = some nd ∧ nd.val = true := fun j hj => let ⟨nd, a, b, _⟩ := (ht.mem j).mp hj; ⟨nd, a, b⟩
  have hkey : ∀ {j nd}, nds[j]? = some nd → keyOf nds j = nd.key := fun h => by unfold keyOf; rw [h]; rfl
  refine T_execs_cons ?_
  refine needs_ok (h := h) hA1 hG wr so hkv pk hes hz hz2 ht hgc hgS s0 X0 hcs ec hoc fun nk no g9 h9 na hno hlona hnl hna hnK sg9 X9 => ?_
  have hna9 := Fresh.sub _ _ _ _ _ hna
  have htlt : ∀ j ∈ tl, j < nds.length := fun j hj => let ⟨nd, a, _⟩ := htlv j hj; (List.getElem?_eq_some_iff.mp a).1
  have hes' : ∀ (i : Nat) gs, es[i]? = some gs → ∀ j ∈ gs, j < es.length := fun i gs h j hj => by
    obtain ⟨_, b, _, hb, _⟩ := (hes.2 i gs h).2 j hj
    rw [hlen]; exact (List.getElem?_eq_some_iff.mp hb).1
  walk_at "n"
  refine T_For ?_
  refine T_Attr ?_
  refine sl X9 sg9 ?_
  have so9 := so.mono (s0g.trans sg9)
  refine T_getattr (X9.glob.K.keeps X9.keep) (X9.keep _ _ so9.inst) (X9.keep _ _ so9.dict) so9.ns so9.mky ?_ (by kernel_rfl) (by kernel_rfl) (by kernel_rfl) rfl
  refine TL_src (src_list hA1.hd X9 (s0g.trans sg9 _ _ hka) (LX.mk (k := kk)).lw) (fun i g' m led => A3 (led = []) (m (S_ "needs") = some (.ref na)) (Sub g9 g')) ?_ ?_ ?_
  · exact ⟨rfl, upd_same, Sub.refl _⟩
  · rintro i v ga ma leda own ha Kq hKq hi sa ⟨rfl, mn, sga⟩ hP Xa
    obtain ⟨ks, hks, tk, rfl⟩ := hkvs.getV hP
    rw [List.getElem?_map] at hks
    obtain ⟨j, hj, rfl⟩ := Option.map_eq_some_iff.mp hks
    have hjt : j ∈ tl := List.mem_of_getElem? hj
    obtain ⟨nd, hnd, hval⟩ := htlv j hjt
    rw [hkey hnd]
    have sgA : Sub g0 ga := sg9.trans sga
    have hgA : Sub g ga := s0g.trans sgA
    have soa := so.mono hgA
    refine assign_Name ?_
    walk_at "st"
    intro hb Xb
    refine T_execs_cons (T_If ?_)
    walk_at "n"
    refine T_I2 (f := 82) ?_ (by kernel_rfl) (by kernel_rfl)
    refine sl Xb sgA ?_
    refine ⟨sx, sdx, 95, od2, mi2, 3, rfl, Xb.glob.K.keeps Xb.keep, Xb.keep _ _ soa.inst, Xb.keep _ _ soa.dict, soa.ns, soa.mn _ (by decide) (by decide) (by decide), by kernel_rfl, by kernel_rfl, ?_⟩
    walk_at "n"
    refine ⟨Xb.glob.K.keeps Xb.keep, ?_⟩
    refine whole_ok hA1 (Xb.globF (g0 := g) (h0 := h) hG hgA) Xb.subF (Fresh.mono sga _ _ hna) hno (hnK.mono (Fresh.mono sga)) pk.keys (fun _ _ h => h.1) htlt hz hjt hnd fun d od3 fk hc hKc hdn hd3 hfk hlod hks => ?_
    have Xc := Xb.call0K hKc
    have hno2 : valueAt fk nd.key = none := by
      refine Classical.byContradiction fun hne => ?_
      obtain ⟨j', nj, hp, hnj, e⟩ := (hks nd.key).mp hne
      have hjj : j' = j := by
        by_cases h : j' = j
        · exact h
        · exact absurd e.symm (key_ne pk.keys hnj hnd h)
      subst hjj
      have := (led_plus es hes' j' j' (by rw [hlen]; exact htlt _ hjt)).mpr (found_to hp)
      rw [hac j' hjt] at this; cases this
    refine D_in hd3 hfk hlod ?_
    rw [hno2]
    walk_at "n"
    refine ⟨fun e => (by cases e), fun _ => ?_⟩
    walk_at "n"
    exact ⟨ga, _, _, Sub.refl _, Xc, rfl, by walk_at "lk", sga⟩
  · rintro ga ma leda ha sa ⟨rfl, mn, sga⟩ Xa
    walk_at "as"
    ((with_reducible refine T_DctX (by assumption) ?_))
    intro hb dd Xb lodd _
    walk_at "st"
    intro hc Xc
    walk_at "n"
    refine T_While ?_
    refine TL_while Xc (fun k g' m led => E3 fun od dk dn => A12 (led = [(dd, od)]) (SD C od dk) (m (S_ "needs") = some (.ref na)) (m (S_ "done") = some (.ref dd)) (Sub ga g') (dk.map (·.1) = dn.map (keyOf nds)) ((∀ i ∈ dn, i ∈ tl)) ((∀ i ∈ dn, ∀ j, Found nds es tl i j → j ∈ dn)) (dn.Nodup) (k = (rest tl dn).length) (dn.length + k = tl.length) (ordN (ledOf es) tl.length tl = dn ++ ordN (ledOf es) k (rest tl dn))) tl.length ?_ ?_
    · have hr : rest tl [] = tl := by unfold rest; simp
      exact ⟨dictO, [], [], rfl, SD.empty, by walk_at "lk", by walk_at "lk", Sub.refl _, rfl, by simp, by simp, List.nodup_nil, by rw [hr], by simp, by rw [hr]; rfl⟩
    · rintro k g1 m1 led1 h1' Kq hKq s1 ⟨od, dk, dn, rfl, hod, mn1, md1, sg1, hdk, hdt, hcl, hdnd, hk1, hkk, hord⟩ X1
      have hgl : dk.length = dn.length := by have := congrArg List.length hdk; simpa using this
      have sgA : Sub g9 g1 := sga.trans sg1
      have s0A : Sub g0 g1 := sg9.trans sgA
      have hgA : Sub g g1 := s0g.trans s0A
      walk_at "n"
      ((with_reducible refine T_B1 (x := Str.ofString "len") (f := .builtin "len") (by assumption) (by kernel_rfl) (by kernel_rfl) Kp.builtin ?_))
      walk_at "n"
      refine C_lenD (X1.at_ _ (.head _)) hod lodd (by omega) fun t1 => ?_
      ((with_reducible refine T_B1 (x := Str.ofString "len") (f := .builtin "len") (by assumption) (by kernel_rfl) (by kernel_rfl) Kp.builtin ?_))
      walk_at "n"
      refine C_lenD (X1.keep _ _ (sgA _ _ hna9)) hno hlona (by omega) fun t2 => ?_
      walk_at "n"
      refine ⟨fun e => ?_, fun e => ?_⟩
      · have hlt : dn.length < tl.length := by have := of_decide_eq_true e; rw [hgl, hnl] at this; omega
        have hne : rest tl dn ≠ [] := by
          intro h0
          rw [h0] at hk1
          simp at hk1; omega
        have hD : ∀ s, valueAt dk s ≠ none ↔ ∃ i ∈ dn, ∃ nd, nds[i]? = some nd ∧ s = nd.key := fun s => by
          rw [← mem_keys, hdk, List.mem_map]
          constructor
          · rintro ⟨i, hi, rfl⟩
            obtain ⟨nd, hnd, _⟩ := htlv i (hdt i hi)
            exact ⟨i, hi, nd, hnd, hkey hnd⟩
          · rintro ⟨i, hi, nd, hnd, rfl⟩
            exact ⟨i, hi, hkey hnd⟩
        obtain ⟨p, y, r, hp, hR, hfst, hfil, hyt, hyd, hycl⟩ := pick hes hlen hpk pk.keys ht hac hdt hcl (fun s => valueAt dk s ≠ none) hD hne
        refine T_execs_cons ?_
        with_reducible refine T_Assign_Sub ?_
        walk_at "n"
        refine T_I2 (f := 87) ?_ (by kernel_rfl) (by kernel_rfl)
        refine sl X1 s0A ?_
        have so1 := so.mono hgA
        refine ⟨sx, sdx, 95, od2, mi2, 3, rfl, X1.glob.K.keeps X1.keep, X1.keep _ _ so1.inst, X1.keep _ _ so1.dict, so1.ns, so1.mn _ (by decide) (by decide) (by decide), by kernel_rfl, by kernel_rfl, ?_⟩
        walk_at "n"
        refine ⟨X1.glob.K.keeps X1.keep, ?_⟩
        refine ready_ok hA1 (X1.globF (g0 := g) (h0 := h) hG hgA) X1.subF (so.mono (Fresh.base hgA)) (hkv.mono (Fresh.base hgA)) (Fresh.mono sgA _ _ hna) hno (hnK.mono (Fresh.mono sgA)) (X1.at_ _ (.head _)) (X1.notF (.head _)) hod lodd htlt hz2 hp hR hfst fun t3 h2' hK2 => ?_
        have X2 := X1.call0K hK2
        refine S_setDict X2 (fun _ => .here) hod (by omega) fun h3' od' hod' _ X3 => ?_
        walk_at "n"
        have habs : valueAt dk (keyOf nds y) = none := by
          refine Classical.byContradiction fun hne => ?_
          obtain ⟨i, hi, nd, hnd, e⟩ := (hD _).mp hne
          obtain ⟨ndy, hndy, _⟩ := htlv y hyt
          rw [hkey hndy] at e
          by_cases h : y = i
          · subst h; exact hyd hi
          · exact key_ne pk.keys hndy hnd h e
        have hre : rest tl (dn ++ [y]) = (rest tl dn).erase y := (rest_erase ht.nodup).symm
        have hym : y ∈ rest tl dn := mem_rest.mpr ⟨hyt, hyd⟩
        have hlen2 : (rest tl (dn ++ [y])).length = k - 1 := by rw [hre, List.length_erase_of_mem hym, ← hk1]
        have hkp : 0 < k := by rw [hk1]; exact List.length_pos_of_mem hym
        refine ⟨k - 1, g1, _, _, by omega, Sub.refl _, X3, od', _, dn ++ [y], rfl, hod', mn1, md1, sg1, ?_, ?_, ?_, ?_, hlen2.symm, by simp; omega, ?_⟩
        · rw [stored_absent habs, List.map_append, List.map_append, hdk]; rfl
        · intro i hi
          rcases List.mem_append.mp hi with hi | hi
          · exact hdt i hi
          · rw [List.mem_singleton.mp hi]; exact hyt
        · intro i hi j hj
          rcases List.mem_append.mp hi with hi | hi
          · exact List.mem_append.mpr (.inl (hcl i hi j hj))
          · rw [List.mem_singleton.mp hi] at hj
            exact List.mem_append.mpr (.inl (hycl j hj))
        · rw [List.nodup_append]
          refine ⟨hdnd, by simp, fun a ha b hb e => ?_⟩
          rw [List.mem_singleton.mp hb] at e
          exact hyd (e ▸ ha)
        · rw [hord]
          have hk2 : k = (k - 1) + 1 := by omega
          conv => lhs; rw [hk2, ordN, hfil]
          rw [hre]
          simp
      · have hge : tl.length ≤ dn.length := by
          have := of_decide_eq_false e
          rw [hgl, hnl] at this; omega
        have hk0 : k = 0 := by omega
        subst hk0
        refine T_execs_cons ?_
        with_reducible refine T_Return ?_
        ((with_reducible refine T_B1 (x := Str.ofString "list") (f := .type "list") (by assumption) (by kernel_rfl) (by kernel_rfl) Kp.type ?_))
        walk_at "n"
        refine C_listD hA1.hd X1 (X1.at_ _ (.head _)) hod lodd (by omega) fun h2' al ws kl X2 _ hwl hws => ?_
        obtain ⟨g3, s3, X3, f3⟩ := X2.take (g0 := g) (h0 := h) (yg X2 (s0.trans s0A) (.head _))
        refine hq _ _ ⟨al, ws, kl, rfl, Fresh.mono X3.keep _ _ f3, ?_⟩ (hKeep _ (s0.trans (s0A.trans (s3.trans X3.keep))))
        rw [hord]
        have := keys_strs hwl hws
        rw [hdk] at this
        simpa [ordN] using this
end
section
open PySem PySem.W PyProof.Rows PySem.Calls PyProof.V PySem.Spec
set_option Elab.async false
set_option maxRecDepth 100000
set_option maxHeartbeats 4000000
set_option linter.unusedVariables false

section
variable {C : Cx} {A : Around} {E : Value → Heap → Prop} {g h : Heap}
theorem T_enter0E {En : Addr → Value → Heap → Prop} {f : Addr} {fd : FuncData} {oc : Value} {od : Option Addr} {osl : Array (Option Value)} {body : List Stmt} {pos : List Value} {kw : List (Str × Value)} {binds : List (Str × Value)} (S : List (Addr × Obj)) {Q : Value → Heap → Prop}
    (hG : Glob C g) (hk : Sub g h) (hf : (KF C).lookup f = some ⟨oc, od, .func fd, osl⟩) (hcd : codeIn (KF C) fd.code fd.qualname = true) (hbody : fd.body = .stmts body)
    (hroom : A.depth < recursionLimit)
    (hS : ∀ p ∈ S, h.get? p.1 = some p.2) (hSg : ∀ p ∈ S, g.get? p.1 = none) (hSn : (S.map (·.1)).Nodup)
    (hbind : ∀ tk, BindsTo (C.st h tk) fd ⟨pos, kw⟩ binds)
    (hkind : (binds.all fun y => fd.scope.names.lookup y.1 == some .local) = true)
    (hc : ∀ n, cellsFrom n fd.scope.names [] = [])
    (hb : ∀ gc h1 L, Sub g gc → (∀ b o, h.get? b = some o → b ∉ S.map (·.1) → gc.get? b = some o) → (∀ h2, Sub gc h2 → Keep (S.map (·.1)) h h2) →
      W C gc L (bindL (callEnvC fd L f).kindOf binds fun _ => none) S h1 →
      T C (A.deeper (callEnvC fd L f)) (execs body (callEnvC fd L f)) (fun fl h2 => Q (retv fl) h2) (En L) h1)
    (hE : ∀ (L : Addr) e h, En L e h → T C (A.deeper (callEnvC fd L f)) (leaving (callEnvC fd L f) e) (fun _ h' => E e h') E h)
    (hclo : fd.closure = [] := by rfl) (hco : fd.scope.isCoroutine = false := by rfl) (hgen : fd.scope.isGenerator = false := by rfl) (hkf : fd.scope.kind = .function := by rfl) :
    TC C A (.call (.ref f) ⟨pos, kw⟩) Q E h := by
  refine T_enterE (En := En) hG hk hf hcd hbody hroom hS hSg hSn hbind (fun x hx => .inl (by simpa using List.all_eq_true.mp hkind x hx)) (fun n => by rw [hc]; exact List.nodup_nil) ?_ hE hclo hco hgen hkf
  intro gc h1 cl a b c d _ X
  have : cl = [] := by
    have e : (callEnvC fd h.objs.size f).cells = [] := hc _
    rw [e] at d
    cases cl with
    | nil => rfl
    | cons _ _ => simp at d
  subst this
  exact hb gc h1 _ a b c X

theorem T_enter1E {En : Addr → Value → Heap → Prop} {f : Addr} {fd : FuncData} {oc : Value} {od : Option Addr} {osl : Array (Option Value)} {body : List Stmt} {pos : List Value} {kw : List (Str × Value)} {binds : List (Str × Value)} (S : List (Addr × Obj)) (x1 : Str) {Q : Value → Heap → Prop}
    (hG : Glob C g) (hk : Sub g h) (hf : (KF C).lookup f = some ⟨oc, od, .func fd, osl⟩) (hcd : codeIn (KF C) fd.code fd.qualname = true) (hbody : fd.body = .stmts body)
    (hroom : A.depth < recursionLimit)
    (hS : ∀ p ∈ S, h.get? p.1 = some p.2) (hSg : ∀ p ∈ S, g.get? p.1 = none) (hSn : (S.map (·.1)).Nodup)
    (hbind : ∀ tk, BindsTo (C.st h tk) fd ⟨pos, kw⟩ binds)
    (hkind : ∀ n, (binds.all fun y => fd.scope.names.lookup y.1 == some .local || (fd.scope.names.lookup y.1 == some .cell && ((cellsFrom n fd.scope.names []).lookup y.1).isSome)) = true)
    (hc : ∀ n, cellsFrom n fd.scope.names [] = [(x1, n)])
    (hb : ∀ gc h1 L c o, Sub g gc → (∀ b o, h.get? b = some o → b ∉ S.map (·.1) → gc.get? b = some o) → (∀ h2, Sub gc h2 → Keep (S.map (·.1)) h h2) →
      (callEnvC fd L f).cells = [(x1, c)] → o.data = .cell (bindC (callEnvC fd L f).kindOf binds (fun _ => none) x1) →
      W C gc L (bindL (callEnvC fd L f).kindOf binds fun _ => none) ((c, o) :: S) h1 →
      T C (A.deeper (callEnvC fd L f)) (execs body (callEnvC fd L f)) (fun fl h2 => Q (retv fl) h2) (En L) h1)
    (hE : ∀ (L : Addr) e h, En L e h → T C (A.deeper (callEnvC fd L f)) (leaving (callEnvC fd L f) e) (fun _ h' => E e h') E h)
    (hclo : fd.closure = [] := by rfl) (hco : fd.scope.isCoroutine = false := by rfl) (hgen : fd.scope.isGenerator = false := by rfl) (hkf : fd.scope.kind = .function := by rfl) :
    TC C A (.call (.ref f) ⟨pos, kw⟩) Q E h := by
  refine T_enterE (En := En) hG hk hf hcd hbody hroom hS hSg hSn hbind (fun x hx => ?_) (fun n => by rw [hc]; simp) ?_ hE hclo hco hgen hkf
  · have := List.all_eq_true.mp (hkind (h.objs.size + 1)) x hx
    rcases Bool.or_eq_true_iff.mp this with q | q
    · exact .inl (by simpa using q)
    · obtain ⟨q1, q2⟩ := Bool.and_eq_true_iff.mp q
      exact .inr ⟨by simpa using q1, q2⟩
  intro gc h1 cl a b c d e X
  have ec : (callEnvC fd h.objs.size f).cells = [(x1, h.objs.size + 1)] := hc _
  obtain ⟨o, ho, hd⟩ := e x1 (h.objs.size + 1) (by rw [ec]; exact .head _)
  rw [ec] at d
  have : cl = [(h.objs.size + 1, o)] := by
    match cl, d, ho with
    | [(c', o')], d, ho =>
      simp only [List.map_cons, List.map_nil, List.cons.injEq] at d
      rcases List.mem_cons.mp ho with e | e
      · rw [← e]
      · cases e
    | [], _, ho => cases ho
    | _ :: _ :: _, d, _ => simp at d
  subst this
  exact hb gc h1 _ _ o a b c ec hd X

end
theorem T_call0E {En : Addr → Value → Heap → Prop} {C : Cx} {A : Around} {E : Value → Heap → Prop} {g h : Heap} (f : Addr) {pos : List Value} {kw : List (Str × Value)} (binds : List (Str × Value)) (S : List (Addr × Obj)) {Q : Value → Heap → Prop}
    (hG : Glob C g) (hk : Sub g h) (hroom : A.depth < recursionLimit)
    (hS : ∀ p ∈ S, h.get? p.1 = some p.2) (hSg : ∀ p ∈ S, g.get? p.1 = none) (hSn : (S.map (·.1)).Nodup)
    (hf : ∃ oc od osl, (KF C).lookup f = some ⟨oc, od, .func (fdAt C f), osl⟩) (hcd : codeIn (KF C) (fdAt C f).code (fdAt C f).qualname = true) (hbody : (fdAt C f).body = .stmts (bodyF C f))
    (hbind : bindArgs (fdAt C f) ⟨pos, kw⟩ = pure binds)
    (hkind : (binds.all fun y => (fdAt C f).scope.names.lookup y.1 == some .local) = true)
    (hc : ∀ n, cellsFrom n (fdAt C f).scope.names [] = [])
    (hm : ∀ L, (bindL (envF C f L).kindOf binds fun _ => none) = nm binds)
    (hclo : (fdAt C f).closure = []) (hco : (fdAt C f).scope.isCoroutine = false) (hgen : (fdAt C f).scope.isGenerator = false) (hkf : (fdAt C f).scope.kind = .function)
    (hE : ∀ (L : Addr) e h, En L e h → T C (A.deeper (envF C f L)) (leaving (envF C f L) e) (fun _ h' => E e h') E h)
    (hb : ∀ gc h1 L, Sub g gc → (∀ b o, h.get? b = some o → b ∉ S.map (·.1) → gc.get? b = some o) → (∀ h2, Sub gc h2 → Keep (S.map (·.1)) h h2) →
      W C gc L (nm binds) S h1 →
      T C (A.deeper (envF C f L)) (execs (bodyF C f) (envF C f L)) (fun fl h2 => Q (retv fl) h2) (En L) h1) :
    TC C A (.call (.ref f) ⟨pos, kw⟩) Q E h := by
  obtain ⟨oc, od, osl, hf⟩ := hf
  refine T_enter0E (En := En) (fd := fdAt C f) (binds := binds) S hG hk hf hcd hbody hroom hS hSg hSn (fun tk => @BindsTo.of_eq (C.st h tk) (fdAt C f) ⟨pos, kw⟩ binds hbind) hkind hc (fun gc h1 L a b c X => ?_) hE hclo hco hgen hkf
  rw [hm] at X
  exact hb gc h1 L a b c X

theorem T_call1E {En : Addr → Value → Heap → Prop} {C : Cx} {A : Around} {E : Value → Heap → Prop} {g h : Heap} (f : Addr) {pos : List Value} {kw : List (Str × Value)} (binds lbinds : List (Str × Value)) (x1 : Str) (v1 : Option Value) (S : List (Addr × Obj)) {Q : Value → Heap → Prop}
    (hG : Glob C g) (hk : Sub g h) (hroom : A.depth < recursionLimit)
    (hS : ∀ p ∈ S, h.get? p.1 = some p.2) (hSg : ∀ p ∈ S, g.get? p.1 = none) (hSn : (S.map (·.1)).Nodup)
    (hf : ∃ oc od osl, (KF C).lookup f = some ⟨oc, od, .func (fdAt C f), osl⟩) (hcd : codeIn (KF C) (fdAt C f).code (fdAt C f).qualname = true) (hbody : (fdAt C f).body = .stmts (bodyF C f))
    (hbind : bindArgs (fdAt C f) ⟨pos, kw⟩ = pure binds)
    (hkind : ∀ n, (binds.all fun y => (fdAt C f).scope.names.lookup y.1 == some .local || ((fdAt C f).scope.names.lookup y.1 == some .cell && ((cellsFrom n (fdAt C f).scope.names []).lookup y.1).isSome)) = true)
    (hc : ∀ n, cellsFrom n (fdAt C f).scope.names [] = [(x1, n)])
    (hm : ∀ L, (bindL (envF C f L).kindOf binds fun _ => none) = nm lbinds) (hm1 : ∀ L, bindC (envF C f L).kindOf binds (fun _ => none) x1 = v1)
    (hclo : (fdAt C f).closure = []) (hco : (fdAt C f).scope.isCoroutine = false) (hgen : (fdAt C f).scope.isGenerator = false) (hkf : (fdAt C f).scope.kind = .function)
    (hE : ∀ (L : Addr) e h, En L e h → T C (A.deeper (envF C f L)) (leaving (envF C f L) e) (fun _ h' => E e h') E h)
    (hb : ∀ gc h1 L c o, Sub g gc → (∀ b o, h.get? b = some o → b ∉ S.map (·.1) → gc.get? b = some o) → (∀ h2, Sub gc h2 → Keep (S.map (·.1)) h h2) →
      (envF C f L).cells = [(x1, c)] → o.data = .cell v1 →
      W C gc L (nm lbinds) ((c, o) :: S) h1 →
      T C (A.deeper (envF C f L)) (execs (bodyF C f) (envF C f L)) (fun fl h2 => Q (retv fl) h2) (En L) h1) :
    TC C A (.call (.ref f) ⟨pos, kw⟩) Q E h := by
  obtain ⟨oc, od, osl, hf⟩ := hf
  refine T_enter1E (En := En) (fd := fdAt C f) (binds := binds) S x1 hG hk hf hcd hbody hroom hS hSg hSn (fun tk => @BindsTo.of_eq (C.st h tk) (fdAt C f) ⟨pos, kw⟩ binds hbind) hkind hc (fun gc h1 L cc oo a b c ec ed X => ?_) hE hclo hco hgen hkf
  rw [hm] at X
  rw [hm1] at ed
  exact hb gc h1 L cc oo a b c ec ed X

section
variable {C : Cx} {A : Around} {E : Value → Heap → Prop} {g h : Heap} {L : Addr} {m : Str → Option Value} {led : List (Addr × Obj)} {env : Env}
theorem T_runOwnE {c : Code} {E1 : Value → Heap → Prop} {Q : Flow → Heap → Prop} (hx : TCL C A c Q E1 h) (hR : ∀ e h tk, E1 e h → cameBackBy C.M A env (fun e s' => At C (E e) s') e (C.st h tk)) : T C A (runOwn c env) Q E h := fun tk => by
  refine wpAny_runOwn (codeAny_mono (show codeAny C.M (A.mark none) c _ _ from hx tk) fun r s' z => ?_)
  cases r with
  | ok f => exact z
  | error e => obtain ⟨h', tk', rfl, hx⟩ := z; exact hR e h' tk' hx
theorem T_ForE {target iter : Expr} {body : List Stmt} {pos : Pos} {E1 : Value → Heap → Prop} {Q : Flow → Heap → Prop}
    (hR : ∀ e h tk, E1 e h → cameBackBy C.M A env (fun e s' => At C (E e) s') e (C.st h tk))
    (hx : T C A (eval iter env) (fun x h1 => T C A (pyIter x) (fun itv h2 => TCL C A (.forLoop target itv body [] env) Q E1 h2) E h1) E h)
    (hs : ∀ x, foldedSetIterable iter env x = pure x := by intro _; kernel_rfl) : T C A (exec (.For target iter body [] pos) env) Q E h := by
  refine T_eq (arm_exec_For target iter body [] pos env) (T_bind (T_at (T_bind (T_post hx fun x h1 H => T_bind (T_eq (hs x) (T_pure (T_bind (T_at (T_bind (T_holding (T_post H fun itv h2 H2 => T_runOwnE H2 hR)))))))))))
theorem TL_srcE {En E2 : Value → Heap → Prop} {target : Expr} {body : List Stmt} {x : Value} {n : Nat} {P : Nat → Heap → Value → Prop} {Q : Flow → Heap → Prop} (S : Src C A target x n P g L m led E h)
    (J : Nat → Heap → (Str → Option Value) → List (Addr × Obj) → Prop) (hJ : J 0 g m led)
    (turn : ∀ i v g1 m1 led1 own h1 K, Hid (Turn C L own g1 (J (i + 1)) Q) K → i < n → Sub g g1 → J i g1 m1 led1 → P i h1 v → W C g1 L m1 (own ++ led1) h1 →
      T C A (assign target env v) (fun _ h2 => T C A (execs body env) K En h2) En h1)
    (hE : ∀ e h, En e h → T C A (noteFrame e env) (fun _ h' => E2 e h') E2 h)
    (done : ∀ g1 m1 led1 h1, Sub g g1 → J n g1 m1 led1 → W C g1 L m1 led1 h1 → Q .next h1) :
    T C A (pyIter x) (fun itv h2 => TCL C A (.forLoop target itv body [] env) Q E2 h2) E h :=
  T_post S fun itv h2 ⟨I, e, X2, _, fp, wr, St, it, st, ap, nd, hf⟩ => e ▸ TL_forE (En := En) it X2 st ap nd hf J hJ (fun i v g1 m1 led1 own h1 a b c d _ X => turn i v g1 m1 led1 own h1 _ (Hid.refl _) a b c d X) hE done

end
end
section
open PySem PySem.W PyProof.Rows PySem.Calls PyProof.V PySem.Spec
set_option Elab.async false
set_option maxRecDepth 100000
set_option maxHeartbeats 4000000
set_option linter.unusedVariables false

/-- the fault under way; fl: the frame that holds it -/
structure FltAt (base : Heap) (l : List Env) (spot : Int) (ea : Addr) (oe : Obj) (vs : Array Value) (dx : Addr) (od : Obj) (h : Heap) : Prop where
  stays : Sub base h
  new : base.get? ea = none
  frames : h.FunFrames base l
  obj : h.get? ea = some oe
  cls : oe.cls = .ref 52
  dict : oe.dict = some dx
  data : oe.data = .fields vs
  size : 1 < vs.size
  dobj : h.get? dx = some od
  spot : ∃ mi k t, ONs od mi k ∧ mi (S_ "spot") = some (.int spot t)
def Flt0 (base : Heap) (l : List Env) (spot : Int) (e : Value) (h : Heap) : Prop := E5 fun ea oe vs dx od => A3 (e = .ref ea) (FltAt base l spot ea oe vs dx od h) (vs[1]? = some .none)
def Flt (base : Heap) (l : List Env) (spot : Int) (fl : Value) (e : Value) (h : Heap) : Prop :=
  E8 fun ea oe vs dx od T oT ts => A8 (e = .ref ea) (FltAt base l spot ea oe vs dx od h) (vs[1]? = some (.ref T)) (base.get? T = none) (T ≠ ea) (h.get? T = some oT) (oT.data = .fields ts) (ts[3]? = some fl)

theorem ons_data {o o' : Obj} {mi : Str → Option Value} {k : Nat} (e : o'.data = o.data) (x : ONs o mi k) : ONs o' mi k := let ⟨es, ep, hd, r⟩ := x; ⟨es, ep, e.trans hd, r⟩
theorem ons_nf {o : Obj} {mi : Str → Option Value} {k : Nat} (x : ONs o mi k) : ∀ vs, o.data ≠ .fields vs := let ⟨es, ep, hd, _⟩ := x; fun vs e => by rw [hd] at e; cases e

section
variable {C : Cx} {A : Around} {E : Value → Heap → Prop} {base h : Heap} {l outer : List Env} {env : Env} {L : Addr} {spot : Int}

/-- a new entry of the traceback -/
theorem flt_entry {ea : Addr} {oe : Obj} {vs : Array Value} {dx : Addr} {od : Obj} {head : Value} {hadNext : Bool} {Q : Heap → Prop} (hfr : A.frames = some (env :: outer)) (hf : env.frame = some L) (x : FltAt base (env :: outer) spot ea oe vs dx od h)
    (hq : ∀ h' oe' vs' od' T oT ts, FltAt base (env :: outer) spot ea oe' vs' dx od' h' → vs'[1]? = some (.ref T) → base.get? T = none → T ≠ ea → h'.get? T = some oT → oT.data = .fields ts → ts[3]? = some (rawInt L) → Heap.UpToSlots h h' → Q h') :
    T C A (do let a ← frameOf env; let pl ← entryPlaceOf L hadNext; let b ← EntryCells.newEntry head a .none (rawInt L) .none pl; setField (.ref ea) 1 b) (fun _ h' => Q h') E h := fun tk => by
  obtain ⟨kb, hen, hl, he, hcls, hdict, hd, hsz, hdx, mi, k, t, hons, hsp⟩ := x
  have hene : ea ∉ (env :: outer).filterMap (·.frame) := fun hm => by
    obtain ⟨_, o, ho, hnf⟩ := hl.mem hm
    rw [he] at ho; injection ho with ho; subst ho; exact hnf vs hd
  refine wpAny_bind (wpAny_frameOf_fun (base := base) (s := C.st h tk) hfr hl hf fun h1 hs1 => ?_)
  refine wpAny_bind (wpAny_entryPlaceOf fun pl hpl => ?_)
  unfold EntryCells.newEntry newFields
  refine wpAny_bind (wpAny_newObj_type ?_ (hpl.sizeOk5 _ _ _ _ _))
  have he1 : h1.get? ea = some oe := (hs1.2.1 ea hene).trans he
  have kb1 : Sub base h1 := fun b o hbo => (hs1.2.1 b fun hm => by rw [(hl.mem hm).1] at hbo; cases hbo).trans (kb b o hbo)
  have he2 := Heap.get?_push_of_some (h := h1) { cls := .type "traceback", dict := none, data := .fields ([head, .ref L, .none, rawInt L, .none] ++ (if pl.isEmpty then List.replicate 6 Value.none else pl)).toArray } he1
  refine wpAny_setField he2 hd hsz ?_
  have hTe : h1.objs.size ≠ ea := Nat.ne_of_gt (Heap.lt_size he1)
  have hd3 := Obj.data_mapFields hd (·.setIfInBounds 1 (Value.ref h1.objs.size))
  have he3 := Heap.get?_update_self (Obj.mapFields (·.setIfInBounds 1 (Value.ref h1.objs.size))) he2 (Obj.isFreed_of_fields hd3)
  have hT3 := (Heap.get?_update_other (h1.push { cls := .type "traceback", dict := none, data := .fields ([head, .ref L, .none, rawInt L, .none] ++ (if pl.isEmpty then List.replicate 6 Value.none else pl)).toArray })
    (Obj.mapFields (·.setIfInBounds 1 (Value.ref h1.objs.size))) (Ne.symm hTe)).trans (Heap.get?_push_size h1 rfl)
  have keep : ∀ b o, b ≠ ea → h1.get? b = some o →
      ((h1.push { cls := .type "traceback", dict := none, data := .fields ([head, .ref L, .none, rawInt L, .none] ++ (if pl.isEmpty then List.replicate 6 Value.none else pl)).toArray }).update ea (Obj.mapFields (·.setIfInBounds 1 (Value.ref h1.objs.size)))).get? b = some o := fun b o hbe hb => by
    rw [Heap.get?_update_other _ _ (Ne.symm hbe)]
    exact Heap.get?_push_of_some _ hb
  have noRec : ∀ b o, h.get? b = some o → (∀ vs, o.data ≠ .fields vs) → b ≠ ea := fun b o hb hnf q => by
    rw [q, he] at hb; injection hb with hb; subst hb; exact hnf vs hd
  have up : Heap.UpToSlots h _ := fun b o hb hnf => let ⟨sl, hs⟩ := hs1.2.2 b o hb; ⟨sl, keep b _ (noRec b o hb hnf) hs⟩
  obtain ⟨sl, hsl⟩ := up dx od hdx (ons_nf hons)
  refine ⟨_, _, rfl, hq _ _ _ { od with slots := sl } h1.objs.size _ _ ⟨fun b o hbo => keep b o (fun q => by rw [q, hen] at hbo; cases hbo) (kb1 b o hbo), hen, hl.of_keeps fun b o hb hnf => ?_, he3, (Obj.cls_mapFields _ _).trans hcls, ?_, hd3, by simp [hsz], hsl, mi, k, t, ons_data rfl hons, hsp⟩ (by simp [hsz]) ?_ hTe hT3 rfl (by first | (simp; done) | (rcases hpl with rfl | ⟨_, _, _, _, _, _, _, rfl⟩ <;> simp)) up⟩
  · obtain ⟨sl, hs⟩ := up b o hb hnf
    exact ⟨_, hs, rfl⟩
  · obtain ⟨c, d, dt, s⟩ := oe
    simp only at hd
    subst hd
    exact hdict
  · cases e : base.get? h1.objs.size with
    | none => rfl
    | some o => have := kb1 _ _ e; rw [get_size] at this; cases this

/-- the frame in which it was raised -/
theorem note_first {e : Value} {Q : Heap → Prop} (hfr : A.frames = some (env :: outer)) (hf : env.frame = some L) (x : Flt0 base (env :: outer) spot e h) (hq : ∀ h', Flt base (env :: outer) spot (rawInt L) e h' → Heap.UpToSlots h h' → Q h') : T C A (noteFrame e env) (fun _ h' => Q h') E h := by
  obtain ⟨ea, oe, vs, dx, od, rfl, y, h1⟩ := x
  unfold noteFrame
  simp only [hf]
  refine T_bind (fun tk => wpAny_field y.obj y.data h1 ⟨_, _, rfl, ?_⟩)
  show T C A _ _ _ _
  rw [if_neg (by decide)]
  exact flt_entry hfr hf y fun h' oe' vs' od' T oT ts y' a b c d f g up => hq h' ⟨ea, oe', vs', dx, od', T, oT, ts, rfl, y', a, b, c, d, f, g⟩ up

/-- the frame it flies into -/
theorem note_next {e : Value} {Q : Heap → Prop} (hfr : A.frames = some (env :: outer)) (hf : env.frame = some L) (x : Flt base (env :: outer) spot .none e h) (hq : ∀ h', Flt base (env :: outer) spot (rawInt L) e h' → Heap.UpToSlots h h' → Q h') : T C A (noteFrame e env) (fun _ h' => Q h') E h := by
  obtain ⟨ea, oe, vs, dx, od, T0, oT0, ts0, rfl, y, h1, hT0, hTe, hT, hTd, h3⟩ := x
  unfold noteFrame
  simp only [hf]
  refine T_bind (fun tk => wpAny_field y.obj y.data h1 ⟨_, _, rfl, ?_⟩)
  show T C A _ _ _ _
  rw [if_pos (show (Value.ref T0 != Value.none) = true from by simp)]
  refine T_bind (fun tk => wpAny_field hT hTd h3 ⟨_, _, rfl, ?_⟩)
  show T C A _ _ _ _
  rw [if_neg (show ¬ ((Value.none == rawInt L) = true) from by simp [rawInt])]
  refine T_bind (fun tk => wpAny_setField hT hTd (Array.getElem?_eq_some_iff.mp h3).1 ⟨_, _, rfl, ?_⟩)
  have other : ∀ b, b ≠ T0 → (h.update T0 (Obj.mapFields (·.setIfInBounds 3 Value.none))).get? b = h.get? b := fun b hb => Heap.get?_update_other _ _ (Ne.symm hb)
  have noRec : ∀ b o, h.get? b = some o → (∀ vs, o.data ≠ .fields vs) → b ≠ T0 := fun b o hb hnf q => by
    rw [q, hT] at hb; injection hb with hb; subst hb; exact hnf ts0 hTd
  obtain ⟨mi, k, t, hons, hsp⟩ := y.spot
  refine flt_entry (vs := vs) hfr hf ⟨fun b o hbo => (other b fun q => by rw [q, hT0] at hbo; cases hbo).trans (y.stays b o hbo), y.new, y.frames.of_keeps fun b o hb hnf => ⟨o, (other b (noRec b o hb hnf)).trans hb, rfl⟩, (other ea (Ne.symm hTe)).trans y.obj, y.cls, y.dict, y.data, y.size, (other dx (noRec dx od y.dobj (ons_nf hons))).trans y.dobj, y.spot⟩ fun h' oe' vs' od' T oT ts y' a b c d f g up => ?_
  exact hq h' ⟨ea, oe', vs', dx, od', T, oT, ts, rfl, y', a, b, c, d, f, g⟩ fun b o hb hnf => up b o ((other b (noRec b o hb hnf)).trans hb) hnf

theorem flt_flight {e : Value} {fl : Value} {fo : Option Addr} {Q : Heap → Prop} (x : Flt base l spot fl e h) (hq : ∀ h', Flt base l spot (fo.elim Value.none fun f => rawInt f) e h' → Heap.UpToSlots h h' → Q h') : T C A (setFlight e fo) (fun _ h' => Q h') E h := by
  obtain ⟨ea, oe, vs, dx, od, T0, oT0, ts0, rfl, y, h1, hT0, hTe, hT, hTd, h3⟩ := x
  have hsz3 : 3 < ts0.size := (Array.getElem?_eq_some_iff.mp h3).1
  have other : ∀ b, b ≠ T0 → (h.update T0 (Obj.mapFields (·.setIfInBounds 3 (fo.elim Value.none fun f => rawInt f)))).get? b = h.get? b := fun b hb => Heap.get?_update_other _ _ (Ne.symm hb)
  have noRec : ∀ b o, h.get? b = some o → (∀ vs, o.data ≠ .fields vs) → b ≠ T0 := fun b o hb hnf q => by
    rw [q, hT] at hb; injection hb with hb; subst hb; exact hnf ts0 hTd
  obtain ⟨mi, k, t, hons, hsp⟩ := y.spot
  unfold setFlight
  refine T_bind (fun tk => wpAny_field y.obj y.data h1 ⟨_, _, rfl, ?_⟩)
  show T C A _ _ _ _
  rw [if_pos (show (Value.ref T0 != Value.none) = true from by simp)]
  refine fun tk => wpAny_setField hT hTd hsz3 ⟨_, _, rfl, hq _ ⟨ea, oe, vs, dx, od, T0, _, _, rfl, ⟨fun b o hbo => (other b fun q => by rw [q, hT0] at hbo; cases hbo).trans (y.stays b o hbo), y.new, y.frames.of_keeps fun b o hb hnf => ⟨o, (other b (noRec b o hb hnf)).trans hb, rfl⟩, (other ea (Ne.symm hTe)).trans y.obj, y.cls, y.dict, y.data, y.size, (other dx (noRec dx od y.dobj (ons_nf hons))).trans y.dobj, y.spot⟩, h1, hT0, hTe, Heap.get?_update_self _ hT (Obj.isFreed_of_fields (Obj.data_mapFields hTd _)), Obj.data_mapFields hTd _, by simp [hsz3]⟩ fun b o hb hnf => ⟨o.slots, (other b (noRec b o hb hnf)).trans hb⟩⟩

/-- it comes back from a loop -/
theorem flt_back {e : Value} {fl : Value} {Q : Value → Heap → Prop} {tk : Nat} (hf : env.frame = some L) (x : Flt base l spot fl e h) (hq : ∀ h', Flt base l spot (rawInt L) e h' → Heap.UpToSlots h h' → Q e h') : cameBackBy C.M A env (fun e s' => At C (Q e) s') e (C.st h tk) := by
  obtain ⟨ea, oe, vs, dx, od, T0, oT0, ts0, rfl, y, h1, r⟩ := id x
  unfold cameBackBy
  refine wpAny_bind (wpAny_field y.obj y.data h1 ?_)
  rw [if_neg (by simp)]
  rw [hf]
  exact flt_flight (C := C) (A := A) (E := Q) (Q := Q (.ref ea)) (fo := some L) x hq tk

/-- it leaves the function -/
theorem flt_leave {e : Value} {Q : Heap → Prop} (hf : env.frame = some L) (x : Flt base (env :: outer) spot (rawInt L) e h) (hq : ∀ h', Flt base outer spot .none e h' → Heap.UpToSlots h h' → Q h') : T C A (leaving env e) (fun _ h' => Q h') E h := by
  obtain ⟨ea, oe, vs, dx, od, T0, oT0, ts0, rfl, y, h1, hT0, hTe, hT, hTd, h3⟩ := id x
  unfold leaving noteFrame
  simp only [hf]
  refine T_bind (T_bind (fun tk => wpAny_field y.obj y.data h1 ⟨_, _, rfl, ?_⟩))
  show T C A _ _ _ _
  rw [if_pos (show (Value.ref T0 != Value.none) = true from by simp)]
  refine T_bind (fun tk => wpAny_field hT hTd h3 ⟨_, _, rfl, ?_⟩)
  show T C A _ _ _ _
  rw [if_pos (show (rawInt L == rawInt L) = true from by simp)]
  show T C A _ _ _ _
  refine T_pure (flt_flight (fo := none) x fun h' x' up => hq h' ?_ up)
  obtain ⟨ea', oe', vs', dx', od', T', oT', ts', e1, y', r1, r2, r3, r4, r5, r6⟩ := x'
  exact ⟨ea', oe', vs', dx', od', T', oT', ts', e1, ⟨y'.stays, y'.new, y'.frames.2.2, y'.obj, y'.cls, y'.dict, y'.data, y'.size, y'.dobj, y'.spot⟩, r1, r2, r3, r4, r5, r6⟩
end
end
section
open PySem PySem.W PyProof.Rows PySem.Calls PyProof.V PySem.Spec PySem.Builtin.ObjectAttr
set_option Elab.async false
set_option maxRecDepth 100000
set_option maxHeartbeats 4000000
set_option linter.unusedVariables false

abbrev mro52 : List Value := [.ref 52, .ref 39, .type "Exception", .type "BaseException", .type "object"]
theorem refuse52 (self : Value) : refuseLoop self "__setattr__" mro52 = pure () := by
  rw [refuseLoop_ref, refuseLoop_ref]
  kernel_rfl

section
variable {C : Cx} {A : Around} {E : Value → Heap → Prop} {g h : Heap} {L : Addr} {m : Str → Option Value} {led : List (Addr × Obj)}

/-- the dict of an own exception takes a name -/
theorem wp_storeDict {dx : Addr} {od : Obj} {mi : Str → Option Value} {k : Nat} {name : Str} {v : Value} {tk0 : Tok} {tk : Nat} {led' : Obj → List (Addr × Obj)} {Q : Fin → Shared → Prop} {E : Value → Shared → Prop} (X : W C g L m led h) (u : ∀ o', Up dx od o' led (led' o')) (ho : ONs od mi k) (hk : k ≤ 1000)
    (hq : ∀ h' o' tk', ONs o' (upd mi name v) (k + 1) → Heap.SameBut dx h h' → W C g L m (led' o') h' → Q (.done (.ret .none)) (C.st h' tk')) :
    wpAny C.M A (storeInDict dx (.str name tk0) name v) Q E (C.st h tk) := by
  have hd : h.get? dx = some od := X.at_ _ (u od).mem
  have U : ∀ hsh t, ONs (Obj.putName name hsh (.str name t) v od) (upd mi name v) (k + 1) := fun hsh t => putName_ns ho name hsh t v
  obtain ⟨es, ep, hdd, hkk, hz, hff⟩ := id ho
  have hfr : od.isFreed = false := Obj.isFreed_of_dict hdd
  unfold storeInDict
  refine wpAny_bind (wpAny_pure (wpAny_bind ?_))
  unfold nsSet
  refine wpAny_bind (wpAny_bind (wpAny_askSetting (wpAny_pure (wpAny_bind (wpAny_mkText (wpAny_bind (wpAny_loadPart hd ?_)))))))
  rw [hdd]
  dsimp only
  have c : (!es.any (·.key.isStr name) && es.any (·.refKey)) = false := by
    have : es.any (·.refKey) = false := by
      rw [Array.any_eq_false']; intro e he; obtain ⟨n, t, h⟩ := hkk e he; simp [DictEntry.refKey, h]
    rw [this, Bool.and_false]
  rw [aRefKeyMayBeTheName_at, c]
  refine wpAny_updatePart hd ?_
  generalize hob : Obj.putName name _ _ v = F
  have hF : ONs (F od) (upd mi name v) (k + 1) := by rw [← hob]; exact U _ _
  have hFf : (F od).isFreed = false := by rw [← hob]; exact putName_free hfr
  have hget : (h.update dx F).get? dx = some (F od) := Heap.get?_update_self _ hd hFf
  have hF' := hF
  obtain ⟨es', ep', hd2, _, hz', _⟩ := hF
  refine wpAny_bind (wpAny_lookBehind hget (by rw [hd2]; exact pastItsLine_dict (by rw [sizeLine_eq]; omega)) ?_)
  exact wpAny_pure (hq _ _ _ hF' (Heap.SameBut.update ..) (X.same (u _) (Heap.SameBut.update ..) hget))

/-- a name of an own exception is stored -/
theorem T_setattr52 {e : Addr} {oe : Obj} {od? : Option Obj} {name : Str} {v : Value} {Q : Unit → Heap → Prop} (X : W C g L m led h) (I : InstAt h e oe 52 od?) (ht : takerIn (KF C) 52 name = some none)
    (hst : ∀ b tk0 tk (E : Value → Shared → Prop), wpAny C.M A.in1 (storeInOwnDict (.ref e) (.ref 52) (.str name tk0) name v b) (fun fin s' => match fin with | .done (.ret _) => At C (Q ()) s' | _ => False) E (C.st h tk)) :
    T C A (setAttr (.ref e) name v) Q E h := fun tk => by
  have hK : (KF C).In h := X.glob.K.keeps X.keep
  refine set_plain hK I (by kernel_rfl) ?_
  have SF := PySem.F.store_object
  have hmro : (clsIn (KF C) 52).map (·.mro) = some mro52 := by kernel_rfl
  obtain ⟨cd, hc, ho⟩ := Option.map_eq_some_iff.mp hmro
  have sub : Looks C.M h (isInstance (.ref e) (.type "object")) true := I.type.andThen (looks_mroIn hK (by unfold mroIn; rw [hc, Option.bind_some, ho]; rfl))
  refine codeAny_call_builtin SF.slot.plain SF.entry (@check_slot C.M _ _ _ "object.__setattr__" "object" "__setattr__" (.ref e) [.str name _, v] [] _ SF.kind SF.split sub (SF.args (.ref e) (.str name _) v) ?_)
  obtain ⟨attr, ha, hr⟩ := Option.bind_eq_some_iff.mp ht
  have hm : Looks C.M h (mroOf (.ref 52)) cd.mro := (looks_clsIn hK hc).andThen .now
  have L3 : Looks C.M h (storeTaker? attr) none := by
    cases attr with
    | none => exact .now
    | some a =>
      obtain ⟨b, hb, hr⟩ := Option.map_eq_some_iff.mp hr
      refine (looks_takesIn hK hb).andThen ?_
      cases b
      · exact .now
      · cases hr
  rw [osa_eq, refuse_eq]
  refine wpAny_bind (wpAny_bind (I.type.here (wpAny_bind (hm.here ?_))))
  rw [ho, refuse52]
  refine wpAny_pure (wpAny_bind (I.type.here (wpAny_bind ((looks_findIn hK ha).here (wpAny_bind (L3.here ?_))))))
  refine wpAny_mono (hst _ _ _ _) (fun fin s' z => ?_) fun _ _ z => z
  rcases fin with (v | _ | _ | _) | _ <;> first | exact z | exact z.elim

theorem dict52 (C : Cx) : (clsIn (KF C) 52).any (·.hasDict) = true := by kernel_rfl

/-- .. the second name and the later ones -/
theorem T_set52 {e dx : Addr} {oe od : Obj} {mi : Str → Option Value} {k : Nat} {name : Str} {v : Value} {led' : Obj → List (Addr × Obj)} {Q : Unit → Heap → Prop} (X : W C g L m led h) (he : h.get? e = some oe) (hcl : oe.cls = .ref 52) (hno : notCls oe = true) (hdc : oe.dict = some dx)
    (u : ∀ o', Up dx od o' led (led' o')) (ho : ONs od mi k) (hk : k ≤ 1000)
    (hq : ∀ h' o', ONs o' (upd mi name v) (k + 1) → Heap.SameBut dx h h' → W C g L m (led' o') h' → Q () h') (ht : takerIn (KF C) 52 name = some none) :
    T C A (setAttr (.ref e) name v) Q E h := by
  have hK : (KF C).In h := X.glob.K.keeps X.keep
  have hd : h.get? dx = some od := X.at_ _ (u od).mem
  obtain ⟨cd, hc, hd'⟩ := any_some (dict52 C)
  refine T_setattr52 (od? := some od) X ⟨he, hcl, hno, by rw [hdc]; exact hd⟩ ht fun b tk0 tk E => ?_
  unfold storeInOwnDict ownDictForStores instanceDict
  refine wpAny_bind (wpAny_pure (wpAny_bind (wpAny_bind (wpAny_loadPart he ?_))))
  rw [hcl]
  refine wpAny_bind ((looks_clsIn hK hc).here ?_)
  rw [hd', hdc]
  refine wpAny_pure (a := some dx) ?_
  exact wp_storeDict X u ho hk fun h' o' tk' a b c => ⟨_, _, rfl, hq h' o' a b c⟩

/-- .. the first name -/
theorem T_set52_first {e : Addr} {oe : Obj} {name : Str} {v : Value} {led' : Obj → List (Addr × Obj)} {vs : Array Value} {Q : Unit → Heap → Prop} (X : W C g L m led h) (hcl : oe.cls = .ref 52) (hdt : oe.data = .fields vs) (hdc : oe.dict = none)
    (u : ∀ o', Up e oe o' led (led' o'))
    (hq : ∀ h' dx o', ONs o' (upd (fun _ => none) name v) 1 → h.get? dx = none → W C g L m ((dx, o') :: led' { oe with dict := some dx }) h' → Q () h') (ht : takerIn (KF C) 52 name = some none) :
    T C A (setAttr (.ref e) name v) Q E h := by
  have hK : (KF C).In h := X.glob.K.keeps X.keep
  have he : h.get? e = some oe := X.at_ _ (u oe).mem
  obtain ⟨cd, hc, hd'⟩ := any_some (dict52 C)
  refine T_setattr52 (od? := none) X ⟨he, hcl, by unfold notCls; rw [hdt], by rw [hdc]; trivial⟩ ht fun b tk0 tk E => ?_
  unfold storeInOwnDict ownDictForStores instanceDict
  refine wpAny_bind (wpAny_pure (wpAny_bind (wpAny_bind (wpAny_loadPart he ?_))))
  rw [hcl]
  refine wpAny_bind ((looks_clsIn hK hc).here ?_)
  rw [hd', hdc]
  have he1 : (h.push dictO).get? e = some oe := Heap.get?_push_of_some _ he
  have X1 := X.push (o := dictO)
  have hget : ((h.push dictO).update e fun o => { o with dict := some h.objs.size }).get? e = some { oe with dict := some h.objs.size } := Heap.get?_update_self _ he1 (Obj.isFreed_of_fields (o := { oe with dict := some h.objs.size }) hdt)
  have X2 := X1.same (.there (u { oe with dict := some h.objs.size })) (Heap.SameBut.update ..) hget
  show wpAny C.M A.in1 _ _ _ _
  simp only [hdt, typeHasDict, Bool.not_true, Bool.or_self, Bool.false_eq_true, if_false]
  refine wpAny_bind (wpAny_alloc (wpAny_bind (wpAny_update he1 (wpAny_pure ?_))))
  exact wp_storeDict X2 (fun _ => .here) ONs.empty (by omega) fun h' o' tk' a b c => ⟨_, _, rfl, hq h' _ o' a (get_size h) c⟩
end
end
section
open PySem PySem.W PyProof.Rows PySem.Calls PyProof.V PySem.Spec PySem.Builtin.ObjectAttr
set_option Elab.async false
set_option maxRecDepth 100000
set_option maxHeartbeats 4000000
set_option linter.unusedVariables false

abbrev bm52 : List Value := [.ref 39, .type "Exception", .type "BaseException", .type "object"]
abbrev excO (t : Addr) : Obj := { cls := .ref 52, data := .fields #[.ref t, .none, .none, .none, .bool false, .none] }
abbrev tupV (vs : List Value) : Obj := { cls := .type "tuple", data := .seq vs.toArray }
theorem obj52 (C : Cx) : (KF C).lookup 52 = some (excClassObj "NameFault" "NameFault" 52 51 [.ref 39] bm52 true [] [] false none none (some (.ref 43)) none (some (.str "NameFault" 228)) (some (.str "NameFault" 236)) (some (.bool true)) "Exception.__new__") := by kernel_rfl

section
variable {A : Around} {h : Heap} {g : Array GenState} {d : Drawn} {t : Nat} {os : OsState} {prog : Program} {w : World}
variable {nm q : Str} {N : Addr} {bs : List Value} {hdct : Bool} {sn : List Str} {sub : List Value} {ab : Bool} {col : Option Bool} {dd : Option Addr} {k0 k1 k2 k3 k5 : Option Value}

theorem new52 {E : Value → Shared → Prop} {rest : List Value} {Q : Fin → Shared → Prop}
    (hC : h.get? 52 = some (excClassObj nm q 52 N bs bm52 hdct sn sub ab col dd k0 k1 k2 k3 k5 "Exception.__new__"))
    (hl : Looks (model prog w) h (typeLookup (.ref 52) "__init__") (some (.ref 36))) (hf : Looks (model prog w) h (typeOf (.ref 36)) (.type "function")) (hrest : rest.length ≤ sizeLine)
    (hq : ∀ h' e tt, (∀ b o, h.get? b = some o → h'.get? b = some o) → e = h.objs.size + 1 → tt = h.objs.size → h' = ((h.push (tupV rest)).push (excO tt)) →
      wpAny (model prog w) A (call (.ref 36) (.ref e :: rest)) (fun r s' => r = .none ∧ Q (.done (.ret (.ref e))) s') E ⟨h', g, d, t, os⟩) :
    wpAny (model prog w) A (Builtin.«type.__call__» ⟨.ref 52 :: rest, []⟩) Q E ⟨h, g, d, t, os⟩ := by
  have F := PySem.F.excBase_Exception
  have hends := F.ends
  have hstar := F.noStar
  have cB : (Value.ref 52 :: bm52).contains (.type "Exception") = true := by decide
  have cA : (Value.ref 52 :: bm52).contains (.type "AttributeError") = false := by decide
  have cN : (Value.ref 52 :: bm52).contains (.type "NameError") = false := by decide
  have cC : (Value.ref 52 :: bm52).contains (.ref 52) = true := by decide
  repeat (first | with_reducible refine wpAny_loadPart_at hC ?_ | with_reducible refine wpAny_madeBy_exc hC ?_ | wp_step)
  refine codeAny_call_builtin_code (Code.quiet_builtin _ F.quiet) ?_
  · simp only [checkBuiltinCall, F.newKind, F.newSplit, F.newRow]
    repeat (first | refine wpAny_loadPart_at hC ?_ | (refine wpAny_isSubtype_exc hC ?_; rw [cB]) | refine wpAny_staticBase_exc hC ?_ | refine wpAny_madeBy_exc hC ?_ | simp only [bne_self_eq_false, Bool.false_eq_true, if_false] | wp_step)
    refine codeAny_builtinAt F.entry ?_
    unfold Builtin.«BaseException.__new__»
    refine PySem.wpAt_bind ?_
    show PySem.wpAt _ _ _ (stack >>= _) _ _ _
    refine PySem.wpAt_bind (PySem.wpAt_stack fun p below => PySem.wpAt_of_wpAny ?_)
    wp_walk
    refine PySem.wpAt_of_wpAny ?_
    rw [F.owner]
    repeat (first | with_reducible refine wpAny_madeHere_exc F.canon hC ?_ | with_reducible refine wpAny_loadPart_at hC ?_ | (with_reducible refine wpAny_isSubtype_exc hC ?_; first | rw [cB] | rw [cA] | rw [cN]) | wp_step)
    have hk : ∀ b o, h.get? b = some o → ((h.push (tupV rest)).push (excO h.objs.size)).get? b = some o := fun b o e => Heap.get?_push_of_some _ (Heap.get?_push_of_some _ e)
    have hget : ((h.push (tupV rest)).push (excO h.objs.size)).get? (h.objs.size + 1) = some (excO h.objs.size) := by heap_get
    have hap : (#[Value.ref h.objs.size, Value.none, Value.none, Value.none, Value.bool false, Value.none] ++ (List.replicate 0 (rawInt 0)).toArray) = #[Value.ref h.objs.size, Value.none, Value.none, Value.none, Value.bool false, Value.none] := by simp
    simp only [hap]
    repeat (first | with_reducible refine wpAny_loadPart_at hget ?_ | (with_reducible refine wpAny_isSubtype_exc (hk _ _ hC) ?_; rw [cC]) | wp_step)
    show wpAny _ _ (typeLookup (.ref 52) _) _ _ _
    refine (hl.keeps hk).here ?_
    refine wpAny_holding (wpAny_bind ?_)
    unfold bindSpecial
    refine wpAny_bind ((hf.keeps hk).here ?_)
    rw [if_pos (by decide)]
    refine wpAny_pure (wpAny_bind (wpAny_mono (hq _ _ _ hk (by rw [Heap.size_push]) rfl rfl) (fun r s' hr => ?_) fun _ _ x => x))
    obtain ⟨rfl, hQ⟩ := hr
    wp_walk
    exact hQ
end

section
variable {C : Cx} {A : Around} {E : Value → Heap → Prop} {g h : Heap} {L : Addr} {m : Str → Option Value} {led : List (Addr × Obj)}
theorem T_new52 {pos : List Value} {Q : Value → Heap → Prop} (X : W C g L m led h) (hz : pos.length ≤ sizeLine)
    (hb : ∀ e t h', W C g L m ((e, excO t) :: (t, tupV pos) :: led) h' → (∀ b o, h.get? b = some o → h'.get? b = some o) → h.get? e = none → h.get? t = none →
      TC C (A.under (.builtin "type.__call__" ⟨.ref 52 :: pos, []⟩)) (.call (.ref 36) ⟨.ref e :: pos, []⟩) (fun v h2 => v = .none ∧ Q (.ref e) h2) E h') :
    T C A (call (.ref 52) pos []) Q E h := fun tk => by
  have hK : (KF C).In h := X.glob.K.keeps X.keep
  have hC : h.get? 52 = _ := hK _ _ (obj52 C)
  have f1 := tc_lookup
  have f2 := tc_bind (.ref 52)
  have hT : (C.st h tk).TypeIs (.ref 52) "type" := ⟨_, hC, rfl⟩
  refine wpAny_call (codeAny_of_tree ?_)
  show wpAny _ _ (callAny (.ref 52) _) _ _ _
  unfold Cx.st at *
  repeat (any_goals (first | assumption | with_reducible refine wpAny_loadPart_at hC ?_ | wp_step))
  refine ⟨rfl, ?_⟩
  refine codeAny_call_builtin_at (Code.quiet_builtin _ (by decide +kernel)) entry_typeCall (wpAny_check_type_call_sub hC (new52 hC (looks_findIn hK (by kernel_rfl)) (looks_typeIn hK (by kernel_rfl)) hz fun h' e tt hk he ht hh => ?_))
  subst he ht hh
  have X1 := (X.push (o := tupV pos)).push (o := excO h.objs.size)
  rw [Heap.size_push] at X1
  have := hb (h.objs.size + 1) h.objs.size _ X1 hk (by
    cases e : h.get? (h.objs.size + 1) with
    | none => rfl
    | some o => exact absurd (Heap.lt_size e) (Nat.not_lt.mpr (Nat.le_succ _))) (get_size h) tk
  refine wpAny_call (codeAny_mono this fun r s' z => ?_)
  rcases r with e | (v | _ | _ | _) <;> first | exact z | (obtain ⟨h2, tk2, rfl, rfl, z⟩ := z; exact ⟨rfl, _, _, rfl, z⟩) | exact z.elim
end
end
section
open PySem PySem.W PyProof.Rows PySem.Calls PyProof.V PySem.Spec PySem.Builtin.ObjectAttr
set_option Elab.async false
set_option maxRecDepth 100000
set_option maxHeartbeats 4000000
set_option linter.unusedVariables false

section
variable {A : Around} {h : Heap} {g : Array GenState} {d : Drawn} {t : Nat} {os : OsState} {prog : Program} {w : World}
variable {nm q : Str} {N : Addr} {bs : List Value} {hdct : Bool} {sn : List Str} {sub : List Value} {ab : Bool} {col : Option Bool} {dd : Option Addr} {k0 k1 k2 k3 k5 : Option Value}

theorem init52 {E : Value → Shared → Prop} {e T : Addr} {msg : Value} {Q : Value → Shared → Prop}
    (hC : h.get? 52 = some (excClassObj nm q 52 N bs bm52 hdct sn sub ab col dd k0 k1 k2 k3 k5 "Exception.__new__"))
    (he : h.get? e = some (excO T))
    (hq : Q .none ⟨(h.push (tupV [msg])).update e (Obj.mapFields (·.setIfInBounds 0 (Value.ref h.objs.size))), g, d, t, os⟩) :
    wpAny (model prog w) A (call (.builtin "Exception.__init__") [.ref e, msg]) Q E ⟨h, g, d, t, os⟩ := by
  have F := PySem.F.excBase_Exception
  have cB : (Value.ref 52 :: bm52).contains (.type "Exception") = true := by decide
  have hshort := F.noStar
  have hrest : [msg].length ≤ sizeLine := by rw [sizeLine_eq]; simp
  refine wpAny_call (codeAny_call_builtin F.init.plain F.initEntry ?_)
  simp only [checkBuiltinCall, F.initKind, F.initSplit, F.initRow]
  repeat (first | (with_reducible refine wpAny_loadPart_at he ?_) | with_reducible refine wpAny_loadPart_at hC ?_ | (with_reducible refine wpAny_isSubtype_exc hC ?_; rw [cB]) | wp_step)
  exact hq
end

section
variable {C : Cx} {A : Around} {E : Value → Heap → Prop} {g h : Heap} {L : Addr} {m : Str → Option Value} {led : List (Addr × Obj)}
theorem T_excInit {e t0 : Addr} {msg : Value} {led' : Obj → List (Addr × Obj)} {Q : Value → Heap → Prop} (X : W C g L m led h) (u : ∀ o', Up e (excO t0) o' led (led' o'))
    (hq : ∀ h' t', h.get? t' = none → W C g L m ((t', tupV [msg]) :: led' (excO t')) h' → Q .none h') : T C A (call (.builtin "Exception.__init__") [.ref e, msg] []) Q E h := fun tk => by
  have hK : (KF C).In h := X.glob.K.keeps X.keep
  have he : h.get? e = some (excO t0) := X.at_ _ (u (excO t0)).mem
  refine init52 (hK _ _ (obj52 C)) he ?_
  have X1 := X.push (o := tupV [msg])
  have he1 : (h.push (tupV [msg])).get? e = some (excO t0) := Heap.get?_push_of_some _ he
  have hget : ((h.push (tupV [msg])).update e (Obj.mapFields (·.setIfInBounds 0 (Value.ref h.objs.size)))).get? e = some (excO h.objs.size) := Heap.get?_update_self _ he1 rfl
  have X2 := X1.same (.there (u (excO h.objs.size))) (Heap.SameBut.update ..) hget
  exact ⟨_, _, rfl, hq _ _ (get_size h) X2⟩

theorem M_excInit {pl : Sem Bool} {Q : Value × List Value → Heap → Prop} (hK : (KF C).In h) (hq : Q (.builtin "Exception.__init__", []) h) : T C A (getMethod (.type "Exception") (PySem.Str.ofString "__init__") pl) Q E h := fun tk => by
  have hstub : opaqueClassAbove (.type "Exception") = pure none := by unfold opaqueClassAbove; dsimp only; rw [show Manifest.isStub "Exception" = false by decide +kernel]; rfl
  have ht : typeOf (.type "Exception") = pure (.type "type") := by first | rfl | kernel_rfl
  have L0 : Looks C.M h (typeOf (.type "Exception")) (.type "type") := Looks.of_pure ht
  have hg : findIn (KF C) (.type "type") "__getattribute__" = some (some (.builtin "type.__getattribute__")) := type_tga
  have e : findCls (KF C) (.type "Exception") (.type "type") (PySem.Str.ofString "__init__") = some (.val (.builtin "Exception.__init__")) := by kernel_rfl
  have hho : handedOut (.builtin "Exception.__init__") = pure (.builtin "Exception.__init__") := by kernel_rfl
  unfold getMethod specialOf
  refine wpAny_bind (wpAny_bind (L0.here ((looks_findIn hK hg).here ?_)))
  dsimp only
  rw [if_pos (by decide +kernel)]
  refine wpAny_bind (wpAny_mono (Q := fun v s' => At C (Q (v, [])) s') (E := fun e s' => At C (E e) s') ?_ (fun _ _ z => wpAny_pure z) fun _ _ z => z)
  have LO : Looks C.M h (opaqueClassAbove (.type "Exception")) none := Looks.of_pure hstub
  refine cls_open hK LO L0 hg (looks_hook hK (r := none) (by rfl)) (by show subIn (KF C) _ _ = _; rfl) e ?_
  refine wpAny_pure ?_
  show wpAny C.M A (handedOut (.builtin "Exception.__init__")) _ _ _
  rw [hho]
  exact wpAny_pure ⟨_, _, rfl, hq⟩
end
end
section
open PySem PySem.W PyProof.Rows PySem.Calls PyProof.V PySem.Spec
set_option Elab.async false
set_option maxRecDepth 100000
set_option maxHeartbeats 4000000
set_option linter.unusedVariables false

section
variable {C : Cx} {A : Around} {E : Value → Heap → Prop} {g h : Heap}
/-- ChanError.__init__ -/
theorem chan_ok {e t0 : Addr} {msg sp : Value} {Q : Value → Heap → Prop} (hA : Lv 1 A) (hG : Glob C g) (hk : Sub g h) (he : h.get? e = some (excO t0)) (hge : g.get? e = none)
    (hq : ∀ h' t1 dx od mi, h'.get? e = some { excO t1 with dict := some dx } → h'.get? dx = some od → ONs od mi 2 → mi (S_ "spot") = some sp → Keep [e] h h' → Q .none h') :
    TC C A (.call (.ref 36) ⟨[.ref e, msg, sp], []⟩) Q E h := by
  refine T_call0D 36 [(S_ "self", .ref e), (S_ "message", msg), (S_ "spot", sp)] [(e, excO t0)] hG hk hA.room (by
      intro p hp
      rw [List.mem_singleton.mp hp]; exact he) (by
      intro p hp
      rw [List.mem_singleton.mp hp]; exact hge) (by simp) ⟨_, _, _, rfl⟩ (by kernel_rfl) (by kernel_rfl) (fun _ => by kernel_rfl) (by kernel_rfl) (fun _ => by kernel_rfl) (fun _ => by kernel_rfl) (by kernel_rfl) (by kernel_rfl) (by kernel_rfl) (by kernel_rfl) ?_
  intro gc h2 L2 hgc hgS hKeep Y
  have hA2 : Lv 0 (A.deeper (envF C 36 L2)) := hA.deeper _
  generalize A.deeper (envF C 36 L2) = A2 at hA2 ⊢
  have e1 : nm [(S_ "self", .ref e), (S_ "message", msg), (S_ "spot", sp)] (S_ "self") = some (.ref e) := by kernel_rfl
  have e2 : nm [(S_ "self", .ref e), (S_ "message", msg), (S_ "spot", sp)] (S_ "message") = some msg := by kernel_rfl
  have e3 : nm [(S_ "self", .ref e), (S_ "message", msg), (S_ "spot", sp)] (S_ "spot") = some sp := by kernel_rfl
  generalize nm [(S_ "self", .ref e), (S_ "message", msg), (S_ "spot", sp)] = m0 at Y e1 e2 e3
  refine T_execs_cons ?_
  with_reducible refine T_Expr ?_
  with_reducible refine T_Method ?_
  refine T_ldb (x := Str.ofString "Exception") (v := .type "Exception") Y (by kernel_rfl) (by kernel_rfl) ?_
  intro pl
  refine M_excInit (Y.glob.K.keeps Y.keep) (T_callWith Kp.builtin ?_)
  walk_at "spl"
  walk_at "n1"
  walk_at "spl"
  walk_at "n1"
  (with_reducible refine T_spl_nil ?_)
  refine ⟨trivial, ?_⟩
  refine T_excInit Y (by walk_at "up") fun h3 t1 ht1 Y3 => ?_
  refine ⟨.inl rfl, ?_⟩
  walk_at "sat"
  walk_at "n"
  refine T_set52_first Y3 rfl rfl rfl (by walk_at "up") (fun h4 dx o4 ho4 hdx Y4 => ?_) (by kernel_rfl)
  walk_at "sat"
  walk_at "n"
  refine T_set52 Y4 (Y4.at_ (e, { excO t1 with dict := some dx }) (by walk_at "mm")) rfl rfl rfl (by walk_at "up") ho4 (by decide) (fun h5 o5 ho5 _ Y5 => ?_) (by kernel_rfl)
  walk_at "n"
  refine hq _ t1 dx o5 _ (Y5.at_ (e, { excO t1 with dict := some dx }) (by walk_at "mm")) (Y5.at_ (dx, o5) (by walk_at "mm")) ho5 (by kernel_rfl) (hKeep _ Y5.keep)
end
end
section
open PySem PySem.W PyProof.Rows PySem.Calls PyProof.V PySem.Spec
set_option Elab.async false
set_option maxRecDepth 100000
set_option maxHeartbeats 4000000
set_option linter.unusedVariables false
section
variable {C : Cx} {A : Around} {E : Value → Heap → Prop} {g h : Heap} {env : Env}
theorem raise52 {E : Value → Shared → Prop} {s : Shared} {x : Sem Value} {Q : Flow → Shared → Prop} (hh : A.handled = none)
    (h : wpAny C.M A x (fun v s₁ => ∃ e oe vs, v = .ref e ∧ (KF C).In s₁.heap ∧ s₁.heap.get? e = some oe ∧ oe.cls = .ref 52 ∧ oe.data = .fields vs ∧ vs[1]? = some .none ∧ E (.ref e) s₁) E s) :
    wpAny C.M A (raiseStmt env (some x) none) Q E s := by
  have hcB : (Value.ref 52 :: bm52).contains (.type "BaseException") = true := by decide
  unfold raiseStmt
  refine wpAny_bind (wpAny_mono h (fun v s₁ h₁ => ?_) fun _ _ x => x)
  obtain ⟨e, oe, vs, rfl, hK, he, hcl, hd, h1, hE⟩ := h₁
  have hC := hK _ _ (obj52 C)
  obtain ⟨hp, g, d, tk, os⟩ := s₁
  obtain ⟨oc, odi, oda, osl⟩ := oe
  dsimp only at hcl hd he hC
  subst hcl hd
  repeat (first | with_reducible refine wpAny_loadPart_at he ?_ | with_reducible refine wpAny_loadPart_at hC ?_ | (with_reducible refine wpAny_isSubtype_exc hC ?_; rw [hcB]) | with_reducible refine wpAny_field he rfl h1 ?_ | wp_step)
  exact wpAny_raiseNew_none hh hE

theorem T_raise52 {x : Expr} {pos : Pos} {Q : Flow → Heap → Prop} (hh : A.handled = none)
    (hx : T C A (eval x env) (fun v h1 => E3 fun e oe vs => A7 (v = .ref e) ((KF C).In h1) (h1.get? e = some oe) (oe.cls = .ref 52) (oe.data = .fields vs) (vs[1]? = some .none) (E (.ref e) h1)) E h) :
    T C A (exec (.Raise (some x) none pos) env) Q E h := fun tk => by
  rw [arm_exec_Raise]
  refine wpAny_bind (wpAny_standAt ?_)
  refine raise52 hh ?_
  refine wpAny_bind (wpAny_mono (hx tk) (fun v s' z => wpAny_bind (wpAny_standAt (wpAny_pure ?_))) fun _ _ z => z)
  obtain ⟨h', tk', rfl, e, oe, vs, a, b, c, d, f, g, i⟩ := z
  exact ⟨e, oe, vs, a, b, c, d, f, g, h', tk', rfl, i⟩
end
end
section
open PySem PySem.W PyProof.Rows PySem.Calls PyProof.V PySem.Spec
set_option Elab.async false
set_option maxRecDepth 100000
set_option maxHeartbeats 4000000
set_option linter.unusedVariables false

section
variable {C : Cx} {A : Around} {E : Value → Heap → Prop} {g h : Heap} {L : Addr} {m : Str → Option Value} {led : List (Addr × Obj)}
/-- a NameFault is made -/
theorem fault_new {msg : Value} {i : Int} {ti : Tok} {Q : Value → Heap → Prop} (hA : Lv 2 A) (X : W C g L m led h)
    (hq : ∀ h' e t1 dx od mi, h.get? e = none → h'.get? e = some { excO t1 with dict := some dx } → h'.get? dx = some od → ONs od mi 2 → mi (S_ "spot") = some (.int i ti) → Keep [] h h' → Q (.ref e) h') :
    T C A (call (.ref 52) [msg, .int i ti] []) Q E h := by
  refine T_new52 X (by rw [sizeLine_eq]; simp) fun e t h1 X1 k1 ne nt => ?_
  refine chan_ok (g := h) (hA.under) (X.glob.keeps X.keep) k1 (X1.at_ _ (.head _)) ne fun h' t1 dx od mi a b c d K => ⟨rfl, ?_⟩
  exact hq h' e t1 dx od mi ne a b c d fun b o _ hb => K b o (fun hm => by rw [List.mem_singleton.mp hm, ne] at hb; cases hb) (k1 b o hb)

/-- .. as a fault under way -/
theorem flt0_of {base : Heap} {l : List Env} {h' : Heap} {e t1 dx : Addr} {od : Obj} {mi : Str → Option Value} {i : Int} {ti : Tok} (kb : Sub base h) (hf : h.FunFrames base l) (ne : h.get? e = none)
    (a : h'.get? e = some { excO t1 with dict := some dx }) (b : h'.get? dx = some od) (c : ONs od mi 2) (d : mi (S_ "spot") = some (.int i ti)) (K : Keep [] h h') : Flt0 base l i (.ref e) h' := by
  have nb : base.get? e = none := by
    cases q : base.get? e with
    | none => rfl
    | some o => rw [kb _ _ q] at ne; cases ne
  exact ⟨e, _, _, dx, od, rfl, ⟨fun b o hb => K b o (by simp) (kb b o hb), nb, hf.of_keeps fun b o hb _ => ⟨o, K b o (by simp) hb, rfl⟩, a, rfl, rfl, rfl, by simp, b, mi, 2, ti, c, d⟩, rfl⟩
end
end
section
open PySem PySem.W PyProof.Rows PySem.Calls PyProof.V PySem.Spec
set_option Elab.async false
set_option maxRecDepth 100000
set_option maxHeartbeats 4000000
set_option linter.unusedVariables false
theorem frames_of {C : Cx} {base g2 h h2 : Heap} {l : List Env} {env : Env} {L : Addr} {m : Str → Option Value} {led : List (Addr × Obj)} (hk : Keep [] h h2) (hfl : h.FunFrames base l) (X2 : W C g2 L m led h2) (hb : Sub base g2) (hf : env.frame = some L) (hm : env.scope.kind ≠ .module) : h2.FunFrames base (env :: l) := by
  obtain ⟨o, es, ep, ho, hd, _, _⟩ := X2.ns
  have hn : base.get? L = none := by
    cases q : base.get? L with
    | none => rfl
    | some o => have := hb _ _ q; rw [X2.off] at this; cases this
  exact ⟨hm, ⟨L, o, hf, hn, ho, fun vs e => by rw [hd] at e; cases e⟩, hfl.of_keeps fun b o hb _ => ⟨o, hk b o (by simp) hb, rfl⟩⟩
end
section
open PySem PySem.W PyProof.Rows PySem.Calls PyProof.V PySem.Spec
set_option Elab.async false
set_option maxRecDepth 100000
set_option maxHeartbeats 4000000
set_option linter.unusedVariables false

theorem order_fault {C : Cx} {A : Around} {E : Value → Heap → Prop} {g h : Heap} {nds : List Nd} {es : List (List Nat)} {tl : List Nat} {told : Nat → List Nat} {inits : Nat → List Str} {wv kv : Value} {x dx : Addr} {od : Obj} {mi : Str → Option Value} {ao av ai am ab : Addr} {om ob : Obj} {mk bk : List (Str × Value)}
    {sx sdx : Addr} {od2 : Obj} {mi2 : Str → Option Value} {ow : Addr} {oo : Obj} {kvs : List (Str × Value)} {P : Str} {Q : Value → Heap → Prop}
    (hA : Lv 3 A) (hG : Glob C g) (hk : Sub g h) (wr : WR C g wv nds es told inits x dx od mi ao av ai am ab om ob mk bk) (so : SOR C g nds tl wv kv sx sdx od2 mi2 ow oo kvs) (hkv : SList g kv (tl.map (keyOf nds))) (pk : Pk nds) (hes : EdgesOk nds nds.length es) (hlen : es.length = nds.length) (hz : nds.length ≤ 14) (hz2 : tl.length ≤ 14)
    (ht : TellOk nds P tl) (hpk : PkgsOk nds) {base : Heap} {l : List Env} {c : Nat} (hcy : ∃ q : Nat, tl[q]? = some c ∧ (∀ (q' j : Nat), q' < q → tl[q']? = some j → bit (ledOf es) j j = false)) (hcc : bit (ledOf es) c c = true) (hfr : A.frames = some l) (hsb : Sub base g) (hfl : h.FunFrames base l)
    (hq : ∀ e h', Flt base l ((10 * c + 3 : Nat) : Int) .none e h' → Heap.UpToSlots h h' → E e h') : T C A (call (.ref 92) [.ref sx] []) Q E h := by
  refine T_callC (T_call1E (En := fun L e h' => Flt base (envF C 92 L :: l) ((10 * c + 3 : Nat) : Int) (rawInt L) e h' ∧ Heap.UpToSlots h h') 92 [(S_ "self", .ref sx)] [] (S_ "self") (some (.ref sx)) [] hG hk hA.room (by simp) (by simp) (by simp) ⟨_, _, _, rfl⟩ (by kernel_rfl) (by kernel_rfl) (by kernel_rfl) (fun _ => by kernel_rfl) (fun _ => by kernel_rfl) (fun _ => by kernel_rfl) (fun _ => by kernel_rfl) (by kernel_rfl) (by kernel_rfl) (by kernel_rfl) (by kernel_rfl) (fun L e h' x => flt_leave (outer := l) rfl x.1 fun h2 y up => hq e h2 y (x.2.trans up)) ?_)
  intro gc h1 L cs oc hgc hgS hKeep ec hoc X
  have hA2 : Lv 2 (A.deeper (envF C 92 L)) := hA.deeper _
  have hA1 : Lv 1 (A.deeper (envF C 92 L)) := hA2.mono (by decide)
  have hfr1 : (A.deeper (envF C 92 L)).frames = some (envF C 92 L :: l) := by show (A.frames.map _) = _; rw [hfr]; rfl
  generalize A.deeper (envF C 92 L) = A1 at hA1 hA2 hfr1 ⊢
  have yg : ∀ {g1 m1 L1 led1 h2} (X1 : W C g1 L1 m1 led1 h2) (s : Sub gc g1) {p : Addr × Obj}, p ∈ led1 → h.get? p.1 = none := fun X1 s p hp => X1.young (S := []) hp s hgS (by simp)
  obtain ⟨g0, s0, X0, hcs⟩ := X.absorb1
  obtain ⟨ka, kvs0, kk, rfl, hka, hkvs⟩ := id hkv
  have hkl : kvs0.length = tl.length := by rw [hkvs.1, List.length_map]
  have s0g : Sub g g0 := hgc.trans s0
  have sl : ∀ {g2 : Heap} {L2 m2 led2 h2 pos} {Q : Value → Heap → Prop} {E2 : Value → Heap → Prop}, W C g2 L2 m2 led2 h2 → Sub g0 g2 → Q (.ref sx) h2 → T C A1 (eval (.Name (Str.ofString "self") pos) (envF C 92 L)) Q E2 h2 := fun X2 s2 hq =>
    T_ldc (c := cs) (by rw [ec]; rfl) ⟨oc, X2.keep _ _ (s2 _ _ hcs), hoc⟩ hq
  have htlv : ∀ j ∈ tl, ∃ nd, nds[j]? = some nd ∧ nd.val = true := fun j hj => let ⟨nd, a, b, _⟩ := (ht.mem j).mp hj; ⟨nd, a, b⟩
  have hkey : ∀ {j nd}, nds[j]? = some nd → keyOf nds j = nd.key := fun h => by unfold keyOf; rw [h]; rfl
  refine T_execs_cons ?_
  refine needs_ok (h := h) hA1 hG wr so hkv pk hes hz hz2 ht hgc hgS s0 X0 hcs ec hoc fun nk no g9 h9 na hno hlona hnl hna hnK sg9 X9 => ?_
  have hna9 := Fresh.sub _ _ _ _ _ hna
  have htlt : ∀ j ∈ tl, j < nds.length := fun j hj => let ⟨nd, a, _⟩ := htlv j hj; (List.getElem?_eq_some_iff.mp a).1
  have hes' : ∀ (i : Nat) gs, es[i]? = some gs → ∀ j ∈ gs, j < es.length := fun i gs h j hj => by
    obtain ⟨_, b, _, hb, _⟩ := (hes.2 i gs h).2 j hj
    rw [hlen]; exact (List.getElem?_eq_some_iff.mp hb).1
  walk_at "n"
  obtain ⟨q, hqc, hqa⟩ := hcy
  have upOf : ∀ {h2 : Heap}, Keep [] h h2 → Heap.UpToSlots h h2 := fun K b o hb _ => ⟨o.slots, K b o (by simp) hb⟩
  refine T_ForE (E1 := fun e h' => Flt base (envF C 92 L :: l) ((10 * c + 3 : Nat) : Int) (rawInt L) e h' ∧ Heap.UpToSlots h h') (fun e h' tk x => flt_back (L := L) (Q := fun e h' => Flt base (envF C 92 L :: l) ((10 * c + 3 : Nat) : Int) (rawInt L) e h' ∧ Heap.UpToSlots h h') rfl x.1 fun h2 y up => ⟨y, x.2.trans up⟩) ?_
  refine T_Attr ?_
  refine sl X9 sg9 ?_
  have so9 := so.mono (s0g.trans sg9)
  refine T_getattr (X9.glob.K.keeps X9.keep) (X9.keep _ _ so9.inst) (X9.keep _ _ so9.dict) so9.ns so9.mky ?_ (by kernel_rfl) (by kernel_rfl) (by kernel_rfl) rfl
  refine TL_srcE (En := fun e h' => Flt0 base (envF C 92 L :: l) ((10 * c + 3 : Nat) : Int) e h' ∧ Keep [] h h') (src_list hA1.hd X9 (s0g.trans sg9 _ _ hka) (LX.mk (k := kk)).lw) (fun i g' m led => A4 (led = []) (m (S_ "needs") = some (.ref na)) (Sub g9 g') (i ≤ q)) ?_ ?_ (fun e h' x => note_first (outer := l) (L := L) hfr1 rfl x.1 fun h2 y up => ⟨y, (upOf x.2).trans up⟩) ?_
  · exact ⟨rfl, upd_same, Sub.refl _, Nat.zero_le _⟩
  · rintro i v ga ma leda own ha Kq hKq hi sa ⟨rfl, mn, sga, hiq⟩ hP Xa
    obtain ⟨ks, hks, tk, rfl⟩ := hkvs.getV hP
    rw [List.getElem?_map] at hks
    obtain ⟨j, hj, rfl⟩ := Option.map_eq_some_iff.mp hks
    have hjt : j ∈ tl := List.mem_of_getElem? hj
    obtain ⟨nd, hnd, hval⟩ := htlv j hjt
    rw [hkey hnd]
    have sgA : Sub g0 ga := sg9.trans sga
    have hgA : Sub g ga := s0g.trans sgA
    have soa := so.mono hgA
    refine assign_Name ?_
    walk_at "st"
    intro hb Xb
    refine T_execs_cons (T_If ?_)
    walk_at "n"
    refine T_I2 (f := 82) ?_ (by kernel_rfl) (by kernel_rfl)
    refine sl Xb sgA ?_
    refine ⟨sx, sdx, 95, od2, mi2, 3, rfl, Xb.glob.K.keeps Xb.keep, Xb.keep _ _ soa.inst, Xb.keep _ _ soa.dict, soa.ns, soa.mn _ (by decide) (by decide) (by decide), by kernel_rfl, by kernel_rfl, ?_⟩
    walk_at "n"
    refine ⟨Xb.glob.K.keeps Xb.keep, ?_⟩
    refine whole_ok hA1 (Xb.globF (g0 := g) (h0 := h) hG hgA) Xb.subF (Fresh.mono sga _ _ hna) hno (hnK.mono (Fresh.mono sga)) pk.keys (fun _ _ h => h.1) htlt hz hjt hnd fun d od3 fk hc hKc hdn hd3 hfk hlod hks => ?_
    have Xc := Xb.call0K hKc
    by_cases hiq2 : i = q
    · subst hiq2
      rw [hqc] at hj
      cases hj
      have hsome : (valueAt fk nd.key).isSome = true := by
        have := (hks nd.key).mpr ⟨c, nd, (found_plus hes hpk ht hjt hjt).mpr ((led_plus es hes' c c (by rw [hlen]; exact htlt _ hjt)).mp hcc), hnd, rfl⟩
        exact Option.isSome_iff_ne_none.mpr this
      refine D_in hd3 hfk hlod ?_
      rw [hsome]
      walk_at "n"
      refine ⟨fun _ => ?_, fun e => (by cases e)⟩
      refine T_execs_cons ?_
      with_reducible refine T_raise52 hA1.hd ?_
      with_reducible refine T_CallName ?_
      refine T_ldg (v := .ref 52) Xc (by kernel_rfl) (T_callWith (Kp.fn (by kernel_rfl)) ?_)
      walk_at "spl"
      refine T_strS fun tm => ?_
      walk_at "spl"
      have wra := wr.mono hgA
      have hwv := wr.v
      subst hwv
      obtain ⟨bw, hbw, ba, bb, bc, t1, t2, t3, be, bns, rfl, hba, hbb, hbc, hbns⟩ := wra.bodK c nd (List.getElem?_eq_some_iff.mp hnd).1 hnd hval
      refine T_Sub (T_Sub (T_Sub (T_Attr (T_Attr ?_))))
      refine sl Xc sgA ?_
      refine T_getattr (Xc.glob.K.keeps Xc.keep) (Xc.keep _ _ soa.inst) (Xc.keep _ _ soa.dict) soa.ns soa.mw ?_ (by kernel_rfl) (by kernel_rfl) (by kernel_rfl) rfl
      refine T_getattr (Xc.glob.K.keeps Xc.keep) (Xc.keep _ _ wra.inst) (Xc.keep _ _ wra.dict) wra.ns wra.mb ?_ (by kernel_rfl) (by kernel_rfl) (by kernel_rfl) rfl
      walk_at "n"
      refine S_dict (Xc.keep _ _ wra.bod) wra.bodD hbw ?_
      walk_at "n"
      refine S_tup (Xc.keep _ _ hba) (by decide) (by decide) rfl ?_
      walk_at "n"
      refine S_tup (Xc.keep _ _ hbb) (by decide) (by decide) rfl ?_
      (with_reducible refine T_spl_nil ?_)
      refine ⟨Xc.glob.K.keeps Xc.keep, ?_⟩
      refine fault_new hA2 Xc fun h' ex t4 dx4 od4 mi4 ne fa fb fc fd K => ?_
      have kx : Keep [] h hc := hKeep _ (s0.trans (sgA.trans Xc.keep))
      refine ⟨ex, _, _, rfl, Xc.glob.K.keeps (Xc.keep.trans fun b o e => K b o (by simp) e), fa, rfl, rfl, rfl, ?_, kx.trans K⟩
      exact flt0_of ((hsb.trans hgA).trans Xc.keep) (frames_of kx hfl Xc (hsb.trans hgA) rfl (fun e => by cases e)) ne fa fb fc fd K
    · have hno2 : valueAt fk nd.key = none := by
        refine Classical.byContradiction fun hne => ?_
        obtain ⟨j', nj, hp, hnj, e⟩ := (hks nd.key).mp hne
        have hjj : j' = j := by
          by_cases h : j' = j
          · exact h
          · exact absurd e.symm (key_ne pk.keys hnj hnd h)
        subst hjj
        have := (led_plus es hes' j' j' (by rw [hlen]; exact htlt _ hjt)).mpr (found_to hp)
        rw [hqa i j' (by omega) hj] at this; cases this
      refine D_in hd3 hfk hlod ?_
      rw [hno2]
      walk_at "n"
      refine ⟨fun e => (by cases e), fun _ => ?_⟩
      walk_at "n"
      exact ⟨ga, _, _, Sub.refl _, Xc, rfl, by walk_at "lk", sga, by omega⟩
  · rintro ga ma leda ha sa ⟨rfl, mn, sga, hiq⟩ Xa
    have := (List.getElem?_eq_some_iff.mp hqc).1
    omega
end
section
open PySem PySem.W PyProof.Rows PySem.Calls PyProof.V PySem.Spec
set_option Elab.async false
set_option maxRecDepth 100000
set_option maxHeartbeats 4000000
set_option linter.unusedVariables false

theorem ordN_len (led : List Nat) : ∀ (n : Nat) (l : List Nat), (ordN led n l).length ≤ n
  | 0, _ => Nat.le_refl _
  | n + 1, l => by
    unfold ordN
    split
    · exact Nat.zero_le _
    · simp only [List.length_cons]
      have := ordN_len led n (l.erase ‹Nat›)
      omega
theorem find_at {p : Nat → Bool} {l : List Nat} {c : Nat} (h : l.find? p = some c) : p c = true ∧ ∃ q : Nat, l[q]? = some c ∧ ∀ (q' j : Nat), q' < q → l[q']? = some j → p j = false := by
  rw [List.find?_eq_some_iff_getElem] at h
  obtain ⟨a, i, hi, e, hn⟩ := h
  refine ⟨a, i, by rw [← e]; simp, fun q' j hq hj => ?_⟩
  have := hn q' hq
  obtain ⟨h1, h2⟩ := List.getElem?_eq_some_iff.mp hj
  rw [h2] at this
  simpa using this

theorem starts_ok {C : Cx} {A : Around} {E : Value → Heap → Prop} {g h : Heap} {nds : List Nd} {es : List (List Nat)} {told : Nat → List Nat} {inits : Nat → List Str} {wv : Value} {x dx : Addr} {od : Obj} {mi : Str → Option Value} {ao av ai am ab : Addr} {om ob : Obj} {mk bk : List (Str × Value)}
    {Q : Value → Heap → Prop} {base : Heap} {l : List Env}
    (hA : Lv 5 A) (hG : Glob C g) (hk : Sub g h) (wr : WR C g wv nds es told inits x dx od mi ao av ai am ab om ob mk bk) (pk : Pk nds) (hes : EdgesOk nds nds.length es) (hlen : es.length = nds.length) (hz : nds.length ≤ 14)
    (hpk : PkgsOk nds) (ht : ∀ i, i < 2 → TellOk nds (pkgOf i) (told i)) (htz : ∀ i, i < 2 → (told i).length ≤ 14) (hil : ∀ i, i < 2 → (inits i).length ≤ 5) (hfr : A.frames = some l) (hsb : Sub base g) (hfl : h.FunFrames base l)
    (hq : ∀ xs v h', dueFrom (ledOf es) (keyOf nds) told inits 0 2 [] = .inr xs → SList (Fresh g h h') v xs → Keep [] h h' → Q v h')
    (he : ∀ n e h', dueFrom (ledOf es) (keyOf nds) told inits 0 2 [] = .inl n → Flt base l ((n : Nat) : Int) .none e h' → Heap.UpToSlots h h' → E e h') : T C A (call (.ref 106) [wv] []) Q E h := by
  generalize hdu : dueFrom (ledOf es) (keyOf nds) told inits 0 2 [] = due at hq he
  refine T_callC (T_call0E (En := fun L e h' => ∃ n, due = .inl n ∧ Flt base (envF C 106 L :: l) ((n : Nat) : Int) (rawInt L) e h' ∧ Heap.UpToSlots h h') 106 [(S_ "world", wv)] [] hG hk hA.room (by simp) (by simp) (by simp) ⟨_, _, _, rfl⟩ (by kernel_rfl) (by kernel_rfl) (by kernel_rfl) (by kernel_rfl) (fun _ => by kernel_rfl) (fun _ => by kernel_rfl) (by kernel_rfl) (by kernel_rfl) (by kernel_rfl) (by kernel_rfl) (fun L e h' ⟨n, hn, x, up⟩ => flt_leave (outer := l) rfl x fun h2 y up2 => he n e h2 hn y (up.trans up2)) ?_)
  intro gc h1 L hgc hgS hKeep X
  have hA1 : Lv 4 (A.deeper (envF C 106 L)) := hA.deeper _
  have hfr1 : (A.deeper (envF C 106 L)).frames = some (envF C 106 L :: l) := by show (A.frames.map _) = _; rw [hfr]; rfl
  generalize A.deeper (envF C 106 L) = A1 at hA1 hfr1 ⊢
  have yg : ∀ {g1 m1 L1 led1 h2} (X1 : W C g1 L1 m1 led1 h2) (s : Sub gc g1) {p : Addr × Obj}, p ∈ led1 → h.get? p.1 = none := fun X1 s p hp => X1.young (S := []) hp s hgS (by simp)
  have e1 : nm [(S_ "world", wv)] (S_ "world") = some wv := by kernel_rfl
  generalize nm [(S_ "world", wv)] = m0 at X e1
  have hwv := wr.v
  subst hwv
  have upOf : ∀ {h2 : Heap}, Keep [] h h2 → Heap.UpToSlots h h2 := fun K b o hb _ => ⟨o.slots, K b o (by simp) hb⟩
  refine T_execs_cons ?_
  with_reducible refine T_Assign_Name ?_
  walk_at "lst"
  walk_at "end"
  intro h2 fa X2 _
  walk_at "st"
  intro h3 X3
  walk_at "n"
  have wr3 := wr.mono hgc
  obtain ⟨oa, ovs, ok, e2, hoa, hov⟩ := wr3.order
  cases e2
  refine T_ForE (E1 := fun e h' => ∃ n, due = .inl n ∧ Flt base (envF C 106 L :: l) ((n : Nat) : Int) (rawInt L) e h' ∧ Heap.UpToSlots h h') (fun e h' tk ⟨n, hn, x, up⟩ => flt_back (L := L) (Q := fun e h' => ∃ n, due = .inl n ∧ Flt base (envF C 106 L :: l) ((n : Nat) : Int) (rawInt L) e h' ∧ Heap.UpToSlots h h') rfl x fun h2 y up2 => ⟨n, hn, y, up.trans up2⟩) ?_
  refine T_Attr ?_
  walk_at "n"
  refine T_getattr (X3.glob.K.keeps X3.keep) (X3.keep _ _ wr3.inst) (X3.keep _ _ wr3.dict) wr3.ns wr3.mo ?_ (by kernel_rfl) (by kernel_rfl) (by kernel_rfl) rfl
  refine TL_srcE (En := fun e h' => ∃ n, due = .inl n ∧ Flt base (envF C 106 L :: l) ((n : Nat) : Int) .none e h' ∧ Heap.UpToSlots h h') (src_list hA1.hd X3 hoa (LX.mk (k := ok)).lw)
    (fun i g' m led => E3 fun fvs fk acc => A7 (led = [(fa, listO fvs fk)]) (m (S_ "world") = some (.ref x)) (m (S_ "found") = some (.ref fa)) (Sub gc g') (All2 IsS fvs acc) (acc.length ≤ i * 20) (due = dueFrom (ledOf es) (keyOf nds) told inits i (2 - i) acc)) ?_ ?_
    (fun e h' ⟨n, hn, x, up⟩ => note_next (outer := l) (L := L) hfr1 rfl x fun h2 y up2 => ⟨n, hn, y, up.trans up2⟩) ?_
  · exact ⟨[], 0, [], rfl, by walk_at "lk", by walk_at "lk", Sub.refl _, .nil, Nat.zero_le _, hdu.symm⟩
  · rintro i v ga ma leda own ha Kq hKq hi sa ⟨fvs, fk, acc, rfl, mw, mf, sga, hfv, hal, hdue⟩ hP Xa
    have hi2 : i < 2 := by rw [hov.1] at hi; exact hi
    obtain ⟨tp, rfl⟩ : ∃ tp, v = .str (pkgOf i) tp := by
      obtain ⟨s, hs, tp, rfl⟩ := hov.getV hP
      rw [pk_at2 hs]; exact ⟨tp, rfl⟩
    have wra := wr3.mono sga
    have hga : Sub g ga := hgc.trans sga
    obtain ⟨vd, vo, vkv, e3, hvd0, hvsd, hvlo, hvp⟩ := id wr.vals
    cases e3
    obtain ⟨kv, hkv, hks0⟩ := hvp i hi2
    obtain ⟨idd, io, ikv, e4, hid0, hisd, hilo, hip⟩ := id wr.inits
    cases e4
    obtain ⟨iv, hiv, iva, ivs, ivk, rfl, hiva0, hivs⟩ := hip i hi2
    have hvd := hga _ _ hvd0
    have hks := hks0.mono hga
    have hid := hga _ _ hid0
    have hiva := hga _ _ hiva0
    have hti := ht i hi2
    have h14 := htz i hi2
    have hi5 := hil i hi2
    have htlv : ∀ j ∈ told i, ∃ nd, nds[j]? = some nd ∧ nd.val = true := fun j hj => let ⟨nd, a, b, _⟩ := (hti.mem j).mp hj; ⟨nd, a, b⟩
    refine assign_Name ?_
    walk_at "st"
    intro hb Xb
    refine T_execs_cons ?_
    refine T_Expr ?_
    refine T_L1 F.slot_list_extend F.type_list_extend ?_
    walk_at "n"
    refine ⟨fa, fvs, fk, rfl, Xb.at_ (fa, listO fvs fk) (by walk_at "mm"), ?_⟩
    refine T_I0 (f := 92) ?_ (by kernel_rfl) (by kernel_rfl)
    refine T_F2 (f := 95) Xb (by kernel_rfl) (by kernel_rfl) ?_
    walk_at "n"
    refine T_Attr ?_
    walk_at "n"
    refine T_getattr (Xb.glob.K.keeps Xb.keep) (Xb.keep _ _ wra.inst) (Xb.keep _ _ wra.dict) wra.ns wra.mv ?_ (by kernel_rfl) (by kernel_rfl) (by kernel_rfl) rfl
    walk_at "n"
    refine S_dict (Xb.keep _ _ hvd) hvsd hkv ?_
    refine ⟨Xb.glob.K.keeps Xb.keep, ?_⟩
    refine so_new (hA1.mono (by decide)) Xb wra hks h14 htlv pk.ok fun x2 dx2 od2 mi2 ow oo kvs hc hns2 m2w m2k m2o m2n hoo hlo hown hkl Xc _ => ?_
    obtain ⟨g1, s1, Xc1, f1⟩ := Xc.take (g0 := g) (h0 := h) (yg Xc sga (.head _))
    obtain ⟨g2, s2, Xc2, f2⟩ := Xc1.take (g0 := g) (h0 := h) (yg Xc1 (sga.trans s1) (.head _))
    obtain ⟨g3, s3, Xc3, f3⟩ := Xc2.take (g0 := g) (h0 := h) (yg Xc2 (sga.trans (s1.trans s2)) (.head _))
    have sg3 : Sub ga g3 := s1.trans (s2.trans s3)
    have so : SOR C (Fresh g h g3) nds (told i) (.ref x) kv x2 dx2 od2 mi2 ow oo kvs :=
      ⟨Fresh.mono (s2.trans s3) _ _ f1, Fresh.mono s3 _ _ f2, hns2, m2w, m2k, m2o, m2n, f3, hoo, hlo, hown⟩
    refine ⟨x2, dx2, 95, od2, mi2, 3, rfl, Xc3.glob.K.keeps Xc3.keep, Xc3.subF _ _ so.inst, Xc3.subF _ _ so.dict, hns2, m2n _ (by decide) (by decide) (by decide), by kernel_rfl, by kernel_rfl, ?_⟩
    have hGF : Glob C (Fresh g h g3) := Xc3.globF (g0 := g) (h0 := h) hG (hga.trans sg3)
    have wrF : WR C (Fresh g h g3) (.ref x) nds es told inits x dx od mi ao av ai am ab om ob mk bk := wr.mono (Fresh.base (hga.trans sg3))
    have hksF : SList (Fresh g h g3) kv ((told i).map (keyOf nds)) := hks0.mono (Fresh.base (hga.trans sg3))
    have kc : Keep [] h hc := hKeep _ ((sga.trans sg3).trans Xc3.keep)
    cases hfind : (told i).find? (fun j => bit (ledOf es) j j) with
    | some c =>
      obtain ⟨hcc, hcy⟩ := find_at hfind
      refine order_fault (hA1.mono (by decide)) hGF Xc3.subF wrF so hksF pk hes hlen hz h14 hti hpk hcy hcc hfr1 (hsb.trans (Fresh.base (hga.trans sg3))) (frames_of kc hfl Xc3 (hsb.trans (hga.trans sg3)) rfl (fun e => by cases e)) fun e h' fl up => ?_
      refine ⟨10 * c + 3, ?_, fl, (upOf kc).trans up⟩
      rw [hdue]
      have h2i : 2 - i = (1 - i) + 1 := by omega
      rw [h2i, dueFrom, pkgDue, hfind]
    | none =>
      have hac : ∀ j ∈ told i, bit (ledOf es) j j = false := fun j hj => by simpa using List.find?_eq_none.mp hfind j hj
      refine order_ok (hA1.mono (by decide)) hGF Xc3.subF wrF so hksF pk hes hlen hz h14 hti hpk hac fun v hd hv Kd => ?_
      obtain ⟨ra, rvs, rk, rfl, hra, hrv⟩ := hv
      have Xd := Xc3.call0K Kd
      have hrl : rvs.length ≤ 14 := by
        rw [hrv.1, List.length_map]
        exact Nat.le_trans (ordN_len _ _ _) h14
      have hra' : hd.get? ra = some (listO rvs rk) := Fresh.sub _ _ _ _ _ hra
      refine M_extend Xd hra' (fun k' => Up.app own .here) (by rw [hfv.1]; omega) fun he ke Xe => ?_
      refine ⟨.inl rfl, ?_⟩
      refine T_execs_cons ?_
      refine T_Expr ?_
      refine T_L1 F.slot_list_extend F.type_list_extend ?_
      walk_at "n"
      refine ⟨fa, fvs ++ rvs, ke, rfl, Xe.at_ (fa, listO (fvs ++ rvs) ke) (by walk_at "mm"), ?_⟩
      refine T_Sub (T_Attr ?_)
      walk_at "n"
      have wre := wra.mono sg3
      refine T_getattr (Xe.glob.K.keeps Xe.keep) (Xe.keep _ _ wre.inst) (Xe.keep _ _ wre.dict) wre.ns wre.mi' ?_ (by kernel_rfl) (by kernel_rfl) (by kernel_rfl) rfl
      walk_at "n"
      refine S_dict (Xe.keep _ _ (sg3 _ _ hid)) hisd hiv ?_
      refine M_extend Xe (Xe.keep _ _ (sg3 _ _ hiva)) (fun k' => Up.app own .here) (by rw [List.length_append, hfv.1, hivs.1]; omega) fun hf kf Xf => ?_
      refine ⟨.inl rfl, ?_⟩
      walk_at "n"
      refine ⟨g3, _, _, sg3, Xf, _, _, acc ++ ((ordN (ledOf es) (told i).length (told i)).map (keyOf nds) ++ inits i), rfl, by walk_at "lk", by walk_at "lk", sga.trans sg3, ?_, ?_, ?_⟩
      · rw [← List.append_assoc]; exact (hfv.append hrv).append hivs
      · have := ordN_len (ledOf es) (told i).length (told i)
        simp only [List.length_append, List.length_map]
        omega
      · rw [hdue]
        have h2i : 2 - i = (1 - i) + 1 := by omega
        rw [h2i, dueFrom, pkgDue, hfind]
        have : 2 - (i + 1) = 1 - i := by omega
        rw [this]
  · rintro ga ma leda ha sa ⟨fvs, fk, acc, rfl, mw, mf, sga, hfv, hal, hdue⟩ Xa
    rw [hov.1] at hdue
    walk_at "n"
    obtain ⟨g5, s5, X5, f5⟩ := Xa.take (g0 := g) (h0 := h) (yg Xa sga (.head _))
    refine hq acc _ _ (by rw [hdue]; rfl) ⟨fa, fvs, fk, rfl, Fresh.mono X5.keep _ _ f5, hfv⟩ (hKeep _ (sga.trans (s5.trans X5.keep)))
end
section
open PySem PySem.W PyProof.Rows PySem.Calls PyProof.V PySem.Spec PySem.Builtin.ObjectAttr
set_option Elab.async false
set_option maxRecDepth 100000
set_option maxHeartbeats 4000000
set_option linter.unusedVariables false
section
variable {C : Cx} {A : Around} {E : Value → Heap → Prop} {g h : Heap} {L : Addr} {m : Str → Option Value} {led : List (Addr × Obj)} {env : Env}

theorem T_Try {body orelse : List Stmt} {h0 : ExceptHandler} {hs : List ExceptHandler} {pos : Pos} {Q : Flow → Heap → Prop}
    (hx : T C A (execs body env) (fun f h1 => match f with | .next => T C A (execs orelse env) Q E h1 | f => Q f h1)
      (fun e h1 => T C A (noteFrame e env) (fun _ h2 => T C A (setFlight e none) (fun _ h3 => T C A (handleBy e env (h0 :: hs)) Q E h3) E h2) E h1) h) :
    T C A (exec (.Try body (h0 :: hs) orelse [] pos) env) Q E h := fun tk => by
  refine wpAny_Try_except (wpAny_mono (hx tk) (fun f s1 z => ?_) fun e s1 z => ?_)
  · obtain ⟨h1, tk1, rfl, H⟩ := z
    cases f with
    | next => exact H tk1
    | _ => exact ⟨_, _, rfl, H⟩
  · obtain ⟨h1, tk1, rfl, H⟩ := z
    refine wpAny_mono (H tk1) (fun _ s2 z => ?_) fun _ _ z => z
    obtain ⟨h2, tk2, rfl, H⟩ := z
    refine wpAny_mono (H tk2) (fun _ s3 z => ?_) fun _ _ z => z
    obtain ⟨h3, tk3, rfl, H⟩ := z
    exact H tk3

theorem T_handleAs {ea : Addr} {t : Expr} {n : Str} {b0 : Stmt} {suite : List Stmt} {pos : Pos} {rest : List ExceptHandler} {Q : Flow → Heap → Prop}
    (hx : T C (A.mark (some (.ref ea))) (eval t env) (fun c h1 => c = .ref 52 ∧ (KF C).In h1 ∧ (∃ oe, h1.get? ea = some oe ∧ oe.cls = .ref 52) ∧
      T C (A.mark (some (.ref ea))) (setFlight (.ref ea) none) (fun _ h2 => T C (A.mark (some (.ref ea))) (storeName env n (.ref ea)) (fun _ h3 => T C (A.mark (some (.ref ea))) (execs (b0 :: suite) env)
        (fun f h4 => T C A (do bindName env n .none; unbindBehindTheSuite env n pos) (fun _ h5 => Q f h5) E h4) noE h3) noE h2) noE h1) noE h) :
    T C A (handleBy (.ref ea) env (.ExceptHandler (some t) (some n) (b0 :: suite) pos :: rest)) Q E h := fun tk => by
  refine wpAny_handleBy_cons (codeAny_handlers_test (wpAny_mono (hx tk) (fun c s1 z => ?_) fun _ _ z => noE_noted2 z)) (by intro q; cases q)
  obtain ⟨h1, tk1, rfl, rfl, hK, ⟨oe, hoe, hcl⟩, H⟩ := z
  refine wpAny_excMatches_sub_self (hK _ _ (obj52 C)) hoe hcl (by decide) (codeAny_handlers_suite_as ?_)
  refine wpAny_mono (H tk1) (fun _ s2 z => ?_) fun _ _ z => noE_noted2 z
  obtain ⟨h2, tk2, rfl, H⟩ := z
  refine wpAny_mono (H tk2) (fun _ s3 z => ?_) fun _ _ z => noE_noted2 z
  obtain ⟨h3, tk3, rfl, H⟩ := z
  refine wpAny_mono (H tk3) (fun f s4 z => ?_) fun _ _ z => ?_
  · obtain ⟨h4, tk4, rfl, H⟩ := z
    refine wpAny_mono (H tk4) (fun _ s5 z => z) fun _ _ z => z
  · obtain ⟨_, _, _, f⟩ := z; exact f.elim

theorem T_nameGoes {n : Str} {pos : Pos} {Q : Unit → Heap → Prop} (X : W C g L m led h) (hq : ∀ h' m', W C g L m' led h' → Heap.SameBut L h h' → Q () h') (hL : env.locals = L := by kernel_rfl)
    (hl : env.kindOf n = some .local := by kernel_rfl) (hp : (env.scope.kind == .class || (env.scope.kind == .module && env.locals != env.globals)) = false := by kernel_rfl) : T C A (do bindName env n .none; unbindBehindTheSuite env n pos) Q E h := fun tk => by
  subst hL
  exact wpAny_nameGoes hl X.ns hp fun h' m' hn hs => ⟨_, _, rfl, hq h' m' (X.store hn hs) hs⟩

theorem get52 {prog : Program} {w : World} {h : Heap} {gg : Array GenState} {d : Drawn} {t : Nat} {os : OsState} {nmm q : Str} {N : Addr} {bs : List Value} {hdct : Bool} {sn : List Str} {sub : List Value} {ab : Bool} {col : Option Bool} {dd : Option Addr} {k0 k1 k2 k3 k5 : Option Value}
    {E : Value → Shared → Prop} {ea : Addr} {oe : Obj} {name : Str} {v : Value} {expr : Bool} {Q : Value → Shared → Prop}
    (hC : h.get? 52 = some (excClassObj nmm q 52 N bs bm52 hdct sn sub ab col dd k0 k1 k2 k3 k5 "Exception.__new__")) (he : h.get? ea = some oe) (hcl : oe.cls = .ref 52)
    (L1 : Looks (model prog w) h (typeLookup (.ref 52) "__getattribute__") (some (.builtin "BaseException.__getattribute__"))) (L2 : Looks (model prog w) h (typeLookup (.ref 52) "__getattr__") none)
    (LF : Looks (model prog w) h (find (.ref ea) (.ref 52) name) (.value v)) (hv : handedIn v = true) (hq : ∀ t, Q v ⟨h, gg, d, t, os⟩) : wpAny (model prog w) A (getAttr (.ref ea) name expr) Q E ⟨h, gg, d, t, os⟩ := by
  have FA := PySem.F.attrBase_Exception
  have f3 := FA.ga.bind (.ref ea)
  have hx0 : (expr && onTheHeap (Value.builtin "BaseException.__getattribute__")) = false := by cases expr <;> rfl
  have hx2 : (Value.builtin "BaseException.__getattribute__" == Value.builtin "object.__getattribute__") = false := by decide +kernel
  have hx1 : (onTheHeap (Value.ref 52) && Value.builtin "BaseException.__getattribute__" == Value.builtin "object.__getattribute__") = false := by rw [hx2]; rfl
  have hcB : (Value.ref 52 :: bm52).contains (.type "BaseException") = true := by decide
  have hk : builtinKind "BaseException.__getattribute__" = some .slot := by decide +kernel
  have hsplit : splitId "BaseException.__getattribute__" = some ("BaseException", "__getattribute__") := by decide +kernel
  unfold getAttr
  repeat (any_goals (first | assumption | (with_reducible refine wpAny_loadPart_at he ?_; rw [hcl]) | with_reducible refine L1.here ?_ | with_reducible refine L2.here ?_ | wp_step))
  have ha := PySem.F.args_bexc_ga (.ref ea) (.str name t)
  refine codeAny_call_builtin FA.ga.plain PySem.F.entry_bexc_ga ?_
  simp only [checkBuiltinCall, hk, hsplit]
  refine wpAny_bind ?_
  unfold isInstance
  repeat (first | assumption | (with_reducible refine wpAny_loadPart_at he ?_; rw [hcl]) | (with_reducible refine wpAny_isSubtype_exc hC ?_; rw [hcB]) | with_reducible refine LF.here ?_ | wp_step)
  show wpAny _ _ (handedOut v) _ _ _
  rw [handedOut_of hv]; exact wpAny_pure (hq _)
/-- a name of the fault is read -/
theorem T_getattr52 {ea dx : Addr} {oe od : Obj} {mi : Str → Option Value} {k : Nat} {name : Str} {v : Value} {expr : Bool} {Q : Value → Heap → Prop} (hK : (KF C).In h) (he : h.get? ea = some oe) (hcl : oe.cls = .ref 52) (hno : notCls oe = true) (hdc : oe.dict = some dx) (hd : h.get? dx = some od) (ho : ONs od mi k)
    (hl : mi name = some v) (hq : Q v h) (hh : hasDictIn (KF C) 52 = true) (ha : findIn (KF C) (.ref 52) name = some none) (hv : handedIn v = true) : T C A (getAttr (.ref ea) name expr) Q E h := fun _ =>
  get52 (hK _ _ (obj52 C)) he hcl (looks_findIn hK (by kernel_rfl)) (looks_findIn hK (by kernel_rfl)) (looks_find hK ⟨he, hcl, hno, by rw [hdc]; exact hd⟩ (findObj_own hh ha (by rfl) (by rw [ho.lookIn, hl]))) hv fun t => ⟨_, _, rfl, hq⟩

/-- the state up to slots -/
theorem W.upTo {base h' : Heap} (X : W C g L m led h) (s : Sub base g) (G : Glob C base) (sb : Sub base h') (up : Heap.UpToSlots h h') : W C base L m [] h' := by
  refine ⟨up.ns X.ns, sb, ?_, (fun _ hp => nomatch hp), (fun _ hp => nomatch hp), List.nodup_nil, G⟩
  cases q : base.get? L with
  | none => rfl
  | some o => have := s _ _ q; rw [X.off] at this; cases this
end
end
section
open PySem PySem.W PyProof.Rows PySem.Calls PyProof.V PySem.Spec
set_option Elab.async false
set_option maxRecDepth 100000
set_option maxHeartbeats 4000000
set_option linter.unusedVariables false

theorem T_stS {C : Cx} {A : Around} {E : Value → Heap → Prop} {g h : Heap} {L : Addr} {m : Str → Option Value} {led : List (Addr × Obj)} {env : Env} {x : Str} {v : Value} {Q : Unit → Heap → Prop} (X : W C g L m led h) (hq : ∀ h', W C g L (upd m x v) led h' → Heap.SameBut L h h' → Q () h') (hL : env.locals = L := by kernel_rfl)
    (hl : env.kindOf x = some .local := by kernel_rfl) (hp : (env.scope.kind == .class || (env.scope.kind == .module && env.locals != env.globals)) = false := by kernel_rfl) : T C A (storeName env x v) Q E h := fun _ => by
  subst hL
  exact wpAny_storeName_local hl X.ns (fun h' hn hs => ⟨_, _, rfl, hq h' (X.store hn hs) hs⟩) hp
theorem ons_ne {h : Heap} {L dx : Addr} {m mi : Str → Option Value} {od : Obj} {k : Nat} {n : Str} {v : Value} (hn : h.Ns L m) (hd : h.get? dx = some od) (ho : ONs od mi k) (h1 : m n = none) (h2 : mi n = some v) : dx ≠ L := by
  rintro rfl
  obtain ⟨o, es, ep, a, b, _, c⟩ := hn
  obtain ⟨es', ep', d, _, _, e⟩ := ho
  rw [a] at hd
  cases hd
  rw [b] at d
  cases d
  have := c n
  rw [e n, h1, h2] at this
  cases this
theorem flds_ne {h : Heap} {L ea : Addr} {m : Str → Option Value} {oe : Obj} {vs : Array Value} (hn : h.Ns L m) (he : h.get? ea = some oe) (hd : oe.data = .fields vs) : ea ≠ L := by
  rintro rfl
  obtain ⟨o, es, ep, a, b, _, c⟩ := hn
  rw [a] at he
  cases he
  rw [b] at hd
  cases hd

theorem told_ok {C : Cx} {A : Around} {E : Value → Heap → Prop} {g h : Heap} {nds : List Nd} {es : List (List Nat)} {told : Nat → List Nat} {inits : Nat → List Str} {wv : Value} {x dx : Addr} {od : Obj} {mi : Str → Option Value} {ao av ai am ab : Addr} {om ob : Obj} {mk bk : List (Str × Value)}
    {Q : Value → Heap → Prop} {base : Heap} {l : List Env}
    (hA : Lv 6 A) (hG : Glob C g) (hk : Sub g h) (wr : WR C g wv nds es told inits x dx od mi ao av ai am ab om ob mk bk) (pk : Pk nds) (hes : EdgesOk nds nds.length es) (hlen : es.length = nds.length) (hz : nds.length ≤ 14)
    (hpk : PkgsOk nds) (ht : ∀ i, i < 2 → TellOk nds (pkgOf i) (told i)) (htz : ∀ i, i < 2 → (told i).length ≤ 14) (hil : ∀ i, i < 2 → (inits i).length ≤ 5) (hfr : A.frames = some l) (hsb : Sub base g) (hGb : Glob C base) (hfl : h.FunFrames base l)
    (hq : ∀ v h', RDue h' v (dueFrom (ledOf es) (keyOf nds) told inits 0 2 []) → (∀ xs, dueFrom (ledOf es) (keyOf nds) told inits 0 2 [] = .inr xs → Keep [] h h') → Heap.UpToSlots h h' → Sub base h' → Q v h') : T C A (call (.ref 221) [wv] []) Q E h := by
  refine T_callC (T_call0 221 [(S_ "world", wv)] [] hG hk hA.room (by simp) (by simp) (by simp) ⟨_, _, _, rfl⟩ (by kernel_rfl) (by kernel_rfl) (by kernel_rfl) (by kernel_rfl) (fun _ => by kernel_rfl) (fun _ => by kernel_rfl) (by kernel_rfl) (by kernel_rfl) (by kernel_rfl) (by kernel_rfl) ?_)
  intro gc h1 L hgc hgS hKeep X
  have hA1 : Lv 5 (A.deeper (envF C 221 L)) := hA.deeper _
  have hfr1 : (A.deeper (envF C 221 L)).frames = some (envF C 221 L :: l) := by show (A.frames.map _) = _; rw [hfr]; rfl
  generalize A.deeper (envF C 221 L) = A1 at hA1 hfr1 ⊢
  have e1 : nm [(S_ "world", wv)] (S_ "world") = some wv := by kernel_rfl
  have e9 : nm [(S_ "world", wv)] (S_ "spot") = none := by kernel_rfl
  generalize nm [(S_ "world", wv)] = m0 at X e1 e9
  have upOf : ∀ {h2 : Heap}, Keep [] h h2 → Heap.UpToSlots h h2 := fun K b o hb _ => ⟨o.slots, K b o (by simp) hb⟩
  have k1 : Keep [] h h1 := hKeep _ X.keep
  refine T_execs_cons ?_
  refine T_Try ?_
  refine T_execs_cons ?_
  with_reducible refine T_Return ?_
  refine T_F1 (f := 106) X (by kernel_rfl) (by kernel_rfl) ?_
  walk_at "n"
  refine ⟨X.glob.K.keeps X.keep, ?_⟩
  refine starts_ok hA1 (X.globF (g0 := g) (h0 := h) hG hgc) X.subF (wr.mono (Fresh.base hgc)) pk hes hlen hz hpk ht htz hil hfr1 (hsb.trans (Fresh.base hgc)) (frames_of k1 hfl X (hsb.trans hgc) rfl (fun e => by cases e)) (fun xs v h2 hd hv K2 => ?_) (fun n e h2 hd fl up => ?_)
  · have kk : Keep [] h h2 := k1.trans K2
    refine hq _ _ ?_ (fun _ _ => kk) (upOf kk) (fun b o e => kk b o (by simp) (hk _ _ (hsb _ _ e)))
    rw [hd]
    obtain ⟨a, vs, k, rfl, ha, hvs⟩ := hv
    exact ⟨a, vs, k, rfl, Fresh.sub _ _ _ _ _ ha, hvs⟩
  · refine note_next (outer := l) (L := L) hfr1 rfl fl fun h3 fl3 up3 => ?_
    refine flt_flight (fo := none) fl3 fun h4 fl4 up4 => ?_
    have u4 : Heap.UpToSlots h1 h4 := up.trans (up3.trans up4)
    obtain ⟨ea, oe, vs, dx2, od2, T0, oT, ts, rfl, y, r⟩ := id fl4
    have X4 := X.upTo (hsb.trans hgc) hGb y.stays u4
    refine T_handleAs ?_
    refine T_ldg (v := .ref 52) X4 (by kernel_rfl) ?_
    refine ⟨rfl, X4.glob.K.keeps X4.keep, ⟨oe, y.obj, y.cls⟩, ?_⟩
    refine flt_flight (fo := none) fl4 fun h5 fl5 up5 => ?_
    obtain ⟨ea5, oe5, vs5, dx5, od5, T5, oT5, ts5, e5, y5, r5⟩ := id fl5
    cases e5
    have X5 := X.upTo (hsb.trans hgc) hGb y5.stays (u4.trans up5)
    obtain ⟨mi5, k5, t5, hons, hsp⟩ := y5.spot
    have ne1 : ea ≠ L := flds_ne X5.ns y5.obj y5.data
    have ne2 : dx5 ≠ L := ons_ne X5.ns y5.dobj hons e9 hsp
    refine T_stS X5 fun h6 X6 s6 => ?_
    refine T_execs_cons ?_
    with_reducible refine T_Return ?_
    refine T_Attr ?_
    walk_at "n"
    refine T_getattr52 (X6.glob.K.keeps X6.keep) ((s6.2 ea ne1).trans y5.obj) y5.cls (by unfold notCls; rw [y5.data]) y5.dict ((s6.2 dx5 ne2).trans y5.dobj) hons hsp ?_ (by kernel_rfl) (by kernel_rfl) rfl
    refine T_nameGoes X6 fun h7 m7 X7 s7 => ?_
    have hLn : h.get? L = none := by
      cases q : h.get? L with
      | none => rfl
      | some o => have := hgS _ _ q (by simp); rw [X.off] at this; cases this
    have up5' : Heap.UpToSlots h h5 := (upOf k1).trans (u4.trans up5)
    refine hq _ _ ?_ (fun xs e => by rw [hd] at e; cases e) (fun b o hb hnf => ?_) X7.keep
    · rw [hd]; exact ⟨t5, rfl⟩
    · have hne : b ≠ L := fun e => by rw [e, hLn] at hb; cases hb
      obtain ⟨sl, q⟩ := up5' b o hb hnf
      exact ⟨sl, (s7.2 b hne).trans ((s6.2 b hne).trans q)⟩
end
section
open PySem PySem.W PyProof.Rows
set_option Elab.async false
set_option maxRecDepth 100000
set_option maxHeartbeats 4000000
set_option linter.unusedVariables false

def pks : List Str := [S_ "p", S_ "main"]
/-- every node there may be -/
def univ : List Nd := pks.flatMap fun p => ((List.range 4).flatMap fun k => (List.range 4).map fun w => valNd p k w) ++ fnNames.map (fnNd p)
def Gen (nds : List Nd) : Prop := ∀ nd ∈ nds, nd ∈ univ

def uOk : Bool := univ.all fun a => decide (a.pkg.length ≤ 10) && decide (a.names.length ≤ 2) && (a.names.all fun n => decide (n.length ≤ 20)) && (!a.val || decide (a.names = [S_ "_"]) || a.names.any fun n => decide (n ≠ S_ "_"))
  && decide (a.key ≠ S_ "sync.Mutex.Lock") && (decide (a.pkg = S_ "p") || decide (a.pkg = S_ "main"))
theorem uOk_t : uOk = true := by decide +kernel
def uOwn : Bool := univ.all fun a => univ.all fun b => !a.val || !b.val || a.names.all fun n => b.names.all fun n' => decide (n = S_ "_") || decide (n' = S_ "_") || !decide (nmOf a n = nmOf b n') || decide (a.key = b.key)
theorem uOwn_t : uOwn = true := by decide +kernel
def uLate : Bool := univ.all fun a => univ.all fun b => b.names.all fun n => decide (a.pkg ++ S_ ".late" ≠ nmOf b n)
theorem uLate_t : uLate = true := by decide +kernel

theorem gen_ok {nds : List Nd} (G : Gen nds) : ∀ nd ∈ nds, NdOk nd ∧ nd.key ≠ S_ "sync.Mutex.Lock" ∧ (nd.pkg = S_ "p" ∨ nd.pkg = S_ "main") := fun nd hnd => by
  have := List.all_eq_true.mp uOk_t nd (G nd hnd)
  simp only [Bool.and_eq_true, decide_eq_true_eq, List.all_eq_true, Bool.or_eq_true, Bool.not_eq_true', List.any_eq_true] at this
  obtain ⟨⟨⟨⟨⟨a, b⟩, c⟩, d⟩, e⟩, f⟩ := this
  refine ⟨⟨a, b, c, fun hv => ?_⟩, e, f⟩
  rcases d with (d | d) | ⟨n, hn, d⟩
  · rw [hv] at d; cases d
  · exact .inl d
  · exact .inr ⟨n, hn, d⟩
theorem gen_pk {nds : List Nd} (G : Gen nds) (hk : (nds.map Nd.key).Nodup) : Pk nds where
  keys := hk
  lock := fun nd h => (gen_ok G nd h).2.1
  ok := fun nd h => (gen_ok G nd h).1
  late := fun a b n ha hb hn => by
    have := List.all_eq_true.mp (List.all_eq_true.mp (List.all_eq_true.mp uLate_t a (G a ha)) b (G b hb)) n hn
    simpa using this
  own := fun i j a b n n' hi hj ha hb hn hn' h1 h2 e => by
    have := List.all_eq_true.mp (List.all_eq_true.mp uOwn_t a (G a (List.mem_of_getElem? hi))) b (G b (List.mem_of_getElem? hj))
    simp only [ha, hb, Bool.not_true, Bool.false_or, Bool.or_eq_true, List.all_eq_true] at this
    have := this n hn n' hn'
    simp only [h1, h2, e, decide_false, decide_true, Bool.not_true, decide_eq_true_eq, Bool.false_eq_true, false_or] at this
    by_cases h : i = j
    · exact h
    · exact absurd this (key_ne hk hi hj h)
theorem gen_pkgs {nds : List Nd} (G : Gen nds) : PkgsOk nds := fun nd h => (gen_ok G nd h).2.2

/-! ## the law's own nodes -/
def keysOf (p : Str) (n : Nat) : List Str := ((List.range n).map fun k : Nat => p ++ S_ ".var#" ++ sI ((k : Int) + 1)) ++ fnNames.map fun n => p ++ S_ "." ++ n
theorem pkg_keys (p : Str) (ws : List Nat) : (pkgNds p ws).map Nd.key = keysOf p ws.length := by
  unfold pkgNds keysOf
  rw [List.map_append, List.map_map]
  congr 1
  apply List.ext_getElem?
  intro i
  rw [List.getElem?_map, List.getElem?_mapIdx, List.getElem?_map]
  by_cases h : i < ws.length
  · simp [h, valNd]
  · simp [h]
theorem nds_two {nds : List Nd} (h : NDs 2 nds) : ∃ u v, Ways u ∧ Ways v ∧ nds = pkgNds (S_ "p") u ++ pkgNds (S_ "main") v := by
  obtain ⟨l1, v, ⟨l0, u, h0, hu, e1⟩, hv, e2⟩ := h
  have h0 : l0 = [] := h0
  subst h0 e1 e2
  exact ⟨u, v, hu, hv, rfl⟩
def kNd : Bool := (List.range 5).all fun a => (List.range 5).all fun b => decide (keysOf (S_ "p") a ++ keysOf (S_ "main") b).Nodup
theorem kNd_t : kNd = true := by decide +kernel
theorem nds_keys {nds : List Nd} (h : NDs 2 nds) : (nds.map Nd.key).Nodup := by
  obtain ⟨u, v, hu, hv, rfl⟩ := nds_two h
  rw [List.map_append, pkg_keys, pkg_keys]
  have := List.all_eq_true.mp (List.all_eq_true.mp kNd_t u.length (List.mem_range.mpr (by have := hu.2.1; omega))) v.length (List.mem_range.mpr (by have := hv.2.1; omega))
  exact of_decide_eq_true this
theorem gen_pkg {p : Str} (hp : p ∈ pks) {ws : List Nat} (hw : Ways ws) : Gen (pkgNds p ws) := fun nd hnd => by
  unfold univ
  refine List.mem_flatMap.mpr ⟨p, hp, ?_⟩
  rcases List.mem_append.mp hnd with h | h
  · obtain ⟨k, hk, e⟩ := List.mem_mapIdx.mp h
    refine List.mem_append.mpr (.inl (List.mem_flatMap.mpr ⟨k, List.mem_range.mpr (by have := hw.2.1; omega), List.mem_map.mpr ⟨ws[k], List.mem_range.mpr (hw.2.2 _ (List.getElem_mem hk)), e⟩⟩))
  · exact List.mem_append.mpr (.inr h)
theorem nds_gen {nds : List Nd} (h : NDs 2 nds) : Gen nds := by
  obtain ⟨u, v, hu, hv, rfl⟩ := nds_two h
  intro nd hnd
  rcases List.mem_append.mp hnd with h | h
  · exact gen_pkg (.head _) hu nd h
  · exact gen_pkg (.tail _ (.head _)) hv nd h

/-- the values of a package, as they stand -/
def mine (nds : List Nd) (p : Str) : List Nat := (List.range nds.length).filter fun i => match nds[i]? with
  | some nd => nd.val && decide (nd.pkg = p)
  | none => false
theorem mine_mem {nds : List Nd} {p : Str} {i : Nat} : i ∈ mine nds p ↔ ∃ nd, nds[i]? = some nd ∧ nd.val = true ∧ nd.pkg = p := by
  unfold mine
  rw [List.mem_filter, List.mem_range]
  constructor
  · rintro ⟨h1, h2⟩
    cases e : nds[i]? with
    | none => rw [e] at h2; cases h2
    | some nd =>
      rw [e] at h2
      simp only [Bool.and_eq_true, decide_eq_true_eq] at h2
      exact ⟨nd, rfl, h2.1, h2.2⟩
  · rintro ⟨nd, h1, h2, h3⟩
    refine ⟨(List.getElem?_eq_some_iff.mp h1).1, ?_⟩
    rw [h1]; simp [h2, h3]
theorem mine_nodup (nds : List Nd) (p : Str) : (mine nds p).Nodup := List.Pairwise.filter _ List.nodup_range
theorem mine_len (nds : List Nd) (p : Str) : (mine nds p).length ≤ nds.length := by
  have := List.length_filter_le (fun i => match nds[i]? with
    | some nd => nd.val && decide (nd.pkg = p)
    | none => false) (List.range nds.length)
  rw [List.length_range] at this
  exact this
def turned (t : Nat) (l : List Nat) : List Nat := l.drop t ++ l.take t
theorem turned_tell (nds : List Nd) (p : Str) (t : Nat) : TellOk nds p (turned t (mine nds p)) where
  mem := fun i => by
    rw [← mine_mem]
    unfold turned
    rw [List.mem_append]
    conv => rhs; rw [← List.take_append_drop t (mine nds p)]
    rw [List.mem_append]
    exact Or.comm
  nodup := by
    have h : List.Perm (turned t (mine nds p)) (mine nds p) := by
      have h1 : List.Perm (turned t (mine nds p)) ((mine nds p).take t ++ (mine nds p).drop t) := List.perm_append_comm
      rwa [List.take_append_drop] at h1
    exact h.symm.nodup (mine_nodup nds p)
theorem turned_len (t : Nat) (l : List Nat) : (turned t l).length = l.length := by
  unfold turned
  rw [List.length_append, List.length_drop, List.length_take]
  omega
/-- a package's values are there -/
theorem mine_ne {nds : List Nd} (h : NDs 2 nds) {i : Nat} (hi : i < 2) : 0 < (mine nds (pkgOf i)).length := by
  obtain ⟨u, v, hu, hv, e⟩ := nds_two h
  have key : ∃ (j : Nat) (nd : Nd), nds[j]? = some nd ∧ nd.val = true ∧ nd.pkg = pkgOf i := by
    subst e
    match i, hi with
    | 0, _ =>
      refine ⟨0, valNd (S_ "p") 0 (u[0]'(by have := hu.1; omega)), ?_, rfl, rfl⟩
      have h1 : 0 < (u.mapIdx (valNd (S_ "p"))).length := by rw [List.length_mapIdx]; exact hu.1
      unfold pkgNds
      rw [List.append_assoc, List.getElem?_append_left h1, List.getElem?_mapIdx]
      have := hu.1
      simp [show 0 < u.length by omega]
    | 1, _ =>
      refine ⟨(pkgNds (S_ "p") u).length, valNd (S_ "main") 0 (v[0]'(by have := hv.1; omega)), ?_, rfl, rfl⟩
      have h1 : 0 < (v.mapIdx (valNd (S_ "main"))).length := by rw [List.length_mapIdx]; exact hv.1
      rw [List.getElem?_append_right (Nat.le_refl _), Nat.sub_self]
      unfold pkgNds
      rw [List.getElem?_append_left h1, List.getElem?_mapIdx]
      have := hv.1
      simp [show 0 < v.length by omega]
  obtain ⟨j, hj⟩ := key
  exact List.length_pos_of_mem (mine_mem.mpr hj)
/-! ## checks of written data -/
def esB (nds : List Nd) (es : List (List Nat)) : Bool := (List.range es.length).all fun i => match es[i]?, nds[i]? with
  | some gs, some a => decide (gs.length ≤ 2) && gs.all fun j => match nds[j]? with
    | some b => (decide (a.pkg = S_ "main") || decide (b.pkg = S_ "p")) && !decide (b.names = [S_ "_"])
    | none => false
  | _, _ => false
theorem esB_ok {nds : List Nd} {es : List (List Nat)} {n : Nat} (hn : es.length = n) (h : esB nds es = true) : EdgesOk nds n es := by
  refine ⟨hn, fun i gs hi => ?_⟩
  have := List.all_eq_true.mp h i (List.mem_range.mpr (List.getElem?_eq_some_iff.mp hi).1)
  rw [hi] at this
  cases ha : nds[i]? with
  | none => rw [ha] at this; cases this
  | some a =>
    rw [ha] at this
    simp only [Bool.and_eq_true, decide_eq_true_eq, List.all_eq_true] at this
    refine ⟨this.1, fun j hj => ?_⟩
    have h2 := this.2 j hj
    cases hb : nds[j]? with
    | none => rw [hb] at h2; cases h2
    | some b =>
      rw [hb] at h2
      simp only [Bool.and_eq_true, Bool.or_eq_true, decide_eq_true_eq, Bool.not_eq_true', decide_eq_false_iff_not] at h2
      exact ⟨a, b, rfl, rfl, h2.1, h2.2⟩
def tellB (nds : List Nd) (p : Str) (tl : List Nat) : Bool := (tl.all fun i => decide (i ∈ mine nds p)) && ((mine nds p).all fun i => decide (i ∈ tl)) && decide tl.Nodup
theorem tellB_ok {nds : List Nd} {p : Str} {tl : List Nat} (h : tellB nds p tl = true) : TellOk nds p tl := by
  simp only [tellB, Bool.and_eq_true, List.all_eq_true, decide_eq_true_eq] at h
  exact ⟨fun i => by rw [← mine_mem]; exact ⟨h.1.1 i, h.1.2 i⟩, h.2⟩
end
section
open PySem PySem.W PyProof.Rows PySem.Calls PyProof.V PySem.Spec
set_option Elab.async false
set_option maxRecDepth 100000
set_option maxHeartbeats 4000000
set_option linter.unusedVariables false

theorem T_F5 {C : Cx} {A : Around} {E : Value → Heap → Prop} {g h : Heap} {L : Addr} {m : Str → Option Value} {led : List (Addr × Obj)} {env : Env} {x : Str} {f : Addr} {np pos : Pos} {e1 e2 e3 e4 e5 : Expr} {Q : Value → Heap → Prop} (X : W C g L m led h) (hn : nsIn (KF C) mainGlobals x = some (some (.ref f))) (hk : keepIn (KF C) (.ref f) = true)
    (hx : T C A (eval e1 env) (fun v1 h1 => T C A (eval e2 env) (fun v2 h2 => T C A (eval e3 env) (fun v3 h3 => T C A (eval e4 env) (fun v4 h4 => T C A (eval e5 env) (fun v5 h5 => (KF C).In h5 ∧ T C A (call (.ref f) [v1, v2, v3, v4, v5] []) Q E h5) E h4) E h3) E h2) E h1) E h)
    (hkf : env.scope.kind = .function := by kernel_rfl) (hxk : env.kindOf x = some .globalImplicit := by kernel_rfl) (hg : env.globals = mainGlobals := by kernel_rfl) (hd : (x == ("__debug__" : Str)) = false := by kernel_rfl)
    (s1 : starEach [e1, e2, e3, e4, e5] env = (false, eval e1 env) :: starEach [e2, e3, e4, e5] env := by kernel_rfl) (s2 : starEach [e2, e3, e4, e5] env = (false, eval e2 env) :: starEach [e3, e4, e5] env := by kernel_rfl) (s3 : starEach [e3, e4, e5] env = (false, eval e3 env) :: starEach [e4, e5] env := by kernel_rfl) (s4 : starEach [e4, e5] env = (false, eval e4 env) :: starEach [e5] env := by kernel_rfl) (s5 : starEach [e5] env = (false, eval e5 env) :: starEach [] env := by kernel_rfl)
    (hp : (backTo pos (starEach [e2, e3, e4, e5] env)).any (·.1) = false := by kernel_rfl) : T C A (eval (.Call (.Name x np) [e1, e2, e3, e4, e5] [] pos) env) Q E h :=
  T_CallName (T_ldg X hn (T_callWith (Kp.fn hk) (T_spl (T_post hx fun v1 h1 H => T_spl (T_post H fun v2 h2 H => T_spl (T_post H fun v3 h3 H => T_spl (T_post H fun v4 h4 H => T_spl (T_post H fun v5 h5 H => T_spl_nil H) s5) s4) s3) s2) s1) s1 hp) hkf hxk hg hd)

/-- what is new, taken in at once -/
theorem W.absorbTo {C : Cx} {g h : Heap} {L : Addr} {m : Str → Option Value} {led' : List (Addr × Obj)} (news : List (Addr × Obj)) (X : W C g L m (news ++ led') h) : ∃ g', Sub g g' ∧ W C g' L m led' h ∧ ∀ p ∈ news, g'.get? p.1 = some p.2 := by
  obtain ⟨g', a, b, c⟩ := X.absorb (led' := led') (fun q hq => List.mem_append.mpr (.inr hq)) (by
    have := X.nd
    rw [List.map_append] at this
    exact (List.nodup_append.mp this).2.1)
  refine ⟨g', a, b, fun p hp => c _ _ (X.at_ p (List.mem_append.mpr (.inl hp))) (X.sep p (List.mem_append.mpr (.inl hp))).1 fun hm => ?_⟩
  have := X.nd
  rw [List.map_append] at this
  exact (List.nodup_append.mp this).2.2 p.1 (List.mem_map_of_mem (f := (·.1)) hp) p.1 hm rfl
/-- the state up to slots, and an object that is kept so -/
theorem W.upTo1 {C : Cx} {g h base h' : Heap} {L a : Addr} {o : Obj} {m : Str → Option Value} {led : List (Addr × Obj)} (X : W C g L m led h) (hm : (a, o) ∈ led) (hnf : ∀ vs, o.data ≠ .fields vs) (s : Sub base g) (G : Glob C base) (sb : Sub base h') (up : Heap.UpToSlots h h') :
    ∃ sl, W C base L m [(a, { o with slots := sl })] h' := by
  have Y := X.upTo s G sb up
  obtain ⟨sl, hs⟩ := up a o (X.at_ _ hm) hnf
  refine ⟨sl, Y.ns, Y.keep, Y.off, fun p hp => ?_, fun p hp => ?_, by simp, Y.glob⟩
  · rw [List.mem_singleton.mp hp]; exact hs
  · rw [List.mem_singleton.mp hp]
    refine ⟨(X.sep _ hm).1, ?_⟩
    cases q : base.get? a with
    | none => rfl
    | some o => have := s _ _ q; rw [(X.sep _ hm).2] at this; cases this

/-- behind a call that turned one object of ours: all that is fresh stays -/
theorem W.call1S {C : Cx} {g h h' : Heap} {L r : Addr} {o o' : Obj} {m : Str → Option Value} {led led' : List (Addr × Obj)} (X : W C g L m led h) (hK : Keep [r] h h') (u : Up r o o' led led') (hr : h'.get? r = some o') : ∃ g', Sub g g' ∧ W C g' L m led' h' ∧ Sub (Fresh g h h') g' := by
  obtain ⟨g', a, b, c⟩ := X.call1 hK u hr
  refine ⟨g', a, b, fun b o e => ?_⟩
  have ok := Fresh.ok e
  refine c b o (Fresh.sub _ _ _ b o e) (fun q => ?_) fun q => ?_
  · subst q
    obtain ⟨oL, hL⟩ := X.ldom
    rcases ok with ⟨o', e'⟩ | e'
    · rw [X.off] at e'; cases e'
    · rw [hL] at e'; cases e'
  · rw [u.fst] at q
    obtain ⟨p, hp, rfl⟩ := List.mem_map.mp q
    rcases ok with ⟨o', e'⟩ | e'
    · rw [(X.sep p hp).2] at e'; cases e'
    · rw [X.at_ p hp] at e'; cases e'

theorem LW.mk0 {vs : List Value} {k : Nat} : LW (listO vs k) vs := ⟨rfl, k, rfl⟩

def fNd (k : Nat) : Nd := ⟨true, S_ "p", S_ "p.var#" ++ sI ((k : Int) + 1), [S_ "v" ++ sI (k : Int)]⟩
def nds5 : List Nd := (List.range 3).map fNd ++ [⟨false, S_ "p", S_ "p.f", []⟩, ⟨false, S_ "p", S_ "p.g", []⟩]
def ini5 : Nat → List Str
  | 0 => []
  | _ => [S_ "main.init#1"]

def es1 : List (List Nat) := [[3], [], [], [4], [3, 2]]
def es2 : List (List Nat) := [[3], [0], [], [4], [0]]
def tl1 : Nat → List Nat
  | 0 => [0, 1, 2]
  | _ => []
def tl2 : Nat → List Nat
  | 0 => [1, 0, 2]
  | _ => []
def ndEq (a b : Nd) : Bool := decide (a.val = b.val) && decide (a.pkg = b.pkg) && decide (a.key = b.key) && decide (a.names = b.names)
theorem ndEq_ok : ∀ {a b : Nd}, ndEq a b = true → a = b
  | ⟨v, p, k, n⟩, ⟨v', p', k', n'⟩, h => by
    simp only [ndEq, Bool.and_eq_true, decide_eq_true_eq] at h
    obtain ⟨⟨⟨rfl, rfl⟩, rfl⟩, rfl⟩ := h
    rfl
theorem gen5 : Gen nds5 := by
  have h : (nds5.all fun a => univ.any fun b => ndEq a b) = true := by decide +kernel
  intro nd hnd
  obtain ⟨b, hb, e⟩ := List.any_eq_true.mp (List.all_eq_true.mp h nd hnd)
  rw [ndEq_ok e]; exact hb
theorem keys5 : (nds5.map Nd.key).Nodup := by decide +kernel
theorem es1_ok : EdgesOk nds5 nds5.length es1 := esB_ok rfl (by decide +kernel)
theorem es2_ok : EdgesOk nds5 nds5.length es2 := esB_ok rfl (by decide +kernel)
theorem tl1_ok : ∀ i, i < 2 → TellOk nds5 (pkgOf i) (tl1 i) := two (tellB_ok (by decide +kernel)) (tellB_ok (by decide +kernel))
theorem tl2_ok : ∀ i, i < 2 → TellOk nds5 (pkgOf i) (tl2 i) := two (tellB_ok (by decide +kernel)) (tellB_ok (by decide +kernel))
def want1 : List Str := [S_ "p.var#2", S_ "p.var#3", S_ "p.var#1", S_ "main.init#1"]
theorem due1 : dueFrom (ledOf es1) (keyOf nds5) tl1 ini5 0 2 [] = .inr want1 := by decide +kernel
theorem due2 : dueFrom (ledOf es2) (keyOf nds5) tl2 ini5 0 2 [] = .inl 3 := by decide +kernel
theorem tlz {tl : Nat → List Nat} (h : ∀ i, i < 2 → TellOk nds5 (pkgOf i) (tl i)) (hz : ∀ i, i < 2 → (tl i).length ≤ 14) : ∀ i, i < 2 → (tl i).length ≤ 14 ∧ ∀ j ∈ tl i, j < nds5.length := fun i hi => ⟨hz i hi, fun j hj => by
  obtain ⟨nd, a, _⟩ := ((h i hi).mem j).mp hj
  exact (List.getElem?_eq_some_iff.mp a).1⟩

theorem fixed_ok {C : Cx} {A : Around} {E : Value → Heap → Prop} {g h : Heap} {envW : Env} {Lw : Addr} {ow : Obj} {Q : Value → Heap → Prop}
    (hA : Lv 12 A) (hG : Glob C g) (hk : Sub g h) (hfr : A.frames = some [envW]) (hf : envW.frame = some Lw) (hm : envW.scope.kind ≠ .module) (hLw : h.get? Lw = some ow) (hgw : g.get? Lw = none) (hnf : ∀ vs, ow.data ≠ .fields vs)
    (hq : ∀ h', Sub g h' → Heap.UpToSlots h h' → Q (.bool true) h') : T C A (call (.ref 226) [] []) Q E h := by
  refine T_callC (T_call0 226 [] [(Lw, ow)] hG hk hA.room (by simpa using hLw) (by simpa using hgw) (by simp) ⟨_, _, _, rfl⟩ (by kernel_rfl) (by kernel_rfl) (by kernel_rfl) (by kernel_rfl) (fun _ => by kernel_rfl) (fun _ => by kernel_rfl) (by kernel_rfl) (by kernel_rfl) (by kernel_rfl) (by kernel_rfl) ?_)
  intro gc h1 L hgc hgS hKeep X
  have hA1 : Lv 11 (A.deeper (envF C 226 L)) := hA.deeper _
  have hfr1 : (A.deeper (envF C 226 L)).frames = some [envF C 226 L, envW] := by show (A.frames.map _) = _; rw [hfr]; rfl
  generalize A.deeper (envF C 226 L) = A1 at hA1 hfr1 ⊢
  generalize nm [] = m0 at X
  refine T_execs_cons ?_
  refine T_AssignLComp ?_ (by kernel_rfl) (by kernel_rfl) (by kernel_rfl) (by kernel_rfl) (by intro _; kernel_rfl)
  ((with_reducible refine T_B1 (x := Str.ofString "range") (f := .type "range") (by assumption) (by kernel_rfl) (by kernel_rfl) Kp.type ?_))
  walk_at "n"
  refine C_range (by omega) (by omega) fun q1 q2 q3 => ?_
  have Xr := X.push (o := { cls := .type "range", data := .fields #[.int 0 q1, .int 3 q2, .int 1 q3] })
  refine LU_src (src_range (n := 3) hA1.hd Xr.drop1 (Heap.get?_push_size _ rfl) (by omega)) (by omega) (fun _ _ => ⟨by kernel_rfl, by kernel_rfl⟩)
    (fun i ys g' m led => A3 (led = [(Lw, ow)]) (Sub gc g') (All2 (NdAt g') ys ((List.range i).map fNd))) ?_ ?_ ?_ (by kernel_rfl) (by kernel_rfl) (by kernel_rfl)
  · exact ⟨rfl, Sub.refl _, by simpa using All2.nil⟩
  · rintro i v ys k g8 m8 led8 own h8 Lc acc Kq Kr hKq hKr hi s8 ⟨rfl, sg8, hys⟩ ⟨t, rfl⟩ X8
    refine assign_Name ?_
    walk_at "st"
    intro h9 X9
    refine tests_nil ⟨fun _ => ?_, fun e => by cases e⟩
    walk_at "tup"
    walk_at "spl"
    walk_at "n"
    walk_at "spl"
    walk_at "n"
    walk_at "spl"
    walk_at "n"
    ((with_reducible refine T_B1 (x := Str.ofString "str") (f := .type "str") (by assumption) (by kernel_rfl) (by kernel_rfl) Kp.type ?_))
    walk_at "n"
    refine C_str (by omega) (by omega) fun ts => ?_
    refine O_addS (slen (.lit (by decide)) (.num (by omega) (by omega))) fun tv => ?_
    walk_at "spl"
    walk_at "tup"
    walk_at "spl"
    walk_at "n"
    ((with_reducible refine T_B1 (x := Str.ofString "str") (f := .type "str") (by assumption) (by kernel_rfl) (by kernel_rfl) Kp.type ?_))
    walk_at "n"
    refine C_str (by omega) (by omega) fun ts2 => ?_
    refine O_addS (slen (.lit (by decide)) (.num (by omega) (by omega))) fun tv2 => ?_
    walk_at "end"
    intro h10 b X10 _
    walk_at "end"
    intro h11 a X11 _
    obtain ⟨g12, s12, X12, f12⟩ := X11.absorbTo [_, _]
    refine hKq _ _ ⟨g12, _, _, s12, X12, rfl, sg8.trans s12, ?_⟩
    rw [List.range_succ, List.map_append]
    refine (hys.mono fun _ _ => NdAt.mono s12).snoc ⟨a, b, _, _, _, _, rfl, f12 (a, _) (.head _), f12 (b, _) (.tail _ (.head _)), .one ⟨_, rfl⟩⟩
  · rintro ys kr g8 m8 led8 h8 na s8 ⟨rfl, sg8, hys⟩ X8
    walk_at "as"
    walk_at "n"
    walk_at "lst"
    walk_at "spl"
    walk_at "tup"
    walk_at "spl"
    walk_at "n"
    walk_at "spl"
    walk_at "n"
    walk_at "spl"
    walk_at "n"
    walk_at "spl"
    walk_at "tup"
    walk_at "end"
    intro h9 b1 X9 _
    walk_at "end"
    intro h10 a1 X10 _
    walk_at "spl"
    walk_at "tup"
    walk_at "spl"
    walk_at "n"
    walk_at "spl"
    walk_at "n"
    walk_at "spl"
    walk_at "n"
    walk_at "spl"
    walk_at "tup"
    walk_at "end"
    intro h11 b2 X11 _
    walk_at "end"
    intro h12 a2 X12 _
    walk_at "end"
    intro h13 l2 X13 _
    have hyl : ys.length = 3 := by rw [hys.1]; rfl
    refine O_addL X13 (X13.at_ (na, listO ys kr) (by walk_at "mm")) (LX.mk (k := kr)).lw (X13.at_ _ (.head _)) (LX.mk (k := 0)).lw (by rw [hyl]; simp) fun X14 => ?_
    have hn14 : h13.get? h13.objs.size = none := get_size _
    generalize h13.objs.size = nl at X14 hn14 ⊢
    generalize h13.push (listO (ys ++ [.ref a1, .ref a2]) 0) = h14 at X14 ⊢
    obtain ⟨g15, s15, X15, f15⟩ := W.absorbTo [_, _, _, _, _, _, _] X14
    have hN15 : Lst NdAt g15 (.ref nl) nds5 := ⟨nl, _, 0, rfl, f15 (nl, _) (.head _), (hys.mono fun _ _ => NdAt.mono s15).append
      (.cons ⟨a1, b1, _, _, _, _, rfl, f15 (a1, _) (by walk_at "mem"), f15 (b1, _) (by walk_at "mem"), .nil⟩ (.one ⟨a2, b2, _, _, _, _, rfl, f15 (a2, _) (by walk_at "mem"), f15 (b2, _) (by walk_at "mem"), .nil⟩))⟩
    clear X14 X13 X12 X11 X10 X9 X8 Xr
    walk_at "st"
    intro h16 X16
    walk_at "as"
    ((with_reducible refine T_DictW (by assumption) ?_ (by kernel_rfl) (by kernel_rfl) (List.cons_ne_nil _ _) (by decide)))
    intro h17 di X17 lodi _
    (with_reducible refine T_pair ?_)
    walk_at "n"
    walk_at "lst"
    walk_at "end"
    intro h18 ip X18 _
    (with_reducible refine T_pair ?_)
    walk_at "n"
    walk_at "lst"
    walk_at "spl"
    walk_at "n"
    walk_at "end"
    intro h19 im X19 _
    (with_reducible refine T_pair0 ?_)
    refine ⟨[(_, _), (_, _)], ⟨strKind_is _ _ _ _, rfl, strKind_is _ _ _ _, rfl, trivial⟩, _, _, _, [_, _], X19, fun h20 oi hoi X20 => ?_⟩
    obtain ⟨g21, s21, X21, f21⟩ := W.absorbTo [_, _, _] X20
    have hI21 : PD C SList g21 (.ref di) ini5 pkgOf := ⟨di, oi, _, rfl, f21 (di, _) (by walk_at "mem"), hoi, lodi, two (⟨.ref ip, by rfl, ip, _, 0, rfl, f21 (ip, _) (by walk_at "mem"), .nil⟩) (⟨.ref im, by rfl, im, _, 0, rfl, f21 (im, _) (by walk_at "mem"), .one ⟨_, rfl⟩⟩)⟩
    walk_at "st"
    intro h22 X22
    walk_at "as"
    refine T_F5 (f := 204) X22 (by kernel_rfl) (by kernel_rfl) ?_
    walk_at "lst"
    walk_at "spl"
    walk_at "n"
    walk_at "spl"
    walk_at "n"
    walk_at "end"
    intro h12 r11 X13 _
    walk_at "n"
    walk_at "lst"
    walk_at "spl"
    walk_at "lst"
    walk_at "spl"
    walk_at "n"
    walk_at "end"
    intro h15 e14 X16 _
    walk_at "spl"
    walk_at "lst"
    walk_at "end"
    intro h18 e17 X19 _
    walk_at "spl"
    walk_at "lst"
    walk_at "end"
    intro h111 e110 X112 _
    walk_at "spl"
    walk_at "lst"
    walk_at "spl"
    walk_at "n"
    walk_at "end"
    intro h114 e113 X115 _
    walk_at "spl"
    walk_at "lst"
    walk_at "spl"
    walk_at "n"
    walk_at "spl"
    walk_at "n"
    walk_at "end"
    intro h117 e116 X118 _
    walk_at "end"
    intro h120 e119 X121 _
    ((with_reducible refine T_DictW (by assumption) ?_ (by kernel_rfl) (by kernel_rfl) (List.cons_ne_nil _ _) (by decide)))
    intro h123 d122 X124 lod1 _
    (with_reducible refine T_pair ?_)
    walk_at "n"
    walk_at "lst"
    walk_at "spl"
    walk_at "n"
    walk_at "spl"
    walk_at "n"
    walk_at "spl"
    walk_at "n"
    walk_at "end"
    intro h126 t125 X127 _
    (with_reducible refine T_pair ?_)
    walk_at "n"
    walk_at "lst"
    walk_at "end"
    intro h129 t128 X130 _
    (with_reducible refine T_pair0 ?_)
    refine ⟨[(_, _), (_, _)], ⟨strKind_is _ _ _ _, rfl, strKind_is _ _ _ _, rfl, trivial⟩, _, _, _, [_, _], X130, fun h131 o133 ho133 X132 => ?_⟩
    walk_at "n"
    refine ⟨X132.glob.K.keeps X132.keep, ?_⟩
    obtain ⟨g1, s1, Y1, f1⟩ := W.absorbTo [_, _, _, _, _, _, _, _, _] X132
    have hE1 : Lst NList g1 (.ref e119) es1 := ⟨e119, _, 0, rfl, f1 (e119, _) (by walk_at "mem"), .cons ⟨e14, _, 0, rfl, f1 (e14, _) (by walk_at "mem"), .one ⟨_, rfl⟩⟩ (.cons ⟨e17, _, 0, rfl, f1 (e17, _) (by walk_at "mem"), .nil⟩ (.cons ⟨e110, _, 0, rfl, f1 (e110, _) (by walk_at "mem"), .nil⟩ (.cons ⟨e113, _, 0, rfl, f1 (e113, _) (by walk_at "mem"), .one ⟨_, rfl⟩⟩ (.one ⟨e116, _, 0, rfl, f1 (e116, _) (by walk_at "mem"), .cons ⟨_, rfl⟩ (.one ⟨_, rfl⟩)⟩))))⟩
    have hT1 : PD C NList g1 (.ref d122) tl1 pkgOf := ⟨d122, o133, _, rfl, f1 (d122, _) (by walk_at "mem"), ho133, lod1, two (⟨.ref t125, by rfl, t125, _, 0, rfl, f1 (t125, _) (by walk_at "mem"), .cons ⟨_, rfl⟩ (.cons ⟨_, rfl⟩ (.one ⟨_, rfl⟩))⟩) (⟨.ref t128, by rfl, t128, _, 0, rfl, f1 (t128, _) (by walk_at "mem"), .nil⟩)⟩
    refine lawworld_ok (hA1.mono (by decide)) Y1.glob Y1.keep (Y1.at_ (r11, _) (.head _)) (Y1.sep (r11, _) (.head _)).2 ⟨0, 5, _, _, LW.mk0, by decide, by decide, by decide⟩ ((hN15.mono (R := NdAt) (fun s x => NdAt.mono s x) s21).mono (R := NdAt) (fun s x => NdAt.mono s x) s1) hE1 hT1 (hI21.mono (R := SList) SList.mono s1) (by decide) rfl (fun nd h => (gen_ok gen5 nd h).1) es1_ok (tlz tl1_ok (by decide)) keys5 fun v1 o1 hw1 x1 dx1 od1 mi1 ao1 av1 ai1 am1 ab1 om1 ob1 mk1 bk1 wr1 K1 hr1 _ => ?_
    obtain ⟨gw1, sw1, Xw1, fw1⟩ := Y1.call1S K1 .here hr1
    have Xv1 := Xw1.drop1
    have wv1 := wr1.mono fw1
    walk_at "st"
    intro h30 X30
    walk_at "n"
    refine T_F1 (f := 221) X30 (by kernel_rfl) (by kernel_rfl) ?_
    walk_at "n"
    refine ⟨X30.glob.K.keeps X30.keep, ?_⟩
    obtain ⟨oL, hoL⟩ := X30.ldom
    have nfL : ∀ vs, oL.data ≠ .fields vs := fun vs e => by
      obtain ⟨o, es, ep, a, b, _, _⟩ := X30.ns
      rw [hoL] at a; cases a; rw [e] at b; cases b
    refine told_ok (base := gw1) (hA1.mono (by decide)) X30.glob X30.keep wv1 (gen_pk gen5 keys5) es1_ok rfl (by decide) (gen_pkgs gen5) tl1_ok (by decide) (by decide) hfr1 (Sub.refl _) X30.glob ⟨fun e => (by cases e), ⟨L, oL, rfl, X30.off, hoL, nfL⟩, hm, ⟨Lw, ow, hf, (X30.sep _ (.head _)).2, X30.at_ _ (.head _), hnf⟩, trivial⟩ fun v h31 hv _ up31 sb31 => ?_
    rw [due1] at hv
    obtain ⟨ra, rvs, rk, rfl, hra, hrv⟩ := hv
    obtain ⟨sl31, X31⟩ := X30.upTo1 (.head _) hnf (Sub.refl _) X30.glob sb31 up31
    walk_at "lst"
    walk_at "spl"
    walk_at "n"
    walk_at "spl"
    walk_at "n"
    walk_at "spl"
    walk_at "n"
    walk_at "spl"
    walk_at "n"
    walk_at "end"
    intro h32 zl X32 k32
    refine R_neL (k32 _ _ hra) (LX.mk (k := rk)).lw (X32.at_ _ (.head _)) (LX.mk (k := 0)).lw hrv (.cons ⟨_, rfl⟩ (.cons ⟨_, rfl⟩ (.cons ⟨_, rfl⟩ (.one ⟨_, rfl⟩)))) hA1 ?_
    have X33 := X32.drop1
    rw [show (!decide (want1 = [S_ "p.var#2", S_ "p.var#3", S_ "p.var#1", S_ "main.init#1"])) = false by decide +kernel]
    walk_at "n"
    refine ⟨fun e => (by cases e), fun _ => ?_⟩
    walk_at "n"
    refine T_F5 (f := 204) X33 (by kernel_rfl) (by kernel_rfl) ?_
    walk_at "lst"
    walk_at "spl"
    walk_at "n"
    walk_at "spl"
    walk_at "n"
    walk_at "end"
    intro h22 r21 X23 _
    walk_at "n"
    walk_at "lst"
    walk_at "spl"
    walk_at "lst"
    walk_at "spl"
    walk_at "n"
    walk_at "end"
    intro h25 e24 X26 _
    walk_at "spl"
    walk_at "lst"
    walk_at "spl"
    walk_at "n"
    walk_at "end"
    intro h28 e27 X29 _
    walk_at "spl"
    walk_at "lst"
    walk_at "end"
    intro h211 e210 X212 _
    walk_at "spl"
    walk_at "lst"
    walk_at "spl"
    walk_at "n"
    walk_at "end"
    intro h214 e213 X215 _
    walk_at "spl"
    walk_at "lst"
    walk_at "spl"
    walk_at "n"
    walk_at "end"
    intro h217 e216 X218 _
    walk_at "end"
    intro h220 e219 X221 _
    ((with_reducible refine T_DictW (by assumption) ?_ (by kernel_rfl) (by kernel_rfl) (List.cons_ne_nil _ _) (by decide)))
    intro h223 d222 X224 lod2 _
    (with_reducible refine T_pair ?_)
    walk_at "n"
    walk_at "lst"
    walk_at "spl"
    walk_at "n"
    walk_at "spl"
    walk_at "n"
    walk_at "spl"
    walk_at "n"
    walk_at "end"
    intro h226 t225 X227 _
    (with_reducible refine T_pair ?_)
    walk_at "n"
    walk_at "lst"
    walk_at "end"
    intro h229 t228 X230 _
    (with_reducible refine T_pair0 ?_)
    refine ⟨[(_, _), (_, _)], ⟨strKind_is _ _ _ _, rfl, strKind_is _ _ _ _, rfl, trivial⟩, _, _, _, [_, _], X230, fun h231 o233 ho233 X232 => ?_⟩
    walk_at "n"
    refine ⟨X232.glob.K.keeps X232.keep, ?_⟩
    obtain ⟨g2, s2, Y2, f2⟩ := W.absorbTo [_, _, _, _, _, _, _, _, _] X232
    have hE2 : Lst NList g2 (.ref e219) es2 := ⟨e219, _, 0, rfl, f2 (e219, _) (by walk_at "mem"), .cons ⟨e24, _, 0, rfl, f2 (e24, _) (by walk_at "mem"), .one ⟨_, rfl⟩⟩ (.cons ⟨e27, _, 0, rfl, f2 (e27, _) (by walk_at "mem"), .one ⟨_, rfl⟩⟩ (.cons ⟨e210, _, 0, rfl, f2 (e210, _) (by walk_at "mem"), .nil⟩ (.cons ⟨e213, _, 0, rfl, f2 (e213, _) (by walk_at "mem"), .one ⟨_, rfl⟩⟩ (.one ⟨e216, _, 0, rfl, f2 (e216, _) (by walk_at "mem"), .one ⟨_, rfl⟩⟩))))⟩
    have hT2 : PD C NList g2 (.ref d222) tl2 pkgOf := ⟨d222, o233, _, rfl, f2 (d222, _) (by walk_at "mem"), ho233, lod2, two (⟨.ref t225, by rfl, t225, _, 0, rfl, f2 (t225, _) (by walk_at "mem"), .cons ⟨_, rfl⟩ (.cons ⟨_, rfl⟩ (.one ⟨_, rfl⟩))⟩) (⟨.ref t228, by rfl, t228, _, 0, rfl, f2 (t228, _) (by walk_at "mem"), .nil⟩)⟩
    refine lawworld_ok (hA1.mono (by decide)) Y2.glob Y2.keep (Y2.at_ (r21, _) (.head _)) (Y2.sep (r21, _) (.head _)).2 ⟨0, 5, _, _, LW.mk0, by decide, by decide, by decide⟩ ((hN15.mono (R := NdAt) (fun s x => NdAt.mono s x) (s21.trans (s1.trans sw1))).mono (R := NdAt) (fun s x => NdAt.mono s x) s2) hE2 hT2 ((hI21.mono (R := SList) SList.mono (s1.trans sw1)).mono (R := SList) SList.mono s2) (by decide) rfl (fun nd h => (gen_ok gen5 nd h).1) es2_ok (tlz tl2_ok (by decide)) keys5 fun v2 o2 hw2 x2 dx2 od2 mi2 ao2 av2 ai2 am2 ab2 om2 ob2 mk2 bk2 wr2 K2 hr2 _ => ?_
    obtain ⟨gw2, sw2, Xw2, fw2⟩ := Y2.call1S K2 .here hr2
    have Xv2 := Xw2.drop1
    have wv2 := wr2.mono fw2
    walk_at "st"
    intro h40 X40
    walk_at "n"
    refine T_F1 (f := 221) X40 (by kernel_rfl) (by kernel_rfl) ?_
    walk_at "n"
    refine ⟨X40.glob.K.keeps X40.keep, ?_⟩
    obtain ⟨oM, hoM⟩ := X40.ldom
    have nfM : ∀ vs, oM.data ≠ .fields vs := fun vs e => by
      obtain ⟨o, es, ep, a, b, _, _⟩ := X40.ns
      rw [hoM] at a; cases a; rw [e] at b; cases b
    have hnf2 : ∀ vs, ({ ow with slots := sl31 } : Obj).data ≠ .fields vs := hnf
    refine told_ok (base := gw2) (hA1.mono (by decide)) X40.glob X40.keep wv2 (gen_pk gen5 keys5) es2_ok rfl (by decide) (gen_pkgs gen5) tl2_ok (by decide) (by decide) hfr1 (Sub.refl _) X40.glob ⟨fun e => (by cases e), ⟨L, oM, rfl, X40.off, hoM, nfM⟩, hm, ⟨Lw, _, hf, (X40.sep _ (.head _)).2, X40.at_ _ (.head _), hnf2⟩, trivial⟩ fun v h41 hv _ up41 sb41 => ?_
    rw [due2] at hv
    obtain ⟨t41, rfl⟩ := hv
    obtain ⟨sl41, X41⟩ := X40.upTo1 (.head _) hnf2 (Sub.refl _) X40.glob sb41 up41
    walk_at "n"
    have sgw : Sub gc gw2 := sg8.trans (s15.trans (s21.trans (s1.trans (sw1.trans (s2.trans sw2)))))
    refine hq _ (hgc.trans (sgw.trans X41.keep)) fun b o hb hnb => ?_
    by_cases hbw : b = Lw
    · subst hbw
      rw [hLw] at hb
      cases hb
      exact ⟨sl41, X41.at_ _ (.head _)⟩
    · exact ⟨o.slots, X41.keep _ _ (sgw _ _ (hgS b o hb (by simpa using hbw)))⟩
end
section
open PySem PySem.W PyProof.Rows PySem.Calls PyProof.V PySem.Spec
set_option Elab.async false
set_option maxRecDepth 100000
set_option maxHeartbeats 4000000
set_option linter.unusedVariables false

section
variable {prog : Program} {w : World} {A : Around} {E : Value → Shared → Prop} {s : Shared}
theorem sliceApplied_2of4 {sl : Addr} {u : Tok} {Q : Int × Int × Nat → Shared → Prop} (hs : s.heap.IsSliceOf sl .none (.int 2 u) .none) (h : Q (0, 1, 2) s) :
    wpAny (model prog w) A (Builtin.Slice.sliceApplied (.ref sl) (pure (4 : Int))) Q E s := by
  obtain ⟨os, hos, hcs, hds⟩ := id hs
  unfold Builtin.Slice.sliceApplied Builtin.Slice.sliceFields
  refine wpAny_bind (wpAny_bind (wpAny_field hos hds (x := .none) rfl (wpAny_bind (wpAny_field hos hds (x := .int 2 u) rfl (wpAny_bind (wpAny_field hos hds (x := .none) rfl (wpAny_pure ?_)))))))
  refine wpAny_bind (slicePart_none ?_)
  show wpAny _ _ (if ((1 : Int) == 0) = true then _ else _) _ _ s
  rw [if_neg (by decide)]
  refine wpAny_bind (slicePart_none (wpAny_bind (slicePart_int (wpAny_bind (wpAny_pure ?_)))))
  show wpAny _ _ (match Builtin.Slice.sliceAdjust none (some (2 : Int)) 1 (4 : Int) with | (lo, hi) => pure (lo, (1 : Int), Builtin.Slice.slicePlaces lo hi 1)) _ _ s
  rw [show Builtin.Slice.sliceAdjust none (some (2 : Int)) 1 (4 : Int) = (0, 2) by decide +kernel]
  show wpAny _ _ (pure ((0 : Int), (1 : Int), Builtin.Slice.slicePlaces (0 : Int) 2 1)) _ _ s
  rw [show Builtin.Slice.slicePlaces (0 : Int) 2 1 = 2 by decide +kernel]
  exact wpAny_pure h

theorem getItem_tup_2of4 {t sl : Addr} {a b c d : Value} {u : Tok} {Q : Value → Shared → Prop} (ht : IsTup s.heap t #[a, b, c, d]) (hs : s.heap.IsSliceOf sl .none (.int 2 u) .none)
    (h : Q (.ref s.heap.objs.size) { s with heap := s.heap.push (tupO [a, b]) }) : wpAny (model prog w) A (getItem (.ref t) (.ref sl)) Q E s := by
  have hdrop : sizeOk (.seq [a, b].toArray) := by
    show [a, b].toArray.size ≤ sizeLine
    rw [sizeLine_eq]; simp
  obtain ⟨os, hos, hcs, hds⟩ := id hs
  have hTs : s.TypeIs (.ref sl) "slice" := ⟨os, hos, hcs⟩
  unfold getItem
  try with_reducible refine wpAny_holding ?_
  first | refine wpAny_bind (wpAny_pure ?_) | skip
  refine wpAny_bind (wpAny_sequenceKey ht.typeIs (by decide) ?_)
  refine wpAny_bind (wpAny_callSpecial?_slot (name := Str.ofString "__getitem__") ht.typeIs slot_tuple_getitem
    (wpAny_call_entry slot_tuple_getitem ht.typeIs entry_tuple_getitem ?_ (args_tuple_getitem _ _)))
  show wpAny _ _ (Builtin.Tuple.tupleItemsOf (.ref t) >>= _) _ _ s
  refine wpAny_bind (tupleItemsOf_ ht ?_)
  refine wpAny_bind (wpAny_typeOf hTs ?_)
  rw [if_pos (by decide)]
  refine wpAny_bind (sliceApplied_2of4 hs ?_)
  show wpAny _ _ (if ((0 : Int) == 0 && (1 : Int) == 1 && (2 : Nat) == 4) = true then _ else _) _ _ s
  rw [if_neg (by decide)]
  show wpAny _ _ (newObj (.type "tuple") (.seq [a, b].toArray) >>= _) _ _ s
  first
    | exact wpAny_bind (wpAny_newObj_type (wpAny_pure ⟨_, rfl, wpAny_pure h⟩) hdrop)
    | exact wpAny_bind (wpAny_newObj_type (wpAny_bind (wpAny_pure (wpAny_pure ⟨_, rfl, wpAny_pure h⟩))) hdrop)
    | exact wpAny_bind (wpAny_bind (wpAny_newObj_type (wpAny_pure (wpAny_pure ⟨_, rfl, wpAny_pure h⟩)) hdrop))
    | exact wpAny_bind (wpAny_bind (wpAny_newObj_type (wpAny_pure ⟨_, rfl, wpAny_pure h⟩) hdrop))
end

section
variable {C : Cx} {A : Around} {E : Value → Heap → Prop} {g h : Heap} {L : Addr} {m : Str → Option Value} {led : List (Addr × Obj)} {env : Env}
/-- node[:2] -/
theorem T_two {value hi : Expr} {p pos : Pos} {Q : Value → Heap → Prop}
    (hx : T C A (eval value env) (fun ov h1 => T C A (eval hi env) (fun iv h2 => E10 fun g l a b c d t L m led => A5 (ov = .ref l) (iv = .int 2 t) (h2.get? l = some (tupO [a, b, c, d])) (W C g L m led h2) (∀ h3 x, W C g L m ((x, tupO [a, b]) :: led) h3 → Q (.ref x) h3)) E h1) E h)
    (ht : ∀ o r, letTemporaryGo value o r = pure () := by intro _ _; kernel_rfl) : T C A (eval (.Subscript value (.Slice none (some hi) none p) pos) env) Q E h := fun tk => by
  refine wpAny_Subscript_Slice slot_tuple_getitem.lookup (wpAny_mono (hx tk) (fun ov s1 H => ?_) fun _ _ x => x) ht
  obtain ⟨h1, tk1, rfl, H⟩ := H
  refine wpAny_Slice (wpAny_pure (wpAny_mono (H tk1) (fun iv s2 H => ?_) fun _ _ x => x))
  obtain ⟨h2, tk2, rfl, g, l, a, b, c, d, t, L, m, led, rfl, rfl, ho, X, hq⟩ := H
  refine wpAny_pure ?_
  have X1 := X.push (o := { cls := .type "slice", data := .fields #[.none, .int 2 t, .none] })
  have hl1 : IsTup (h2.push { cls := .type "slice", data := .fields #[.none, .int 2 t, .none] }) l #[a, b, c, d] := isTup_of (vs := [a, b, c, d]) (Heap.get?_push_of_some _ ho)
  exact ⟨hl1.typeIs, getItem_tup_2of4 hl1 (Heap.IsSliceOf.new _ _ _ _) ⟨_, _, rfl, hq _ _ X1.drop1.push⟩⟩
end
end
section
open PySem PySem.W PyProof.Rows PySem.Calls PyProof.V PySem.Spec
set_option Elab.async false
set_option maxRecDepth 100000
set_option maxHeartbeats 4000000
set_option linter.unusedVariables false

noncomputable abbrev envLw (C : Cx) (L fa : Addr) (cd : Value) : Env := envOfC (S_ "law") (fdAt C 231).scope L fa cd

theorem law_walk {C : Cx} {A : Around} {g h : Heap} {L fa : Addr} {cd : Value} {m0 : Str → Option Value} {oc : Obj} {s : Addr} {os : Obj} {vs : List Value} {ns : List Int} {Q : Flow → Heap → Prop}
    (hA : Lv 13 A) (hfr : A.frames = some [envLw C L fa cd]) (X : W C g L m0 [(L + 1, oc)] h) (hoc : oc.data = .cell none) (es : m0 (S_ "script") = some (.ref s)) (hs : g.get? s = some os) (hl : LW os vs) (hi : IntsAre vs ns) (hz : ns.length ≤ 63)
    (hq : ∀ h', Sub g h' → Q (.ret (.bool true)) h') : T C A (execs (bodyF C 231) (envLw C L fa cd)) Q noE h := by
  have hAw : Lv 1 A := hA.mono (by decide)
  have hvl : vs.length ≤ 63 := by rw [hi.length]; exact hz
  obtain ⟨oL, hoL⟩ := X.ldom
  have nfL : ∀ vs, oL.data ≠ .fields vs := fun vs e => by
    obtain ⟨o, es, ep, a, b, _, _⟩ := X.ns
    rw [hoL] at a; cases a; rw [e] at b; cases b
  refine T_execs_cons (T_If (T_isNot (T_isPlain ?_)))
  refine T_C0 (f := 226) X (by kernel_rfl) (by kernel_rfl) (fixed_ok (hA.mono (by decide)) X.glob X.keep hfr rfl (fun e => by cases e) hoL X.off nfL fun h1 sb1 up1 => ?_)
  obtain ⟨sl1, X1⟩ := X.upTo1 (.head _) (fun vs e => by rw [hoc] at e; cases e) (Sub.refl _) X.glob sb1 up1
  have hoc1 : ({ oc with slots := sl1 } : Obj).data = .cell none := hoc
  generalize ({ oc with slots := sl1 } : Obj) = oc1 at X1 hoc1
  walk_at "n"
  refine ⟨fun e => (by cases e), fun _ => ?_⟩
  walk_at "n"
  refine T_isOr ?_
  walk_at "n"
  ((with_reducible refine T_B1 (x := Str.ofString "len") (f := .builtin "len") (by assumption) (by kernel_rfl) (by kernel_rfl) Kp.builtin ?_))
  walk_at "n"
  refine C_lenL (X1.keep _ _ hs) hl (by omega) fun t1 => ?_
  walk_at "n"
  refine ⟨fun e => ?_, fun _ => ⟨fun _ => ?_, fun e => by cases e⟩⟩
  rotate_left
  · walk_at "n"
    exact hq _ X1.keep
  walk_at "n"
  have hne : 0 < vs.length := by
    have : ((vs.length : Int) == 0) = false := e
    simp at this
    exact List.length_pos_iff.mpr this
  obtain ⟨n0, hn0, t0, hv0⟩ : ∃ n0, ns[0]? = some n0 ∧ ∃ t0, vs[0]? = some (.int n0 t0) := by
    obtain ⟨n, t, a, b⟩ := ints_at hi 0 vs[0] (by simp [hne])
    exact ⟨n, a, t, by rw [← b]; simp [hne]⟩
  refine S_list (X1.keep _ _ hs) hl (by decide) (by decide) hv0 ?_
  walk_at "n"
  refine ⟨fun _ => ?_, fun _ => ?_⟩
  · walk_at "n"
    exact hq _ X1.keep
  clear e
  walk_at "n"
  refine T_F1 (f := 180) X1 (by kernel_rfl) (by kernel_rfl) ?_
  walk_at "n"
  refine ⟨X1.glob.K.keeps X1.keep, reel_ok (hA.mono (by decide)) X1.glob X1.keep hs hl hi hz fun r o2 h2 hrn hr2 hR2 K2 => ?_⟩
  have X2 := X1.callNew K2 hrn hr2
  walk_at "st"
  intro h3 X3
  walk_at "as"
  refine T_F1 (f := 194) X3 (by kernel_rfl) (by kernel_rfl) ?_
  walk_at "n"
  refine ⟨X3.glob.K.keeps X3.keep, nodes_ok (hA.mono (by decide)) X3.glob X3.keep (X3.at_ (r, o2) (.head _)) (X3.sep (r, o2) (.head _)).2 hR2 fun nv nds o4 h4 hN hNv K4 hr4 hR4 => ?_⟩
  obtain ⟨g4, s4, X4, f4⟩ := X3.call1S K4 .here hr4
  have hNv4 := hNv.mono (R := NdAt) (fun s x => NdAt.mono s x) f4
  have hnl : nds.length ≤ 14 := hN.len
  walk_at "st"
  intro h5 X5
  obtain ⟨na, nvs, nk, rfl, hna, hnv⟩ := id hNv4
  have hnvl : nvs.length ≤ 14 := by rw [hnv.1]; exact hnl
  refine T_execs_cons ?_
  refine T_Swap (names := [Str.ofString "edges", Str.ofString "told", Str.ofString "inits"]) hA.hd ?_
  walk_at "tup"
  walk_at "spl"
  refine T_F2 (f := 199) X5 (by kernel_rfl) (by kernel_rfl) ?_
  walk_at "n"
  refine ⟨X5.glob.K.keeps X5.keep, edges_ok (hA.mono (by decide)) X5.glob X5.keep (X5.at_ (r, o4) (.head _)) (X5.sep (r, o4) (.head _)).2 hR4 hNv4 hnl fun ev esd o6 h6 hes hEv K6 hr6 hR6 => ?_⟩
  obtain ⟨g6, s6, X6, f6⟩ := X5.call1S K6 .here hr6
  have hEv6 := hEv.mono (R := NList) NList.mono f6
  walk_at "spl"
  ((with_reducible refine T_DctX (by assumption) ?_))
  intro h7 td X7 lotd _
  walk_at "spl"
  ((with_reducible refine T_DctX (by assumption) ?_))
  intro h8 ind X8 loid _
  walk_at "end"
  intro h9 tp X9 _
  refine ⟨_, _, _, _, _, _, rfl, X9.drop1, X9.at_ _ (.head _), rfl, fun h10 X10 => ?_⟩
  refine T_order_name ?_
  walk_at "st"
  intro h11 X11
  refine T_order_name ?_
  walk_at "st"
  intro h12 X12
  refine T_order_name ?_
  walk_at "st"
  intro h13 X13
  refine T_order_nil ?_
  clear X9 X8 X7 X6 X5 X4 X3 X2
  walk_at "n"
  refine T_For ?_
  walk_at "lst"
  walk_at "spl"
  walk_at "n"
  walk_at "spl"
  walk_at "n"
  walk_at "end"
  intro h14 pa X14 _
  obtain ⟨g14, s14, X14, hpa⟩ := X14.absorb1
  refine TL_src (src_list hA.hd X14 hpa (LX.mk (k := 0)).lw) (fun i g' m led => E6 fun o oc ot tk oi ik => E1 fun told : Nat → List Nat => E1 fun inits : Nat → List Str => A14 (led = [(ind, oi), (td, ot), (r, o), (L + 1, oc)]) (Reel o) ((∃ ov, oc.data = .cell ov)) (SD C ot tk) (SD C oi ik) (tk.length ≤ i) (ik.length ≤ i) (m (S_ "reel") = some (.ref r)) (m (S_ "nodes") = some (.ref na)) (m (S_ "edges") = some ev) (m (S_ "told") = some (.ref td)) (m (S_ "inits") = some (.ref ind)) (Sub g14 g') (∀ j, j < i → (∃ w, valueAt tk (pkgOf j) = some w ∧ NList g' w (told j) ∧ TellOk nds (pkgOf j) (told j) ∧ (told j).length ≤ 14) ∧ ∃ w, valueAt ik (pkgOf j) = some w ∧ SList g' w (inits j) ∧ (inits j).length ≤ 5)) ?_ ?_ ?_
  · exact ⟨o6, oc1, dictO, [], dictO, [], fun _ => [], fun _ => [], rfl, hR6, ⟨_, hoc1⟩, SD.empty, SD.empty, Nat.le_refl _, Nat.le_refl _, by walk_at "lk", by walk_at "lk", by walk_at "lk", by walk_at "lk", by walk_at "lk", Sub.refl _, fun j hj => absurd hj (Nat.not_lt_zero _)⟩
  · rintro i v ga ma leda own ha Kq hKq hi0 sa ⟨oa, oca, ot, tk, oi, ik, told, inits, rfl, hRa, ⟨ova, hova⟩, hot, hoi, htk, hik, mr, mn, me, mt, mi, sga, hall⟩ hP Xa
    have hi2 : i < 2 := hi0
    obtain ⟨tp, rfl⟩ := pk_at hP
    have s4a : Sub g4 ga := s6.trans (s14.trans sga)
    refine assign_Name ?_
    refine T_stc (c := L + 1) (o := oca) Xa (by kernel_rfl) (fun o' => .app own (.there (.there (.there .here)))) hova ?_
    intro hb ocb hocb Xb
    refine T_execs_cons ?_
    refine T_AssignLComp ?_ (by kernel_rfl) (by kernel_rfl) (by kernel_rfl) (by kernel_rfl) (by intro _; kernel_rfl)
    ((with_reducible refine T_B1 (x := Str.ofString "enumerate") (f := .type "enumerate") (by assumption) (by kernel_rfl) (by kernel_rfl) Kp.type ?_))
    walk_at "n"
    refine C_enum hA.hd Xb (s4a _ _ hna) (LX.mk (k := nk)).lw fun hc ec Xc _ Sc => ?_
    refine LU_src (Sc _ _ _ _) (by omega) (fun _ _ => ⟨by kernel_rfl, by kernel_rfl⟩)
      (fun j ys g' m led => A3 (led = own ++ [(ind, oi), (td, ot), (r, oa), (L + 1, ocb)]) (Sub ga g') (All2 IsN ys ((List.range j).filter fun i' => match nds[i']? with | some nd => nd.val && decide (nd.pkg = pkgOf i) | none => false))) ?_ ?_ ?_ (by kernel_rfl) (by kernel_rfl) (by kernel_rfl)
    · exact ⟨rfl, Sub.refl _, by simpa using All2.nil⟩
    · rintro j v ys k g8 m8 led8 ownc h8 Lc acc Kq Kr hKq hKr hj s8 ⟨rfl, sg8, hys⟩ ⟨T, t, x, rfl, hx, hT⟩ X8
      obtain ⟨nd, hnd, hndx⟩ := hnv.getV hx
      obtain ⟨xa, xb, q0, q1, q2, xns, rfl, hxa, hxb, hxns⟩ := hndx
      have s48 : Sub g4 g8 := s4a.trans sg8
      refine T_assignTuple (vs := [.int j t, .ref xa]) hA.hd X8 hT (by kernel_rfl) (by kernel_rfl) fun hd Xd _ => ?_
      refine T_order_cons (assign_Name ?_)
      walk_at "st"
      intro he Xe
      refine T_order_cons (assign_Name ?_)
      walk_at "st"
      intro hf Xf
      refine T_order_nil ?_
      refine tests_one ?_
      refine T_isCompare ?_
      refine T_two ?_
      walk_at "n"
      refine ⟨_, _, _, _, _, _, _, _, _, _, rfl, rfl, Xf.keep _ _ (s48 _ _ hxa), Xf, fun hg xt Xg => ?_⟩
      walk_at "tup"
      walk_at "spl"
      walk_at "n"
      walk_at "spl"
      refine T_ldc (c := L + 1) (by kernel_rfl) ⟨ocb, Xg.at_ (L + 1, ocb) (by walk_at "mm"), hocb⟩ ?_
      walk_at "end"
      intro hh yt Xh kh
      refine R_eqT (kh _ _ (Xg.at_ _ (.head _))) (Xh.at_ _ (.head _)) (.cons ⟨_, rfl⟩ (.one ⟨_, rfl⟩)) (.cons ⟨_, rfl⟩ (.one ⟨_, rfl⟩)) hA ?_
      walk_at "n"
      have Xi := Xh.drop1.drop1
      have hstep : (List.range (j + 1)).filter (fun i' => match nds[i']? with
        | some nd => nd.val && decide (nd.pkg = pkgOf i)
        | none => false) = (List.range j).filter (fun i' => match nds[i']? with
        | some nd => nd.val && decide (nd.pkg = pkgOf i)
        | none => false) ++ (if (nd.val && decide (nd.pkg = pkgOf i)) = true then [j] else []) := by
        rw [List.range_succ, List.filter_append, filter_one]
        rw [hnd]
      have hdec : (decide ([kindS nd.val, nd.pkg] = [S_ "value", pkgOf i]) = true) ↔ (nd.val && decide (nd.pkg = pkgOf i)) = true := by
        have hk1 : kindS true = S_ "value" := rfl
        have hk0 : kindS false ≠ S_ "value" := by decide
        cases hv : nd.val
        · simp [hk0]
        · simp [hk1]
      refine ⟨fun e => ?_, fun e => ?_⟩
      · walk_at "n"
        refine ⟨g8, _, _, Sub.refl _, Xi, rfl, sg8, ?_⟩
        rw [hstep, if_pos (hdec.mp e)]
        exact hys.snoc ⟨_, rfl⟩
      · refine hKr () _ ⟨g8, _, _, Sub.refl _, Xi, rfl, sg8, ?_⟩
        rw [hstep, if_neg (fun q => by have := hdec.mpr q; rw [e] at this; cases this), List.append_nil]
        exact hys
    · rintro ys k g8 m8 led8 h8 mna s8 ⟨rfl, sg8, hys⟩ X8
      rw [hnv.1] at hys
      have hmine : All2 IsN ys (mine nds (pkgOf i)) := hys
      clear hys
      have hml : (mine nds (pkgOf i)).length ≤ 14 := Nat.le_trans (mine_len _ _) hnl
      have hmp := mine_ne hN hi2
      obtain ⟨g9, s9, X9, hmna⟩ := X8.absorb1
      walk_at "as"
      ((with_reducible refine T_wound (by assumption) (by assumption) ?_))
      walk_at "n"
      ((with_reducible refine T_B1 (x := Str.ofString "len") (f := .builtin "len") (by assumption) (by kernel_rfl) (by kernel_rfl) Kp.builtin ?_))
      walk_at "n"
      have hyl : ys.length = (mine nds (pkgOf i)).length := hmine.1
      refine C_lenL (X9.keep _ _ hmna) (LX.mk (k := k)).lw (by omega) fun t9 => ?_
      refine ⟨_, _, _, _, r, oa, _, _, fun o' => own ++ [(ind, oi), (td, ot), (r, o'), (L + 1, ocb)], rfl, rfl, X9, fun o' => .app own (.there (.there .here)), hRa, by omega, by omega, fun tw t10 h10 o10 hw0 hw1 hR10 X10 _ => ?_⟩
      obtain ⟨tn, rfl⟩ : ∃ tn : Nat, tw = (tn : Int) := ⟨tw.toNat, by omega⟩
      walk_at "st"
      intro h11 X11
      refine T_execs_cons ?_
      refine T_Assign_Sub ?_
      refine T_BinOp ?_
      refine T_from ?_
      walk_at "n"
      refine ⟨_, mna, _, _, _, _, _, _, _, rfl, rfl, hw0, X11.keep _ _ hmna, (LX.mk (k := k)).lw, by omega, X11, fun h12 f1 X12 => ?_⟩
      refine T_upto ?_
      walk_at "n"
      refine ⟨_, mna, _, _, _, _, _, _, _, rfl, rfl, hw0, X12.keep _ _ hmna, (LX.mk (k := k)).lw, by omega, X12, fun h13 f2 X13 => ?_⟩
      rw [Int.toNat_natCast] at X13
      have hsp : (ys.drop tn).length + (ys.take tn).length = ys.length := by rw [List.length_drop, List.length_take]; omega
      refine O_addL X13 (X13.at_ (f1, listO (ys.drop tn) 0) (by walk_at "mm")) (LX.mk (k := 0)).lw (X13.at_ _ (.head _)) (LX.mk (k := 0)).lw (by omega) fun X14 => ?_
      generalize h13.objs.size = tl at X14 ⊢
      generalize h13.push (listO (ys.drop tn ++ ys.take tn) 0) = h14 at X14 ⊢
      obtain ⟨g15, s15, X15, f15⟩ := W.absorbTo [_, _, _] X14
      have hT15 : NList g15 (.ref tl) (turned tn (mine nds (pkgOf i))) := ⟨tl, _, 0, rfl, f15 (tl, _) (.head _), (hmine.drop tn).append (hmine.take tn)⟩
      clear X14 X13 X12
      walk_at "n"
      refine T_ldc (c := L + 1) (by kernel_rfl) ⟨ocb, X15.at_ (L + 1, ocb) (by walk_at "mm"), hocb⟩ ?_
      refine S_setDict X15 (fun o' => .app own (.there .here)) hot (by omega) fun h16 ot' hot' _ X16 => ?_
      refine T_execs_cons ?_
      refine T_Assign_Sub ?_
      refine T_LComp ?_ (by kernel_rfl) (by kernel_rfl) (by kernel_rfl) (by intro _; kernel_rfl)
      ((with_reducible refine T_B1 (x := Str.ofString "range") (f := .type "range") (by assumption) (by kernel_rfl) (by kernel_rfl) Kp.type ?_))
      ((with_reducible refine T_wound (by assumption) (by assumption) ?_))
      walk_at "n"
      refine ⟨_, _, _, _, r, o10, _, _, fun o' => own ++ [(ind, oi), (td, ot'), (r, o'), (L + 1, ocb)], rfl, rfl, X16, fun o' => .app own (.there (.there .here)), hR10, by decide, by decide, fun iw t17 h17 o17 hi0 hi1 hR17 X17 _ => ?_⟩
      obtain ⟨ni, rfl⟩ : ∃ ni : Nat, iw = (ni : Int) := ⟨iw.toNat, by omega⟩
      refine C_range (by omega) (by omega) fun q1 q2 q3 => ?_
      have Xr := X17.push (o := { cls := .type "range", data := .fields #[.int 0 q1, .int ni q2, .int 1 q3] })
      refine LC_src (src_range hA.hd Xr.drop1 (Heap.get?_push_size _ rfl) (by omega)) (by omega) (fun _ _ => ⟨by kernel_rfl, by kernel_rfl⟩)
        (fun j zs g' m led => A3 (led = own ++ [(ind, oi), (td, ot'), (r, o17), (L + 1, ocb)]) (Sub g15 g') (All2 IsS zs ((List.range j).map fun k : Nat => pkgOf i ++ S_ ".init#" ++ sI ((k : Int) + 1)))) ?_ ?_ ?_
      · exact ⟨rfl, Sub.refl _, by simpa using All2.nil⟩
      · rintro j v zs kz gz mz ledz ownz hz2 Lc acc Kq Kr hKq hKr hj sz ⟨rfl, sgz, hzs⟩ ⟨tz, rfl⟩ Xz
        refine assign_Name ?_
        walk_at "st"
        intro hy Xy
        refine tests_nil ⟨fun _ => ?_, fun e => by cases e⟩
        walk_at "n"
        refine T_ldc (c := L + 1) (by kernel_rfl) ⟨ocb, Xy.at_ (L + 1, ocb) (by walk_at "mm"), hocb⟩ ?_
        walk_at "n"
        refine O_addS (slen (.any (by have := pkg_len i; omega)) (.lit (by decide))) fun tv2 => ?_
        ((with_reducible refine T_B1 (x := Str.ofString "str") (f := .type "str") (by assumption) (by kernel_rfl) (by kernel_rfl) Kp.type ?_))
        walk_at "n"
        refine C_str (by omega) (by omega) fun ts => ?_
        refine O_addS (slen3 (.any (by have := pkg_len i; omega)) (.lit (by decide)) (.num (by omega) (by omega))) fun tv3 => ?_
        refine hKq _ _ ⟨gz, _, _, Sub.refl _, Xy, rfl, sgz, ?_⟩
        rw [List.range_succ, List.map_append]
        exact hzs.snoc ⟨_, rfl⟩
      · rintro zs kz gz mz ledz hz2 acc sz ⟨rfl, sgz, hzs⟩ Xz
        have hzl : zs.length = ni := by rw [hzs.1]; simp
        obtain ⟨gy, sy, Xy, hacc⟩ := Xz.absorb1
        walk_at "n"
        refine T_ldc (c := L + 1) (by kernel_rfl) ⟨ocb, Xy.at_ (L + 1, ocb) (by walk_at "mm"), hocb⟩ ?_
        refine S_setDict Xy (fun o' => .app own .here) hoi (by omega) fun hx oi' hoi' _ Xx => ?_
        walk_at "n"
        refine ⟨gy, _, _, s8.trans (s9.trans (s15.trans (sgz.trans sy))), Xx, o17, ocb, ot', _, oi', _, fun j => if j = i then turned tn (mine nds (pkgOf i)) else told j, fun j => if j = i then (List.range ni).map (fun k : Nat => pkgOf i ++ S_ ".init#" ++ sI ((k : Int) + 1)) else inits j, rfl, hR17, ⟨_, hocb⟩, hot', hoi', ?_, ?_, by walk_at "lk", by walk_at "lk", by walk_at "lk", by walk_at "lk", by walk_at "lk", sga.trans (s8.trans (s9.trans (s15.trans (sgz.trans sy)))), ?_⟩
        · have := stored_length_le tk (pkgOf i) (.ref tl); omega
        · have := stored_length_le ik (pkgOf i) (.ref acc); omega
        · intro j hj
          have sgy : Sub g15 gy := sgz.trans sy
          by_cases hji : j = i
          · subst hji
            simp only [if_true]
            exact ⟨⟨.ref tl, by rw [valueAt_stored, if_pos rfl], hT15.mono sgy, turned_tell _ _ _, by rw [turned_len]; exact hml⟩, .ref acc, by rw [valueAt_stored, if_pos rfl], ⟨acc, zs, kz, rfl, hacc, hzl ▸ hzs⟩, by simp; omega⟩
          · have hne : pkgOf j ≠ pkgOf i := by
              have h0 : j = 0 := by omega
              have h1 : i = 1 := by omega
              subst h0 h1
              decide
            simp only [hji, if_false]
            obtain ⟨⟨w, a1, a2, a3, a4⟩, w', b1, b2, b3⟩ := hall j (by omega)
            have sgg : Sub ga gy := s8.trans (s9.trans (s15.trans sgy))
            exact ⟨⟨w, by rw [valueAt_stored, if_neg hne]; exact a1, a2.mono sgg, a3, a4⟩, w', by rw [valueAt_stored, if_neg hne]; exact b1, b2.mono sgg, b3⟩
  · rintro ga ma leda ha sa ⟨oa, oca, ot, tk, oi, ik, told, inits, rfl, hRa, ⟨ova, hova⟩, hot, hoi, _, _, mr, mn, me, mt, mi, sga, hall0⟩ Xa
    have hall : ∀ j, j < 2 → (∃ w, valueAt tk (pkgOf j) = some w ∧ NList ga w (told j) ∧ TellOk nds (pkgOf j) (told j) ∧ (told j).length ≤ 14) ∧ ∃ w, valueAt ik (pkgOf j) = some w ∧ SList ga w (inits j) ∧ (inits j).length ≤ 5 := hall0
    clear hall0
    obtain ⟨gb, sb, Xb, fb⟩ := W.absorbTo [_, _] Xa
    have hTb : PD C NList gb (.ref td) told pkgOf := ⟨td, ot, tk, rfl, fb (td, _) (by walk_at "mem"), hot, lotd, fun i hi => let ⟨⟨w, a, b, _⟩, _⟩ := hall i hi; ⟨w, a, b.mono sb⟩⟩
    have hIb : PD C SList gb (.ref ind) inits pkgOf := ⟨ind, oi, ik, rfl, fb (ind, _) (by walk_at "mem"), hoi, loid, fun i hi => let ⟨_, w, a, b, _⟩ := hall i hi; ⟨w, a, b.mono sb⟩⟩
    have ht : ∀ i, i < 2 → TellOk nds (pkgOf i) (told i) := fun i hi => let ⟨⟨_, _, _, c, _⟩, _⟩ := hall i hi; c
    have htz : ∀ i, i < 2 → (told i).length ≤ 14 := fun i hi => let ⟨⟨_, _, _, _, d⟩, _⟩ := hall i hi; d
    have hil : ∀ i, i < 2 → (inits i).length ≤ 5 := fun i hi => let ⟨_, _, _, _, d⟩ := hall i hi; d
    clear hall
    have hlt : ∀ i, i < 2 → ∀ j ∈ told i, j < nds.length := fun i hi j hj => by
      obtain ⟨nd, a, _⟩ := ((ht i hi).mem j).mp hj
      exact (List.getElem?_eq_some_iff.mp a).1
    have hG := nds_gen hN
    have hkeys := nds_keys hN
    have hel : esd.length = nds.length := hes.1
    have s4b : Sub g4 gb := s6.trans (s14.trans (sga.trans sb))
    have s6b : Sub g6 gb := s14.trans (sga.trans sb)
    have hNb : Lst NdAt gb (.ref na) nds := hNv4.mono (R := NdAt) (fun s x => NdAt.mono s x) s4b
    have hEb : Lst NList gb ev esd := hEv6.mono (R := NList) NList.mono s6b
    walk_at "as"
    refine T_F5 (f := 204) Xb (by kernel_rfl) (by kernel_rfl) ?_
    walk_at "n"
    refine ⟨Xb.glob.K.keeps Xb.keep, lawworld_ok (hA.mono (by decide)) Xb.glob Xb.keep (Xb.at_ (r, oa) (.head _)) (Xb.sep (r, oa) (.head _)).2 hRa hNb hEb hTb hIb hnl hel (fun nd h => (gen_ok hG nd h).1) hes (fun i hi => ⟨htz i hi, hlt i hi⟩) hkeys fun wv o' hw wx wdx wod wmi ao av ai am ab om ob mk bk wr K hr' hR' => ?_⟩
    obtain ⟨gw, sw, Xw, fw⟩ := Xb.call1S K .here hr'
    have wrw := wr.mono fw
    have Xw := Xw.drop1
    walk_at "st"
    intro hx Xx
    walk_at "n"
    refine T_F1 (f := 221) Xx (by kernel_rfl) (by kernel_rfl) ?_
    walk_at "n"
    obtain ⟨oM, hoM⟩ := Xx.ldom
    have nfM : ∀ vs, oM.data ≠ .fields vs := fun vs e => by
      obtain ⟨o, es, ep, a, b, _, _⟩ := Xx.ns
      rw [hoM] at a; cases a; rw [e] at b; cases b
    refine ⟨Xx.glob.K.keeps Xx.keep, told_ok (base := gw) (hA.mono (by decide)) Xx.glob Xx.keep wrw (gen_pk hG hkeys) hes hel hnl (gen_pkgs hG) ht htz hil hfr (Sub.refl _) Xx.glob ⟨fun e => (by cases e), ⟨L, oM, rfl, Xx.off, hoM, nfM⟩, trivial⟩ fun v hy hv _ upy sby => ?_⟩
    have Xy := Xx.upTo (Sub.refl _) Xx.glob sby upy
    refine T_F4 (f := 214) Xy (by kernel_rfl) (by kernel_rfl) ?_
    walk_at "n"
    refine ⟨Xy.glob.K.keeps Xy.keep, due_ok (hA.mono (by decide)) Xy.glob Xy.keep (hNb.mono (R := NdAt) (fun s x => NdAt.mono s x) sw) (hEb.mono (R := NList) NList.mono sw) (hTb.mono (R := NList) NList.mono sw) (hIb.mono (R := SList) SList.mono sw) (by omega) hel.symm
      (fun i hi => ⟨htz i hi, (ht i hi).nodup, fun j hj => by rw [hel]; exact hlt i hi j hj⟩) hil (fun i hi hac left hne hsub => free_ex hes hel (hlt i hi) hac left hne hsub) fun v2 hz2 hv2 K2 => ?_⟩
    have sfin : Sub g hz2 := (s4.trans (s4b.trans sw)).trans (Xy.keep.trans fun b o e => K2 b o (by simp) e)
    generalize dueFrom (ledOf esd) (keyOf nds) told inits 0 2 [] = due at hv hv2
    cases due with
    | inl n =>
      obtain ⟨tv, rfl⟩ := hv
      obtain ⟨tv2, rfl⟩ := hv2
      refine I_eq ?_
      rw [beq_self_eq_true]
      exact hq _ sfin
    | inr xs =>
      obtain ⟨a1, vs1, k1, rfl, ha1, hv1⟩ := hv
      obtain ⟨a2, vs2, k2, rfl, ha2, hv2⟩ := hv2
      refine R_eqL (K2 _ _ (by simp) ha1) (LX.mk (k := k1)).lw (Fresh.sub _ _ _ _ _ ha2) (LX.mk (k := k2)).lw hv1 hv2 hA ?_
      rw [decide_eq_true rfl]
      exact hq _ sfin
end
section
open PySem PySem.W PyProof.Rows PySem.Calls
set_option Elab.async false
set_option maxRecDepth 100000
set_option maxHeartbeats 8000000
theorem W_start {C : Cx} {g h : Heap} {m : Str → Option Value} {oc : Obj} (F : Fr g g.objs.size h m) (N : News g g.objs.size h [(g.objs.size + 1, oc)]) (G : Glob C g) : W C g g.objs.size m [(g.objs.size + 1, oc)] h :=
  ⟨F.ns, F.keep, get_size _, fun p hp => by rw [List.mem_singleton.mp hp]; exact (N _ (.head _)).1, fun p hp => by rw [List.mem_singleton.mp hp]; exact (N _ (.head _)).2, by simp, G⟩

theorem law_end {prog : Program} {w : World} {s1 : Shared} {h1 : Heap} {tk1 : Nat} {fa a : Addr} {cd : Value} {m : Str → Option Value} {oc : Obj} {vs : List Value} {ns : List Int} {E : Value → Shared → Prop}
    (F : Fr s1.heap s1.heap.objs.size h1 m) (N : News s1.heap s1.heap.objs.size h1 [(s1.heap.objs.size + 1, oc)]) (G : Glob ⟨prog, w, s1⟩ s1.heap) (hoc : oc.data = .cell none) (es : m (S_ "script") = some (.ref a)) (hl : s1.heap.IsList a vs.toArray) (hi : IntsAre vs ns) (hz : ns.length ≤ 63) :
    wpAny (model prog w) (callerA.deeper (envLw ⟨prog, w, s1⟩ s1.heap.objs.size fa cd)) (execs (bodyF ⟨prog, w, s1⟩ 231) (envLw ⟨prog, w, s1⟩ s1.heap.objs.size fa cd))
      (fun f s' => ∃ h' tk', s' = ⟨h', s1.gens, s1.drawn, tk', s1.os⟩ ∧ Sub s1.heap h' ∧ f = .ret (.bool true)) E ⟨h1, s1.gens, s1.drawn, tk1, s1.os⟩ := by
  obtain ⟨os, hos, hcls, nn, hdat⟩ := hl
  have key := law_walk (C := ⟨prog, w, s1⟩) (A := callerA.deeper (envLw ⟨prog, w, s1⟩ s1.heap.objs.size fa cd)) (fa := fa) (cd := cd) (Q := fun f h' => Sub s1.heap h' ∧ f = .ret (.bool true))
    ⟨rfl, by show callerA.depth + 1 + 13 < 900; decide, by show callerA.units + 3 + 20 * 13 < 9000; decide⟩ rfl (W_start F N G) hoc es hos ⟨hcls, nn, hdat⟩ hi hz (fun h' s => ⟨s, rfl⟩) tk1
  exact wpAny_mono key (fun _ _ z => by obtain ⟨h', tk', e, q⟩ := z; exact ⟨h', tk', e, q⟩) fun _ _ z => by obtain ⟨_, _, _, f⟩ := z; exact f.elim
end
end Mine
open PySem PySem.W PyProof.Rows PySem.Calls
set_option Elab.async false
set_option maxRecDepth 100000
set_option maxHeartbeats 8000000
theorem PySem.Challenge.cw_xm0213_01_holds : PySem.Challenge.rw_xm0213_01.Holds := by
  refine holds_law Mine.said fun said => ?_
  refine holds_open (q := Mine.viewK) (loose := [Str.ofString "ChanError"]) (Xt := fun s => xlAt Mine.viewK [] s && recOk (RowW.records (OpenRow.toRowW PySem.Challenge.rw_xm0213_01.row)) s) (XP := XL Mine.viewK []) (Yf := Hook.obs Mine.hookK) (Ya := Hook.val Mine.hookK) (YP := Hook.says Mine.hookK) (N := 3662) Mine.left (Hook.of Mine.hookK) (Hook.keeps Mine.hookK) (fun s e => xl_of s (Bool.and_eq_true_iff.mp e).1) XL.keeps (by rfl) (by rfl) (by rfl) (fun s e => recFacts_of (Bool.and_eq_true_iff.mp e).2) (by rfl) said (by decide +kernel) ⟨rfl, rfl, rfl, rfl, rfl, by decide +kernel⟩ ?hw ?hc
  case hw => w_witness2
  case hc =>
    intro w s0 s1 mg mb G Y fa o pm cd doc dV kV ho hd hcd hD hmg hg args vals as hpre hlay hrd hwl hlo
    have KX := kIn_of Y
    refine Ground.open G ?_
    intro T B D TE TW
    try (refine guard_noD D (by decide +kernel) ?_; clear D)
    have TA := at_of_top T
    try (obtain ⟨_, _, he, B0⟩ := based_of_top T rfl hmg ho hd; have he' : cd = _ := he; subst he'; clear he)
    clear hmg
    wrow_args hpre hlay hrd hwl hlo
    all_goals (
      first | refine callC_kw (enter_call ?_) | refine enter_call ?_ | refine callC_kw (enter_callW ?_) | refine enter_callW ?_ | w_how
      w_top on
      try refine codeAny_mono ?_ (fun _ _ g => GoodW.toG g)
      have K0 := below_caller (Top.heap T)
      w_call any ho hd hcd hD T F
      clear hd TA)
    rename_i b1 b2 ns hs hlay0 hL1 hr1 hl2 w5 w4 a vs w1 hLs ra w1' r0 hI hr hc1 hc h1 tk1 oc hoc N0 X0
    have hz : ns.length ≤ 63 := by omega
    refine wpAny_mono (Q := fun f s' => ∃ h' tk', s' = ⟨h', s1.gens, s1.drawn, tk', s1.os⟩ ∧ Mine.Sub s1.heap h' ∧ f = .ret (.bool true)) (E := fun _ _ => False) ?_ (fun f s' z => ?_) fun _ _ z => z.elim
    · have key := Mine.law_end (prog := PySem.Challenge.rw_xm0213_01.row.prog) (w := w) (tk1 := tk1) (fa := fa) (cd := .ref b1) (E := fun _ _ => False) F N0 ⟨KX, _, _, _, _, _, T⟩ (hoc.trans (by kernel_rfl)) (by kernel_rfl) hLs hI hz
      exact cast (by kernel_rfl) key
    · obtain ⟨h', tk', rfl, sb, rfl⟩ := z
      exact ⟨.inl ⟨_, .bool true, [], rfl, fun _ => rfl, .bool true, by wrow_post, fun _ => ⟨.nil, fun _ ha => nomatch ha⟩⟩, sb, rfl, hg⟩
