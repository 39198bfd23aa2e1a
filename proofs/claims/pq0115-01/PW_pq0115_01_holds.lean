import PyProof.Rows.All
import Wide.All
import OpenK.AllK
import Wide.FinOn
import PyProof.AssignAttr
import PyProof.AttrMissSeq
import PyProof.StrWalks
import PyProof.DictRoadsH
import PyProof.EnumFor
import PyProof.ExcBaseAll.Exception
import PyProof.ExcClass3
import PyProof.StationsW
import PyProof.InstLoad
import PyProof.InstStoreFacts
import PyProof.WalkInts
import PyProof.ObjNew
import PyProof.ZipIter
import PyProof.WalksPairs
import PyProof.Rows.EqMixed
import KE.KDictOf
import KE.KEqDict
import KE.KItemsList
import KE.KSuper
import PySem.Challenge.RW_pq0115_01
open PySem PySem.W PySem.Calls PyProof.Rows PySem.Spec
set_option Elab.async false
set_option maxRecDepth 100000
set_option maxHeartbeats 4000000
set_option linter.unusedVariables false
set_option linter.unnecessarySimpa false
namespace Mine
/-! ### the text's parts, taken out of the row -/
noncomputable def nthS : List Stmt → Nat → Stmt
  | s :: _, 0 => s
  | _ :: r, n + 1 => nthS r n
  | [], _ => .Pass ⟨0, 0, 0, 0⟩
noncomputable def fdN : Stmt → Str | .FunctionDef n _ _ _ _ _ _ _ _ _ => n | _ => Str.ofString ""
noncomputable def fdA : Stmt → Arguments | .FunctionDef _ a _ _ _ _ _ _ _ _ => a | _ => ⟨[], [], none, [], [], none, []⟩
noncomputable def fdB : Stmt → List Stmt | .FunctionDef _ _ b _ _ _ _ _ _ _ => b | .ClassDef _ _ _ b _ _ _ _ _ _ _ => b | _ => []
noncomputable def fdS : Stmt → Scope | .FunctionDef _ _ _ _ _ _ s _ _ _ => s | _ => default
noncomputable def ts (i : Nat) : Stmt := nthS PySem.Challenge.pw_pq0115_01.main.body i
noncomputable def ms (i j : Nat) : Stmt := nthS (fdB (ts i)) j
/-! ### the heap behind the top, at the places that are read -/
noncomputable abbrev vs (x : String) (t : Tok) : Value := .str (Str.ofString x) t
noncomputable abbrev ke (P : Params) (x : String) (t : Tok) (v : Value) : DictEntry := DictEntry.mk (PyData.keyHash P (Str.ofString x)) (.str (Str.ofString x) t) v
noncomputable abbrev ot (l : Array Value) : Obj := Obj.mk (.type "tuple") none (.seq l) #[]
noncomputable abbrev oc (l : Array Value) : Obj := Obj.mk (.type "code") none (.fields l) #[]
noncomputable abbrev fo (d : Stmt) (ql : String) (clo : List (Str × Addr)) (pm : String) (pt : Tok) (cd : Addr) (ct : Value) : Obj :=
  Obj.mk (.type "function") none (.func (FuncData.mk (fdN d) (Str.ofString ql) (fdA d) (.stmts (fdB d)) (fdS d) 3 clo .none .none .none (vs pm pt) none (.ref cd) ct 0)) #[]
noncomputable def hd.heap_39 (P : Params) : Frag := [(2, Obj.mk Value.none none (Data.dict #[ke P "type.__subclasses__.Exception.0" 230 (Value.int 47 0), ke P "type.__subclasses__.Exception.n" 231 (Value.int 1 0)] 2) #[]),
  (3, Obj.mk (Value.type "dict") none (Data.dict #[ke P "__name__" 165 (vs "law_pq0115_01" 426), ke P "__doc__" 166 Value.none, ke P "__package__" 167 Value.none, ke P "__loader__" 168 (Value.builtin "__main__.__loader__#opaque"), ke P "__spec__" 169 Value.none, ke P "__annotations__" 170 (Value.ref 6), ke P "__builtins__" 171 (Value.ref 4), ke P "__file__" 173 (vs "/claim/cut.py" 172), ke P "__cached__" 174 Value.none, ke P "_wall" 193 (Value.ref 21), ke P "HeapError" 233 (Value.ref 47), ke P "TermFault" 249 (Value.ref 60), ke P "is_op" 257 (Value.ref 67), ke P "is_variable" 264 (Value.ref 74), ke P "variables" 270 (Value.ref 79), ke P "placed" 276 (Value.ref 84), ke P "parts" 282 (Value.ref 89), ke P "matched" 294 (Value.ref 96), ke P "Bank" 425 (Value.ref 198), ke P "_law_draw" 435 (Value.ref 209), ke P "_law_hand" 441 (Value.ref 214), ke P "_law_one" 447 (Value.ref 219), ke P "_law_parts" 453 (Value.ref 224), ke P "_law_put" 459 (Value.ref 229), ke P "_law_tables" 465 (Value.ref 234), ke P "_law_due" 475 (Value.ref 241), ke P "_law_other" 485 (Value.ref 248), ke P "_law_is_refused" 494 (Value.ref 255), ke P "_law_taken" 500 (Value.ref 260), ke P "law" 506 (Value.ref 265)] 30) #[]),
  (15, ot #[]),
  (17, ot #[vs "k" 190]),
  (18, ot #[]),
  (20, oc #[vs "_wall" 187, vs "_wall" 188, vs "/claim/cut.py" 189, Value.int 1 0, Value.int 1 0, Value.int 0 0, Value.int 0 0, Value.int 3 0, Value.ref 15, Value.bool true, Value.int 181 0, Value.ref 16, Value.none, Value.ref 17, Value.ref 18, Value.ref 19, Value.int 191 0, Value.int 1 0, vs "/claim/cut.py" 192]),
  (21, fo (ts 0) "_wall" [] "__main__" 164 20 (Value.none)),
  (22, ot #[Value.type "Exception"]),
  (25, Obj.mk (Value.type "cell") none (Data.cell (some (Value.ref 47))) #[]),
  (30, ot #[Value.ref 25]),
  (31, ot #[vs "__class__" 211]),
  (33, ot #[vs "self" 212, vs "what" 213]),
  (34, ot #[]),
  (36, oc #[vs "__init__" 208, vs "HeapError.__init__" 209, vs "/claim/cut.py" 210, Value.int 7 0, Value.int 2 0, Value.int 0 0, Value.int 0 0, Value.int 3 0, Value.ref 31, Value.bool true, Value.int 181 0, Value.ref 32, Value.none, Value.ref 33, Value.ref 34, Value.ref 35, Value.int 214 0, Value.int 7 0, vs "/claim/cut.py" 215]),
  (37, fo (ms 2 0) "HeapError.__init__" [(Str.ofString "__class__", 25)] "alikeheap.errors" 194 36 (Value.ref 30)),
  (38, ot #[]),
  (40, ot #[vs "self" 220]),
  (41, ot #[]),
  (43, oc #[vs "told" 217, vs "HeapError.told" 218, vs "/claim/cut.py" 219, Value.int 11 0, Value.int 1 0, Value.int 0 0, Value.int 0 0, Value.int 3 0, Value.ref 38, Value.bool true, Value.int 181 0, Value.ref 39, Value.none, Value.ref 40, Value.ref 41, Value.ref 42, Value.int 221 0, Value.int 11 0, vs "/claim/cut.py" 222]),
  (44, fo (ms 2 1) "HeapError.told" [] "alikeheap.errors" 194 43 (Value.none)),
  (45, ot #[vs "what" 224]),
  (46, Obj.mk (Value.type "dict") none (Data.dict #[ke P "__module__" 203 (vs "alikeheap.errors" 194), ke P "__firstlineno__" 207 (Value.int 5 206), ke P "__init__" 216 (Value.ref 37), ke P "told" 223 (Value.ref 44), ke P "__static_attributes__" 225 (Value.ref 45), ke P "__weakref__" 228 (Value.ref 48), ke P "__doc__" 229 Value.none] 4) #[]),
  (47, Obj.mk (Value.type "type") none (Data.cls (ClassData.mk (Str.ofString "HeapError") [Value.type "Exception"] [Value.ref 47, Value.type "Exception", Value.type "BaseException", Value.type "object"] 46 (Str.ofString "HeapError") true [] [Value.ref 60] false none false)) #[some (Value.ref 22), none, some (vs "HeapError" 196), some (vs "HeapError" 204), some (Value.builtin "Exception.__new__"), some (Value.bool true)]),
  (48, Obj.mk (Value.type "getset_descriptor") none (Data.fields #[vs "__weakref__" 227, Value.ref 47, Value.builtin "ExceptionGroup.__weakref__", Value.none]) #[]),
  (51, ot #[Value.ref 47]),
  (58, ot #[]),
  (59, Obj.mk (Value.type "dict") none (Data.dict #[ke P "__module__" 241 (vs "alikeheap.errors" 194), ke P "__firstlineno__" 245 (Value.int 13 244), ke P "__static_attributes__" 246 (Value.ref 58), ke P "__doc__" 247 Value.none] 2) #[]),
  (60, Obj.mk (Value.type "type") none (Data.cls (ClassData.mk (Str.ofString "TermFault") [Value.ref 47] [Value.ref 60, Value.ref 47, Value.type "Exception", Value.type "BaseException", Value.type "object"] 59 (Str.ofString "TermFault") true [] [] false none false)) #[some (Value.ref 51), none, some (vs "TermFault" 234), some (vs "TermFault" 242), some (Value.builtin "Exception.__new__"), some (Value.bool true)]),
  (63, ot #[]),
  (66, oc #[vs "is_op" 252, vs "is_op" 253, vs "/claim/cut.py" 254, Value.int 16 0, Value.int 1 0, Value.int 0 0, Value.int 0 0, Value.int 3 0, Value.ref 63, Value.bool true, Value.int 181 0, Value.ref 64, Value.none, Value.none, Value.none, Value.ref 65, Value.int 255 0, Value.int 16 0, vs "/claim/cut.py" 256]),
  (67, fo (ts 5) "is_op" [] "alikeheap.terms" 250 66 (Value.none)),
  (68, ot #[]),
  (70, ot #[vs "t" 261]),
  (71, ot #[]),
  (73, oc #[vs "is_variable" 258, vs "is_variable" 259, vs "/claim/cut.py" 260, Value.int 18 0, Value.int 1 0, Value.int 0 0, Value.int 0 0, Value.int 3 0, Value.ref 68, Value.bool true, Value.int 181 0, Value.ref 69, Value.none, Value.ref 70, Value.ref 71, Value.ref 72, Value.int 262 0, Value.int 18 0, vs "/claim/cut.py" 263]),
  (74, fo (ts 6) "is_variable" [] "alikeheap.terms" 250 73 (Value.none)),
  (75, ot #[]),
  (78, oc #[vs "variables" 265, vs "variables" 266, vs "/claim/cut.py" 267, Value.int 20 0, Value.int 1 0, Value.int 0 0, Value.int 0 0, Value.int 3 0, Value.ref 75, Value.bool true, Value.int 181 0, Value.ref 76, Value.none, Value.none, Value.none, Value.ref 77, Value.int 268 0, Value.int 20 0, vs "/claim/cut.py" 269]),
  (79, fo (ts 7) "variables" [] "alikeheap.terms" 250 78 (Value.none)),
  (80, ot #[]),
  (83, oc #[vs "placed" 271, vs "placed" 272, vs "/claim/cut.py" 273, Value.int 22 0, Value.int 2 0, Value.int 0 0, Value.int 0 0, Value.int 3 0, Value.ref 80, Value.bool true, Value.int 181 0, Value.ref 81, Value.none, Value.none, Value.none, Value.ref 82, Value.int 274 0, Value.int 22 0, vs "/claim/cut.py" 275]),
  (84, fo (ts 8) "placed" [] "alikeheap.terms" 250 83 (Value.none)),
  (85, ot #[]),
  (88, oc #[vs "parts" 277, vs "parts" 278, vs "/claim/cut.py" 279, Value.int 28 0, Value.int 1 0, Value.int 0 0, Value.int 0 0, Value.int 3 0, Value.ref 85, Value.bool true, Value.int 181 0, Value.ref 86, Value.none, Value.none, Value.none, Value.ref 87, Value.int 280 0, Value.int 28 0, vs "/claim/cut.py" 281]),
  (89, fo (ts 9) "parts" [] "alikeheap.terms" 250 88 (Value.none)),
  (90, ot #[]),
  (92, ot #[vs "pattern" 286, vs "t" 287, vs "table" 288, vs "waiting" 289, vs "here" 290, vs "there" 291]),
  (93, ot #[]),
  (95, oc #[vs "matched" 283, vs "matched" 284, vs "/claim/cut.py" 285, Value.int 33 0, Value.int 2 0, Value.int 0 0, Value.int 0 0, Value.int 3 0, Value.ref 90, Value.bool true, Value.int 181 0, Value.ref 91, Value.none, Value.ref 92, Value.ref 93, Value.ref 94, Value.int 292 0, Value.int 33 0, vs "/claim/cut.py" 293]),
  (96, fo (ts 10) "matched" [] "alikeheap.terms" 250 95 (Value.none)),
  (104, ot #[]),
  (106, ot #[vs "self" 310]),
  (107, ot #[]),
  (109, oc #[vs "__init__" 307, vs "Bank.__init__" 308, vs "/claim/cut.py" 309, Value.int 47 0, Value.int 1 0, Value.int 0 0, Value.int 0 0, Value.int 3 0, Value.ref 104, Value.bool true, Value.int 181 0, Value.ref 105, Value.none, Value.ref 106, Value.ref 107, Value.ref 108, Value.int 311 0, Value.int 47 0, vs "/claim/cut.py" 312]),
  (110, fo (ms 11 0) "Bank.__init__" [] "alikeheap.terms" 250 109 (Value.none)),
  (111, ot #[]),
  (113, ot #[vs "self" 317]),
  (114, ot #[]),
  (116, oc #[vs "size" 314, vs "Bank.size" 315, vs "/claim/cut.py" 316, Value.int 53 0, Value.int 1 0, Value.int 0 0, Value.int 0 0, Value.int 3 0, Value.ref 111, Value.bool true, Value.int 181 0, Value.ref 112, Value.none, Value.ref 113, Value.ref 114, Value.ref 115, Value.int 318 0, Value.int 53 0, vs "/claim/cut.py" 319]),
  (117, fo (ms 11 1) "Bank.size" [] "alikeheap.terms" 250 116 (Value.none)),
  (118, ot #[]),
  (121, oc #[vs "take" 321, vs "Bank.take" 322, vs "/claim/cut.py" 323, Value.int 56 0, Value.int 3 0, Value.int 0 0, Value.int 0 0, Value.int 3 0, Value.ref 118, Value.bool true, Value.int 181 0, Value.ref 119, Value.none, Value.none, Value.none, Value.ref 120, Value.int 324 0, Value.int 56 0, vs "/claim/cut.py" 325]),
  (122, fo (ms 11 2) "Bank.take" [] "alikeheap.terms" 250 121 (Value.none)),
  (123, ot #[]),
  (125, ot #[vs "self" 330, vs "op" 331]),
  (126, ot #[]),
  (128, oc #[vs "require" 327, vs "Bank.require" 328, vs "/claim/cut.py" 329, Value.int 70 0, Value.int 2 0, Value.int 0 0, Value.int 0 0, Value.int 3 0, Value.ref 123, Value.bool true, Value.int 181 0, Value.ref 124, Value.none, Value.ref 125, Value.ref 126, Value.ref 127, Value.int 332 0, Value.int 70 0, vs "/claim/cut.py" 333]),
  (129, fo (ms 11 3) "Bank.require" [] "alikeheap.terms" 250 128 (Value.none)),
  (130, ot #[]),
  (132, ot #[vs "self" 338, vs "t" 339, vs "path" 340, vs "part" 341]),
  (133, ot #[]),
  (135, oc #[vs "put" 335, vs "Bank.put" 336, vs "/claim/cut.py" 337, Value.int 74 0, Value.int 2 0, Value.int 0 0, Value.int 0 0, Value.int 3 0, Value.ref 130, Value.bool true, Value.int 181 0, Value.ref 131, Value.none, Value.ref 132, Value.ref 133, Value.ref 134, Value.int 342 0, Value.int 74 0, vs "/claim/cut.py" 343]),
  (136, fo (ms 11 4) "Bank.put" [] "alikeheap.terms" 250 135 (Value.none)),
  (137, ot #[]),
  (140, oc #[vs "put_all" 345, vs "Bank.put_all" 346, vs "/claim/cut.py" 347, Value.int 79 0, Value.int 2 0, Value.int 0 0, Value.int 0 0, Value.int 3 0, Value.ref 137, Value.bool true, Value.int 181 0, Value.ref 138, Value.none, Value.none, Value.none, Value.ref 139, Value.int 348 0, Value.int 79 0, vs "/claim/cut.py" 349]),
  (141, fo (ms 11 5) "Bank.put_all" [] "alikeheap.terms" 250 140 (Value.none)),
  (142, ot #[]),
  (144, ot #[vs "self" 354, vs "many" 355]),
  (145, ot #[]),
  (147, oc #[vs "cut" 351, vs "Bank.cut" 352, vs "/claim/cut.py" 353, Value.int 82 0, Value.int 2 0, Value.int 0 0, Value.int 0 0, Value.int 3 0, Value.ref 142, Value.bool true, Value.int 181 0, Value.ref 143, Value.none, Value.ref 144, Value.ref 145, Value.ref 146, Value.int 356 0, Value.int 82 0, vs "/claim/cut.py" 357]),
  (148, fo (ms 11 6) "Bank.cut" [] "alikeheap.terms" 250 147 (Value.none)),
  (149, ot #[]),
  (151, ot #[vs "self" 362, vs "n" 363]),
  (152, ot #[]),
  (154, oc #[vs "op" 359, vs "Bank.op" 360, vs "/claim/cut.py" 361, Value.int 85 0, Value.int 2 0, Value.int 0 0, Value.int 0 0, Value.int 3 0, Value.ref 149, Value.bool true, Value.int 181 0, Value.ref 150, Value.none, Value.ref 151, Value.ref 152, Value.ref 153, Value.int 364 0, Value.int 85 0, vs "/claim/cut.py" 365]),
  (155, fo (ms 11 7) "Bank.op" [] "alikeheap.terms" 250 154 (Value.none)),
  (156, ot #[]),
  (158, ot #[vs "self" 370, vs "n" 371]),
  (159, ot #[]),
  (161, oc #[vs "kids" 367, vs "Bank.kids" 368, vs "/claim/cut.py" 369, Value.int 88 0, Value.int 2 0, Value.int 0 0, Value.int 0 0, Value.int 3 0, Value.ref 156, Value.bool true, Value.int 181 0, Value.ref 157, Value.none, Value.ref 158, Value.ref 159, Value.ref 160, Value.int 372 0, Value.int 88 0, vs "/claim/cut.py" 373]),
  (162, fo (ms 11 8) "Bank.kids" [] "alikeheap.terms" 250 161 (Value.none)),
  (163, ot #[]),
  (165, ot #[vs "self" 378, vs "n" 379]),
  (166, ot #[]),
  (168, oc #[vs "node" 375, vs "Bank.node" 376, vs "/claim/cut.py" 377, Value.int 91 0, Value.int 2 0, Value.int 0 0, Value.int 0 0, Value.int 3 0, Value.ref 163, Value.bool true, Value.int 181 0, Value.ref 164, Value.none, Value.ref 165, Value.ref 166, Value.ref 167, Value.int 380 0, Value.int 91 0, vs "/claim/cut.py" 381]),
  (169, fo (ms 11 9) "Bank.node" [] "alikeheap.terms" 250 168 (Value.none)),
  (170, ot #[]),
  (173, oc #[vs "term" 383, vs "Bank.term" 384, vs "/claim/cut.py" 385, Value.int 94 0, Value.int 2 0, Value.int 0 0, Value.int 0 0, Value.int 3 0, Value.ref 170, Value.bool true, Value.int 181 0, Value.ref 171, Value.none, Value.none, Value.none, Value.ref 172, Value.int 386 0, Value.int 94 0, vs "/claim/cut.py" 387]),
  (174, fo (ms 11 10) "Bank.term" [] "alikeheap.terms" 250 173 (Value.none)),
  (175, ot #[]),
  (177, ot #[vs "self" 392, vs "n" 393]),
  (178, ot #[]),
  (180, oc #[vs "weight" 389, vs "Bank.weight" 390, vs "/claim/cut.py" 391, Value.int 106 0, Value.int 2 0, Value.int 0 0, Value.int 0 0, Value.int 3 0, Value.ref 175, Value.bool true, Value.int 181 0, Value.ref 176, Value.none, Value.ref 177, Value.ref 178, Value.ref 179, Value.int 394 0, Value.int 106 0, vs "/claim/cut.py" 395]),
  (181, fo (ms 11 11) "Bank.weight" [] "alikeheap.terms" 250 180 (Value.none)),
  (182, ot #[]),
  (184, ot #[vs "self" 400, vs "n" 401]),
  (185, ot #[]),
  (187, oc #[vs "depth" 397, vs "Bank.depth" 398, vs "/claim/cut.py" 399, Value.int 109 0, Value.int 2 0, Value.int 0 0, Value.int 0 0, Value.int 3 0, Value.ref 182, Value.bool true, Value.int 181 0, Value.ref 183, Value.none, Value.ref 184, Value.ref 185, Value.ref 186, Value.int 402 0, Value.int 109 0, vs "/claim/cut.py" 403]),
  (188, fo (ms 11 12) "Bank.depth" [] "alikeheap.terms" 250 187 (Value.none)),
  (189, ot #[]),
  (191, ot #[vs "self" 408, vs "op" 409, vs "kids" 410]),
  (192, ot #[]),
  (194, oc #[vs "seek" 405, vs "Bank.seek" 406, vs "/claim/cut.py" 407, Value.int 112 0, Value.int 3 0, Value.int 0 0, Value.int 0 0, Value.int 3 0, Value.ref 189, Value.bool true, Value.int 181 0, Value.ref 190, Value.none, Value.ref 191, Value.ref 192, Value.ref 193, Value.int 411 0, Value.int 112 0, vs "/claim/cut.py" 412]),
  (195, fo (ms 11 13) "Bank.seek" [] "alikeheap.terms" 250 194 (Value.none)),
  (196, ot #[vs "depths" 414, vs "nodes" 415, vs "numbers" 416, vs "weights" 417]),
  (197, Obj.mk (Value.type "dict") none (Data.dict #[ke P "__module__" 302 (vs "alikeheap.terms" 250), ke P "__firstlineno__" 306 (Value.int 45 305), ke P "__init__" 313 (Value.ref 110), ke P "size" 320 (Value.ref 117), ke P "take" 326 (Value.ref 122), ke P "require" 334 (Value.ref 129), ke P "put" 344 (Value.ref 136), ke P "put_all" 350 (Value.ref 141), ke P "cut" 358 (Value.ref 148), ke P "op" 366 (Value.ref 155), ke P "kids" 374 (Value.ref 162), ke P "node" 382 (Value.ref 169), ke P "term" 388 (Value.ref 174), ke P "weight" 396 (Value.ref 181), ke P "depth" 404 (Value.ref 188), ke P "seek" 413 (Value.ref 195), ke P "__static_attributes__" 418 (Value.ref 196), ke P "__dict__" 420 (Value.ref 199), ke P "__weakref__" 422 (Value.ref 200), ke P "__doc__" 423 Value.none] 4) #[]),
  (198, Obj.mk (Value.type "type") none (Data.cls (ClassData.mk (Str.ofString "Bank") [Value.type "object"] [Value.ref 198, Value.type "object"] 197 (Str.ofString "Bank") true [] [] false none false)) #[none, none, some (vs "Bank" 295), some (vs "Bank" 303), some (Value.builtin "object.__new__"), some (Value.bool true)]),
  (199, Obj.mk (Value.type "getset_descriptor") none (Data.fields #[vs "__dict__" 419, Value.ref 198, Value.builtin "function.__dict__", Value.builtin "function.__dict__#set"]) #[]),
  (200, Obj.mk (Value.type "getset_descriptor") none (Data.fields #[vs "__weakref__" 421, Value.ref 198, Value.builtin "ExceptionGroup.__weakref__", Value.none]) #[]),
  (203, ot #[]),
  (205, ot #[vs "hand" 431, vs "wide" 432]),
  (206, ot #[]),
  (208, oc #[vs "_law_draw" 428, vs "_law_draw" 429, vs "/claim/cut.py" 430, Value.int 115 0, Value.int 2 0, Value.int 0 0, Value.int 0 0, Value.int 3 0, Value.ref 203, Value.bool true, Value.int 181 0, Value.ref 204, Value.none, Value.ref 205, Value.ref 206, Value.ref 207, Value.int 433 0, Value.int 115 0, vs "/claim/cut.py" 434]),
  (209, fo (ts 13) "_law_draw" [] "law_pq0115_01" 426 208 (Value.none)),
  (210, ot #[]),
  (213, oc #[vs "_law_hand" 436, vs "_law_hand" 437, vs "/claim/cut.py" 438, Value.int 120 0, Value.int 1 0, Value.int 0 0, Value.int 0 0, Value.int 3 0, Value.ref 210, Value.bool true, Value.int 181 0, Value.ref 211, Value.none, Value.none, Value.none, Value.ref 212, Value.int 439 0, Value.int 120 0, vs "/claim/cut.py" 440]),
  (214, fo (ts 14) "_law_hand" [] "law_pq0115_01" 426 213 (Value.none)),
  (215, ot #[]),
  (218, oc #[vs "_law_one" 442, vs "_law_one" 443, vs "/claim/cut.py" 444, Value.int 123 0, Value.int 3 0, Value.int 0 0, Value.int 0 0, Value.int 3 0, Value.ref 215, Value.bool true, Value.int 181 0, Value.ref 216, Value.none, Value.none, Value.none, Value.ref 217, Value.int 445 0, Value.int 123 0, vs "/claim/cut.py" 446]),
  (219, fo (ts 15) "_law_one" [] "law_pq0115_01" 426 218 (Value.none)),
  (220, ot #[]),
  (223, oc #[vs "_law_parts" 448, vs "_law_parts" 449, vs "/claim/cut.py" 450, Value.int 129 0, Value.int 1 0, Value.int 0 0, Value.int 0 0, Value.int 3 0, Value.ref 220, Value.bool true, Value.int 181 0, Value.ref 221, Value.none, Value.none, Value.none, Value.ref 222, Value.int 451 0, Value.int 129 0, vs "/claim/cut.py" 452]),
  (224, fo (ts 16) "_law_parts" [] "law_pq0115_01" 426 223 (Value.none)),
  (225, ot #[]),
  (228, oc #[vs "_law_put" 454, vs "_law_put" 455, vs "/claim/cut.py" 456, Value.int 134 0, Value.int 2 0, Value.int 0 0, Value.int 0 0, Value.int 3 0, Value.ref 225, Value.bool true, Value.int 181 0, Value.ref 226, Value.none, Value.none, Value.none, Value.ref 227, Value.int 457 0, Value.int 134 0, vs "/claim/cut.py" 458]),
  (229, fo (ts 17) "_law_put" [] "law_pq0115_01" 426 228 (Value.none)),
  (230, ot #[]),
  (233, oc #[vs "_law_tables" 460, vs "_law_tables" 461, vs "/claim/cut.py" 462, Value.int 138 0, Value.int 2 0, Value.int 0 0, Value.int 0 0, Value.int 3 0, Value.ref 230, Value.bool true, Value.int 181 0, Value.ref 231, Value.none, Value.none, Value.none, Value.ref 232, Value.int 463 0, Value.int 138 0, vs "/claim/cut.py" 464]),
  (234, fo (ts 18) "_law_tables" [] "law_pq0115_01" 426 233 (Value.none)),
  (235, ot #[]),
  (237, ot #[vs "pattern" 469, vs "names" 470, vs "t" 471, vs "table" 472]),
  (238, ot #[]),
  (240, oc #[vs "_law_due" 466, vs "_law_due" 467, vs "/claim/cut.py" 468, Value.int 143 0, Value.int 3 0, Value.int 0 0, Value.int 0 0, Value.int 3 0, Value.ref 235, Value.bool true, Value.int 181 0, Value.ref 236, Value.none, Value.ref 237, Value.ref 238, Value.ref 239, Value.int 473 0, Value.int 143 0, vs "/claim/cut.py" 474]),
  (241, fo (ts 19) "_law_due" [] "law_pq0115_01" 426 240 (Value.none)),
  (242, ot #[]),
  (244, ot #[vs "hand" 479, vs "t" 480, vs "leaves" 481, vs "spot" 482]),
  (245, ot #[]),
  (247, oc #[vs "_law_other" 476, vs "_law_other" 477, vs "/claim/cut.py" 478, Value.int 148 0, Value.int 3 0, Value.int 0 0, Value.int 0 0, Value.int 3 0, Value.ref 242, Value.bool true, Value.int 181 0, Value.ref 243, Value.none, Value.ref 244, Value.ref 245, Value.ref 246, Value.int 483 0, Value.int 148 0, vs "/claim/cut.py" 484]),
  (248, fo (ts 20) "_law_other" [] "law_pq0115_01" 426 247 (Value.none)),
  (249, ot #[]),
  (251, ot #[vs "pattern" 489, vs "table" 490, vs "refused" 491]),
  (252, ot #[]),
  (254, oc #[vs "_law_is_refused" 486, vs "_law_is_refused" 487, vs "/claim/cut.py" 488, Value.int 153 0, Value.int 2 0, Value.int 0 0, Value.int 0 0, Value.int 3 0, Value.ref 249, Value.bool true, Value.int 181 0, Value.ref 250, Value.none, Value.ref 251, Value.ref 252, Value.ref 253, Value.int 492 0, Value.int 153 0, vs "/claim/cut.py" 493]),
  (255, fo (ts 21) "_law_is_refused" [] "law_pq0115_01" 426 254 (Value.none)),
  (256, ot #[]),
  (259, oc #[vs "_law_taken" 495, vs "_law_taken" 496, vs "/claim/cut.py" 497, Value.int 160 0, Value.int 3 0, Value.int 0 0, Value.int 0 0, Value.int 3 0, Value.ref 256, Value.bool true, Value.int 181 0, Value.ref 257, Value.none, Value.none, Value.none, Value.ref 258, Value.int 498 0, Value.int 160 0, vs "/claim/cut.py" 499]),
  (260, fo (ts 22) "_law_taken" [] "law_pq0115_01" 426 259 (Value.none)),
  (261, ot #[]),
  (264, oc #[vs "law" 501, vs "law" 502, vs "/claim/cut.py" 503, Value.int 164 0, Value.int 1 0, Value.int 0 0, Value.int 0 0, Value.int 3 0, Value.ref 261, Value.bool true, Value.int 181 0, Value.ref 262, Value.none, Value.none, Value.none, Value.ref 263, Value.int 504 0, Value.int 164 0, vs "/claim/cut.py" 505]),
  (265, fo (ts 23) "law" [] "law_pq0115_01" 426 264 (Value.none))]

noncomputable def hd.view_39 : Program := view PySem.Challenge.pw_pq0115_01 [0, 2, 3, 5, 6, 7, 8, 9, 10, 11, 13, 14, 15, 16, 17, 18, 19, 20, 21, 22, 23]
noncomputable def hook : Hook := kHook hd.heap_39 [2, 3, 15, 17, 18, 20, 21, 22, 25, 30, 31, 33, 34, 36, 37, 38, 40, 41, 43, 44, 45, 46, 47, 48, 51, 58, 59, 60, 63, 66, 67, 68, 70, 71, 73, 74, 75, 78, 79, 80, 83, 84, 85, 88, 89, 90, 92, 93, 95, 96, 104, 106, 107, 109, 110, 111, 113, 114, 116, 117, 118, 121, 122, 123, 125, 126, 128, 129, 130, 132, 133, 135, 136, 137, 140, 141, 142, 144, 145, 147, 148, 149, 151, 152, 154, 155, 156, 158, 159, 161, 162, 163, 165, 166, 168, 169, 170, 173, 174, 175, 177, 178, 180, 181, 182, 184, 185, 187, 188, 189, 191, 192, 194, 195, 196, 197, 198, 199, 200, 203, 205, 206, 208, 209, 210, 213, 214, 215, 218, 219, 220, 223, 224, 225, 228, 229, 230, 233, 234, 235, 237, 238, 240, 241, 242, 244, 245, 247, 248, 249, 251, 252, 254, 255, 256, 259, 260, 261, 264, 265] (fun _ => by kernel_rfl)
theorem left_run (w : World) (os : OsState) : (topFrom treeTable PySem.Challenge.rw_pq0115_01.row.toRowW.prog w 3422 ⟨boot_heap w.params, Array.mk [], boot_drawn, boot_toks, os⟩).map (fun s => (openSeen hd.view_39 [] (importedModules PySem.Challenge.rw_pq0115_01.row.toRowW.prog.main.body) (fun s => xlAt hd.view_39 [] s && recOk (RowW.records PySem.Challenge.rw_pq0115_01.row.toRowW) s) true s, hook.obs s)) = some (openGood hd.view_39 [], hook.val w) := by
  unfold topFrom
  rw [PySem.W.Fast.te14082659384304107361, PySem.W.Fast.te14364793385576792824, PySem.W.Fast.te4187177175401517315]
  kernel_rfl
theorem open_e : opening PySem.Challenge.rw_pq0115_01.row.toRowW.prog = plainProg PySem.Challenge.rw_pq0115_01.row.toRowW.prog.main.scope.names := by kernel_rfl
theorem open_f (s : Shared) : fenceModules? PySem.Challenge.rw_pq0115_01.row.toRowW.prog s = some s := by kernel_rfl
theorem ob_some {α β γ : Type} (F : β → γ) (a : α) (g : α → Option β) {v : Option γ} (h : (g a).map F = v) : ((some a).bind g).map F = v := h
theorem left : LeftO PySem.Challenge.rw_pq0115_01.row.toRowW.prog hd.view_39 [] (fun s => xlAt hd.view_39 [] s && recOk (RowW.records PySem.Challenge.rw_pq0115_01.row.toRowW) s) hook.obs hook.val 3422 := fun w => by
  obtain ⟨s₀, hs, hv⟩ := Option.map_eq_some_iff.mp (boot_open (N := 3422) open_e rfl open_f w)
  obtain ⟨h, g, d, t, o⟩ := s₀
  obtain ⟨h1, hv⟩ := Prod.mk.inj hv
  obtain ⟨h2, hv⟩ := Prod.mk.inj hv
  obtain ⟨h3, h4⟩ := Prod.mk.inj hv
  dsimp only at h1 h2 h3 h4
  subst h1 h2 h3 h4
  unfold openEnds
  rw [hs]
  exact ob_some _ _ _ (left_run w o)
/-! ### the tactics of the default arguments, each once -/
section
def seqS (xs : Array Lean.Syntax) : Lean.Syntax := .node .none ``Lean.Parser.Tactic.tacticSeq #[.node .none ``Lean.Parser.Tactic.tacticSeq1Indented #[.node .none `null xs]]
def tacS (k : Lean.Name) (s : String) (xs : Array Lean.Syntax) : Lean.Syntax := .node .none k (#[.atom .none s] ++ xs)
def rflS : Lean.Syntax := tacS ``Lean.Parser.Tactic.tacticRfl "rfl" #[]
def introS (xs : Array Lean.Syntax) : Lean.Syntax := tacS ``Lean.Parser.Tactic.intro "intro" #[.node .none `null xs]
def holeS : Lean.Syntax := tacS ``Lean.Parser.Term.hole "_" #[]
def wuS : Lean.Syntax := tacS ``Lean.Parser.Tactic.withUnfoldingAll "with_unfolding_all" #[seqS #[rflS]]
def aRfl : Lean.Syntax := seqS #[rflS]
def aDec : Lean.Syntax := seqS #[tacS ``Lean.Parser.Tactic.decide "decide" #[.node .none ``Lean.Parser.Tactic.optConfig #[.node .none `null #[]]]]
def aIRfl : Lean.Syntax := seqS #[introS #[holeS], .atom .none ";", rflS]
def aIIRfl : Lean.Syntax := seqS #[introS #[holeS, holeS], .atom .none ";", rflS]
def aWu : Lean.Syntax := seqS #[wuS]
def aIWu : Lean.Syntax := seqS #[introS #[holeS], .atom .none ";", wuS]
def aKr : Lean.Syntax := seqS #[tacS `tacticKernel_rfl "kernel_rfl" #[]]
end
inductive C4 (p1 p2 p3 p4 : Prop) : Prop
  | mk (h1 : p1) (h2 : p2) (h3 : p3) (h4 : p4) : C4 p1 p2 p3 p4
inductive C5 (p1 p2 p3 p4 p5 : Prop) : Prop
  | mk (h1 : p1) (h2 : p2) (h3 : p3) (h4 : p4) (h5 : p5) : C5 p1 p2 p3 p4 p5
inductive C6 (p1 p2 p3 p4 p5 p6 : Prop) : Prop
  | mk (h1 : p1) (h2 : p2) (h3 : p3) (h4 : p4) (h5 : p5) (h6 : p6) : C6 p1 p2 p3 p4 p5 p6
inductive C7 (p1 p2 p3 p4 p5 p6 p7 : Prop) : Prop
  | mk (h1 : p1) (h2 : p2) (h3 : p3) (h4 : p4) (h5 : p5) (h6 : p6) (h7 : p7) : C7 p1 p2 p3 p4 p5 p6 p7
inductive C8 (p1 p2 p3 p4 p5 p6 p7 p8 : Prop) : Prop
  | mk (h1 : p1) (h2 : p2) (h3 : p3) (h4 : p4) (h5 : p5) (h6 : p6) (h7 : p7) (h8 : p8) : C8 p1 p2 p3 p4 p5 p6 p7 p8
inductive C9 (p1 p2 p3 p4 p5 p6 p7 p8 p9 : Prop) : Prop
  | mk (h1 : p1) (h2 : p2) (h3 : p3) (h4 : p4) (h5 : p5) (h6 : p6) (h7 : p7) (h8 : p8) (h9 : p9) : C9 p1 p2 p3 p4 p5 p6 p7 p8 p9
inductive C10 (p1 p2 p3 p4 p5 p6 p7 p8 p9 p10 : Prop) : Prop
  | mk (h1 : p1) (h2 : p2) (h3 : p3) (h4 : p4) (h5 : p5) (h6 : p6) (h7 : p7) (h8 : p8) (h9 : p9) (h10 : p10) : C10 p1 p2 p3 p4 p5 p6 p7 p8 p9 p10
inductive C11 (p1 p2 p3 p4 p5 p6 p7 p8 p9 p10 p11 : Prop) : Prop
  | mk (h1 : p1) (h2 : p2) (h3 : p3) (h4 : p4) (h5 : p5) (h6 : p6) (h7 : p7) (h8 : p8) (h9 : p9) (h10 : p10) (h11 : p11) : C11 p1 p2 p3 p4 p5 p6 p7 p8 p9 p10 p11
inductive C12 (p1 p2 p3 p4 p5 p6 p7 p8 p9 p10 p11 p12 : Prop) : Prop
  | mk (h1 : p1) (h2 : p2) (h3 : p3) (h4 : p4) (h5 : p5) (h6 : p6) (h7 : p7) (h8 : p8) (h9 : p9) (h10 : p10) (h11 : p11) (h12 : p12) : C12 p1 p2 p3 p4 p5 p6 p7 p8 p9 p10 p11 p12
inductive X3 {T1 : Type} {T2 : Type} {T3 : Type} (p : T1 → T2 → T3 → Prop) : Prop
  | mk (a1 : T1) (a2 : T2) (a3 : T3) (h : p a1 a2 a3) : X3 p
inductive X4 {T1 : Type} {T2 : Type} {T3 : Type} {T4 : Type} (p : T1 → T2 → T3 → T4 → Prop) : Prop
  | mk (a1 : T1) (a2 : T2) (a3 : T3) (a4 : T4) (h : p a1 a2 a3 a4) : X4 p
inductive X5 {T1 : Type} {T2 : Type} {T3 : Type} {T4 : Type} {T5 : Type} (p : T1 → T2 → T3 → T4 → T5 → Prop) : Prop
  | mk (a1 : T1) (a2 : T2) (a3 : T3) (a4 : T4) (a5 : T5) (h : p a1 a2 a3 a4 a5) : X5 p
inductive X6 {T1 : Type} {T2 : Type} {T3 : Type} {T4 : Type} {T5 : Type} {T6 : Type} (p : T1 → T2 → T3 → T4 → T5 → T6 → Prop) : Prop
  | mk (a1 : T1) (a2 : T2) (a3 : T3) (a4 : T4) (a5 : T5) (a6 : T6) (h : p a1 a2 a3 a4 a5 a6) : X6 p
inductive X7 {T1 : Type} {T2 : Type} {T3 : Type} {T4 : Type} {T5 : Type} {T6 : Type} {T7 : Type} (p : T1 → T2 → T3 → T4 → T5 → T6 → T7 → Prop) : Prop
  | mk (a1 : T1) (a2 : T2) (a3 : T3) (a4 : T4) (a5 : T5) (a6 : T6) (a7 : T7) (h : p a1 a2 a3 a4 a5 a6 a7) : X7 p
inductive X12 {T1 : Type} {T2 : Type} {T3 : Type} {T4 : Type} {T5 : Type} {T6 : Type} {T7 : Type} {T8 : Type} {T9 : Type} {T10 : Type} {T11 : Type} {T12 : Type} (p : T1 → T2 → T3 → T4 → T5 → T6 → T7 → T8 → T9 → T10 → T11 → T12 → Prop) : Prop
  | mk (a1 : T1) (a2 : T2) (a3 : T3) (a4 : T4) (a5 : T5) (a6 : T6) (a7 : T7) (a8 : T8) (a9 : T9) (a10 : T10) (a11 : T11) (a12 : T12) (h : p a1 a2 a3 a4 a5 a6 a7 a8 a9 a10 a11 a12) : X12 p
inductive X13 {T1 : Type} {T2 : Type} {T3 : Type} {T4 : Type} {T5 : Type} {T6 : Type} {T7 : Type} {T8 : Type} {T9 : Type} {T10 : Type} {T11 : Type} {T12 : Type} {T13 : Type} (p : T1 → T2 → T3 → T4 → T5 → T6 → T7 → T8 → T9 → T10 → T11 → T12 → T13 → Prop) : Prop
  | mk (a1 : T1) (a2 : T2) (a3 : T3) (a4 : T4) (a5 : T5) (a6 : T6) (a7 : T7) (a8 : T8) (a9 : T9) (a10 : T10) (a11 : T11) (a12 : T12) (a13 : T13) (h : p a1 a2 a3 a4 a5 a6 a7 a8 a9 a10 a11 a12 a13) : X13 p

theorem wpS {α : Type} {M : Model} {A : Around} {x : Sem α} {Q : α → Shared → Prop} {E : Value → Shared → Prop} {s s2 : Shared} (h : s2 = s) (k : wpAny M A x Q E s) : wpAny M A x Q E s2 := by
  subst h
  exact k
theorem e02 {p1 p2 : Prop} {g : Prop} (h : p1 ∧ p2) (k : p1 → p2 → g) : g := by
  obtain ⟨h1, h2⟩ := h
  exact k h1 h2
theorem e03 {p1 p2 p3 : Prop} {g : Prop} (h : p1 ∧ p2 ∧ p3) (k : p1 → p2 → p3 → g) : g := by
  obtain ⟨h1, h2, h3⟩ := h
  exact k h1 h2 h3
theorem e04 {p1 p2 p3 p4 : Prop} {g : Prop} (h : p1 ∧ p2 ∧ p3 ∧ p4) (k : p1 → p2 → p3 → p4 → g) : g := by
  obtain ⟨h1, h2, h3, h4⟩ := h
  exact k h1 h2 h3 h4
theorem e05 {p1 p2 p3 p4 p5 : Prop} {g : Prop} (h : p1 ∧ p2 ∧ p3 ∧ p4 ∧ p5) (k : p1 → p2 → p3 → p4 → p5 → g) : g := by
  obtain ⟨h1, h2, h3, h4, h5⟩ := h
  exact k h1 h2 h3 h4 h5
theorem e06 {p1 p2 p3 p4 p5 p6 : Prop} {g : Prop} (h : p1 ∧ p2 ∧ p3 ∧ p4 ∧ p5 ∧ p6) (k : p1 → p2 → p3 → p4 → p5 → p6 → g) : g := by
  obtain ⟨h1, h2, h3, h4, h5, h6⟩ := h
  exact k h1 h2 h3 h4 h5 h6
theorem e11 {A1 : Type} {p1 : A1 → Prop} {g : Prop} (h : ∃ a1, p1 a1) (k : ∀ a1, p1 a1 → g) : g := by
  obtain ⟨a1, h1⟩ := h
  exact k a1 h1
theorem e12 {A1 : Type} {p1 p2 : A1 → Prop} {g : Prop} (h : ∃ a1, p1 a1 ∧ p2 a1) (k : ∀ a1, p1 a1 → p2 a1 → g) : g := by
  obtain ⟨a1, h1, h2⟩ := h
  exact k a1 h1 h2
theorem e13 {A1 : Type} {p1 p2 p3 : A1 → Prop} {g : Prop} (h : ∃ a1, p1 a1 ∧ p2 a1 ∧ p3 a1) (k : ∀ a1, p1 a1 → p2 a1 → p3 a1 → g) : g := by
  obtain ⟨a1, h1, h2, h3⟩ := h
  exact k a1 h1 h2 h3
theorem e14 {A1 : Type} {p1 p2 p3 p4 : A1 → Prop} {g : Prop} (h : ∃ a1, p1 a1 ∧ p2 a1 ∧ p3 a1 ∧ p4 a1) (k : ∀ a1, p1 a1 → p2 a1 → p3 a1 → p4 a1 → g) : g := by
  obtain ⟨a1, h1, h2, h3, h4⟩ := h
  exact k a1 h1 h2 h3 h4
theorem e21 {A1 : Type} {A2 : Type} {p1 : A1 → A2 → Prop} {g : Prop} (h : ∃ a1 a2, p1 a1 a2) (k : ∀ a1 a2, p1 a1 a2 → g) : g := by
  obtain ⟨a1, a2, h1⟩ := h
  exact k a1 a2 h1
theorem e22 {A1 : Type} {A2 : Type} {p1 p2 : A1 → A2 → Prop} {g : Prop} (h : ∃ a1 a2, p1 a1 a2 ∧ p2 a1 a2) (k : ∀ a1 a2, p1 a1 a2 → p2 a1 a2 → g) : g := by
  obtain ⟨a1, a2, h1, h2⟩ := h
  exact k a1 a2 h1 h2
theorem e23 {A1 : Type} {A2 : Type} {p1 p2 p3 : A1 → A2 → Prop} {g : Prop} (h : ∃ a1 a2, p1 a1 a2 ∧ p2 a1 a2 ∧ p3 a1 a2) (k : ∀ a1 a2, p1 a1 a2 → p2 a1 a2 → p3 a1 a2 → g) : g := by
  obtain ⟨a1, a2, h1, h2, h3⟩ := h
  exact k a1 a2 h1 h2 h3
theorem e31 {A1 : Type} {A2 : Type} {A3 : Type} {p1 : A1 → A2 → A3 → Prop} {g : Prop} (h : ∃ a1 a2 a3, p1 a1 a2 a3) (k : ∀ a1 a2 a3, p1 a1 a2 a3 → g) : g := by
  obtain ⟨a1, a2, a3, h1⟩ := h
  exact k a1 a2 a3 h1
theorem e33 {A1 : Type} {A2 : Type} {A3 : Type} {p1 p2 p3 : A1 → A2 → A3 → Prop} {g : Prop} (h : ∃ a1 a2 a3, p1 a1 a2 a3 ∧ p2 a1 a2 a3 ∧ p3 a1 a2 a3) (k : ∀ a1 a2 a3, p1 a1 a2 a3 → p2 a1 a2 a3 → p3 a1 a2 a3 → g) : g := by
  obtain ⟨a1, a2, a3, h1, h2, h3⟩ := h
  exact k a1 a2 a3 h1 h2 h3
theorem x3c3 {A1 : Type} {A2 : Type} {A3 : Type} {p1 p2 p3 : A1 → A2 → A3 → Prop} {g : Prop} (h : X3 fun a1 a2 a3 => p1 a1 a2 a3 ∧ p2 a1 a2 a3 ∧ p3 a1 a2 a3) (k : ∀ a1 a2 a3, p1 a1 a2 a3 → p2 a1 a2 a3 → p3 a1 a2 a3 → g) : g := by
  obtain ⟨a1, a2, a3, h1, h2, h3⟩ := h
  exact k a1 a2 a3 h1 h2 h3
theorem x3c4 {A1 : Type} {A2 : Type} {A3 : Type} {p1 p2 p3 p4 : A1 → A2 → A3 → Prop} {g : Prop} (h : X3 fun a1 a2 a3 => C4 (p1 a1 a2 a3) (p2 a1 a2 a3) (p3 a1 a2 a3) (p4 a1 a2 a3)) (k : ∀ a1 a2 a3, p1 a1 a2 a3 → p2 a1 a2 a3 → p3 a1 a2 a3 → p4 a1 a2 a3 → g) : g := by
  obtain ⟨a1, a2, a3, h1, h2, h3, h4⟩ := h
  exact k a1 a2 a3 h1 h2 h3 h4
theorem x3c5 {A1 : Type} {A2 : Type} {A3 : Type} {p1 p2 p3 p4 p5 : A1 → A2 → A3 → Prop} {g : Prop} (h : X3 fun a1 a2 a3 => C5 (p1 a1 a2 a3) (p2 a1 a2 a3) (p3 a1 a2 a3) (p4 a1 a2 a3) (p5 a1 a2 a3)) (k : ∀ a1 a2 a3, p1 a1 a2 a3 → p2 a1 a2 a3 → p3 a1 a2 a3 → p4 a1 a2 a3 → p5 a1 a2 a3 → g) : g := by
  obtain ⟨a1, a2, a3, h1, h2, h3, h4, h5⟩ := h
  exact k a1 a2 a3 h1 h2 h3 h4 h5
theorem x3c6 {A1 : Type} {A2 : Type} {A3 : Type} {p1 p2 p3 p4 p5 p6 : A1 → A2 → A3 → Prop} {g : Prop} (h : X3 fun a1 a2 a3 => C6 (p1 a1 a2 a3) (p2 a1 a2 a3) (p3 a1 a2 a3) (p4 a1 a2 a3) (p5 a1 a2 a3) (p6 a1 a2 a3)) (k : ∀ a1 a2 a3, p1 a1 a2 a3 → p2 a1 a2 a3 → p3 a1 a2 a3 → p4 a1 a2 a3 → p5 a1 a2 a3 → p6 a1 a2 a3 → g) : g := by
  obtain ⟨a1, a2, a3, h1, h2, h3, h4, h5, h6⟩ := h
  exact k a1 a2 a3 h1 h2 h3 h4 h5 h6
theorem x3c7 {A1 : Type} {A2 : Type} {A3 : Type} {p1 p2 p3 p4 p5 p6 p7 : A1 → A2 → A3 → Prop} {g : Prop} (h : X3 fun a1 a2 a3 => C7 (p1 a1 a2 a3) (p2 a1 a2 a3) (p3 a1 a2 a3) (p4 a1 a2 a3) (p5 a1 a2 a3) (p6 a1 a2 a3) (p7 a1 a2 a3)) (k : ∀ a1 a2 a3, p1 a1 a2 a3 → p2 a1 a2 a3 → p3 a1 a2 a3 → p4 a1 a2 a3 → p5 a1 a2 a3 → p6 a1 a2 a3 → p7 a1 a2 a3 → g) : g := by
  obtain ⟨a1, a2, a3, h1, h2, h3, h4, h5, h6, h7⟩ := h
  exact k a1 a2 a3 h1 h2 h3 h4 h5 h6 h7
theorem x4c2 {A1 : Type} {A2 : Type} {A3 : Type} {A4 : Type} {p1 p2 : A1 → A2 → A3 → A4 → Prop} {g : Prop} (h : X4 fun a1 a2 a3 a4 => p1 a1 a2 a3 a4 ∧ p2 a1 a2 a3 a4) (k : ∀ a1 a2 a3 a4, p1 a1 a2 a3 a4 → p2 a1 a2 a3 a4 → g) : g := by
  obtain ⟨a1, a2, a3, a4, h1, h2⟩ := h
  exact k a1 a2 a3 a4 h1 h2
theorem x4c3 {A1 : Type} {A2 : Type} {A3 : Type} {A4 : Type} {p1 p2 p3 : A1 → A2 → A3 → A4 → Prop} {g : Prop} (h : X4 fun a1 a2 a3 a4 => p1 a1 a2 a3 a4 ∧ p2 a1 a2 a3 a4 ∧ p3 a1 a2 a3 a4) (k : ∀ a1 a2 a3 a4, p1 a1 a2 a3 a4 → p2 a1 a2 a3 a4 → p3 a1 a2 a3 a4 → g) : g := by
  obtain ⟨a1, a2, a3, a4, h1, h2, h3⟩ := h
  exact k a1 a2 a3 a4 h1 h2 h3
theorem x4c4 {A1 : Type} {A2 : Type} {A3 : Type} {A4 : Type} {p1 p2 p3 p4 : A1 → A2 → A3 → A4 → Prop} {g : Prop} (h : X4 fun a1 a2 a3 a4 => C4 (p1 a1 a2 a3 a4) (p2 a1 a2 a3 a4) (p3 a1 a2 a3 a4) (p4 a1 a2 a3 a4)) (k : ∀ a1 a2 a3 a4, p1 a1 a2 a3 a4 → p2 a1 a2 a3 a4 → p3 a1 a2 a3 a4 → p4 a1 a2 a3 a4 → g) : g := by
  obtain ⟨a1, a2, a3, a4, h1, h2, h3, h4⟩ := h
  exact k a1 a2 a3 a4 h1 h2 h3 h4
theorem x4c5 {A1 : Type} {A2 : Type} {A3 : Type} {A4 : Type} {p1 p2 p3 p4 p5 : A1 → A2 → A3 → A4 → Prop} {g : Prop} (h : X4 fun a1 a2 a3 a4 => C5 (p1 a1 a2 a3 a4) (p2 a1 a2 a3 a4) (p3 a1 a2 a3 a4) (p4 a1 a2 a3 a4) (p5 a1 a2 a3 a4)) (k : ∀ a1 a2 a3 a4, p1 a1 a2 a3 a4 → p2 a1 a2 a3 a4 → p3 a1 a2 a3 a4 → p4 a1 a2 a3 a4 → p5 a1 a2 a3 a4 → g) : g := by
  obtain ⟨a1, a2, a3, a4, h1, h2, h3, h4, h5⟩ := h
  exact k a1 a2 a3 a4 h1 h2 h3 h4 h5
theorem x4c6 {A1 : Type} {A2 : Type} {A3 : Type} {A4 : Type} {p1 p2 p3 p4 p5 p6 : A1 → A2 → A3 → A4 → Prop} {g : Prop} (h : X4 fun a1 a2 a3 a4 => C6 (p1 a1 a2 a3 a4) (p2 a1 a2 a3 a4) (p3 a1 a2 a3 a4) (p4 a1 a2 a3 a4) (p5 a1 a2 a3 a4) (p6 a1 a2 a3 a4)) (k : ∀ a1 a2 a3 a4, p1 a1 a2 a3 a4 → p2 a1 a2 a3 a4 → p3 a1 a2 a3 a4 → p4 a1 a2 a3 a4 → p5 a1 a2 a3 a4 → p6 a1 a2 a3 a4 → g) : g := by
  obtain ⟨a1, a2, a3, a4, h1, h2, h3, h4, h5, h6⟩ := h
  exact k a1 a2 a3 a4 h1 h2 h3 h4 h5 h6
theorem x4c7 {A1 : Type} {A2 : Type} {A3 : Type} {A4 : Type} {p1 p2 p3 p4 p5 p6 p7 : A1 → A2 → A3 → A4 → Prop} {g : Prop} (h : X4 fun a1 a2 a3 a4 => C7 (p1 a1 a2 a3 a4) (p2 a1 a2 a3 a4) (p3 a1 a2 a3 a4) (p4 a1 a2 a3 a4) (p5 a1 a2 a3 a4) (p6 a1 a2 a3 a4) (p7 a1 a2 a3 a4)) (k : ∀ a1 a2 a3 a4, p1 a1 a2 a3 a4 → p2 a1 a2 a3 a4 → p3 a1 a2 a3 a4 → p4 a1 a2 a3 a4 → p5 a1 a2 a3 a4 → p6 a1 a2 a3 a4 → p7 a1 a2 a3 a4 → g) : g := by
  obtain ⟨a1, a2, a3, a4, h1, h2, h3, h4, h5, h6, h7⟩ := h
  exact k a1 a2 a3 a4 h1 h2 h3 h4 h5 h6 h7
theorem x5c4 {A1 : Type} {A2 : Type} {A3 : Type} {A4 : Type} {A5 : Type} {p1 p2 p3 p4 : A1 → A2 → A3 → A4 → A5 → Prop} {g : Prop} (h : X5 fun a1 a2 a3 a4 a5 => C4 (p1 a1 a2 a3 a4 a5) (p2 a1 a2 a3 a4 a5) (p3 a1 a2 a3 a4 a5) (p4 a1 a2 a3 a4 a5)) (k : ∀ a1 a2 a3 a4 a5, p1 a1 a2 a3 a4 a5 → p2 a1 a2 a3 a4 a5 → p3 a1 a2 a3 a4 a5 → p4 a1 a2 a3 a4 a5 → g) : g := by
  obtain ⟨a1, a2, a3, a4, a5, h1, h2, h3, h4⟩ := h
  exact k a1 a2 a3 a4 a5 h1 h2 h3 h4
theorem x5c11 {A1 : Type} {A2 : Type} {A3 : Type} {A4 : Type} {A5 : Type} {p1 p2 p3 p4 p5 p6 p7 p8 p9 p10 p11 : A1 → A2 → A3 → A4 → A5 → Prop} {g : Prop} (h : X5 fun a1 a2 a3 a4 a5 => C11 (p1 a1 a2 a3 a4 a5) (p2 a1 a2 a3 a4 a5) (p3 a1 a2 a3 a4 a5) (p4 a1 a2 a3 a4 a5) (p5 a1 a2 a3 a4 a5) (p6 a1 a2 a3 a4 a5) (p7 a1 a2 a3 a4 a5) (p8 a1 a2 a3 a4 a5) (p9 a1 a2 a3 a4 a5) (p10 a1 a2 a3 a4 a5) (p11 a1 a2 a3 a4 a5)) (k : ∀ a1 a2 a3 a4 a5, p1 a1 a2 a3 a4 a5 → p2 a1 a2 a3 a4 a5 → p3 a1 a2 a3 a4 a5 → p4 a1 a2 a3 a4 a5 → p5 a1 a2 a3 a4 a5 → p6 a1 a2 a3 a4 a5 → p7 a1 a2 a3 a4 a5 → p8 a1 a2 a3 a4 a5 → p9 a1 a2 a3 a4 a5 → p10 a1 a2 a3 a4 a5 → p11 a1 a2 a3 a4 a5 → g) : g := by
  obtain ⟨a1, a2, a3, a4, a5, h1, h2, h3, h4, h5, h6, h7, h8, h9, h10, h11⟩ := h
  exact k a1 a2 a3 a4 a5 h1 h2 h3 h4 h5 h6 h7 h8 h9 h10 h11
theorem x6c5 {A1 : Type} {A2 : Type} {A3 : Type} {A4 : Type} {A5 : Type} {A6 : Type} {p1 p2 p3 p4 p5 : A1 → A2 → A3 → A4 → A5 → A6 → Prop} {g : Prop} (h : X6 fun a1 a2 a3 a4 a5 a6 => C5 (p1 a1 a2 a3 a4 a5 a6) (p2 a1 a2 a3 a4 a5 a6) (p3 a1 a2 a3 a4 a5 a6) (p4 a1 a2 a3 a4 a5 a6) (p5 a1 a2 a3 a4 a5 a6)) (k : ∀ a1 a2 a3 a4 a5 a6, p1 a1 a2 a3 a4 a5 a6 → p2 a1 a2 a3 a4 a5 a6 → p3 a1 a2 a3 a4 a5 a6 → p4 a1 a2 a3 a4 a5 a6 → p5 a1 a2 a3 a4 a5 a6 → g) : g := by
  obtain ⟨a1, a2, a3, a4, a5, a6, h1, h2, h3, h4, h5⟩ := h
  exact k a1 a2 a3 a4 a5 a6 h1 h2 h3 h4 h5
theorem x6c7 {A1 : Type} {A2 : Type} {A3 : Type} {A4 : Type} {A5 : Type} {A6 : Type} {p1 p2 p3 p4 p5 p6 p7 : A1 → A2 → A3 → A4 → A5 → A6 → Prop} {g : Prop} (h : X6 fun a1 a2 a3 a4 a5 a6 => C7 (p1 a1 a2 a3 a4 a5 a6) (p2 a1 a2 a3 a4 a5 a6) (p3 a1 a2 a3 a4 a5 a6) (p4 a1 a2 a3 a4 a5 a6) (p5 a1 a2 a3 a4 a5 a6) (p6 a1 a2 a3 a4 a5 a6) (p7 a1 a2 a3 a4 a5 a6)) (k : ∀ a1 a2 a3 a4 a5 a6, p1 a1 a2 a3 a4 a5 a6 → p2 a1 a2 a3 a4 a5 a6 → p3 a1 a2 a3 a4 a5 a6 → p4 a1 a2 a3 a4 a5 a6 → p5 a1 a2 a3 a4 a5 a6 → p6 a1 a2 a3 a4 a5 a6 → p7 a1 a2 a3 a4 a5 a6 → g) : g := by
  obtain ⟨a1, a2, a3, a4, a5, a6, h1, h2, h3, h4, h5, h6, h7⟩ := h
  exact k a1 a2 a3 a4 a5 a6 h1 h2 h3 h4 h5 h6 h7
theorem x6c8 {A1 : Type} {A2 : Type} {A3 : Type} {A4 : Type} {A5 : Type} {A6 : Type} {p1 p2 p3 p4 p5 p6 p7 p8 : A1 → A2 → A3 → A4 → A5 → A6 → Prop} {g : Prop} (h : X6 fun a1 a2 a3 a4 a5 a6 => C8 (p1 a1 a2 a3 a4 a5 a6) (p2 a1 a2 a3 a4 a5 a6) (p3 a1 a2 a3 a4 a5 a6) (p4 a1 a2 a3 a4 a5 a6) (p5 a1 a2 a3 a4 a5 a6) (p6 a1 a2 a3 a4 a5 a6) (p7 a1 a2 a3 a4 a5 a6) (p8 a1 a2 a3 a4 a5 a6)) (k : ∀ a1 a2 a3 a4 a5 a6, p1 a1 a2 a3 a4 a5 a6 → p2 a1 a2 a3 a4 a5 a6 → p3 a1 a2 a3 a4 a5 a6 → p4 a1 a2 a3 a4 a5 a6 → p5 a1 a2 a3 a4 a5 a6 → p6 a1 a2 a3 a4 a5 a6 → p7 a1 a2 a3 a4 a5 a6 → p8 a1 a2 a3 a4 a5 a6 → g) : g := by
  obtain ⟨a1, a2, a3, a4, a5, a6, h1, h2, h3, h4, h5, h6, h7, h8⟩ := h
  exact k a1 a2 a3 a4 a5 a6 h1 h2 h3 h4 h5 h6 h7 h8
theorem x7c12 {A1 : Type} {A2 : Type} {A3 : Type} {A4 : Type} {A5 : Type} {A6 : Type} {A7 : Type} {p1 p2 p3 p4 p5 p6 p7 p8 p9 p10 p11 p12 : A1 → A2 → A3 → A4 → A5 → A6 → A7 → Prop} {g : Prop} (h : X7 fun a1 a2 a3 a4 a5 a6 a7 => C12 (p1 a1 a2 a3 a4 a5 a6 a7) (p2 a1 a2 a3 a4 a5 a6 a7) (p3 a1 a2 a3 a4 a5 a6 a7) (p4 a1 a2 a3 a4 a5 a6 a7) (p5 a1 a2 a3 a4 a5 a6 a7) (p6 a1 a2 a3 a4 a5 a6 a7) (p7 a1 a2 a3 a4 a5 a6 a7) (p8 a1 a2 a3 a4 a5 a6 a7) (p9 a1 a2 a3 a4 a5 a6 a7) (p10 a1 a2 a3 a4 a5 a6 a7) (p11 a1 a2 a3 a4 a5 a6 a7) (p12 a1 a2 a3 a4 a5 a6 a7)) (k : ∀ a1 a2 a3 a4 a5 a6 a7, p1 a1 a2 a3 a4 a5 a6 a7 → p2 a1 a2 a3 a4 a5 a6 a7 → p3 a1 a2 a3 a4 a5 a6 a7 → p4 a1 a2 a3 a4 a5 a6 a7 → p5 a1 a2 a3 a4 a5 a6 a7 → p6 a1 a2 a3 a4 a5 a6 a7 → p7 a1 a2 a3 a4 a5 a6 a7 → p8 a1 a2 a3 a4 a5 a6 a7 → p9 a1 a2 a3 a4 a5 a6 a7 → p10 a1 a2 a3 a4 a5 a6 a7 → p11 a1 a2 a3 a4 a5 a6 a7 → p12 a1 a2 a3 a4 a5 a6 a7 → g) : g := by
  obtain ⟨a1, a2, a3, a4, a5, a6, a7, h1, h2, h3, h4, h5, h6, h7, h8, h9, h10, h11, h12⟩ := h
  exact k a1 a2 a3 a4 a5 a6 a7 h1 h2 h3 h4 h5 h6 h7 h8 h9 h10 h11 h12
theorem x12c1 {A1 : Type} {A2 : Type} {A3 : Type} {A4 : Type} {A5 : Type} {A6 : Type} {A7 : Type} {A8 : Type} {A9 : Type} {A10 : Type} {A11 : Type} {A12 : Type} {p1 : A1 → A2 → A3 → A4 → A5 → A6 → A7 → A8 → A9 → A10 → A11 → A12 → Prop} {g : Prop} (h : X12 fun a1 a2 a3 a4 a5 a6 a7 a8 a9 a10 a11 a12 => p1 a1 a2 a3 a4 a5 a6 a7 a8 a9 a10 a11 a12) (k : ∀ a1 a2 a3 a4 a5 a6 a7 a8 a9 a10 a11 a12, p1 a1 a2 a3 a4 a5 a6 a7 a8 a9 a10 a11 a12 → g) : g := by
  obtain ⟨a1, a2, a3, a4, a5, a6, a7, a8, a9, a10, a11, a12, h1⟩ := h
  exact k a1 a2 a3 a4 a5 a6 a7 a8 a9 a10 a11 a12 h1
theorem x13c1 {A1 : Type} {A2 : Type} {A3 : Type} {A4 : Type} {A5 : Type} {A6 : Type} {A7 : Type} {A8 : Type} {A9 : Type} {A10 : Type} {A11 : Type} {A12 : Type} {A13 : Type} {p1 : A1 → A2 → A3 → A4 → A5 → A6 → A7 → A8 → A9 → A10 → A11 → A12 → A13 → Prop} {g : Prop} (h : X13 fun a1 a2 a3 a4 a5 a6 a7 a8 a9 a10 a11 a12 a13 => p1 a1 a2 a3 a4 a5 a6 a7 a8 a9 a10 a11 a12 a13) (k : ∀ a1 a2 a3 a4 a5 a6 a7 a8 a9 a10 a11 a12 a13, p1 a1 a2 a3 a4 a5 a6 a7 a8 a9 a10 a11 a12 a13 → g) : g := by
  obtain ⟨a1, a2, a3, a4, a5, a6, a7, a8, a9, a10, a11, a12, a13, h1⟩ := h
  exact k a1 a2 a3 a4 a5 a6 a7 a8 a9 a10 a11 a12 a13 h1

/-! ### heaps -/
noncomputable abbrev Kp (h h' : Heap) : Prop := ∀ b o, h.get? b = some o → h'.get? b = some o
theorem Kp.rfl' {h : Heap} : Kp h h := fun _ _ e => e
theorem Kp.tr {h h' h'' : Heap} (a : Kp h h') (b : Kp h' h'') : Kp h h'' := fun x o e => b x o (a x o e)
theorem Kp.push (h : Heap) (o : Obj) : Kp h (h.push o) := fun _ _ e => Heap.get?_push_of_some o e

/-- not a tuple -/
noncomputable def NT (o : Obj) : Prop := o.cls = .type "tuple" → ∀ xs n, o.data ≠ .seq xs n
noncomputable def Imm (h h' : Heap) : Prop := ∀ a xs, IsTup h a xs → IsTup h' a xs
theorem Imm.rfl' {h : Heap} : Imm h h := fun _ _ e => e
theorem Imm.tr {h h' h'' : Heap} (a : Imm h h') (b : Imm h' h'') : Imm h h'' := fun x o e => b x o (a x o e)
theorem Imm.kp {h h' : Heap} (k : Kp h h') : Imm h h' := fun _ _ ⟨o, e, r⟩ => ⟨o, k _ _ e, r⟩
theorem Imm.ext {h h' : Heap} {a : Addr} {o : Obj} (x : Heap.ExtBut a h h') (ho : h.get? a = some o) (nt : NT o) : Imm h h' := by
  intro b xs ⟨ob, e, hc, n, hd⟩
  refine ⟨ob, x b ob ?_ e, hc, n, hd⟩
  rintro rfl
  rw [ho] at e; cases e
  exact nt hc _ _ hd

noncomputable abbrev OP := Obj → Prop
/-- B: the law's own base; H: the heap at the entry; S: what may be changed of H; ow: what is owned (pairwise apart) -/
structure St (B H : Heap) (S : List Addr) (ow : List (Addr × OP)) (h : Heap) : Prop where
  kb : Kp B h
  base : ∀ b o, b ∉ S → H.get? b = some o → h.get? b = some o
  own : ∀ p ∈ ow, ∃ o, h.get? p.1 = some o ∧ p.2 o ∧ NT o
  new : ∀ p ∈ ow, B.get? p.1 = none ∧ (H.get? p.1 = none ∨ p.1 ∈ S)
  nd : (ow.map (·.1)).Nodup
  sub : ∀ b ∈ S, b ∈ ow.map (·.1)

theorem nodup_at {α : Type} : ∀ {l : List α} {i j : Nat} {a : α}, l.Nodup → l[i]? = some a → l[j]? = some a → i = j
  | [], _, _, _, _, h, _ => by simp at h
  | x :: l, 0, 0, _, _, _, _ => rfl
  | x :: l, 0, j + 1, a, nd, h1, h2 => by
    rw [List.getElem?_cons_zero] at h1; rw [List.getElem?_cons_succ] at h2
    cases h1; exact absurd (List.mem_of_getElem? h2) (List.nodup_cons.mp nd).1
  | x :: l, i + 1, 0, a, nd, h1, h2 => by
    rw [List.getElem?_cons_zero] at h2; rw [List.getElem?_cons_succ] at h1
    cases h2; exact absurd (List.mem_of_getElem? h1) (List.nodup_cons.mp nd).1
  | x :: l, i + 1, j + 1, a, nd, h1, h2 => by
    rw [List.getElem?_cons_succ] at h1 h2
    rw [nodup_at (List.nodup_cons.mp nd).2 h1 h2]
theorem set_same {α : Type} : ∀ {l : List α} {i : Nat} {a : α}, l[i]? = some a → l.set i a = l
  | [], _, _, h => by simp at h
  | x :: l, 0, _, h => by rw [List.getElem?_cons_zero] at h; cases h; rfl
  | x :: l, i + 1, a, h => by rw [List.getElem?_cons_succ] at h; rw [List.set_cons_succ, set_same h]

namespace St
variable {B H h h' : Heap} {S : List Addr} {ow : List (Addr × OP)}
theorem kp (x : St B H S ow h) (k : Kp h h') : St B H S ow h' :=
  ⟨x.kb.tr k, fun b o hb e => k _ _ (x.base b o hb e), fun p hp => let ⟨o, e, r⟩ := x.own p hp; ⟨o, k _ _ e, r⟩, x.new, x.nd, x.sub⟩
theorem push (x : St B H S ow h) (o : Obj) : St B H S ow (h.push o) := x.kp (Kp.push h o)

theorem upd (x : St B H S ow h) (i : Nat) {a : Addr} {p p' : OP} (hi : ow[i]? = some (a, p)) (hs : Heap.ExtBut a h h') (ho : ∃ o, h'.get? a = some o ∧ p' o ∧ NT o) :
    St B H S (ow.set i (a, p')) h' ∧ Imm h h' := by
  have hm : (a, p) ∈ ow := List.mem_of_getElem? hi
  obtain ⟨oa, ea, _, nta⟩ := x.own _ hm
  obtain ⟨nB, nH⟩ := x.new _ hm
  have hlt : i < ow.length := (List.getElem?_eq_some_iff.mp hi).1
  have hkeys : (ow.set i (a, p')).map (·.1) = ow.map (·.1) := by
    rw [List.map_set]
    have : (ow.map (·.1))[i]? = some a := by rw [List.getElem?_map, hi]; rfl
    exact set_same this
  refine ⟨⟨fun b o e => hs b o (fun q => ?_) (x.kb b o e), fun b o hb e => hs b o (fun q => ?_) (x.base b o hb e), fun q hq => ?_, fun q hq => ?_, ?_, ?_⟩, Imm.ext hs ea nta⟩
  · rw [q] at e; rw [nB] at e; cases e
  · subst q
    rcases nH with nH | nH
    · rw [nH] at e; cases e
    · exact hb nH
  · rcases List.getElem?_of_mem hq with ⟨j, hj⟩
    by_cases hij : i = j
    · subst hij
      rw [List.getElem?_set_self hlt] at hj
      cases hj; exact ho
    · rw [List.getElem?_set_ne hij] at hj
      have hqm : q ∈ ow := List.mem_of_getElem? hj
      obtain ⟨o, e, r⟩ := x.own q hqm
      refine ⟨o, hs _ _ (fun q' => ?_) e, r⟩
      have h1 : (ow.map (·.1))[i]? = some a := by rw [List.getElem?_map, hi]; rfl
      have h2 : (ow.map (·.1))[j]? = some a := by rw [List.getElem?_map, hj]; exact congrArg some q'
      exact hij (nodup_at x.nd h1 h2)
  · rcases List.mem_or_eq_of_mem_set hq with hq | rfl
    · exact x.new q hq
    · exact ⟨nB, nH⟩
  · rw [hkeys]; exact x.nd
  · rw [hkeys]; exact x.sub

theorem add (x : St B H S ow h) {a : Addr} {p : OP} (hn : h.get? a = none) (k : Kp h h') (ho : ∃ o, h'.get? a = some o ∧ p o ∧ NT o) :
    St B H S ((a, p) :: ow) h' := by
  have y := x.kp k
  have hnin : a ∉ ow.map (·.1) := fun q => by
    obtain ⟨p, hp, rfl⟩ := List.mem_map.mp q
    obtain ⟨o, e, _⟩ := x.own p hp
    rw [hn] at e; cases e
  refine ⟨y.kb, y.base, fun q hq => ?_, fun q hq => ?_, ?_, fun b hb => ?_⟩
  · rcases List.mem_cons.mp hq with rfl | hq
    · exact ho
    · exact y.own q hq
  · rcases List.mem_cons.mp hq with rfl | hq
    · refine ⟨?_, ?_⟩
      · cases e : B.get? a with
        | none => rfl
        | some o => have := x.kb _ _ e; rw [hn] at this; cases this
      · cases e : H.get? a with
        | none => exact .inl rfl
        | some o =>
          refine .inr (Classical.byContradiction fun hS => ?_)
          have := x.base _ _ hS e; rw [hn] at this; cases this
    · exact y.new q hq
  · rw [List.map_cons, List.nodup_cons]; exact ⟨hnin, y.nd⟩
  · exact List.mem_cons_of_mem _ (x.sub b hb)

theorem addPush (x : St B H S ow h) {p : OP} {o : Obj} (hf : o.isFreed = false) (hp : p o) (nt : NT o) : St B H S ((h.objs.size, p) :: ow) (h.push o) :=
  x.add (Heap.get?_none_of_le (Nat.le_refl _)) (Kp.push h o) ⟨o, Heap.get?_push_size _ hf, hp, nt⟩

theorem tail {a : Addr × OP} (x : St B H S (a :: ow) h) (ha : a.1 ∉ S) : St B H S ow h :=
  ⟨x.kb, x.base, fun p hp => x.own p (.tail _ hp), fun p hp => x.new p (.tail _ hp), (List.nodup_cons.mp x.nd).2, fun b hb => by
    have := x.sub b hb
    rw [List.map_cons] at this
    rcases List.mem_cons.mp this with e | h
    · exact absurd hb (by rw [e]; exact ha)
    · exact h⟩

/-- weaken one owned predicate -/
theorem weak (x : St B H S ow h) (i : Nat) {a : Addr} {p p' : OP} (hi : ow[i]? = some (a, p)) (hp : ∀ o, h.get? a = some o → p o → p' o) : St B H S (ow.set i (a, p')) h := by
  obtain ⟨o, e, r, nt⟩ := x.own _ (List.mem_of_getElem? hi)
  exact (x.upd i hi (Heap.ExtBut.refl _ _) ⟨o, e, hp o e r, nt⟩).1

theorem get (x : St B H S ow h) (i : Nat) {a : Addr} {p : OP} (hi : ow[i]? = some (a, p)) : ∃ o, h.get? a = some o ∧ p o ∧ NT o := x.own _ (List.mem_of_getElem? hi)
theorem off (x : St B H S ow h) (i : Nat) {a : Addr} {p : OP} (hi : ow[i]? = some (a, p)) : B.get? a = none := (x.new _ (List.mem_of_getElem? hi)).1
theorem kpH (x : St B H [] ow h) : Kp H h := fun b o e => x.base b o List.not_mem_nil e
theorem ne (x : St B H S ow h) {i j : Nat} {a b : Addr} {p q : OP} (hi : ow[i]? = some (a, p)) (hj : ow[j]? = some (b, q)) (hij : i ≠ j) : a ≠ b := by
  rintro rfl
  have h1 : (ow.map (·.1))[i]? = some a := by rw [List.getElem?_map, hi]; rfl
  have h2 : (ow.map (·.1))[j]? = some a := by rw [List.getElem?_map, hj]; rfl
  exact hij (nodup_at x.nd h1 h2)
end St

/-! ### what is owned -/
noncomputable def nsP (m : Str → Option Value) : OP := fun o => ∃ es ep, o.data = .dict es ep ∧ StrKeys es ∧ ∀ name, nsFind es name = m name
noncomputable def cellP (v : Option Value) : OP := fun o => o.data = .cell v
noncomputable def listP (xs : Array Value) : OP := fun o => ∃ n, o = { cls := .type "list", data := .seq xs n }
noncomputable def litP (l : Addr) (i : Nat) : OP := fun o => o.cls = .type "list_iterator" ∧ o.data = .fields #[.ref l, .int i 0]
noncomputable def titP (l : Addr) (i : Nat) : OP := fun o => o.cls = .type "tuple_iterator" ∧ o.data = .fields #[.ref l, .int i 0]
noncomputable def anyP : OP := fun _ => True
theorem nt_data {o : Obj} (h : ∀ xs n, o.data ≠ .seq xs n) : NT o := fun _ => h
theorem nt_cls {o : Obj} (h : o.cls ≠ .type "tuple") : NT o := fun e => absurd e h
theorem nsP.nt {m o} (x : nsP m o) : NT o := by obtain ⟨es, ep, e, _⟩ := x; exact nt_data fun _ _ q => by rw [e] at q; cases q
theorem cellP.nt {v o} (x : cellP v o) : NT o := nt_data fun _ _ q => by rw [x] at q; cases q
theorem listP.nt {v o} (x : listP v o) : NT o := by obtain ⟨n, rfl⟩ := x; exact nt_cls (show Value.type "list" ≠ Value.type "tuple" by decide)
theorem litP.nt {l i o} (x : litP l i o) : NT o := nt_cls (by rw [x.1]; decide)
theorem titP.nt {l i o} (x : titP l i o) : NT o := nt_cls (by rw [x.1]; decide)

theorem nsP_ns {h : Heap} {a : Addr} {m : Str → Option Value} : h.Ns a m ↔ ∃ o, h.get? a = some o ∧ nsP m o :=
  ⟨fun ⟨o, es, ep, e, r⟩ => ⟨o, e, es, ep, r⟩, fun ⟨o, e, es, ep, r⟩ => ⟨o, es, ep, e, r⟩⟩
namespace St
variable {B H h h' : Heap} {S : List Addr} {ow : List (Addr × OP)}
theorem ns (x : St B H S ow h) (i : Nat) {a : Addr} {m : Str → Option Value} (hi : ow[i]? = some (a, nsP m)) : h.Ns a m := let ⟨o, e, r, _⟩ := x.get i hi; nsP_ns.mpr ⟨o, e, r⟩
theorem cell (x : St B H S ow h) (i : Nat) {a : Addr} {v : Option Value} (hi : ow[i]? = some (a, cellP v)) : h.IsCell a v := let ⟨o, e, r, _⟩ := x.get i hi; ⟨o, e, r⟩
theorem plain (x : St B H S ow h) (i : Nat) {a : Addr} {v : Array Value} (hi : ow[i]? = some (a, listP v)) : h.PlainList a v := by obtain ⟨o, e, hpz1, _⟩ := x.get i hi; obtain ⟨n, rfl⟩ := hpz1; exact ⟨n, e⟩
theorem list (x : St B H S ow h) (i : Nat) {a : Addr} {v : Array Value} (hi : ow[i]? = some (a, listP v)) : h.IsList a v := (x.plain i hi).isList
theorem lit (x : St B H S ow h) (i : Nat) {a l : Addr} {k : Nat} (hi : ow[i]? = some (a, litP l k)) : h.IsListIter a l k := let ⟨o, e, r, _⟩ := x.get i hi; ⟨o, e, r⟩
theorem tit (x : St B H S ow h) (i : Nat) {a l : Addr} {k : Nat} (hi : ow[i]? = some (a, titP l k)) : IsTupIter h a l k := let ⟨o, e, r, _⟩ := x.get i hi; ⟨o, e, r⟩

theorem setNs (x : St B H S ow h) (i : Nat) {a : Addr} {p : OP} {m : Str → Option Value} (hi : ow[i]? = some (a, p)) (hs : Heap.SameBut a h h') (hn : h'.Ns a m) : St B H S (ow.set i (a, nsP m)) h' ∧ Imm h h' :=
  x.upd i hi hs.extBut (let ⟨o, e, r⟩ := nsP_ns.mp hn; ⟨o, e, r, r.nt⟩)
theorem setCell (x : St B H S ow h) (i : Nat) {a : Addr} {p : OP} {v : Option Value} (hi : ow[i]? = some (a, p)) (hs : Heap.SameBut a h h') (hn : h'.IsCell a v) : St B H S (ow.set i (a, cellP v)) h' ∧ Imm h h' :=
  x.upd i hi hs.extBut (let ⟨o, e, r⟩ := hn; ⟨o, e, r, cellP.nt r⟩)
theorem setList (x : St B H S ow h) (i : Nat) {a : Addr} {p : OP} {v : Array Value} (hi : ow[i]? = some (a, p)) (hs : Heap.SameBut a h h') (hn : h'.PlainList a v) : St B H S (ow.set i (a, listP v)) h' ∧ Imm h h' :=
  x.upd i hi hs.extBut (let ⟨n, e⟩ := hn; ⟨_, e, ⟨n, rfl⟩, listP.nt ⟨n, rfl⟩⟩)
theorem setLit (x : St B H S ow h) (i : Nat) {a l : Addr} {k : Nat} {p : OP} (hi : ow[i]? = some (a, p)) (hs : Heap.SameBut a h h') (hn : h'.IsListIter a l k) : St B H S (ow.set i (a, litP l k)) h' ∧ Imm h h' :=
  x.upd i hi hs.extBut (let ⟨o, e, r⟩ := hn; ⟨o, e, r, litP.nt r⟩)
theorem setTit (x : St B H S ow h) (i : Nat) {a l : Addr} {k : Nat} {p : OP} (hi : ow[i]? = some (a, p)) (hs : Heap.SameBut a h h') (hn : IsTupIter h' a l k) : St B H S (ow.set i (a, titP l k)) h' ∧ Imm h h' :=
  x.upd i hi hs.extBut (let ⟨o, e, r⟩ := hn; ⟨o, e, r, titP.nt r⟩)
end St

/-! ### the text's world -/
noncomputable abbrev KK (w : World) : Frag := hd.heap_39 w.params
structure Wd (w : World) (B : Heap) : Prop where
  kin : (KK w).In B
  top : ∃ mg mb, TopRead hd.view_39 (looseW hd.view_39 []) mg mb B

noncomputable def Room (A : Around) (n : Nat) : Prop := A.handled = none ∧ A.depth + n < recursionLimit ∧ A.units + 8 * n + 100 < cLine
theorem Room.mono {A : Around} {n m : Nat} (x : Room A n) (h : m ≤ n) : Room A m := ⟨x.1, by have := x.2.1; lia, by have := x.2.2; lia⟩
theorem Room.deeper {A : Around} {n : Nat} {env : Env} (x : Room A (n + 1)) : Room (A.deeper env) n :=
  ⟨x.1, by have := x.2.1; show A.depth + 1 + n < _; lia, by have := x.2.2; show A.units + 3 + 8 * n + 100 < _; lia⟩
theorem Room.in1 {A : Around} {n : Nat} (x : Room A (n + 1)) : Room A.in1 n :=
  ⟨x.1, by have := x.2.1; show A.depth + n < _; exact Nat.lt_of_succ_lt (by assumption), by have := x.2.2; show A.units + 1 + 8 * n + 100 < _; lia⟩
theorem Room.hh {A : Around} {n : Nat} (x : Room A n) : A.handled = none := x.1
theorem Room.units {A : Around} {n : Nat} (x : Room A n) : A.units < cLine := by have := x.2.2; lia
theorem Room.units64 {A : Around} {n : Nat} (x : Room A n) : A.units + 64 < cLine := by have := x.2.2; lia

section
variable {prog : Program} {w : World} {B : Heap} {A : Around} {E : Value → Shared → Prop} {s : Shared}

theorem enter {R : Result → Shared → Prop} {f : Addr} {fd : FuncData} {body : List Stmt} {vals : List Value} {binds : List (Str × Value)} {oc : Value} {od : Option Addr} {osl : Array (Option Value)} {n : Nat}
    (W : Wd w B) (kb : Kp B s.heap) (hr : Room A (n + 1))
    (hK : (KK w).lookup f = some ⟨oc, od, .func fd, osl⟩) (hcd : codeIn (KK w) fd.code fd.qualname = true)
    (hbody : fd.body = .stmts body) (hbind : bindArgs fd ⟨vals, []⟩ = pure binds) (hclo : fd.closure = [])
    (hkind : (binds.all fun y => fd.scope.names.lookup y.1 == some .local || fd.scope.names.lookup y.1 == some .cell) = true)
    (hnd : ((cellsFrom 0 fd.scope.names []).map (·.1)).Nodup)
    (hco : fd.scope.isCoroutine = false) (hgen : fd.scope.isGenerator = false) (hk : fd.scope.kind = .function)
    (h : ∀ L h₁ tk, s.heap.get? L = none → s.heap.objs.size ≤ L →
      St B s.heap [] ((L, nsP (bindL (callEnvC fd L f).kindOf binds fun _ => none)) :: (callEnvC fd L f).cells.map fun c => (c.2, cellP (bindC (callEnvC fd L f).kindOf binds (fun _ => none) c.1))) h₁ →
      wpAny (model prog w) (A.deeper (callEnvC fd L f)) (execs body (callEnvC fd L f)) (fun fl s' => R (.ok (.ret (match fl with | .ret v => v | _ => .none))) s')
        (fun e s' => wpAny (model prog w) (A.deeper (callEnvC fd L f)) (leaving (callEnvC fd L f) e) (fun _ s'' => R (.error e) s'') (fun e' s'' => R (.error e') s'') s')
        { s with heap := h₁, toks := tk }) :
    codeAny (model prog w) A (.call (.ref f) ⟨vals, []⟩) R s := by
  refine e21 W.top fun mg mb T => ?_
  refine codeAny_call_cells (by have := hr.2.1; lia) (kb _ _ (W.kin _ _ hK)) rfl (T.nolimit.keeps kb) (codeRec_of (W.kin.keeps kb) hcd) hbody hbind hclo ?_ (fun s₁ x => ?_) hco hgen hk
  · intro x hx
    have := List.all_eq_true.mp hkind x hx
    rcases Bool.or_eq_true_iff.mp this with q | q
    · exact .inl (by simpa using q)
    · have q' : fd.scope.names.lookup x.1 = some .cell := by simpa using q
      exact .inr ⟨q', cellsFrom_some _ _ _ (.inl q')⟩
  · have hLn : s.heap.get? s.heap.objs.size = none := Heap.get?_none_of_le (Nat.le_refl _)
    refine e21 x.toInCall.same fun h₁ tk hs₁ => ?_
    subst hs₁
    refine h s.heap.objs.size h₁ tk hLn (Nat.le_refl _) ?_
    have hk₁ : Kp s.heap h₁ := x.toInCall.keep
    have hce : (callEnvC fd s.heap.objs.size f).cells = cellsFrom (s.heap.objs.size + 1) fd.scope.names [] := rfl
    have hnd' : (((callEnvC fd s.heap.objs.size f).cells).map (·.1)).Nodup := by
      rw [hce, ← cellsFrom_names fd.scope.names 0 (s.heap.objs.size + 1) [] [] rfl]
      exact hnd
    have hap := x.apart
    have hab := x.above
    refine ⟨kb.tr hk₁, fun b o _ e => hk₁ b o e, fun p hp => ?_, fun p hp => ?_, ?_, fun b hb => absurd hb List.not_mem_nil⟩
    · rcases List.mem_cons.mp hp with rfl | hp
      · refine e12 (nsP_ns.mp x.toInCall.ns) fun o e r => ?_
        exact ⟨o, e, r, r.nt⟩
      · (refine e12 (List.mem_map.mp hp) fun c hc hq2 => ?_; subst hq2)
        refine e12 (x.cell c.1 c.2 (lookup_of_mem_nodup hnd' hc)) fun o e r => ?_
        exact ⟨o, e, r, cellP.nt r⟩
    · have key : ∀ a, s.heap.objs.size ≤ a → B.get? a = none ∧ (s.heap.get? a = none ∨ a ∈ ([] : List Addr)) := fun a ha => by
        have : s.heap.get? a = none := Heap.get?_none_of_le ha
        refine ⟨?_, .inl this⟩
        cases e : B.get? a with
        | none => rfl
        | some o => have := kb _ _ e; simp_all
      rcases List.mem_cons.mp hp with rfl | hp
      · exact key _ (Nat.le_refl _)
      · (refine e12 (List.mem_map.mp hp) fun c hc hq2 => ?_; subst hq2)
        exact key _ (Nat.le_of_lt (hab c.1 c.2 hc))
    · rw [List.map_cons, List.map_map, List.nodup_cons]
      refine ⟨fun q => ?_, ?_⟩
      · refine e12 (List.mem_map.mp q) fun c hc e => ?_
        have := hab c.1 c.2 hc
        exact Nat.ne_of_gt this e
      · exact List.pairwise_map.mpr hap

noncomputable abbrev up (m : Str → Option Value) (x : Str) (v : Value) : Str → Option Value := fun y => if y = x then some v else m y
noncomputable abbrev nil0 : Str → Option Value := fun _ => none

structure EnvOk (env : Env) : Prop where
  gl : env.globals = mainGlobals
  bi : env.builtins = builtinsNs
  fk : env.scope.kind = .function

theorem hide {α : Type} {M : Model} {x : Sem α} {Q : α → Shared → Prop} (h : ∀ Q' : α → Shared → Prop, (∀ v s', Q v s' → Q' v s') → wpAny M A x Q' E s) : wpAny M A x Q E s := h Q fun _ _ h => h
theorem cps {α : Type} {M : Model} {x : Sem α} {Q : α → Shared → Prop} {P : (α → Shared → Prop) → Prop} (h1 : ∀ Q', P Q' → wpAny M A x Q' E s) (h2 : P Q) : wpAny M A x Q E s := h1 Q h2
theorem hideE {α : Type} {M : Model} {x : Sem α} {Q : α → Shared → Prop} (h : ∀ Q' : α → Shared → Prop, (∀ v s', Q v s' → Q' v s') → ∀ E' : Value → Shared → Prop, wpAny M A x Q' E' s) : wpAny M A x Q E s := h Q (fun _ _ h => h) E
/-- a call of one of the text's defs: its frame -/
theorem enterXr {R : Result → Shared → Prop} {f : Addr} {vals : List Value} {n : Nat} (cl : Addr → List (Str × Addr)) (ow : Addr → List (Addr × OP))
    {name qual : Str} {params : Arguments} {body : List Stmt} {scope : Scope} {dV kV doc pm cdv ct oc : Value} {an od : Option Addr} {osl : Array (Option Value)} {binds : List (Str × Value)}
    (W : Wd w B) (kb : Kp B s.heap) (hr : Room A (n + 1))
    (h : ∀ L h₁ tk, EnvOk (envX qual scope L f cdv (cl L)) → s.heap.get? L = none → St B s.heap [] (ow L) h₁ →
      wpAny (model prog w) (A.deeper (envX qual scope L f cdv (cl L))) (execs body (envX qual scope L f cdv (cl L))) (fun fl s' => R (.ok (.ret (match fl with | .ret v => v | _ => .none))) s')
        (fun e s' => wpAny (model prog w) (A.deeper (envX qual scope L f cdv (cl L))) (leaving (envX qual scope L f cdv (cl L)) e) (fun _ s'' => R (.error e) s'') (fun e' s'' => R (.error e') s'') s')
        { s with heap := h₁, toks := tk })
    (hK : autoParam ((KK w).lookup f = some ⟨oc, od, .func (fnOf name qual params body scope dV kV doc pm an cdv ct), osl⟩) aRfl)
    (hbind : autoParam (bindArgs (fnOf name qual params body scope dV kV doc pm an cdv ct) ⟨vals, []⟩ = pure binds) aRfl)
    (hcl : autoParam (∀ L, cellsFrom (L + 1) scope.names [] = cl L) aIRfl)
    (how : autoParam (∀ L, (L, nsP (bindL (envX qual scope L f cdv (cl L)).kindOf binds fun _ => none)) :: (cl L).map (fun c => (c.2, cellP (bindC (envX qual scope L f cdv (cl L)).kindOf binds (fun _ => none) c.1))) = ow L) aIRfl)
    (hcd : autoParam (codeIn (KK w) cdv qual = true) aKr)
    (hkind : autoParam ((binds.all fun y => scope.names.lookup y.1 == some .local || scope.names.lookup y.1 == some .cell) = true) aRfl)
    (hnd : autoParam (((cellsFrom 0 scope.names []).map (·.1)).Nodup) aDec)
    (hco : autoParam (scope.isCoroutine = false) aRfl) (hgen : autoParam (scope.isGenerator = false) aRfl) (hk : autoParam (scope.kind = .function) aRfl) :
    codeAny (model prog w) A (.call (.ref f) ⟨vals, []⟩) R s := by
  refine enter W kb hr hK hcd rfl hbind rfl hkind hnd hco hgen hk (fun L h₁ tk hL hs S => ?_)
  have e : callEnvC (fnOf name qual params body scope dV kV doc pm an cdv ct) L f = envX qual scope L f cdv (cl L) := by
    rw [← hcl]; rfl
  rw [e] at S ⊢
  refine h L h₁ tk ⟨rfl, rfl, hk⟩ hL ?_
  have := how L
  rw [← this]
  exact S
/-- a call of one of the text's defs that raises nothing -/
theorem enterX {R : Result → Shared → Prop} {f : Addr} {vals : List Value} {n : Nat} (cl : Addr → List (Str × Addr)) (ow : Addr → List (Addr × OP))
    {name qual : Str} {params : Arguments} {body : List Stmt} {scope : Scope} {dV kV doc pm cdv ct oc : Value} {an od : Option Addr} {osl : Array (Option Value)} {binds : List (Str × Value)}
    (W : Wd w B) (kb : Kp B s.heap) (hr : Room A (n + 1))
    (h : ∀ L, let env := envX qual scope L f cdv (cl L); ∀ h₁ tk, EnvOk env → s.heap.get? L = none → St B s.heap [] (ow L) h₁ → ∀ E' : Value → Shared → Prop,
      wpAny (model prog w) (A.deeper env) (execs body env) (fun fl s' => R (.ok (.ret (match fl with | .ret v => v | _ => .none))) s') E' { s with heap := h₁, toks := tk })
    (hK : autoParam ((KK w).lookup f = some ⟨oc, od, .func (fnOf name qual params body scope dV kV doc pm an cdv ct), osl⟩) aRfl)
    (hbind : autoParam (bindArgs (fnOf name qual params body scope dV kV doc pm an cdv ct) ⟨vals, []⟩ = pure binds) aRfl)
    (hcl : autoParam (∀ L, cellsFrom (L + 1) scope.names [] = cl L) aIRfl)
    (how : autoParam (∀ L, (L, nsP (bindL (envX qual scope L f cdv (cl L)).kindOf binds fun _ => none)) :: (cl L).map (fun c => (c.2, cellP (bindC (envX qual scope L f cdv (cl L)).kindOf binds (fun _ => none) c.1))) = ow L) aIRfl)
    (hcd : autoParam (codeIn (KK w) cdv qual = true) aKr)
    (hkind : autoParam ((binds.all fun y => scope.names.lookup y.1 == some .local || scope.names.lookup y.1 == some .cell) = true) aRfl)
    (hnd : autoParam (((cellsFrom 0 scope.names []).map (·.1)).Nodup) aDec)
    (hco : autoParam (scope.isCoroutine = false) aRfl) (hgen : autoParam (scope.isGenerator = false) aRfl) (hk : autoParam (scope.kind = .function) aRfl) :
    codeAny (model prog w) A (.call (.ref f) ⟨vals, []⟩) R s := by
  exact enterXr cl ow W kb hr (fun L h₁ tk EO hL S => h L h₁ tk EO hL S _) hK hbind hcl how hcd hkind hnd hco hgen hk
end

/-- the name stands at the top of the text with this value -/
noncomputable def TopName (x : Str) (v : Value) : Prop := ∀ w, nsIn (KK w) mainGlobals x = some (some v)
noncomputable def BuiltName (x : Str) (v : Value) : Prop := (∀ w, nsIn (KK w) mainGlobals x = some none) ∧ bootBuiltins x = some v ∧ x ≠ "__name__"

section names
variable {M : Model} {w : World} {B H : Heap} {A : Around} {E : Value → Shared → Prop} {s : Shared} {env : Env} {x : Str} {pos : Pos} {v : Value} {Q : Value → Shared → Prop}
theorem nameG (W : Wd w B) (kb : Kp B s.heap) (he : EnvOk env) (e : TopName x v) (h : Q v s)
    (hx : autoParam (env.kindOf x = some .globalImplicit) aRfl) (hd : autoParam ((x == ("__debug__" : Str)) = false) aDec) : wpAny M A (eval (.Name x pos) env) Q E s := by
  refine e21 W.top fun mg mb T => ?_
  refine Name_function_global he.fk hx (loadGlobal_global (mg := mg) ?_ (mg_of W.kin T.g (e w)) h) hd
  rw [he.gl]; exact T.g.keeps kb
theorem nameB (W : Wd w B) (kb : Kp B s.heap) (he : EnvOk env) (e : BuiltName x v) (h : Q v s)
    (hx : autoParam (env.kindOf x = some .globalImplicit) aRfl) (hd : autoParam ((x == ("__debug__" : Str)) = false) aDec) : wpAny M A (eval (.Name x pos) env) Q E s := by
  refine e21 W.top fun mg mb T => ?_
  refine Name_function_global he.fk hx (loadGlobal_builtin (mg := mg) (mb := mb) ?_ (mg_none_of W.kin T.g (e.1 w)) ?_ ((T.builtins x e.2.2).trans e.2.1) h) hd
  · rw [he.gl]; exact T.g.keeps kb
  · rw [he.bi]; exact T.b.keeps kb
theorem nameL {m : Str → Option Value} (he : EnvOk env) (hn : s.heap.Ns env.locals m) (hv : m x = some v) (h : Q v s)
    (hx : autoParam (env.kindOf x = some .local) aRfl) (hd : autoParam ((x == ("__debug__" : Str)) = false) aDec) : wpAny M A (eval (.Name x pos) env) Q E s :=
  wpAny_Name (wpAny_loadName_local he.fk hx hn hv h) hd
theorem nameC {c : Addr} (he : EnvOk env) (hv : s.heap.IsCell c (some v)) (h : Q v s) (hc : autoParam (env.cells.lookup x = some c) aRfl)
    (hx : autoParam (env.kindOf x = some .cell) aRfl) (hd : autoParam ((x == ("__debug__" : Str)) = false) aDec) : wpAny M A (eval (.Name x pos) env) Q E s :=
  wpAny_Name (wpAny_loadName_cell he.fk hx hc hv h) hd
theorem storeL {m : Str → Option Value} {Q : Unit → Shared → Prop} (he : EnvOk env) (hn : s.heap.Ns env.locals m)
    (h : ∀ h', h'.Ns env.locals (up m x v) → Heap.SameBut env.locals s.heap h' → Q () { s with heap := h', toks := s.toks + 1 })
    (hx : autoParam (env.kindOf x = some .local) aRfl) : wpAny M A (storeName env x v) Q E s :=
  wpAny_storeName_local hx hn h (by rw [he.fk]; rfl)
theorem storeC {c : Addr} {v₀ : Option Value} {Q : Unit → Shared → Prop} (he : EnvOk env) (hv : s.heap.IsCell c v₀)
    (h : ∀ h', h'.IsCell c (some v) → Heap.SameBut c s.heap h' → Q () { s with heap := h' })
    (hc : autoParam (env.cells.lookup x = some c) aRfl) (hx : autoParam (env.kindOf x = some .cell) aRfl) : wpAny M A (storeName env x v) Q E s :=
  wpAny_storeName_cell he.fk hx hc hv h
end names
section
variable {M : Model} {A : Around} {E : Value → Shared → Prop} {s : Shared} {env : Env} {x : Str} {v : Value} {B H : Heap} {Ss : List Addr} {ow : List (Addr × OP)}
theorem St.storeL {a : Addr} {m : Str → Option Value} {Q : Unit → Shared → Prop} (S : St B H Ss ow s.heap) (i : Nat) (hi : ow[i]? = some (a, nsP m)) (he : EnvOk env)
    (h : ∀ h', St B H Ss (ow.set i (a, nsP (up m x v))) h' → Imm s.heap h' → Q () { s with heap := h', toks := s.toks + 1 }) (ha : autoParam (env.locals = a) aRfl) (hx : autoParam (env.kindOf x = some .local) aRfl) :
    wpAny M A (storeName env x v) Q E s := by
  subst ha
  exact Mine.storeL he (S.ns i hi) (fun h' hn hs => let ⟨S', im⟩ := S.setNs i hi hs hn; h h' S' im) hx
theorem St.storeC {c : Addr} {v₀ : Option Value} {Q : Unit → Shared → Prop} (S : St B H Ss ow s.heap) (i : Nat) (hi : ow[i]? = some (c, cellP v₀)) (he : EnvOk env)
    (h : ∀ h', St B H Ss (ow.set i (c, cellP (some v))) h' → Imm s.heap h' → Q () { s with heap := h' }) (hc : autoParam (env.cells.lookup x = some c) aRfl) (hx : autoParam (env.kindOf x = some .cell) aRfl) :
    wpAny M A (storeName env x v) Q E s :=
  Mine.storeC he (S.cell i hi) (fun h' hn hs => let ⟨S', im⟩ := S.setCell i hi hs hn; h h' S' im) hc hx
end

section calls
variable {M : Model} {w : World} {B : Heap} {A : Around} {E : Value → Shared → Prop} {s : Shared} {env : Env} {pos : Pos} {f : Value} {Q : Value → Shared → Prop}
/-- the arguments one by one -/
noncomputable def argsWp (M : Model) (A : Around) (E : Value → Shared → Prop) (env : Env) : List Expr → (List Value → Shared → Prop) → Shared → Prop
  | [], Q, s => Q [] s
  | e :: r, Q, s => wpAny M A (eval e env) (fun v s₁ => argsWp M A E env r (fun vs => Q (v :: vs)) s₁) E s
noncomputable def plainE (e : Expr) : Bool := (starEach [e] default).all fun x => !x.1
theorem star_plain {e : Expr} {r : List Expr} {env : Env} (hp : plainE e = true) : starEach (e :: r) env = (false, eval e env) :: starEach r env := by
  cases e <;> first | rfl | exact absurd hp Bool.false_ne_true
theorem spliced_args : ∀ {args : List Expr} {Q : List Value → Shared → Prop} {s : Shared}, args.all plainE = true → argsWp M A E env args Q s → wpAny M A (spliced (backTo pos (starEach args env))) Q E s
  | [], _, _, _, h => wpAny_pure h
  | e :: r, Q, s, hp, h => by
    rw [List.all_cons, Bool.and_eq_true] at hp
    refine wpAny_items_cons ?_ (star_plain hp.1)
    exact wpAny_mono h (fun v s₁ h₁ => spliced_args hp.2 h₁) fun _ _ x => x
theorem plain_any : ∀ {args : List Expr}, args.all plainE = true → (backTo pos (starEach args env)).any (·.1) = false
  | [], _ => rfl
  | e :: r, hp => by
    rw [List.all_cons, Bool.and_eq_true] at hp
    rw [star_plain hp.1]
    show (false || (backTo pos (starEach r env)).any (·.1)) = false
    rw [plain_any hp.2]; rfl

theorem callWithP {P : Heap → Prop} {first : List Value} {args : List Expr}
    (hk : ∀ h, P h → ∃ k, (k = Keeper.frame ∨ k = Keeper.machine ∨ k = Keeper.boundFrame) ∧ Looks M h (keeperOf f) k)
    (h : argsWp M A E env args (fun vs s₁ => P s₁.heap ∧ wpAny M A (call f (first ++ vs)) Q E s₁) s) (hp : autoParam (args.all plainE = true) aRfl) :
    wpAny M A (callWith pos f first (backTo pos (starEach args env)) []) Q E s := by
  refine callWith_of (P := P) (by rw [plain_any hp]; rfl) hk ?_
  cases args with
  | nil => exact evalArgs_nil3 h
  | cons e r =>
    have he := star_plain (r := r) (env := env) (Bool.and_eq_true_iff.mp (List.all_cons.symm.trans hp)).1
    have q := spliced_args (pos := pos) hp h
    rw [he] at q ⊢
    exact evalArgs_plain q
/-- a call of one of the text's defs -/
theorem callF {x : Str} {np : Pos} {a : Addr} {args : List Expr} (W : Wd w B) (kb : Kp B s.heap) (he : EnvOk env) (e : TopName x (.ref a)) (hf : ∀ w, keepIn (KK w) (.ref a) = true)
    (h : argsWp M A E env args (fun vs s₁ => Kp B s₁.heap ∧ codeAny M A (.call (.ref a) ⟨vs, []⟩) (wants Q E) s₁) s)
    (hx : autoParam (env.kindOf x = some .globalImplicit) aRfl) (hp : autoParam (args.all plainE = true) aRfl) (hd : autoParam ((x == ("__debug__" : Str)) = false) aDec) :
    wpAny M A (eval (.Call (.Name x np) args [] pos) env) Q E s := by
  refine wpAny_Call_ofName (nameG W kb he e ?_ hx hd)
  refine callWithP (P := fun h => Kp B h) (fun h hk => keeps_K (hf w) h (W.kin.keeps hk)) ?_ hp
  have key : ∀ {args : List Expr} {Q₁ Q₂ : List Value → Shared → Prop} {s : Shared}, (∀ vs s, Q₁ vs s → Q₂ vs s) → argsWp M A E env args Q₁ s → argsWp M A E env args Q₂ s := by
    intro args
    induction args with
    | nil => intro Q₁ Q₂ s i h; exact i _ _ h
    | cons e r ih => intro Q₁ Q₂ s i h; exact wpAny_mono h (fun v s₁ h₁ => ih (fun vs s => i _ s) h₁) fun _ _ x => x
  exact key (fun vs s h => ⟨h.1, wpAny_call h.2⟩) h
/-- a call of a builtin or of a builtin type -/
theorem callB {x : Str} {np : Pos} {args : List Expr} (W : Wd w B) (kb : Kp B s.heap) (he : EnvOk env) (e : BuiltName x f) (hf : keeperOf f = pure .machine)
    (h : argsWp M A E env args (fun vs s₁ => wpAny M A (call f vs) Q E s₁) s)
    (hx : autoParam (env.kindOf x = some .globalImplicit) aRfl) (hp : autoParam (args.all plainE = true) aRfl) (hd : autoParam ((x == ("__debug__" : Str)) = false) aDec) :
    wpAny M A (eval (.Call (.Name x np) args [] pos) env) Q E s := by
  refine wpAny_Call_ofName (nameB W kb he e ?_ hx hd)
  refine callWithP (P := fun _ => True) (fun h _ => ⟨.machine, .inr (.inl rfl), Looks.of_pure hf⟩) ?_ hp
  have key : ∀ {args : List Expr} {Q₁ Q₂ : List Value → Shared → Prop} {s : Shared}, (∀ vs s, Q₁ vs s → Q₂ vs s) → argsWp M A E env args Q₁ s → argsWp M A E env args Q₂ s := by
    intro args
    induction args with
    | nil => intro Q₁ Q₂ s i h; exact i _ _ h
    | cons e r ih => intro Q₁ Q₂ s i h; exact wpAny_mono h (fun v s₁ h₁ => ih (fun vs s => i _ s) h₁) fun _ _ x => x
  exact key (fun vs s h => ⟨trivial, h⟩) h
end calls

/-! ### the names of the text -/
theorem gn_is_op : TopName "is_op" (.ref 67) := fun _ => by kernel_rfl
theorem gn_is_variable : TopName "is_variable" (.ref 74) := fun _ => by kernel_rfl
theorem gn_variables : TopName "variables" (.ref 79) := fun _ => by kernel_rfl
theorem gn_placed : TopName "placed" (.ref 84) := fun _ => by kernel_rfl
theorem gn_parts : TopName "parts" (.ref 89) := fun _ => by kernel_rfl
theorem gn_matched : TopName "matched" (.ref 96) := fun _ => by kernel_rfl
theorem gn_Bank : TopName "Bank" (.ref 198) := fun _ => by kernel_rfl
theorem gn_draw : TopName "_law_draw" (.ref 209) := fun _ => by kernel_rfl
theorem gn_hand : TopName "_law_hand" (.ref 214) := fun _ => by kernel_rfl
theorem gn_one : TopName "_law_one" (.ref 219) := fun _ => by kernel_rfl
theorem gn_lparts : TopName "_law_parts" (.ref 224) := fun _ => by kernel_rfl
theorem gn_put : TopName "_law_put" (.ref 229) := fun _ => by kernel_rfl
theorem gn_tables : TopName "_law_tables" (.ref 234) := fun _ => by kernel_rfl
theorem gn_due : TopName "_law_due" (.ref 241) := fun _ => by kernel_rfl
theorem gn_other : TopName "_law_other" (.ref 248) := fun _ => by kernel_rfl
theorem gn_refused : TopName "_law_is_refused" (.ref 255) := fun _ => by kernel_rfl
theorem gn_taken : TopName "_law_taken" (.ref 260) := fun _ => by kernel_rfl
theorem gn_TermFault : TopName "TermFault" (.ref 60) := fun _ => by kernel_rfl
theorem kf_is_op (w : World) : keepIn (KK w) (.ref 67) = true := by kernel_rfl
theorem kf_is_variable (w : World) : keepIn (KK w) (.ref 74) = true := by kernel_rfl
theorem kf_variables (w : World) : keepIn (KK w) (.ref 79) = true := by kernel_rfl
theorem kf_placed (w : World) : keepIn (KK w) (.ref 84) = true := by kernel_rfl
theorem kf_parts (w : World) : keepIn (KK w) (.ref 89) = true := by kernel_rfl
theorem kf_matched (w : World) : keepIn (KK w) (.ref 96) = true := by kernel_rfl
theorem kf_Bank (w : World) : keepIn (KK w) (.ref 198) = true := by kernel_rfl
theorem kf_draw (w : World) : keepIn (KK w) (.ref 209) = true := by kernel_rfl
theorem kf_hand (w : World) : keepIn (KK w) (.ref 214) = true := by kernel_rfl
theorem kf_one (w : World) : keepIn (KK w) (.ref 219) = true := by kernel_rfl
theorem kf_lparts (w : World) : keepIn (KK w) (.ref 224) = true := by kernel_rfl
theorem kf_put (w : World) : keepIn (KK w) (.ref 229) = true := by kernel_rfl
theorem kf_tables (w : World) : keepIn (KK w) (.ref 234) = true := by kernel_rfl
theorem kf_due (w : World) : keepIn (KK w) (.ref 241) = true := by kernel_rfl
theorem kf_other (w : World) : keepIn (KK w) (.ref 248) = true := by kernel_rfl
theorem kf_refused (w : World) : keepIn (KK w) (.ref 255) = true := by kernel_rfl
theorem kf_taken (w : World) : keepIn (KK w) (.ref 260) = true := by kernel_rfl
theorem kf_TermFault (w : World) : keepIn (KK w) (.ref 60) = true := by kernel_rfl
theorem bn_len : BuiltName "len" (.builtin "len") := ⟨fun _ => by kernel_rfl, by kernel_rfl, by decide⟩
theorem bn_tuple : BuiltName "tuple" (.type "tuple") := ⟨fun _ => by kernel_rfl, by kernel_rfl, by decide⟩
theorem bn_list : BuiltName "list" (.type "list") := ⟨fun _ => by kernel_rfl, by kernel_rfl, by decide⟩
theorem bn_dict : BuiltName "dict" (.type "dict") := ⟨fun _ => by kernel_rfl, by kernel_rfl, by decide⟩
theorem bn_set : BuiltName "set" (.type "set") := ⟨fun _ => by kernel_rfl, by kernel_rfl, by decide⟩
theorem bn_int : BuiltName "int" (.type "int") := ⟨fun _ => by kernel_rfl, by kernel_rfl, by decide⟩
theorem bn_range : BuiltName "range" (.type "range") := ⟨fun _ => by kernel_rfl, by kernel_rfl, by decide⟩
theorem bn_zip : BuiltName "zip" (.type "zip") := ⟨fun _ => by kernel_rfl, by kernel_rfl, by decide⟩
theorem bn_enumerate : BuiltName "enumerate" (.type "enumerate") := ⟨fun _ => by kernel_rfl, by kernel_rfl, by decide⟩
theorem bn_sorted : BuiltName "sorted" (.builtin "sorted") := ⟨fun _ => by kernel_rfl, by kernel_rfl, by decide⟩
theorem bn_sum : BuiltName "sum" (.builtin "sum") := ⟨fun _ => by kernel_rfl, by kernel_rfl, by decide⟩
theorem bn_max : BuiltName "max" (.builtin "max") := ⟨fun _ => by kernel_rfl, by kernel_rfl, by decide⟩

inductive Op where | f | g | a | b | c | x | y | w
  deriving DecidableEq
noncomputable def Op.s : Op → Str
  | .f => "f" | .g => "g" | .a => "a" | .b => "b" | .c => "c" | .x => "?x" | .y => "?y" | .w => "?w"
noncomputable def Op.isQ : Op → Bool
  | .x | .y | .w => true
  | _ => false
theorem Op.s_inj : ∀ {p q : Op}, p.s = q.s → p = q := by
  intro p q
  cases p <;> cases q <;> first | (intro _; rfl) | (intro h; exact absurd h (by decide))
theorem Op.s_iff {p q : Op} : p.s = q.s ↔ p = q := ⟨Op.s_inj, fun h => by rw [h]⟩

inductive T where | nd (op : Op) (kids : List T)
noncomputable def T.op : T → Op | .nd o _ => o
noncomputable def T.kids : T → List T | .nd _ k => k
mutual
noncomputable def T.py : T → PyData | .nd o ks => .tuple (.str o.s :: pys ks)
noncomputable def pys : List T → List PyData | [] => [] | t :: ts => t.py :: pys ts
end
/-- at most n deep, at most nine kids a node -/
noncomputable def Wf : Nat → T → Prop
  | 0, _ => False
  | n + 1, .nd _ ks => ks.length ≤ 9 ∧ ∀ k ∈ ks, Wf n k
theorem Wf.up : ∀ {n m : Nat} {t : T}, Wf n t → n ≤ m → Wf m t
  | n + 1, m + 1, .nd _ _, h, hm => ⟨h.1, fun k hk => (h.2 k hk).up (Nat.le_of_succ_le_succ hm)⟩
  | 0, _, _, h, _ => h.elim
  | _ + 1, 0, _, _, hm => absurd hm (Nat.not_succ_le_zero _)
theorem pys_map : ∀ ts : List T, pys ts = ts.map T.py
  | [] => rfl
  | t :: ts => by rw [pys, List.map_cons, pys_map ts]

mutual
noncomputable def Rep (h : Heap) : T → Value → Prop
  | .nd o ks, v => X3 fun a tk vs => v = .ref a ∧ IsTup h a (.str o.s tk :: vs).toArray ∧ RepL h ks vs
noncomputable def RepL (h : Heap) : List T → List Value → Prop
  | [], vs => vs = []
  | t :: ts, vs => ∃ v r, vs = v :: r ∧ Rep h t v ∧ RepL h ts r
end

theorem ind2 {P : T → Prop} (h : ∀ o ks, (∀ k ∈ ks, P k) → P (.nd o ks)) : ∀ t, P t := by
  intro t
  exact T.rec (motive_1 := P) (motive_2 := fun ks => ∀ k ∈ ks, P k) (fun o ks ih => h o ks ih) (fun _ hk => nomatch hk)
    (fun t ts h1 h2 k hk => by
      rcases List.mem_cons.mp hk with rfl | hk
      · exact h1
      · exact h2 k hk) t

theorem RepL.cons_iff {h : Heap} {t : T} {ts : List T} {vs : List Value} : RepL h (t :: ts) vs ↔ ∃ v r, vs = v :: r ∧ Rep h t v ∧ RepL h ts r := by rfl
theorem Rep.iff {h : Heap} {o : Op} {ks : List T} {v : Value} : Rep h (.nd o ks) v ↔ X3 fun a tk vs => v = .ref a ∧ IsTup h a (.str o.s tk :: vs).toArray ∧ RepL h ks vs := by rfl
theorem RepL.nil_iff {h : Heap} {vs : List Value} : RepL h [] vs ↔ vs = [] := by rfl
theorem RepL.length {h : Heap} : ∀ {ts : List T} {vs : List Value}, RepL h ts vs → vs.length = ts.length
  | [], _, x => by rw [RepL.nil_iff.mp x]; rfl
  | t :: ts, vs, x => by obtain ⟨v, r, rfl, _, y⟩ := RepL.cons_iff.mp x; rw [List.length_cons, List.length_cons, y.length]
theorem RepL.at {h : Heap} : ∀ {ts : List T} {vs : List Value} {i : Nat} {v : Value}, RepL h ts vs → vs[i]? = some v → ∃ t, ts[i]? = some t ∧ Rep h t v
  | [], _, i, v, x, e => by rw [RepL.nil_iff.mp x] at e; simp at e
  | t :: ts, vs, i, v, x, e => by
    (refine e23 (RepL.cons_iff.mp x) fun u r hq2 z y => ?_; subst hq2)
    cases i with
    | zero => cases e; exact ⟨t, rfl, z⟩
    | succ i => exact y.at (i := i) e
theorem RepL.get {h : Heap} : ∀ {ts : List T} {vs : List Value} {i : Nat} {t : T}, RepL h ts vs → ts[i]? = some t → ∃ v, vs[i]? = some v ∧ Rep h t v
  | [], _, i, v, x, e => by simp at e
  | t :: ts, vs, i, v, x, e => by
    (refine e23 (RepL.cons_iff.mp x) fun u r hq2 z y => ?_; subst hq2)
    cases i with
    | zero => cases e; exact ⟨u, rfl, z⟩
    | succ i => exact y.get (i := i) e
theorem RepL.append {h : Heap} : ∀ {ts us : List T} {vs ws : List Value}, RepL h ts vs → RepL h us ws → RepL h (ts ++ us) (vs ++ ws)
  | [], us, vs, ws, x, y => by rw [RepL.nil_iff.mp x]; exact y
  | t :: ts, us, vs, ws, x, y => by
    (refine e23 (RepL.cons_iff.mp x) fun u r hq2 z x' => ?_; subst hq2)
    exact RepL.cons_iff.mpr ⟨u, r ++ ws, rfl, z, x'.append y⟩
theorem RepL.one {h : Heap} {t : T} {v : Value} (x : Rep h t v) : RepL h [t] [v] := RepL.cons_iff.mpr ⟨v, [], rfl, x, RepL.nil_iff.mpr rfl⟩
theorem RepL.of {h : Heap} : ∀ {ts : List T} {vs : List Value}, vs.length = ts.length → (∀ (i : Nat) t v, ts[i]? = some t → vs[i]? = some v → Rep h t v) → RepL h ts vs
  | [], [], _, _ => RepL.nil_iff.mpr rfl
  | [], _ :: _, e, _ => by simp at e
  | _ :: _, [], e, _ => by simp at e
  | t :: ts, v :: vs, e, k => RepL.cons_iff.mpr ⟨v, vs, rfl, k 0 t v rfl rfl, RepL.of (by simpa using e) fun i t' v' h1 h2 => k (i + 1) t' v' h1 h2⟩
theorem repL_imm {h h' : Heap} (k : Imm h h') : ∀ {ts : List T} {vs : List Value}, (∀ t ∈ ts, ∀ v, Rep h t v → Rep h' t v) → RepL h ts vs → RepL h' ts vs
  | [], _, _, x => RepL.nil_iff.mpr (RepL.nil_iff.mp x)
  | t :: ts, vs, hk, x => by
    (refine e23 (RepL.cons_iff.mp x) fun v r hq2 z y => ?_; subst hq2)
    exact RepL.cons_iff.mpr ⟨v, r, rfl, hk t (.head _) v z, repL_imm k (fun u hu => hk u (.tail _ hu)) y⟩
theorem Rep.imm {h h' : Heap} (k : Imm h h') : ∀ {t : T} {v : Value}, Rep h t v → Rep h' t v := by
  intro t
  refine ind2 (P := fun t => ∀ {v : Value}, Rep h t v → Rep h' t v) (fun o ks ih => ?_) t
  intro v x
  (refine x3c3 (Rep.iff.mp x) fun a tk vs hq3 y z => ?_; subst hq3)
  exact Rep.iff.mpr ⟨a, tk, vs, rfl, k _ _ y, repL_imm k (fun t ht v => ih t ht) z⟩
theorem RepL.imm {h h' : Heap} (k : Imm h h') {ts : List T} {vs : List Value} (x : RepL h ts vs) : RepL h' ts vs := repL_imm k (fun _ _ _ => Rep.imm k) x

/-! ### read as data -/
theorem repL_reads {h : Heap} : ∀ {ts : List T} {vs : List Value}, (∀ t ∈ ts, ∀ v, Rep h t v → ∃ as, Reads h v t.py as) → RepL h ts vs → ∃ as, ReadsAll h vs (pys ts) as
  | [], _, _, x => by rw [RepL.nil_iff.mp x]; exact ⟨_, .nil⟩
  | t :: ts, vs, hk, x => by
    (refine e23 (RepL.cons_iff.mp x) fun v r hq2 z y => ?_; subst hq2)
    refine e11 (hk t (.head _) v z) fun as p => ?_
    refine e11 (repL_reads (fun u hu => hk u (.tail _ hu)) y) fun bs q => ?_
    dsimp only [pys]
    exact ⟨_, .cons p q⟩
theorem Rep.reads {h : Heap} : ∀ {t : T} {v : Value}, Rep h t v → ∃ as, Reads h v t.py as := by
  intro t
  refine ind2 (P := fun t => ∀ {v : Value}, Rep h t v → ∃ as, Reads h v t.py as) (fun o ks ih => ?_) t
  intro v x
  (refine x3c3 (Rep.iff.mp x) fun a tk vs hq3 hpz1 z => ?_; subst hq3); obtain ⟨ob, h1, h2, n, h3⟩ := hpz1
  refine e11 (repL_reads (fun t ht v => ih t ht) z) fun as q => ?_
  dsimp only [T.py]
  exact ⟨_, reads_tuple_at h1 h2 h3 (by simpa using ReadsAll.cons (Reads.str _ _) q)⟩
theorem RepL.reads {h : Heap} {ts : List T} {vs : List Value} (x : RepL h ts vs) : ∃ as, ReadsAll h vs (pys ts) as := repL_reads (fun _ _ _ => Rep.reads) x

theorem wf_lay : ∀ (n : Nat) (t : T), Wf n t → t.py.canLay0 = true ∧ t.py.depth ≤ n + 1 := by
  intro n
  induction n with
  | zero => intro t h; exact h.elim
  | succ n ih =>
    intro t h
    obtain ⟨o, ks⟩ := t
    have all : ∀ ts : List T, (∀ k ∈ ts, Wf n k) → PyData.canLayAll0 (pys ts) = true ∧ PyData.depthAll (pys ts) ≤ n + 1 := by
      intro ts
      induction ts with
      | nil => intro _; simp [pys, PyData.canLayAll0, PyData.depthAll]
      | cons d ds hi =>
        intro h
        have h1 := ih d (h d (.head _))
        have h2 := hi fun e he => h e (.tail _ he)
        simp only [pys, PyData.canLayAll0, PyData.depthAll, h1.1, h2.1, Bool.and_self, true_and]
        have a1 := h1.2
        have a2 := h2.2
        lia
    have q := all ks h.2
    have q2 := q.2
    have so : (PyData.str o.s).canLay0 = true := by cases o <;> decide +kernel
    have sd : (PyData.str o.s).depth ≤ 1 := by cases o <;> decide +kernel
    simp only [T.py, PyData.canLay0, PyData.depth, PyData.canLayAll0, PyData.depthAll, q.1] at so sd ⊢
    refine ⟨by simpa using so, ?_⟩
    exact Nat.succ_le_succ (by assumption)
theorem py_eqv : ∀ (t u : T), PyData.eqv t.py u.py = true ↔ t = u := by
  intro t
  refine ind2 (P := fun t => ∀ u, PyData.eqv t.py u.py = true ↔ t = u) (fun o ks ih => ?_) t
  intro u
  obtain ⟨o', ks'⟩ := u
  have all : ∀ (ts us : List T), (∀ k ∈ ts, ∀ u, PyData.eqv k.py u.py = true ↔ k = u) → (PyData.eqvAll (pys ts) (pys us) = true ↔ ts = us) := by
    intro ts
    induction ts with
    | nil => intro us _; cases us <;> simp [pys, PyData.eqvAll]
    | cons d ds hi =>
      intro us h1
      cases us with
      | nil => simp [pys, PyData.eqvAll]
      | cons e es =>
        have q1 := h1 d (.head _) e
        have q2 := hi es (fun x hx => h1 x (.tail _ hx))
        simp only [pys, PyData.eqvAll, Bool.and_eq_true, q1, q2, List.cons.injEq]
  have q := all ks ks' ih
  simp only [T.py, PyData.eqv, PyData.eqvAll, Bool.and_eq_true, q, beq_iff_eq, T.nd.injEq, Op.s_iff]

section subs
variable {prog : Program} {w : World} {A : Around} {E : Value → Shared → Prop} {s : Shared} {env : Env} {value : Expr} {pos p p' : Pos} {Q : Value → Shared → Prop}

theorem sub_tup {k : Int} {c : Nat} (h : wpAny (model prog w) A (eval value env) (fun v s₁ => X4 fun a l j x => C5 (v = .ref a) (IsTup s₁.heap a (List.toArray l)) (seqIndex? k l.length = some j) (l[j]? = some x) (Q x { s₁ with toks := s₁.toks + 1 })) E s) (h1 : autoParam (-(2 ^ 63) ≤ k) aDec) (h2 : autoParam (k < 2 ^ 63) aDec) :
    wpAny (model prog w) A (eval (.Subscript value (.Constant (.int k) c p) pos) env) Q E s := by
  refine Subscript_ (wpAny_mono h (fun v s₁ x => ?_) fun _ _ x => x)
  (refine x4c5 x fun a l j x hq4 ht hj hx hq => ?_; subst hq4; clear x)
  exact wpAny_Constant_int (tail_any (s := { s₁ with toks := s₁.toks + 1 }) ht.typeIs slot_tuple_getitem.lookup (PyProof.Rows.getItem_tuple (s := { s₁ with toks := s₁.toks + 1 }) (items := l.toArray) (j := j) ht h1 h2 (by simpa using hj) (by simpa using hx) hq) (by with_unfolding_all rfl))

theorem seq0 (n : Nat) : seqIndex? 0 (n + 1) = some 0 := by
  unfold seqIndex?; simp

theorem sub_tup_from {k : Nat} {c : Nat} (h : wpAny (model prog w) A (eval value env) (fun v s₁ => ∃ a l, C5 (v = .ref a) (IsTup s₁.heap a (List.toArray l)) (k ≤ l.length) (l.length ≤ sizeLine) (∀ h' b tk, Kp s₁.heap h' → s₁.heap.get? b = none → IsTup h' b (l.drop k).toArray → Q (.ref b) { s₁ with heap := h', toks := tk })) E s) (h1 : autoParam (1 ≤ k) aDec) :
    wpAny (model prog w) A (eval (.Subscript value (.Slice (some (.Constant (.int (k : Nat)) c p')) none none p) pos) env) Q E s := by
  refine Subscript_ (wpAny_mono h (fun v s₁ x => ?_) fun _ _ x => x)
  obtain ⟨a, l, rfl, ht, hk, hsz, hq⟩ := x
  refine wpAny_Slice (wpAny_evalPart_some (wpAny_Constant_int (wpAny_evalPart_none (wpAny_evalPart_none ?_))))
  refine tail_any (T := "tuple") (ops := [.ref s₁.heap.objs.size, .ref a]) ?_ slot_tuple_getitem.lookup ?_ (by with_unfolding_all rfl)
  · exact IsTup.typeIs (s := { s₁ with heap := _, toks := _ }) (ht.push _)
  · refine getItem_tuple_from (items := l.toArray) (a := k) (ht.push _) (Heap.IsSliceOf.new ..) h1 (by simpa using hk) ?_ (by simpa using hsz)
    dsimp only
    refine hq _ _ _ ?_ (Heap.get?_none_of_le (by rw [Heap.size_push]; exact Nat.le_succ _)) ?_
    · exact (Kp.push _ _).tr (Kp.push _ _)
    · simpa using IsTup.new (s₁.heap.push _) ((l.toArray.toList.drop k).toArray)

noncomputable def Op.hd : Op → Str
  | .x | .y | .w => "?"
  | o => o.s
theorem str_head {c : Nat} (h : wpAny (model prog w) A (eval value env) (fun v s₁ => ∃ (o : Op) (t : Tok), v = .str o.s t ∧
      ∀ h' tk u, Kp s₁.heap h' → Q (.str o.hd u) { s₁ with heap := h', toks := tk }) E s) :
    wpAny (model prog w) A (eval (.Subscript value (.Slice none (some (.Constant (.int 1) c p')) none p) pos) env) Q E s := by
  refine Subscript_ (wpAny_mono h (fun v s₁ x => ?_) fun _ _ x => x)
  (refine e22 x fun o t hq2 hq => ?_; subst hq2; clear x)
  refine wpAny_Slice (wpAny_evalPart_none (wpAny_evalPart_some (wpAny_Constant_int (wpAny_evalPart_none ?_))))
  refine tail_any (T := "str") (ops := [.ref s₁.heap.objs.size, .str o.s t]) (typeIs_str _ _ _) slot_str_getitem.lookup ?_ (by with_unfolding_all rfl)
  refine wpAny_getItem_str_slice (l := none) (u := some (1, s₁.toks)) (st := none) ⟨_, Heap.get?_push_size _ rfl, rfl, rfl⟩ rfl ?_
  cases o <;> first
    | exact hq _ _ _ (Kp.push _ _)
    | exact ⟨of_decide_eq_true (by kernel_rfl), hq _ _ _ (Kp.push _ _)⟩

end subs

section
variable {prog : Program} {w : World} {B : Heap} {A : Around} {s : Shared} {R : Result → Shared → Prop}
noncomputable def T.isVar : T → Bool
  | .nd o ks => ks.isEmpty && o.isQ
theorem wfLen {n : Nat} {o : Op} {ks : List T} (h : Wf n (.nd o ks)) : ks.length ≤ 9 := by cases n with | zero => exact h.elim | succ n => exact h.1

theorem sizeLine_big : 1048576 ≤ sizeLine := by decide

theorem is_variable_spec {t : T} {v : Value} {n k : Nat} (W : Wd w B) (kb : Kp B s.heap) (hr : Room A (n + 2)) (hp : Rep s.heap t v) (hw : Wf k t)
    (h : ∀ h' tk, Kp s.heap h' → R (.ok (.ret (.bool t.isVar))) { s with heap := h', toks := tk }) : codeAny (model prog w) A (.call (.ref 74) ⟨[v], []⟩) R s := by
  refine enterX (n := n + 1) (fun _ => []) (fun L => [(L, nsP (up nil0 "t" v))]) W kb hr ?_
  intro L env h₁ tk EO hL S E'
  obtain ⟨op, ks⟩ := t
  (refine x3c3 (Rep.iff.mp hp) fun a tk0 vs hq3 ht hks => ?_; subst hq3)
  have hlen : (Value.str op.s tk0 :: vs).length = ks.length + 1 := by rw [List.length_cons, hks.length]
  have hk9 := wfLen hw
  have ht1 : IsTup h₁ a (List.toArray (Value.str op.s tk0 :: vs)) := ht.keeps S.kpH
  refine wpAny_execs_cons (wpAny_Return_some (wpAny_And2 ?_))
  refine wpAny_Compare1 (callB W S.kb EO bn_len rfl (nameL EO (S.ns 0 rfl) rfl (PyProof.Rows.len_tuple ht1 ?_ ?_)))
  · rw [List.size_toArray, hlen]; lia
  refine wpAny_Constant_int (PyProof.Rows.eq_int (wpAny_truthy_bool ?_))
  (refine Eq.symm (List.size_toArray ..) ▸ ?_; refine Eq.symm (hlen ..) ▸ ?_)
  cases ks with
  | nil =>
    have hv : (decide (((([] : List T).length + 1 : Nat) : Int) = 1)) = true := by decide
    refine wpAny_Compare1 (str_head (sub_tup (nameL EO (S.ns 0 rfl) rfl ⟨_, _, 0, _, rfl, ht1, seq0 _, rfl, op, tk0, rfl, fun h' tk u k1 => ?_⟩)))
    refine Constant_str (eq_str ?_)
    have e : (op.hd == ("?" : Str)) = T.isVar (.nd op []) := by cases op <;> kernel_rfl
    rw [e]
    exact h _ _ (S.kpH.tr k1)
  | cons k0 ks =>
    have hv : ((((k0 :: ks).length + 1 : Nat) : Int) == 1) = false := by
      rw [beq_eq_false_iff_ne, List.length_cons]; lia
    rw [hv, if_neg (by decide)]
    exact h _ _ S.kpH
end

/-- an iterator object at «it»: pr i says it has given i items; n in all; the i-th is a P i -/
structure Itr (prog : Program) (w : World) (A : Around) (it : Addr) (pr : Nat → OP) (src : Heap → Prop) (n : Nat) (P : Nat → Value → Prop) : Prop where
  nt : ∀ i o, pr i o → NT o
  item : ∀ (i : Nat) (s : Shared) (Q : Option Value → Shared → Prop) (E : Value → Shared → Prop), i < n → (∃ o, s.heap.get? it = some o ∧ pr i o) → src s.heap →
    (∀ x h' tk, P i x → (∃ o, h'.get? it = some o ∧ pr (i + 1) o) → Heap.ExtBut it s.heap h' → Q (some x) { s with heap := h', toks := tk }) → wpAny (model prog w) A (pyNext (.ref it)) Q E s
  stop : ∀ (s : Shared) (Q : Option Value → Shared → Prop) (E : Value → Shared → Prop), (∃ o, s.heap.get? it = some o ∧ pr n o) → src s.heap →
    (∀ h' tk, Heap.ExtBut it s.heap h' → Q none { s with heap := h', toks := tk }) → wpAny (model prog w) A (pyNext (.ref it)) Q E s
  again : ∀ (s : Shared) (Q : Value → Shared → Prop) (E : Value → Shared → Prop), (∃ o, s.heap.get? it = some o ∧ pr 0 o) → Q (.ref it) s → wpAny (model prog w) A (pyIter (.ref it)) Q E s

section
variable {prog : Program} {w : World} {A : Around}
theorem itr_list (hh : A.handled = none) (it l : Addr) (xs : List Value) : Itr prog w A it (litP l) (fun h => h.IsList l xs.toArray) xs.length (fun i x => xs[i]? = some x) where
  nt := fun i o h => litP.nt h
  item := fun i s Q E hi ho hl hq => by
    (refine e13 ho fun o e c d => ?_; clear ho)
    have hx : xs[i]? = some xs[i] := List.getElem?_eq_getElem hi
    exact wpAny_pyNext_list_item (i := i) (x := xs[i]) ⟨o, e, c, d⟩ hl (by simpa using hx) fun h' hit hs => hq _ h' s.toks hx (let ⟨o', e', c', d'⟩ := hit; ⟨o', e', c', d'⟩) hs.extBut
  stop := fun s Q E ho hl hq => by
    (refine e13 ho fun o e c d => ?_; clear ho)
    exact wpAny_pyNext_list_end (i := xs.length) hh ⟨o, e, c, d⟩ hl (by simp) fun h' hs => hq h' s.toks hs
  again := fun s Q E ho hq => by
    (refine e13 ho fun o e c d => ?_; clear ho)
    exact wpAny_pyIter_listiter (l := l) (i := 0) ⟨o, e, c, d⟩ hq
theorem itr_tup (hh : A.handled = none) (it l : Addr) (xs : List Value) : Itr prog w A it (titP l) (fun h => IsTup h l xs.toArray) xs.length (fun i x => xs[i]? = some x) where
  nt := fun i o h => titP.nt h
  item := fun i s Q E hi ho hl hq => by
    (refine e13 ho fun o e c d => ?_; clear ho)
    have hx : xs[i]? = some xs[i] := List.getElem?_eq_getElem hi
    exact next_tuple_item (i := i) (x := xs[i]) ⟨o, e, c, d⟩ hl (by simpa using hx) fun h' hit hs => hq _ h' s.toks hx (let ⟨o', e', c', d'⟩ := hit; ⟨o', e', c', d'⟩) hs.extBut
  stop := fun s Q E ho hl hq => by
    (refine e13 ho fun o e c d => ?_; clear ho)
    exact next_tuple_end (i := xs.length) hh ⟨o, e, c, d⟩ hl (by simp) fun h' hs => hq h' s.toks hs
  again := fun s Q E ho hq => by
    (refine e13 ho fun o e c d => ?_; clear ho)
    exact wpAny_pyIter_tupleiter (t := l) (i := 0) ⟨o, e, c, d⟩ hq
end

namespace St
variable {B H h h' : Heap} {S : List Addr} {ow : List (Addr × OP)}
/-- the head owned object is forgotten, whatever became of it -/
theorem lose {a : Addr} {p : OP} (x : St B H S ((a, p) :: ow) h) (ha : a ∉ S) (hs : Heap.ExtBut a h h') : St B H S ow h' ∧ Imm h h' := by
  obtain ⟨o, e, _, nt⟩ := x.own _ (.head _)
  refine e02 (x.new _ (.head _)) fun nB nH => ?_
  have hnd := List.nodup_cons.mp x.nd
  refine ⟨⟨fun b o' e' => hs b o' (fun q => ?_) (x.kb b o' e'), fun b o' hb e' => hs b o' (fun q => ?_) (x.base b o' hb e'), fun q hq => ?_, fun q hq => x.new q (.tail _ hq), hnd.2, fun b hb => ?_⟩, Imm.ext hs e nt⟩
  · rw [q] at e'; rw [nB] at e'; cases e'
  · subst q
    rcases nH with nH | nH
    · rw [nH] at e'; cases e'
    · exact ha nH
  · refine e12 (x.own q (.tail _ hq)) fun o' e' r => ?_
    refine ⟨o', hs _ _ (fun z => ?_) e', r⟩
    exact hnd.1 (List.mem_map.mpr ⟨q, hq, z⟩)
  · have := x.sub b hb
    rw [List.map_cons] at this
    rcases List.mem_cons.mp this with e' | h
    · exact absurd hb (by rw [e']; exact ha)
    · exact h
/-- two owned objects change places -/
theorem swap {a b : Addr × OP} (x : St B H S (a :: b :: ow) h) : St B H S (b :: a :: ow) h := by
  refine ⟨x.kb, x.base, fun p hp => x.own p ?_, fun p hp => x.new p ?_, ?_, fun c hc => ?_⟩
  try dsimp only
  · simp only [List.mem_cons] at hp ⊢; rcases hp with h | h | h <;> simp [h]
  · simp only [List.mem_cons] at hp ⊢; rcases hp with h | h | h <;> simp [h]
  · have := x.nd
    simp only [List.map_cons, List.nodup_cons, List.mem_cons, not_or] at this ⊢
    exact ⟨⟨Ne.symm this.1.1, this.2.1⟩, this.1.2, this.2.2⟩
  · have := x.sub c hc
    simp only [List.map_cons, List.mem_cons] at this ⊢
    rcases this with h | h | h <;> simp [h]
end St

section
variable {prog : Program} {w : World} {A : Around} {R : Result → Shared → Prop} {s : Shared}
/-- the loop of a list comprehension over one source, any target -/
theorem compLoopG {elt target iter : Expr} {ifs : List Expr} {scope : Scope} {pos : Pos} {it acc : Value} {env : Env} (I : Nat → Shared → Prop)
    (turn : ∀ n s, I n s → wpAny (model prog w) A (pyNext it) (fun r s₁ => match r with
      | none => R (.ok .next) s₁
      | some v => wpAny (model prog w) A (letOwnedTupleGo target it v) (fun _ s₁ => wpAny (model prog w) A (assign target env v) (fun _ s₂ =>
          wpAny (model prog w) A (forIn ifs true fun c r => if r = true then do let ok ← isTrue c env (eval c env); pure (ForInStep.yield ok) else pure (ForInStep.yield r)) (fun ok s₃ =>
            if ok = true then wpAny (model prog w) A (eval elt env) (fun x s₄ =>
              wpAny (model prog w) A (call (.builtin "list.append") [acc, x]) (fun _ s₅ => ∃ m, m < n ∧ I m s₅) (notedBy (model prog w) A env fun e s' => R (.error e) s') s₄) (notedBy (model prog w) A env fun e s' => R (.error e) s') s₃
            else ∃ m, m < n ∧ I m s₃) (notedBy (model prog w) A env fun e s' => R (.error e) s') s₂) (notedBy (model prog w) A env fun e s' => R (.error e) s') s₁) (notedBy (model prog w) A env fun e s' => R (.error e) s') s₁) (notedBy (model prog w) A env fun e s' => R (.error e) s') s)
    (n : Nat) (h : I n s) :
    codeAny (model prog w) A (.compLoop (.ListComp elt [⟨target, iter, ifs, 0⟩] scope pos) 0 it acc env) R s := by
  refine codeAny_loop rfl I (fun n s hI => ?_) n h
  show wpAny _ A ((compTurn (.ListComp elt [⟨target, iter, ifs, 0⟩] scope pos) 0 it acc env).onRaise (fun x => do noteFrame x env; theTreesLotGoes x)) _ _ s
  refine wpAny_noted ?_
  try dsimp only
  rw [compTurn_list]
  refine wpAny_bind (wpAny_standAt (wpAny_bind (wpAny_mono (turn n s hI) (fun r s₁ h₁ => ?_) fun _ _ h' => h')))
  cases r with
  | none => exact wpAny_pure h₁
  | some v =>
    refine wpAny_bind (wpAny_mono h₁ (fun _ s₁ h₁ => ?_) fun _ _ h' => h')
    refine wpAny_bind (wpAny_mono h₁ (fun _ s₂ h₂ => wpAny_bind (wpAny_mono h₂ (fun ok s₃ h₃ => ?_) fun _ _ h' => h')) fun _ _ h' => h')
    cases ok with
    | false => exact wpAny_pure ⟨rfl, h₃⟩
    | true =>
      exact wpAny_bind (wpAny_bind (wpAny_mono h₃ (fun x s₄ h₄ => wpAny_bind (wpAny_mono h₄ (fun _ s₅ h₅ => wpAny_pure (wpAny_pure ⟨rfl, h₅⟩)) fun _ _ h' => h')) fun _ _ h' => h'))
end

section
variable {prog : Program} {w : World} {A : Around} {B H : Heap} {Ss : List Addr}
noncomputable abbrev ifsWp (prog : Program) (w : World) (A : Around) (ifs : List Expr) (env : Env) (Q : Bool → Shared → Prop) (E : Value → Shared → Prop) (s : Shared) : Prop :=
  wpAny (model prog w) A (forIn ifs true fun c r => if r = true then do let ok ← isTrue c env (eval c env); pure (ForInStep.yield ok) else pure (ForInStep.yield r)) Q E s

/-- a list comprehension over one iterator: what stands between the turns is Φ -/
theorem comp_core {E : Value → Shared → Prop} {s : Shared} {env : Env} {elt target iter : Expr} {ifs : List Expr} {scope : Scope} {cl : List (Str × Addr)} {pos : Pos} {Q : Value → Shared → Prop}
    {it : Addr} {pr : Nat → OP} {src : Heap → Prop} {n : Nat} {P : Nat → Value → Prop} {ow : List (Addr × OP)} (Er : Value → Shared → Prop)
    (Φ : Nat → List Value → List (Addr × OP) → Heap → Prop)
    (he : EnvOk env) (I : Itr prog w A it pr src n P) (S : St B H Ss ((it, pr 0) :: ow) s.heap) (hn : n ≤ 1000) (hSs : ∀ h' : Heap, ∀ b ∈ Ss, b ≠ it ∧ (∃ o, s.heap.get? b = some o))
    (hcell : ∀ y ∈ scope.names, y.2 ≠ .cell) (hkind : scope.kind = .function)
    (mono : ∀ i ys ow' h h', Imm h h' → Φ i ys ow' h → Φ i ys ow' h')
    (start : Φ 0 [] ow s.heap)
    (hsrc : ∀ i ys ow' h C D m p, Imm s.heap h → St B H Ss ((C, nsP m) :: (D, listP p) :: (it, pr i) :: ow') h → Φ i ys ow' h → src h)
    (turn : ∀ (i : Nat) (ys : List Value) (ow' : List (Addr × OP)) (h : Heap) (tk : Nat) (C D : Addr) (m : Str → Option Value) (x : Value), i < n → P i x → Imm s.heap h → s.heap.get? C = none →
      St B H Ss ((C, nsP m) :: (D, listP ys.toArray) :: (it, pr (i + 1)) :: ow') h → Φ i ys ow' h →
      wpAny (model prog w) A (letOwnedTupleGo target (.ref it) x) (fun _ s₁ => wpAny (model prog w) A (assign target (compEnvC scope cl C env) x) (fun _ s₂ =>
        ifsWp prog w A ifs (compEnvC scope cl C env) (fun ok s₃ =>
          if ok = true then wpAny (model prog w) A (eval elt (compEnvC scope cl C env)) (fun y s₄ => X4 fun h' tk' m' ow'' => C4 (s₄ = { s with heap := h', toks := tk' }) (Imm h h') (St B H Ss ((C, nsP m') :: (D, listP ys.toArray) :: (it, pr (i + 1)) :: ow'') h') (Φ (i + 1) (ys ++ [y]) ow'' h')) Er s₃
          else X4 fun h' tk' m' ow'' => C4 (s₃ = { s with heap := h', toks := tk' }) (Imm h h') (St B H Ss ((C, nsP m') :: (D, listP ys.toArray) :: (it, pr (i + 1)) :: ow'') h') (Φ (i + 1) ys ow'' h')) Er s₂) Er s₁) Er
        { s with heap := h, toks := tk })
    (fin : ∀ ys ow' h tk D, ys.length ≤ n → s.heap.get? D = none → Imm s.heap h → St B H Ss ((D, listP (List.toArray ys)) :: ow') h → Φ n ys ow' h → Q (.ref D) { s with heap := h, toks := tk })
    (hEr : ∀ (C : Addr) e s', s.heap.get? C = none → Er e s' → notedBy (model prog w) A (compEnvC scope cl C env) (fun e s' => compPost (model prog w) A E none Q (.ref s.heap.objs.size) C (.error e) s') e s') :
    wpAny (model prog w) A (newList []) (fun acc s₃ => wpAny (model prog w) A (newFunctionEnv scope env.globals cl [] env.qual none .none (some env)) (fun cenv s₄ =>
      codeAny (model prog w) A (.compStart (.ListComp elt [⟨target, iter, ifs, 0⟩] scope pos) 0 (.ref it) acc { cenv with scope := relabel scope env }) (compPost (model prog w) A E none Q acc cenv.locals) s₄) E s₃) E s := by
  refine wpAny_newList ?_
  try dsimp only
  have S1 := S.addPush (o := { cls := .type "list", data := .seq ([] : List Value).toArray }) (p := listP #[]) rfl ⟨0, rfl⟩ (nt_cls (by decide))
  generalize hH2 : s.heap.push { cls := .type "list", data := .seq ([] : List Value).toArray } = H2 at S1 ⊢
  refine wpAny_newFunctionEnv hcell (by intro y hy; simp at hy) (fun h₁ hns₁ hsb₁ => ?_) hkind
  dsimp only at hns₁ hsb₁ ⊢
  have k1 : Kp s.heap H2 := by rw [← hH2]; exact Kp.push _ _
  have hsz : H2.objs.size = s.heap.objs.size + 1 := by rw [← hH2, Heap.size_push]
  have hCn : H2.get? H2.objs.size = none := Heap.get?_none_of_le (Nat.le_refl _)
  have hCs : s.heap.get? H2.objs.size = none := Heap.get?_none_of_le (by rw [hsz]; exact Nat.le_succ _)
  have k2 : Kp H2 h₁ := fun b o e => hsb₁.extBut b o (fun q => by subst q; rw [hCn] at e; cases e) (Heap.get?_push_of_some _ e)
  have S2 : St B H Ss ((H2.objs.size, nsP fun x => ([] : List (Str × Value)).reverse.lookup x) :: (s.heap.objs.size, listP #[]) :: (it, pr 0) :: ow) h₁ :=
    S1.add hCn k2 (let ⟨o, e, r⟩ := nsP_ns.mp hns₁; ⟨o, e, r, r.nt⟩)
  have im2 : Imm s.heap h₁ := Imm.kp (k1.tr k2)
  have hDn : s.heap.get? s.heap.objs.size = none := Heap.get?_none_of_le (Nat.le_refl _)
  generalize hC : H2.objs.size = C at *
  generalize hD : s.heap.objs.size = D at *
  have hCS : C ∉ Ss := fun q => by obtain ⟨o, e⟩ := (hSs s.heap C q).2; rw [hCs] at e; cases e
  have hIS : it ∉ Ss := fun q => (hSs s.heap it q).1 rfl
  have Erc := fun e s' => hEr C e s' hCs
  let J : Nat → Shared → Prop := fun k s' => X6 fun i ys ow' h tk m => C7 (k + i = n + 1) (ys.length ≤ i) (i ≤ n) (s' = { s with heap := h, toks := tk }) (Imm s.heap h) (St B H Ss ((C, nsP m) :: (D, listP (List.toArray ys)) :: (it, pr i) :: ow') h) (Φ i ys ow' h)
  have hJ : J (n + 1) { s with heap := h₁, toks := s.toks + ([] : List (Str × Value)).length } := ⟨0, [], ow, h₁, _, _, rfl, Nat.le_refl _, Nat.zero_le _, rfl, im2, S2, mono _ _ _ _ _ im2 start⟩
  have loop : ∀ s₃ : Shared, s₃ = { s with heap := h₁, toks := s.toks + ([] : List (Str × Value)).length } →
      codeAny (model prog w) A (.compLoop (.ListComp elt [⟨target, iter, ifs, 0⟩] scope pos) 0 (.ref it) (.ref D) (compEnvC scope cl C env)) (compPost (model prog w) A E none Q (.ref D) C) s₃ := by
    rintro s₃ rfl
    refine compLoopG J (fun k s' hJk => ?_) (n + 1) hJ
    (refine x6c7 hJk fun i ys ow' h tk m hki hyl hin hq9 im S3 hΦ => ?_; subst hq9; clear hJk)
    have so := hsrc i ys ow' h C D m _ im S3 hΦ
    have hit : ∃ o, h.get? it = some o ∧ pr i o := let ⟨o, e, r, _⟩ := S3.get 2 rfl; ⟨o, e, r⟩
    by_cases hlt : i < n
    · refine I.item i _ _ _ hlt hit so (fun x h' tk' hx hit' hs' => ?_)
      refine e02 (S3.upd (p' := pr (i + 1)) 2 rfl hs' (let ⟨o, e, r⟩ := hit'; ⟨o, e, r, I.nt _ _ r⟩)) fun S4 im4 => ?_
      have t := turn i ys ow' h' tk' C D m x hlt hx (im.tr im4) hCs S4 (mono _ _ _ _ _ im4 hΦ)
      refine wpAny_mono t (fun _ s₁ t => wpAny_mono t (fun _ s₂ t => wpAny_mono t (fun ok s₃ t => ?_) Erc) Erc) Erc
      cases ok with
      | false =>
        (refine x4c4 t fun h'' tk'' m'' ow'' hq4 im5 S5 hΦ5 => ?_; subst hq4; clear t)
        exact ⟨k - 1, by omega, i + 1, ys, ow'', h'', tk'', m'', by lia, by exact Nat.le_succ_of_le (by assumption), by exact hlt, rfl, (im.tr im4).tr im5, S5, hΦ5⟩
      | true =>
        refine wpAny_mono t (fun y s₄ t => ?_) Erc
        (refine x4c4 t fun h'' tk'' m'' ow'' hq4 im5 S5 hΦ5 => ?_; subst hq4; clear t)
        refine wpAny_list_append_plain (S5.plain 1 rfl) (fun h6 hl6 hs6 => ?_) (by rw [List.size_toArray]; have := sizeLine_big; exact Nat.le_trans (Nat.le_trans (Nat.le_trans hyl hin) hn) (Nat.le_of_ble_eq_true rfl))
        refine e02 (S5.setList 1 rfl hs6 hl6) fun S6 im6 => ?_
        refine ⟨k - 1, by omega, i + 1, ys ++ [y], ow'', h6, tk'', m'', by omega, by rw [List.length_append]; simp; simp [*], by exact hlt, rfl, ((im.tr im4).tr im5).tr im6, ?_, mono _ _ _ _ _ im6 hΦ5⟩
        have e : ys.toArray.push y = (ys ++ [y]).toArray := by simp
        (refine (e ..) ▸ ?_); exact S6
    · have hie : i = n := by lia
      subst hie
      refine I.stop _ _ _ hit so (fun h' tk' hs' => ?_)
      try dsimp only
      -- forget the iterator, then the frame
      have S4 := S3.swap
      have S5 : St B H Ss ((it, pr i) :: (D, listP ys.toArray) :: (C, nsP m) :: ow') h := by
        refine ⟨S3.kb, S3.base, fun p hp => S3.own p ?_, fun p hp => S3.new p ?_, ?_, fun c hc => ?_⟩
        try dsimp only
        · simp only [List.mem_cons] at hp ⊢; rcases hp with h | h | h | h <;> simp [h]
        · simp only [List.mem_cons] at hp ⊢; rcases hp with h | h | h | h <;> simp [h]
        · have := S3.nd
          simp only [List.map_cons, List.nodup_cons, List.mem_cons, not_or] at this ⊢
          exact ⟨⟨Ne.symm this.2.1.1, Ne.symm this.1.2.1, this.2.2.1⟩, ⟨Ne.symm this.1.1, this.2.1.2⟩, this.1.2.2, this.2.2.2⟩
        · have := S3.sub c hc
          simp only [List.map_cons, List.mem_cons] at this ⊢
          rcases this with h | h | h | h <;> simp [h]
      refine e02 (S5.lose hIS hs') fun S6 im6 => ?_
      have S7 := S6.swap
      refine ⟨m, S7.ns 0 rfl, fun h8 hs8 => ?_⟩
      refine e02 (S7.lose hCS hs8.extBut) fun S8 im8 => ?_
      exact fin ys ow' h8 tk' D hyl hDn ((im.tr im6).tr im8) S8 (mono _ _ _ _ _ im8 (mono _ _ _ _ _ im6 hΦ))
  exact codeAny_compStart_list (loop _ rfl) (I.again _ _ _ (let ⟨o, e, r, _⟩ := S2.get 2 rfl; ⟨o, e, r⟩) (loop _ rfl))
end

namespace St
variable {B H h h' : Heap} {S : List Addr} {ow : List (Addr × OP)}
theorem getM (x : St B H S ow h) {a : Addr} {p : OP} (hm : (a, p) ∈ ow) : ∃ o, h.get? a = some o ∧ p o ∧ NT o := x.own _ hm
theorem cellM (x : St B H S ow h) {a : Addr} {v : Option Value} (hm : (a, cellP v) ∈ ow) : h.IsCell a v := let ⟨o, e, r, _⟩ := x.own _ hm; ⟨o, e, r⟩
theorem plainM (x : St B H S ow h) {a : Addr} {v : Array Value} (hm : (a, listP v) ∈ ow) : h.PlainList a v := by obtain ⟨o, e, hpz4, _⟩ := x.own _ hm; obtain ⟨n, rfl⟩ := hpz4; exact ⟨n, e⟩
theorem nsM (x : St B H S ow h) {a : Addr} {m : Str → Option Value} (hm : (a, nsP m) ∈ ow) : h.Ns a m := let ⟨o, e, r, _⟩ := x.own _ hm; nsP_ns.mpr ⟨o, e, r⟩
end St
noncomputable abbrev noE : Value → Shared → Prop := fun _ _ => False
section
variable {prog : Program} {w : World} {A : Around} {B H : Heap} {Ss : List Addr} {E : Value → Shared → Prop} {s : Shared} {env : Env}
theorem ext_notin {ow : List (Addr × OP)} {h : Heap} (S : St B H Ss ow h) {a : Addr} (ha : h.get? a = none) : a ∉ Ss := fun q => by
  (refine e12 (List.mem_map.mp (S.sub a q)) fun p hp hq2 => ?_; subst hq2)
  obtain ⟨o, e, _⟩ := S.own p hp
  rw [ha] at e; cases e
theorem ss_there {ow : List (Addr × OP)} {h : Heap} (S : St B H Ss ow h) : ∀ b ∈ Ss, ∃ o, h.get? b = some o := fun b hb => by
  (refine e12 (List.mem_map.mp (S.sub b hb)) fun p hp hq2 => ?_; subst hq2)
  obtain ⟨o, e, _⟩ := S.own p hp
  exact ⟨o, e⟩

/-- a list comprehension, its source a tuple -/
theorem compTupE (B H : Heap) (Ss : List Addr) {elt iter target : Expr} {ifs : List Expr} {scope : Scope} {cl : List (Str × Addr)} {pos : Pos} {Q : Value → Shared → Prop} (he : EnvOk env) (hh : A.handled = none)
    (h : wpAny (model prog w) A (eval iter env) (fun xv s₁ => X4 fun (a : Addr) (xs : List Value) (ow : List (Addr × OP)) (Φ : Nat → List Value → List (Addr × OP) → Heap → Prop) => C8 (xv = .ref a) (IsTup s₁.heap a xs.toArray) (xs.length ≤ 1000) (St B H Ss ow s₁.heap) ((∀ i ys ow' h h', Imm h h' → Φ i ys ow' h → Φ i ys ow' h')) (Φ 0 [] ow s₁.heap) ((∀ (i : Nat) (ys : List Value) (ow' : List (Addr × OP)) (h : Heap) (tk : Nat) (C D it : Addr) (p : OP) (m : Str → Option Value) (x : Value), xs[i]? = some x → Imm s₁.heap h → s₁.heap.get? C = none →
        St B H Ss ((C, nsP m) :: (D, listP ys.toArray) :: (it, p) :: ow') h → Φ i ys ow' h →
        wpAny (model prog w) A (letOwnedTupleGo target (.ref it) x) (fun _ s₁' => wpAny (model prog w) A (assign target (compEnvC scope cl C env) x) (fun _ s₂ =>
          ifsWp prog w A ifs (compEnvC scope cl C env) (fun ok s₃ =>
          if ok = true then wpAny (model prog w) A (eval elt (compEnvC scope cl C env)) (fun y s₄ => X4 fun h' tk' m' ow'' => C4 (s₄ = { s₁ with heap := h', toks := tk' }) (Imm h h') (St B H Ss ((C, nsP m') :: (D, listP ys.toArray) :: (it, p) :: ow'') h') (Φ (i + 1) (ys ++ [y]) ow'' h')) noE s₃
          else X4 fun h' tk' m' ow'' => C4 (s₃ = { s₁ with heap := h', toks := tk' }) (Imm h h') (St B H Ss ((C, nsP m') :: (D, listP ys.toArray) :: (it, p) :: ow'') h') (Φ (i + 1) ys ow'' h')) noE s₂) noE s₁') noE
        { s₁ with heap := h, toks := tk })) ((∀ ys ow' h tk D, ys.length ≤ xs.length → s₁.heap.get? D = none → Imm s₁.heap h → St B H Ss ((D, listP (List.toArray ys)) :: ow') h → Φ xs.length ys ow' h → Q (.ref D) { s₁ with heap := h, toks := tk }))) E s)
    (hclos : autoParam (closureFor scope env = pure cl) aRfl) (hcell : autoParam (∀ y ∈ scope.names, y.2 ≠ .cell) aDec) (hkind : autoParam (scope.kind = .function) aRfl)
    (hnames : autoParam (∀ y ∈ scope.names, y.2 = .local → scope.names.lookup y.1 = some .local) aDec)
    (hs : autoParam (∀ x, foldedSetIterable iter env x = pure x) aIRfl) :
    wpAny (model prog w) A (eval (.ListComp elt [⟨target, iter, ifs, 0⟩] scope pos) env) Q E s := by
  dsimp only [eval_ListComp]
  refine wpAny_comprehension_free (use := none) rfl hs hclos hkind hnames (wpAny_mono h (fun xv s₁ h₁ => ?_) fun _ _ e => e)
  obtain ⟨a, xs, ow, Φ, rfl, ht, hn, S, mono, start, turn, fin⟩ := h₁
  refine iter_tuple ht ?_
  have hin : s₁.heap.get? s₁.heap.objs.size = none := Heap.get?_none_of_le (Nat.le_refl _)
  have S1 := S.addPush (o := { cls := .type "tuple_iterator", data := .fields #[.ref a, .int 0 0] }) (p := titP a 0) rfl ⟨rfl, rfl⟩ (nt_cls (show (Value.type "tuple_iterator") ≠ Value.type "tuple" by decide))
  have k1 : Kp s₁.heap (s₁.heap.push { cls := .type "tuple_iterator", data := .fields #[.ref a, .int 0 0] }) := Kp.push _ _
  have hit := ext_notin S hin
  refine comp_core (s := { s₁ with heap := s₁.heap.push { cls := .type "tuple_iterator", data := .fields #[.ref a, .int 0 0] } }) noE Φ he (itr_tup hh s₁.heap.objs.size a xs) S1 hn
    (fun _ b hb => ⟨fun q => hit (q ▸ hb), ss_there S1 b hb⟩) hcell hkind mono (mono _ _ _ _ _ (Imm.kp k1) start) (fun i ys ow' h C D m p im _ _ => im _ _ (ht.keeps k1)) ?_ ?_ (fun _ _ _ _ x => x.elim)
  · intro i ys ow' h tk C D m x hi hx im hC S' hΦ
    exact turn i ys ow' h tk C D _ _ m x hx ((Imm.kp k1).tr im) (by
      cases e : s₁.heap.get? C with
      | none => rfl
      | some o => have := k1 _ _ e; simp only at hC; rw [hC] at this; cases this) S' hΦ
  · intro ys ow' h tk D hl hD im S' hΦ
    exact fin ys ow' h tk D hl (by
      cases e : s₁.heap.get? D with
      | none => rfl
      | some o => have := k1 _ _ e; simp only at hD; rw [hD] at this; cases this) ((Imm.kp k1).tr im) S' hΦ

/-- a map over a tuple: the element makes new objects at most -/
theorem compTupMap (B H : Heap) (Ss : List Addr) {elt iter : Expr} {xn : Str} {px : Pos} {scope : Scope} {cl : List (Str × Addr)} {pos : Pos} {Q : Value → Shared → Prop} (he : EnvOk env) (hh : A.handled = none)
    (h : wpAny (model prog w) A (eval iter env) (fun xv s₁ => X4 fun (a : Addr) (xs : List Value) (ow : List (Addr × OP)) (F : Nat → Value → Heap → Prop) => C7 (xv = .ref a) (IsTup s₁.heap a xs.toArray) (xs.length ≤ 1000) (St B H Ss ow s₁.heap) ((∀ i y h h', Imm h h' → F i y h → F i y h')) ((∀ (i : Nat) (h : Heap) (tk : Nat) (C : Addr) (m : Str → Option Value) (ow' : List (Addr × OP)) (x : Value), xs[i]? = some x → Imm s₁.heap h →
        St B H Ss ((C, nsP (up m xn x)) :: ow') h → (∀ p ∈ ow, p ∈ ow') → EnvOk (compEnvC scope cl C env) →
        wpAny (model prog w) A (eval elt (compEnvC scope cl C env)) (fun y s₄ => ∃ h' tk', s₄ = { s₁ with heap := h', toks := tk' } ∧ Kp h h' ∧ F i y h') noE { s₁ with heap := h, toks := tk })) ((∀ ys h tk D, ys.length = xs.length → (∀ (i : Nat) y, ys[i]? = some y → F i y h) → s₁.heap.get? D = none → Imm s₁.heap h → St B H Ss ((D, listP (List.toArray ys)) :: ow) h → Q (.ref D) { s₁ with heap := h, toks := tk }))) E s)
    (hclos : autoParam (closureFor scope env = pure cl) aRfl) (hcell : autoParam (∀ y ∈ scope.names, y.2 ≠ .cell) aDec) (hkind : autoParam (scope.kind = .function) aRfl)
    (hnames : autoParam (∀ y ∈ scope.names, y.2 = .local → scope.names.lookup y.1 = some .local) aDec) (hx : autoParam (scope.names.lookup xn = some .local) aRfl)
    (hs : autoParam (∀ x, foldedSetIterable iter env x = pure x) aIRfl) :
    wpAny (model prog w) A (eval (.ListComp elt [⟨.Name xn px, iter, [], 0⟩] scope pos) env) Q E s := by
  refine compTupE B H Ss he hh (wpAny_mono h (fun xv s₁ h₁ => ?_) fun _ _ e => e) hclos hcell hkind hnames hs
  (refine x4c7 h₁ fun a xs ow F hq4 ht hn S mono turn fin => ?_; subst hq4; clear h₁)
  refine ⟨a, xs, ow, fun i ys ow' h => ow' = ow ∧ ys.length = i ∧ ∀ (j : Nat) y, ys[j]? = some y → F j y h, rfl, ht, hn, S, ?_, ⟨rfl, rfl, fun j y e => by simp at e⟩, ?_, ?_⟩
  · intro i ys ow' h h' im hpz1; obtain ⟨rfl, hl, hF⟩ := hpz1
    exact ⟨rfl, hl, fun j y e => mono _ _ _ _ im (hF j y e)⟩
  · intro i ys ow' h tk C D it p m x hx' im hC S' hpz2; (refine e03 hpz2 fun hq0 hl hF => ?_; subst hq0; clear hpz2)
    have EO : EnvOk (compEnvC scope cl C env) := ⟨he.gl, he.bi, hkind⟩
    refine wpAny_pure (wpAny_assign_Name (storeL EO (S'.ns 0 rfl) (fun h2 hn2 hs2 => ?_) (lookup_relabel_local hx)))
    refine e02 (S'.setNs 0 rfl hs2 hn2) fun S2 im2 => ?_
    refine wpAny_tests_nil ?_
    rw [if_pos rfl]
    refine wpAny_mono (turn i h2 _ C m _ x hx' (im.tr im2) S2 (fun p hp => by simp [hp]) EO) (fun y s₄ h4 => ?_) fun _ _ e => e
    (refine e23 h4 fun h3 tk3 hq2 k3 hF3 => ?_; subst hq2; clear h4)
    refine ⟨h3, tk3, _, _, rfl, im2.tr (Imm.kp k3), S2.kp k3, rfl, by rw [List.length_append, hl]; rfl, fun j y' e => ?_⟩
    by_cases hj : j < ys.length
    · rw [List.getElem?_append_left hj] at e
      exact mono _ _ _ _ (im2.tr (Imm.kp k3)) (hF j y' e)
    · have hj' : j = ys.length := by
        have := (List.getElem?_eq_some_iff.mp e).1
        rw [List.length_append] at this; simp at this; lia
      subst hj'
      rw [List.getElem?_append_right (Nat.le_refl _)] at e
      simp at e; subst e
      rw [hl]; exact hF3
  · intro ys ow' h tk D _ hD im S' hpz3; (refine e03 hpz3 fun hq0 hl hF => ?_; subst hq0; clear hpz3)
    exact fin ys h tk D hl hF hD im S'
end

section
variable {prog : Program} {w : World} {A : Around} {E : Value → Shared → Prop} {s : Shared} {env : Env}

theorem add_tup {t b : Addr} {vs ws : List Value} {Q : Value → Shared → Prop} (ht : IsTup s.heap t vs.toArray) (hb : IsTup s.heap b ws.toArray)
    (h : ∀ h' c, Kp s.heap h' → IsTup h' c (vs ++ ws).toArray → Q (.ref c) { s with heap := h' }) (hsz : vs.length + ws.length ≤ sizeLine) :
    wpAny (model prog w) A (binaryOp .Add (.ref t) (.ref b)) Q E s := by
  obtain ⟨hpz1, ho, hc, n, hd⟩ := id ht; obtain ⟨cls, dd, data, sl⟩ := hpz1
  obtain ⟨hpz2, ho2, hc2, n2, hd2⟩ := id hb; obtain ⟨cls2, dd2, data2, sl2⟩ := hpz2
  simp only at hc hd hc2 hd2
  subst hc hd hc2 hd2
  have e : vs.toArray ++ ws.toArray = (vs ++ ws).toArray := by simp
  by_cases hv : vs = []
  · exact concat_meets ⟨_, ho, rfl⟩ ⟨_, ho2, rfl⟩ noFill_tuple_add seq_tuple_add PySem.F.slot_tuple_add PySem.F.entry_tuple_add (PySem.F.args_tuple_add_2 _ _)
      (tuple_addW0 t b vs.toArray ws.toArray n n2 dd dd2 sl sl2 (by simp [hv])) ⟨ho, ho2, h s.heap b Kp.rfl' (by subst hv; exact hb)⟩
  · by_cases hw : ws = []
    · exact concat_meets ⟨_, ho, rfl⟩ ⟨_, ho2, rfl⟩ noFill_tuple_add seq_tuple_add PySem.F.slot_tuple_add PySem.F.entry_tuple_add (PySem.F.args_tuple_add_2 _ _)
        (tuple_addW1 t b vs.toArray ws.toArray n n2 dd dd2 sl sl2 (by simpa using hv) (by simp [hw])) ⟨ho, ho2, h s.heap t Kp.rfl' (by subst hw; rw [List.append_nil]; exact ht)⟩
    · refine concat_meets ⟨_, ho, rfl⟩ ⟨_, ho2, rfl⟩ noFill_tuple_add seq_tuple_add PySem.F.slot_tuple_add PySem.F.entry_tuple_add (PySem.F.args_tuple_add_2 _ _)
        (tuple_addW2 t b vs.toArray ws.toArray n n2 dd dd2 sl sl2 (by simpa using hv) (by simpa using hw) (by rw [List.size_toArray, List.size_toArray]; exact hsz)) ⟨ho, ho2, ?_⟩
      rw [e]
      exact h _ _ (Kp.push _ _) (IsTup.new _ _)

theorem adjust_upto (b n : Nat) (hb : b ≤ n) : Builtin.Slice.sliceAdjust none (some (b : Int)) 1 (n : Int) = ((0 : Int), (b : Int)) := by
  unfold Builtin.Slice.sliceAdjust
  have h1 : ¬ ((1 : Int) < 0) := by simp
  have h2 : ¬ ((b : Int) < 0) := by simp
  simp only [h1, h2, if_false]
  congr 1
  lia
theorem places_upto (b : Nat) : Builtin.Slice.slicePlaces 0 (b : Int) 1 = b := by
  unfold Builtin.Slice.slicePlaces
  have h1 : (1 : Int) > 0 := by simp
  simp only [h1, if_true, Int.ediv_one]
  split <;> lia
theorem sliceApplied_upto {sl : Addr} {b n : Nat} {u : Tok} {Q : Int × Int × Nat → Shared → Prop} (hs : s.heap.IsSliceOf sl .none (.int b u) .none) (hb : b ≤ n) (h : Q ((0 : Int), 1, b) s) :
    wpAny (model prog w) A (Builtin.Slice.sliceApplied (.ref sl) (pure (n : Int))) Q E s := by
  refine e13 (id hs) fun os hos hcs hds => ?_
  unfold Builtin.Slice.sliceApplied Builtin.Slice.sliceFields
  refine wpAny_bind (wpAny_bind (wpAny_field hos hds (x := .none) rfl (wpAny_bind (wpAny_field hos hds (x := .int b u) rfl (wpAny_bind (wpAny_field hos hds (x := .none) rfl (wpAny_pure ?_)))))))
  refine wpAny_bind (slicePart_none ?_)
  show wpAny _ _ (if ((1 : Int) == 0) = true then _ else _) _ _ s
  rw [if_neg (by decide)]
  refine wpAny_bind (slicePart_none (wpAny_bind (slicePart_int (wpAny_bind (wpAny_pure ?_)))))
  show wpAny _ _ (match Builtin.Slice.sliceAdjust none (some (b : Int)) 1 (n : Int) with | (lo, hi) => pure (lo, (1 : Int), Builtin.Slice.slicePlaces lo hi 1)) _ _ s
  rw [adjust_upto b n hb]
  show wpAny _ _ (pure ((0 : Int), (1 : Int), Builtin.Slice.slicePlaces 0 (b : Int) 1)) _ _ s
  rw [places_upto b]
  exact wpAny_pure h
theorem pick_upto (xs : Array Value) (b : Nat) : ((List.range b).filterMap fun (k : Nat) => xs[((0 : Int) + (k : Int) * 1).toNat]?).toArray = (xs.toList.take b).toArray := by
  have e : (fun (k : Nat) => xs[((0 : Int) + (k : Int) * 1).toNat]?) = fun k => xs[0 + k]? := by
    funext k
    have : ((0 : Int) + (k : Int) * 1).toNat = 0 + k := by simp
    rw [this]
  rw [e]
  have := pick_run xs 0 b
  rw [List.filterMap_map] at this
  have e2 : ((fun x => xs[x]?) ∘ fun x => 0 + x) = fun k => xs[0 + k]? := rfl
  rw [e2] at this
  rw [this]; simp

theorem getItem_tuple_upto {t sl : Addr} {items : List Value} {b : Nat} {u : Tok} {Q : Value → Shared → Prop} (ht : IsTup s.heap t items.toArray) (hs : s.heap.IsSliceOf sl .none (.int b u) .none) (hb : b ≤ items.length)
    (h : ∀ h' c, Kp s.heap h' → IsTup h' c (items.take b).toArray → Q (.ref c) { s with heap := h' })
    (hsz : items.length ≤ sizeLine) : wpAny (model prog w) A (getItem (.ref t) (.ref sl)) Q E s := by
  have htake : sizeOk (.seq (items.take b).toArray) := by
    show (items.take b).toArray.size ≤ sizeLine
    rw [List.size_toArray, List.length_take]
    lia
  refine e13 (id hs) fun os hos hcs hds => ?_
  have hTs : s.TypeIs (.ref sl) "slice" := ⟨os, hos, hcs⟩
  unfold getItem
  refine wpAny_holding ?_
  refine wpAny_bind (wpAny_sequenceKey ht.typeIs (by decide) ?_)
  refine wpAny_bind (wpAny_callSpecial?_slot (name := Str.ofString "__getitem__") ht.typeIs slot_tuple_getitem
    (wpAny_call_entry slot_tuple_getitem ht.typeIs entry_tuple_getitem ?_ (args_tuple_getitem _ _)))
  show wpAny _ _ (Builtin.Tuple.tupleItemsOf (.ref t) >>= _) _ _ s
  refine wpAny_bind (tupleItemsOf_ ht ?_)
  refine wpAny_bind (wpAny_typeOf hTs ?_)
  rw [if_pos (by decide)]
  refine wpAny_bind (sliceApplied_upto hs (by simpa using hb) ?_)
  show wpAny _ _ (if ((0 : Int) == 0 && (1 : Int) == 1 && b == items.toArray.size) = true then _ else _) _ _ s
  by_cases hw : b = items.toArray.size
  · rw [if_pos (by rw [hw]; simp)]
    have e : items.take b = items := by rw [hw, List.size_toArray]; exact List.take_length
    have hq : Q (.ref t) s := h s.heap t Kp.rfl' (by rw [e]; exact ht)
    unfold Builtin.Tuple.tupleIsExact
    first
      | exact wpAny_bind (wpAny_bind (wpAny_typeOf ht.typeIs (wpAny_pure (wpAny_bind (wpAny_rule (wpAny_bind (wpAny_pure (wpAny_pure ⟨_, rfl, wpAny_pure hq⟩))))))))
      | exact wpAny_bind (wpAny_bind (wpAny_typeOf ht.typeIs (wpAny_pure (wpAny_bind (wpAny_rule (wpAny_pure ⟨_, rfl, wpAny_pure hq⟩))))))
      | exact wpAny_bind (wpAny_bind (wpAny_bind (wpAny_typeOf ht.typeIs (wpAny_pure (wpAny_bind (wpAny_rule (wpAny_bind (wpAny_pure (wpAny_pure ⟨_, rfl, wpAny_pure hq⟩)))))))))
  · rw [if_neg (by simp; simpa using hw), pick_upto]
    have hq := h (s.heap.push { cls := .type "tuple", data := .seq (items.take b).toArray }) _ (Kp.push _ _) (IsTup.new _ _)
    first
      | exact wpAny_bind (m := Builtin.Tuple.tupleExact _) (wpAny_newObj_type (wpAny_pure ⟨_, rfl, wpAny_pure hq⟩) htake)
      | exact wpAny_bind (m := Builtin.Tuple.tupleExact _) (wpAny_newObj_type (wpAny_bind (wpAny_pure (wpAny_pure ⟨_, rfl, wpAny_pure hq⟩))) htake)
      | exact wpAny_bind (wpAny_bind (m := Builtin.Tuple.tupleExact _) (wpAny_newObj_type (wpAny_pure (wpAny_pure ⟨_, rfl, wpAny_pure hq⟩)) htake))
      | exact wpAny_bind (wpAny_bind (m := Builtin.Tuple.tupleExact _) (wpAny_newObj_type (wpAny_pure ⟨_, rfl, wpAny_pure hq⟩) htake))

/-- value[:e] on a tuple -/
theorem sub_upto {value e : Expr} {pos p : Pos} {Q : Value → Shared → Prop} (h : wpAny (model prog w) A (eval value env) (fun v s₁ => wpAny (model prog w) A (eval e env) (fun k s₂ => X4 fun (a : Addr) (l : List Value) (b : Nat) (u : Tok) => C6 (v = .ref a) (k = .int b u) (IsTup s₂.heap a l.toArray) (b ≤ l.length) (l.length ≤ sizeLine) (∀ h' c tk, Kp s₂.heap h' → IsTup h' c (l.take b).toArray → Q (.ref c) { s₂ with heap := h', toks := tk })) E s₁) E s) :
    wpAny (model prog w) A (eval (.Subscript value (.Slice none (some e) none p) pos) env) Q E s := by
  refine Subscript_ (wpAny_mono h (fun v s₁ x => ?_) fun _ _ x => x)
  refine wpAny_Slice (wpAny_evalPart_none (wpAny_evalPart_some (wpAny_mono x (fun k s₂ x => wpAny_evalPart_none ?_) fun _ _ x => x)))
  obtain ⟨a, l, b, u, rfl, rfl, ht, hb, hsz, hq⟩ := x
  refine tail_any (T := "tuple") (ops := [.ref s₂.heap.objs.size, .ref a]) ?_ slot_tuple_getitem.lookup ?_ (by with_unfolding_all rfl)
  · exact IsTup.typeIs (s := { s₂ with heap := _ }) (ht.push _)
  · refine getItem_tuple_upto (items := l) (b := b) (ht.push _) (Heap.IsSliceOf.new ..) hb (fun h' c k hc => ?_) hsz
    exact hq _ _ _ ((Kp.push _ _).tr k) hc
/-- value[e:] on a tuple -/
theorem sub_from {value e : Expr} {pos p : Pos} {Q : Value → Shared → Prop} (h : wpAny (model prog w) A (eval value env) (fun v s₁ => wpAny (model prog w) A (eval e env) (fun k s₂ => X4 fun (a : Addr) (l : List Value) (b : Nat) (u : Tok) => C7 (v = .ref a) (k = .int b u) (IsTup s₂.heap a l.toArray) (1 ≤ b) (b ≤ l.length) (l.length ≤ sizeLine) (∀ h' c tk, Kp s₂.heap h' → IsTup h' c (l.drop b).toArray → Q (.ref c) { s₂ with heap := h', toks := tk })) E s₁) E s) :
    wpAny (model prog w) A (eval (.Subscript value (.Slice (some e) none none p) pos) env) Q E s := by
  refine Subscript_ (wpAny_mono h (fun v s₁ x => ?_) fun _ _ x => x)
  refine wpAny_Slice (wpAny_evalPart_some (wpAny_mono x (fun k s₂ x => wpAny_evalPart_none (wpAny_evalPart_none ?_)) fun _ _ x => x))
  obtain ⟨a, l, b, u, rfl, rfl, ht, h1, hb, hsz, hq⟩ := x
  refine tail_any (T := "tuple") (ops := [.ref s₂.heap.objs.size, .ref a]) ?_ slot_tuple_getitem.lookup ?_ (by with_unfolding_all rfl)
  · exact IsTup.typeIs (s := { s₂ with heap := _ }) (ht.push _)
  · refine getItem_tuple_from (items := l.toArray) (a := b) (ht.push _) (Heap.IsSliceOf.new ..) h1 (by simpa using hb) ?_ (by simpa using hsz)
    dsimp only
    refine hq _ _ _ ((Kp.push _ _).tr (Kp.push _ _)) ?_
    simpa using IsTup.new (s₂.heap.push _) ((l.toArray.toList.drop b).toArray)
end

/-! ### tables -/
noncomputable abbrev Tab := List (Op × T)
noncomputable def Rows (h : Heap) : Tab → List (Str × Value) → Prop
  | [], [] => True
  | (o, t) :: r, (x, v) :: r' => x = o.s ∧ Rep h t v ∧ Rows h r r'
  | _, _ => False
theorem Rows.imm {h h' : Heap} (k : Imm h h') : ∀ {tab : Tab} {kvs : List (Str × Value)}, Rows h tab kvs → Rows h' tab kvs
  | [], [], _ => trivial
  | _ :: _, _ :: _, ⟨a, b, c⟩ => ⟨a, b.imm k, c.imm k⟩
  | [], _ :: _, x => x.elim
  | _ :: _, [], x => x.elim
theorem Rows.length {h : Heap} : ∀ {tab : Tab} {kvs : List (Str × Value)}, Rows h tab kvs → kvs.length = tab.length
  | [], [], _ => rfl
  | _ :: _, _ :: _, ⟨_, _, c⟩ => by rw [List.length_cons, List.length_cons, c.length]
  | [], _ :: _, x => x.elim
  | _ :: _, [], x => x.elim
theorem Rows.some {h : Heap} {o : Op} {t : T} : ∀ {tab : Tab} {kvs : List (Str × Value)}, Rows h tab kvs → tab.lookup o = some t → ∃ v, valueAt kvs o.s = some v ∧ Rep h t v
  | [], _, _, e => by simp at e
  | (o', t') :: r, (x, v) :: r', ⟨a, b, c⟩, e => by
    rw [List.lookup_cons] at e
    by_cases ho : o = o'
    · subst ho
      simp only [beq_self_eq_true] at e
      cases e
      refine ⟨v, ?_, b⟩
      unfold valueAt
      (refine Eq.symm (List.find?_cons ..) ▸ ?_; refine Eq.symm (a ..) ▸ ?_); simp
    · have hb : (o == o') = false := by rw [beq_eq_false_iff_ne]; exact ho
      simp only [hb] at e
      refine e12 (c.some e) fun u hu hr => ?_
      refine ⟨u, ?_, hr⟩
      unfold valueAt at hu ⊢
      (refine Eq.symm (List.find?_cons ..) ▸ ?_; refine Eq.symm (a ..) ▸ ?_)
      have : decide (o'.s = o.s) = false := by
        rw [decide_eq_false_iff_not]; exact fun q => ho (Op.s_inj q).symm
      simp only [this]; exact hu
  | _ :: _, [], x, _ => x.elim
theorem Rows.none {h : Heap} {o : Op} : ∀ {tab : Tab} {kvs : List (Str × Value)}, Rows h tab kvs → tab.lookup o = none → valueAt kvs o.s = none
  | [], [], _, _ => rfl
  | (o', t') :: r, (x, v) :: r', ⟨a, b, c⟩, e => by
    rw [List.lookup_cons] at e
    by_cases ho : o = o'
    · subst ho; simp at e
    · have hb : (o == o') = false := by rw [beq_eq_false_iff_ne]; exact ho
      simp only [hb] at e
      have := c.none e
      unfold valueAt at this ⊢
      (refine Eq.symm (List.find?_cons ..) ▸ ?_; refine Eq.symm (a ..) ▸ ?_)
      have : decide (o'.s = o.s) = false := by
        rw [decide_eq_false_iff_not]; exact fun q => ho (Op.s_inj q).symm
      simp only [this]; assumption
  | [], _ :: _, x, _ => x.elim
  | _ :: _, [], x, _ => x.elim

theorem dictOf_kp {prog : Program} {w : World} {K : Type} [DecidableEq K] {knd : KeyKind prog w K} {h h' : Heap} {a : Addr} {kvs : List (K × Value)} (x : h.DictOf knd a kvs) (k : ∀ o, h.get? a = some o → h'.get? a = some o) : h'.DictOf knd a kvs :=
  let ⟨o, es, ep, e, r⟩ := x; ⟨o, es, ep, k _ e, r⟩
/-- a dict of terms by names, not changed any more -/
noncomputable def TabAt (prog : Program) (w : World) (h : Heap) (tab : Tab) (v : Value) : Prop :=
  ∃ d kvs, C4 (v = .ref d) ((d == sysModules) = false) (h.DictOf (strKind prog w) d kvs) (Rows h tab kvs)
theorem TabAt.kp {prog : Program} {w : World} {h h' : Heap} {tab : Tab} {v : Value} (x : TabAt prog w h tab v) (k : Kp h h') : TabAt prog w h' tab v :=
  let ⟨d, kvs, e, n, a, b⟩ := x; ⟨d, kvs, e, n, dictOf_kp a (fun o => k _ o), b.imm (Imm.kp k)⟩
theorem opKey (o : Op) (t : Tok) : Value.isStrOf o.s (.str o.s t) = true := by simp [Value.isStrOf]

section
variable {prog : Program} {w : World} {A : Around} {E : Value → Shared → Prop} {s : Shared} {Q : Value → Shared → Prop}
theorem in_tab {tab : Tab} {v : Value} {o : Op} {t : Tok} (x : TabAt prog w s.heap tab v) (h : ∀ tk, Q (.bool (tab.lookup o).isSome) { s with toks := tk }) :
    wpAny (model prog w) A (compareOp .In (.str o.s t) v) Q E s := by
  obtain ⟨d, kvs, rfl, hn, hd, hr⟩ := x
  refine wpAny_in_of (knd := strKind prog w) (k := o.s) (opKey o t) hn hd.mapOf ?_
  have : (valueAt kvs o.s).isSome = (tab.lookup o).isSome := by
    cases e : tab.lookup o with
    | none => rw [hr.none e]; rfl
    | some u => obtain ⟨v, hv, _⟩ := hr.some e; rw [hv]; rfl
  rw [this]; exact h _
theorem item_tab {value slice : Expr} {tab : Tab} {v : Value} {o : Op} {t : Tok} {u : T} (x : TabAt prog w s.heap tab v) (hl : tab.lookup o = some u) (h : ∀ r tk, Rep s.heap u r → Q r { s with toks := tk })
    (hs : autoParam (∀ d, subscripted slice false (.ref d) (.str o.s t) = operate [.ref d, .str o.s t] (getItem (.ref d) (.str o.s t))) aIWu) :
    wpAny (model prog w) A (subscriptTail value slice v (.str o.s t)) Q E s := by
  obtain ⟨d, kvs, rfl, hn, hd, hr⟩ := x
  refine e12 (hr.some hl) fun r hv hrep => ?_
  exact tail_any hd.typeIs slot_dict_getitem.lookup (wpAny_getItem_of (knd := strKind prog w) (k := o.s) (opKey o t) hd.mapOf hv (h r _ hrep)) (hs d)
end

mutual
noncomputable def lput (tab : Tab) : T → T
  | .nd o ks => match tab.lookup o with | some u => u | none => .nd o (lputs tab ks)
noncomputable def lputs (tab : Tab) : List T → List T
  | [] => []
  | t :: ts => lput tab t :: lputs tab ts
end
theorem lputs_map (tab : Tab) : ∀ ts, lputs tab ts = ts.map (lput tab)
  | [] => rfl
  | t :: ts => by rw [lputs, List.map_cons, lputs_map tab ts]

section
variable {prog : Program} {w : World} {B : Heap}
theorem put_spec (W : Wd w B) : ∀ (n : Nat) (t : T) (A : Around) (s : Shared) (R : Result → Shared → Prop) (v tv : Value) (tab : Tab), Wf n t → Kp B s.heap → Room A (n + 2) → Rep s.heap t v → TabAt prog w s.heap tab tv →
    (∀ r h' tk, Kp s.heap h' → Rep h' (lput tab t) r → R (.ok (.ret r)) { s with heap := h', toks := tk }) → codeAny (model prog w) A (.call (.ref 229) ⟨[v, tv], []⟩) R s := by
  intro n
  induction n with
  | zero => intro t A s R v tv tab hw; exact hw.elim
  | succ n ih =>
    intro t A s R v tv tab hw kb hr hp hT hR
    refine enterX (n := n + 2) (fun L => [("table", L + 1)]) (fun L => [(L, nsP (up nil0 "pattern" v)), (L + 1, cellP (some tv))]) W kb hr ?_
    intro L env h₁ tk EO hL S E'
    obtain ⟨op, ks⟩ := t
    (refine x3c3 (Rep.iff.mp hp) fun a tk0 vs hq3 ht hks => ?_; subst hq3)
    have hlen : (Value.str op.s tk0 :: vs).length = ks.length + 1 := by rw [List.length_cons, hks.length]
    have hk9 : ks.length ≤ 9 := hw.1
    have hvl : vs.length = ks.length := hks.length
    have hL1 : 1 ≤ (Value.str op.s tk0 :: vs).length := by rw [hlen]; exact Nat.le_add_left _ _
    have hLs : (Value.str op.s tk0 :: vs).length ≤ sizeLine := by have := sizeLine_big; lia
    have ht1 : IsTup h₁ a (List.toArray (Value.str op.s tk0 :: vs)) := ht.keeps S.kpH
    have hT1 : TabAt prog w h₁ tab tv := hT.kp S.kpH
    refine wpAny_execs_cons (wpAny_If (wpAny_isTrue_Compare1 (sub_tup (nameL EO (S.ns 0 rfl) rfl ⟨_, _, 0, _, rfl, ht1, seq0 _, rfl, nameC EO (S.cell 1 rfl) (in_tab hT1 (fun tk => wpAny_truthy_bool ?_))⟩))))
    cases hl : tab.lookup op with
    | some u =>
      rw [Option.isSome_some, if_pos rfl]
      have e : lput tab (.nd op ks) = u := by rw [lput, hl]
      rw [e] at hR
      refine wpAny_execs_cons (wpAny_Return_some (Subscript_ (nameC EO (S.cell 1 rfl) (sub_tup (nameL EO (S.ns 0 rfl) rfl ⟨_, _, 0, _, rfl, ht1, seq0 _, rfl, item_tab hT1 hl (fun r tk hr => ?_)⟩)))))
      exact hR _ _ _ S.kpH hr
    | none =>
      rw [Option.isSome_none, if_neg (by decide)]
      have e : lput tab (.nd op ks) = .nd op (ks.map (lput tab)) := by rw [lput, hl, lputs_map]
      rw [e] at hR
      refine wpAny_execs_nil (wpAny_execs_cons (wpAny_Return_some (wpAny_BinOp (sub_upto (nameL EO (S.ns 0 rfl) rfl (wpAny_Constant_int ⟨a, Value.str op.s tk0 :: vs, 1, _, rfl, rfl, ht1, hL1, hLs, fun h2 c tk (k2 : Kp h₁ h2) hc => ?_⟩))))))
      have S2 := S.kp k2
      refine callB W S2.kb EO bn_tuple rfl ?_
      refine compTupMap B s.heap [] EO hr.hh (sub_from (nameL EO (S2.ns 0 rfl) rfl (wpAny_Constant_int ⟨a, Value.str op.s tk0 :: vs, 1, _, rfl, rfl, ht1.keeps k2, Nat.le_refl _, hL1, hLs, fun h3 d tk (k3 : Kp h2 h3) hd => ?_⟩)))
      have S3 := S2.kp k3
      have hks3 : RepL h3 ks vs := (hks.imm (Imm.kp S.kpH)).imm (Imm.kp (k2.tr k3))
      refine ⟨d, vs, _, fun i y h => ∃ k, ks[i]? = some k ∧ Rep h (lput tab k) y, rfl, by simpa using hd, by exact Nat.le_trans (Nat.le_trans (Nat.le_of_eq hvl) hk9) (Nat.le_of_ble_eq_true rfl), S3, ?_, ?_, ?_⟩
      · intro i y h h' im hpz1; (refine e12 hpz1 fun k hk hy => ?_; clear hpz1)
        exact ⟨k, hk, hy.imm im⟩
      · intro i h tk C m ow' x hx im S4 hin EO'
        refine e12 (hks3.at hx) fun k hk hxk => ?_
        refine callF W S4.kb EO' gn_put kf_put (nameL EO' (S4.ns 0 rfl) rfl (nameC EO' (S4.cellM (a := L + 1) (v := some tv) (.tail _ (hin _ (by simp)))) ⟨S4.kb, ?_⟩))
        refine ih k _ _ _ _ _ tab (hw.2 k (List.mem_of_getElem? hk)) S4.kb hr.deeper (hxk.imm im) (hT.kp S4.kpH) (fun r h' tk k' hrep => ?_)
        exact ⟨h', tk, rfl, k', k, hk, hrep⟩
      · intro ys h tk D hyl hF hD im S4
        refine call_tuple_list (S4.list 0 rfl) (fun h5 (k5 : Kp h h5) => ?_) (by rw [List.size_toArray]; have := sizeLine_big; exact Nat.le_trans (Nat.le_trans (Nat.le_trans (Nat.le_of_eq hyl) (Nat.le_of_eq hvl)) hk9) (Nat.le_of_ble_eq_true rfl))
        have k6 : Kp h5 (h5.push { cls := .type "tuple", data := .seq ys.toArray }) := Kp.push _ _
        refine add_tup (vs := [Value.str op.s tk0]) (ws := ys) ?_ (IsTup.new _ _) (fun h7 e (k7 : Kp (h5.push { cls := .type "tuple", data := .seq ys.toArray }) h7) he => ?_) (by simp; have := sizeLine_big; lia)
        · exact Imm.kp (k5.tr k6) _ _ (im _ _ (Imm.kp k3 _ _ (by simpa using hc)))
        · have kk := (k5.tr k6).tr k7
          refine hR _ _ _ (S4.kpH.tr kk) (Rep.iff.mpr ⟨e, tk0, ys, rfl, he, RepL.of (by rw [List.length_map]; simp [*]) (fun i t v h1 h2 => ?_)⟩)
          refine e12 (hF i v h2) fun k hk hy => ?_
          rw [List.getElem?_map, hk] at h1
          cases h1
          exact hy.imm (Imm.kp kk)
end

section
variable {prog : Program} {w : World} {A : Around} {R : Result → Shared → Prop} {s : Shared}
theorem forLoopG {target it body orelse env} (I : Nat → Shared → Prop)
    (turn : ∀ n s, I n s → wpAny (model prog w) A (pyNext it) (fun r s₁ => match r with
      | none => wpAny (model prog w) A (execs orelse env) (fun f s₃ => R (.ok f) s₃) (notedBy (model prog w) A env fun e s' => R (.error e) s') s₁
      | some v => wpAny (model prog w) A (letOwnedTupleGo target it v) (fun _ s₁ => wpAny (model prog w) A (assign target env v) (fun _ s₂ => wpAny (model prog w) A (execs body env) (fun f s₃ => match f with
          | .next | .cont => ∃ m, m < n ∧ I m s₃
          | .brk => R (.ok .next) s₃
          | .ret v => R (.ok (.ret v)) s₃) (notedBy (model prog w) A env fun e s' => R (.error e) s') s₂) (notedBy (model prog w) A env fun e s' => R (.error e) s') s₁) (notedBy (model prog w) A env fun e s' => R (.error e) s') s₁) (notedBy (model prog w) A env fun e s' => R (.error e) s') s)
    (n : Nat) (h : I n s) : codeAny (model prog w) A (.forLoop target it body orelse env) R s := by
  refine codeAny_loop' rfl I (fun n s hI => ?_) n h
  show wpAny _ _ ((forTurn target it body orelse env).onRaise (fun x => do noteFrame x env; theTreesLotGoes x)) _ _ s
  refine wpAny_noted ?_
  simp only [forTurn]
  refine wpAny_bind (wpAny_standAt (wpAny_bind (wpAny_onRaise (wpAny_mono (turn n s hI) (fun r s₁ h₁ => ?_) fun _ _ h' => wpAny_standAt h'))))
  cases r with
  | none => exact wpAny_pure (.inr ⟨rfl, codeAny_block h₁⟩)
  | some v =>
    refine wpAny_bind (wpAny_mono h₁ (fun _ s₁ h₁ => ?_) fun _ _ h' => h')
    refine wpAny_bind (wpAny_mono h₁ (fun _ s₂ h₂ => wpAny_bind (wpAny_mono h₂ (fun f s₃ h₃ => ?_) fun _ _ h' => h')) fun _ _ h' => h')
    cases f with
    | next => exact wpAny_pure (.inl ⟨rfl, h₃⟩)
    | cont => exact wpAny_pure (.inl ⟨rfl, h₃⟩)
    | brk => exact wpAny_pure h₃
    | ret v => exact wpAny_pure h₃
end

section
variable {prog : Program} {w : World} {A : Around} {B H : Heap} {Ss : List Addr} {s : Shared} {env : Env}
/-- what a turn's end must leave behind -/
noncomputable def TurnEnd (B H : Heap) (Ss : List Addr) (Φ : Nat → List (Addr × OP) → Heap → Prop) (K : Flow → Shared → Prop) (s : Shared) (it : Addr) (p : OP) (i : Nat) (h : Heap) (f : Flow) (s₃ : Shared) : Prop := match f with
  | .next | .cont => X3 fun h' tk' ow'' => C4 (s₃ = { s with heap := h', toks := tk' }) (Imm h h') (St B H Ss ((it, p) :: ow'') h') (Φ (i + 1) ow'' h')
  | .brk => K .next s₃
  | .ret v => K (.ret v) s₃

/-- a for over one iterator: what stands between the turns is Φ -/
theorem for_core {target : Expr} {body : List Stmt} {K : Flow → Shared → Prop} {R : Result → Shared → Prop}
    {it : Addr} {pr : Nat → OP} {src : Heap → Prop} {n : Nat} {P : Nat → Value → Prop} {ow : List (Addr × OP)}
    (Φ : Nat → List (Addr × OP) → Heap → Prop)
    (I : Itr prog w A it pr src n P) (S : St B H Ss ((it, pr 0) :: ow) s.heap) (hit : it ∉ Ss)
    (mono : ∀ i ow' h h', Imm h h' → Φ i ow' h → Φ i ow' h')
    (start : Φ 0 ow s.heap)
    (hsrc : ∀ i ow' h, Imm s.heap h → St B H Ss ((it, pr i) :: ow') h → Φ i ow' h → src h)
    (turn : ∀ (i : Nat) (ow' : List (Addr × OP)) (h : Heap) (tk : Nat) (x : Value), i < n → P i x → Imm s.heap h →
      St B H Ss ((it, pr (i + 1)) :: ow') h → Φ i ow' h →
      wpAny (model prog w) A (letOwnedTupleGo target (.ref it) x) (fun _ s₁ => wpAny (model prog w) A (assign target env x) (fun _ s₂ =>
        wpAny (model prog w) A (execs body env) (TurnEnd B H Ss Φ K s it (pr (i + 1)) i h) noE s₂) noE s₁) noE { s with heap := h, toks := tk })
    (fin : ∀ ow' h tk, Imm s.heap h → St B H Ss ow' h → Φ n ow' h → K .next { s with heap := h, toks := tk })
    (hR : ∀ f s', K f s' → R (.ok f) s') :
    codeAny (model prog w) A (.forLoop target (.ref it) body [] env) R s := by
  let J : Nat → Shared → Prop := fun k s' => X4 fun i ow' h tk => C6 (k + i = n + 1) (i ≤ n) (s' = { s with heap := h, toks := tk }) (Imm s.heap h) (St B H Ss ((it, pr i) :: ow') h) (Φ i ow' h)
  have noEr : ∀ e s', noE e s' → notedBy (model prog w) A env (fun e s' => R (.error e) s') e s' := fun _ _ x => x.elim
  refine forLoopG J (fun k s' hJk => ?_) (n + 1) ⟨0, ow, s.heap, s.toks, rfl, Nat.zero_le _, rfl, Imm.rfl', S, start⟩
  (refine x4c6 hJk fun i ow' h tk hki hin hq6 im S3 hΦ => ?_; subst hq6; clear hJk)
  have so := hsrc i ow' h im S3 hΦ
  have hi0 : ∃ o, h.get? it = some o ∧ pr i o := let ⟨o, e, r, _⟩ := S3.get 0 rfl; ⟨o, e, r⟩
  by_cases hlt : i < n
  · refine I.item i _ _ _ hlt hi0 so (fun x h' tk' hx hit' hs' => ?_)
    refine e02 (S3.upd (p' := pr (i + 1)) 0 rfl hs' (let ⟨o, e, r⟩ := hit'; ⟨o, e, r, I.nt _ _ r⟩)) fun S4 im4 => ?_
    have t := turn i ow' h' tk' x hlt hx (im.tr im4) S4 (mono _ _ _ _ im4 hΦ)
    refine wpAny_mono t (fun _ s₁ t => wpAny_mono t (fun _ s₂ t => wpAny_mono t (fun f s₃ t => ?_) noEr) noEr) noEr
    have go : (X3 fun h' tk' ow'' => C5 (s₃ = { s with heap := h', toks := tk' }) (Imm (h') h') (Imm s.heap h') (St B H Ss ((it, pr (i + 1)) :: ow'') h') (Φ (i + 1) ow'' h')) → ∃ m, m < k ∧ J m s₃ := by
      intro hpz1; obtain ⟨h'', tk'', ow'', rfl, _, im5, S5, hΦ5⟩ := hpz1
      exact ⟨k - 1, by omega, i + 1, ow'', h'', tk'', by lia, by exact hlt, rfl, im5, S5, hΦ5⟩
    cases f with
    | next => (refine x3c4 t fun h'' tk'' ow'' hq3 im5 S5 hΦ5 => ?_; subst hq3; clear t); exact go ⟨h'', tk'', ow'', rfl, Imm.rfl', (im.tr im4).tr im5, S5, hΦ5⟩
    | cont => (refine x3c4 t fun h'' tk'' ow'' hq3 im5 S5 hΦ5 => ?_; subst hq3; clear t); exact go ⟨h'', tk'', ow'', rfl, Imm.rfl', (im.tr im4).tr im5, S5, hΦ5⟩
    | brk => exact hR _ _ t
    | ret v => exact hR _ _ t
  · have hie : i = n := by lia
    subst hie
    refine I.stop _ _ _ hi0 so (fun h' tk' hs' => ?_)
    refine e02 (S3.lose hit hs') fun S6 im6 => ?_
    exact wpAny_execs_nil (hR _ _ (fin ow' h' tk' (im.tr im6) S6 (mono _ _ _ _ im6 hΦ)))

/-- for target in TUPLE -/
theorem forTup (B H : Heap) (Ss : List Addr) {E : Value → Shared → Prop} {target iter : Expr} {body : List Stmt} {pos : Pos} {Q : Flow → Shared → Prop} (hh : A.handled = none)
    (h : wpAny (model prog w) A (eval iter env) (fun xv s₁ => X4 fun (a : Addr) (xs : List Value) (ow : List (Addr × OP)) (Φ : Nat → List (Addr × OP) → Heap → Prop) => C7 (xv = .ref a) (IsTup s₁.heap a xs.toArray) (St B H Ss ow s₁.heap) ((∀ i ow' h h', Imm h h' → Φ i ow' h → Φ i ow' h')) (Φ 0 ow s₁.heap) ((∀ (i : Nat) (ow' : List (Addr × OP)) (h : Heap) (tk : Nat) (it : Addr) (p : OP) (x : Value), xs[i]? = some x → Imm s₁.heap h → St B H Ss ((it, p) :: ow') h → Φ i ow' h →
        wpAny (model prog w) A (letOwnedTupleGo target (.ref it) x) (fun _ s₁' => wpAny (model prog w) A (assign target env x) (fun _ s₂ =>
          wpAny (model prog w) A (execs body env) (TurnEnd B H Ss Φ Q s₁ it p i h) noE s₂) noE s₁') noE { s₁ with heap := h, toks := tk })) ((∀ ow' h tk, Imm s₁.heap h → St B H Ss ow' h → Φ xs.length ow' h → Q .next { s₁ with heap := h, toks := tk }))) E s)
    (hs : autoParam (∀ x, foldedSetIterable iter env x = pure x) aIRfl) :
    wpAny (model prog w) A (exec (.For target iter body [] pos) env) Q E s := by
  refine wpAny_For (wpAny_mono h (fun xv s₁ h₁ => ?_) fun _ _ e => e) hs
  obtain ⟨a, xs, ow, Φ, rfl, ht, S, mono, start, turn, fin⟩ := h₁
  refine iter_tuple ht ?_
  have hin : s₁.heap.get? s₁.heap.objs.size = none := Heap.get?_none_of_le (Nat.le_refl _)
  have S1 := S.addPush (o := { cls := .type "tuple_iterator", data := .fields #[.ref a, .int 0 0] }) (p := titP a 0) rfl ⟨rfl, rfl⟩ (nt_cls (show (Value.type "tuple_iterator") ≠ Value.type "tuple" by decide))
  have k1 : Kp s₁.heap (s₁.heap.push { cls := .type "tuple_iterator", data := .fields #[.ref a, .int 0 0] }) := Kp.push _ _
  refine for_core (s := { s₁ with heap := s₁.heap.push { cls := .type "tuple_iterator", data := .fields #[.ref a, .int 0 0] } }) (K := Q) Φ (itr_tup hh s₁.heap.objs.size a xs) S1 (ext_notin S hin)
    mono (mono _ _ _ _ (Imm.kp k1) start) (fun i ow' h im _ _ => im _ _ (ht.keeps k1)) ?_ ?_ (fun f s' x => x)
  · intro i ow' h tk x hi hx im S' hΦ
    exact turn i ow' h tk _ _ x hx ((Imm.kp k1).tr im) S' hΦ
  · intro ow' h tk im S' hΦ
    exact fin ow' h tk ((Imm.kp k1).tr im) S' hΦ

/-- for target in LIST -/
theorem forList (B H : Heap) (Ss : List Addr) {E : Value → Shared → Prop} {target iter : Expr} {body : List Stmt} {pos : Pos} {Q : Flow → Shared → Prop} (hh : A.handled = none)
    (h : wpAny (model prog w) A (eval iter env) (fun xv s₁ => X4 fun (a : Addr) (xs : List Value) (ow : List (Addr × OP)) (Φ : Nat → List (Addr × OP) → Heap → Prop) => C8 (xv = .ref a) (s₁.heap.IsList a xs.toArray) (St B H Ss ow s₁.heap) ((∀ i ow' h h', Imm h h' → Φ i ow' h → Φ i ow' h')) (Φ 0 ow s₁.heap) ((∀ i ow' h it p, Imm s₁.heap h → St B H Ss ((it, p) :: ow') h → Φ i ow' h → h.IsList a xs.toArray)) ((∀ (i : Nat) (ow' : List (Addr × OP)) (h : Heap) (tk : Nat) (it : Addr) (p : OP) (x : Value), xs[i]? = some x → Imm s₁.heap h → St B H Ss ((it, p) :: ow') h → h.IsListIter it a (i + 1) → Φ i ow' h →
        wpAny (model prog w) A (letOwnedTupleGo target (.ref it) x) (fun _ s₁' => wpAny (model prog w) A (assign target env x) (fun _ s₂ =>
          wpAny (model prog w) A (execs body env) (TurnEnd B H Ss Φ Q s₁ it p i h) noE s₂) noE s₁') noE { s₁ with heap := h, toks := tk })) ((∀ ow' h tk, Imm s₁.heap h → St B H Ss ow' h → Φ xs.length ow' h → Q .next { s₁ with heap := h, toks := tk }))) E s)
    (hs : autoParam (∀ x, foldedSetIterable iter env x = pure x) aIRfl) :
    wpAny (model prog w) A (exec (.For target iter body [] pos) env) Q E s := by
  refine wpAny_For (wpAny_mono h (fun xv s₁ h₁ => ?_) fun _ _ e => e) hs
  obtain ⟨a, xs, ow, Φ, rfl, hl, S, mono, start, hsrc, turn, fin⟩ := h₁
  refine wpAny_pyIter_list hl ?_
  have hin : s₁.heap.get? s₁.heap.objs.size = none := Heap.get?_none_of_le (Nat.le_refl _)
  have S1 := S.addPush (o := { cls := .type "list_iterator", data := .fields #[.ref a, .int 0 0] }) (p := litP a 0) rfl ⟨rfl, rfl⟩ (nt_cls (show (Value.type "list_iterator") ≠ Value.type "tuple" by decide))
  have k1 : Kp s₁.heap (s₁.heap.push { cls := .type "list_iterator", data := .fields #[.ref a, .int 0 0] }) := Kp.push _ _
  refine for_core (s := { s₁ with heap := s₁.heap.push { cls := .type "list_iterator", data := .fields #[.ref a, .int 0 0] } }) (K := Q) Φ (itr_list hh s₁.heap.objs.size a xs) S1 (ext_notin S hin)
    mono (mono _ _ _ _ (Imm.kp k1) start) (fun i ow' h im S' hΦ => hsrc i ow' h _ _ ((Imm.kp k1).tr im) S' hΦ) ?_ ?_ (fun f s' x => x)
  · intro i ow' h tk x hi hx im S' hΦ
    exact turn i ow' h tk _ _ x hx ((Imm.kp k1).tr im) S' (S'.lit 0 rfl) hΦ
  · intro ow' h tk im S' hΦ
    exact fin ow' h tk ((Imm.kp k1).tr im) S' hΦ
end

section
variable {prog : Program} {w : World} {A : Around} {E : Value → Shared → Prop} {s : Shared} {env : Env} {Q : Value → Shared → Prop}
/-- a method of a thing of a built-in type -/
theorem methT {o : Expr} {name : Str} {apos pos : Pos} {args : List Expr} {T id : String} (pa : PlainAttrs T) (slot : Slot T name id) (hty : typeOf (.builtin id) = pure (.type "method_descriptor"))
    (h : wpAny (model prog w) A (eval o env) (fun ov s₁ => s₁.TypeIs ov T ∧ (∀ a, ov = .ref a → ∃ ob, s₁.heap.get? a = some ob ∧ ob.dict = none) ∧
      argsWp (model prog w) A E env args (fun vs s₂ => wpAny (model prog w) A (call (.builtin id) (ov :: vs)) Q E s₂) s₁) E s)
    (hbase : autoParam (attributeBase o name env (eval o env) = eval o env) aRfl)
    (hfew : autoParam (((backTo pos (starEach args env)).all (fun x => !x.1) && (backToKw pos (keywordEach [] env)).all (fun x => x.1.isSome)
      && decide (args.length + ([] : List Keyword).length + (if ([] : List Keyword).isEmpty then 0 else 1) < 30)) = true) aRfl)
    (hline : autoParam ((apos.endLine == pos.line) = true) aRfl) (hp : autoParam (args.all plainE = true) aRfl) :
    wpAny (model prog w) A (eval (.Call (.Attribute o name apos) args [] pos) env) Q E s := by
  refine wpAny_Call_method hbase hfew hline pa slot hty (wpAny_mono h (fun ov s₁ h₁ => ⟨h₁.1, h₁.2.1, ?_⟩) fun _ _ e => e)
  refine callWithP (P := fun _ => True) (fun h _ => ⟨.machine, .inr (.inl rfl), Looks.of_pure rfl⟩) ?_ hp
  have key : ∀ {args : List Expr} {Q₁ Q₂ : List Value → Shared → Prop} {s : Shared}, (∀ vs s, Q₁ vs s → Q₂ vs s) → argsWp (model prog w) A E env args Q₁ s → argsWp (model prog w) A E env args Q₂ s := by
    intro args
    induction args with
    | nil => intro Q₁ Q₂ s i h; exact i _ _ h
    | cons e r ih => intro Q₁ Q₂ s i h; exact wpAny_mono h (fun v s₁ h₁ => ih (fun vs s => i _ s) h₁) fun _ _ x => x
  exact key (fun vs s h => ⟨trivial, h⟩) h₁.2.2

theorem list_extend_plain {D b : Addr} {xs ys : Array Value} {Q : Value → Shared → Prop} (hD : s.heap.PlainList D xs) (hb : s.heap.PlainList b ys) 
    (hQ : ∀ h', h'.PlainList D (xs ++ ys) → Heap.SameBut D s.heap h' → Q .none { s with heap := h' }) (hsz : xs.size + ys.size ≤ sizeLine) :
    wpAny (model prog w) A (call (.builtin "list.extend") [.ref D, .ref b]) Q E s := by
  (refine e11 hD fun n e => ?_; clear hD)
  (refine e11 hb fun n2 e2 => ?_; clear hb)
  refine call_meets PySem.F.slot_list_extend ⟨_, e, rfl⟩ PySem.F.entry_list_extend (PySem.F.args_list_extend_2 _ _) (AutoSeq1.list_extend_list_list_0 D xs n b ys n2 (extend_door hsz) (by lia) (by exact Nat.le_succ_of_le (by assumption))) ⟨e, e2, ?_⟩
  refine hQ _ ⟨if (xs ++ ys).size == xs.size then n else n + 1, ?_⟩ (Heap.SameBut.update ..)
  rw [Heap.get?_update_self _ e (by dsimp only [mapSeq_app]; rfl), mapSeq_app]
end

section
variable {prog : Program} {w : World} {A : Around} {E : Value → Shared → Prop} {s : Shared} {env : Env}
/-- a list comprehension, its source a list -/
theorem compListE (B H : Heap) (Ss : List Addr) {elt iter target : Expr} {ifs : List Expr} {scope : Scope} {cl : List (Str × Addr)} {pos : Pos} {Q : Value → Shared → Prop} (he : EnvOk env) (hh : A.handled = none)
    (h : wpAny (model prog w) A (eval iter env) (fun xv s₁ => X4 fun (a : Addr) (xs : List Value) (ow : List (Addr × OP)) (Φ : Nat → List Value → List (Addr × OP) → Heap → Prop) => C9 (xv = .ref a) (s₁.heap.IsList a xs.toArray) (xs.length ≤ 1000) (St B H Ss ow s₁.heap) ((∀ i ys ow' h h', Imm h h' → Φ i ys ow' h → Φ i ys ow' h')) (Φ 0 [] ow s₁.heap) ((∀ i ys ow' h C D it m p q, Imm s₁.heap h → St B H Ss ((C, nsP m) :: (D, listP p) :: (it, q) :: ow') h → Φ i ys ow' h → h.IsList a xs.toArray)) ((∀ (i : Nat) (ys : List Value) (ow' : List (Addr × OP)) (h : Heap) (tk : Nat) (C D it : Addr) (p : OP) (m : Str → Option Value) (x : Value), xs[i]? = some x → Imm s₁.heap h → s₁.heap.get? C = none →
        St B H Ss ((C, nsP m) :: (D, listP ys.toArray) :: (it, p) :: ow') h → h.IsListIter it a (i + 1) → Φ i ys ow' h → EnvOk (compEnvC scope cl C env) →
        wpAny (model prog w) A (letOwnedTupleGo target (.ref it) x) (fun _ s₁' => wpAny (model prog w) A (assign target (compEnvC scope cl C env) x) (fun _ s₂ =>
          ifsWp prog w A ifs (compEnvC scope cl C env) (fun ok s₃ =>
          if ok = true then wpAny (model prog w) A (eval elt (compEnvC scope cl C env)) (fun y s₄ => X4 fun h' tk' m' ow'' => C4 (s₄ = { s₁ with heap := h', toks := tk' }) (Imm h h') (St B H Ss ((C, nsP m') :: (D, listP ys.toArray) :: (it, p) :: ow'') h') (Φ (i + 1) (ys ++ [y]) ow'' h')) noE s₃
          else X4 fun h' tk' m' ow'' => C4 (s₃ = { s₁ with heap := h', toks := tk' }) (Imm h h') (St B H Ss ((C, nsP m') :: (D, listP ys.toArray) :: (it, p) :: ow'') h') (Φ (i + 1) ys ow'' h')) noE s₂) noE s₁') noE
        { s₁ with heap := h, toks := tk })) ((∀ ys ow' h tk D, ys.length ≤ xs.length → s₁.heap.get? D = none → Imm s₁.heap h → St B H Ss ((D, listP (List.toArray ys)) :: ow') h → Φ xs.length ys ow' h → Q (.ref D) { s₁ with heap := h, toks := tk }))) E s)
    (hclos : autoParam (closureFor scope env = pure cl) aRfl) (hcell : autoParam (∀ y ∈ scope.names, y.2 ≠ .cell) aDec) (hkind : autoParam (scope.kind = .function) aRfl)
    (hnames : autoParam (∀ y ∈ scope.names, y.2 = .local → scope.names.lookup y.1 = some .local) aDec)
    (hs : autoParam (∀ x, foldedSetIterable iter env x = pure x) aIRfl) :
    wpAny (model prog w) A (eval (.ListComp elt [⟨target, iter, ifs, 0⟩] scope pos) env) Q E s := by
  dsimp only [eval_ListComp]
  refine wpAny_comprehension_free (use := none) rfl hs hclos hkind hnames (wpAny_mono h (fun xv s₁ h₁ => ?_) fun _ _ e => e)
  obtain ⟨a, xs, ow, Φ, rfl, hl, hn, S, mono, start, hsrc, turn, fin⟩ := h₁
  refine wpAny_pyIter_list hl ?_
  have hin : s₁.heap.get? s₁.heap.objs.size = none := Heap.get?_none_of_le (Nat.le_refl _)
  have S1 := S.addPush (o := { cls := .type "list_iterator", data := .fields #[.ref a, .int 0 0] }) (p := litP a 0) rfl ⟨rfl, rfl⟩ (nt_cls (show (Value.type "list_iterator") ≠ Value.type "tuple" by decide))
  have k1 : Kp s₁.heap (s₁.heap.push { cls := .type "list_iterator", data := .fields #[.ref a, .int 0 0] }) := Kp.push _ _
  have hit := ext_notin S hin
  have none1 : ∀ C : Addr, (s₁.heap.push { cls := .type "list_iterator", data := .fields #[.ref a, .int 0 0] }).get? C = none → s₁.heap.get? C = none := fun C hC => by
    cases e : s₁.heap.get? C with
    | none => rfl
    | some o => have := k1 _ _ e; rw [hC] at this; cases this
  refine comp_core (s := { s₁ with heap := s₁.heap.push { cls := .type "list_iterator", data := .fields #[.ref a, .int 0 0] } }) noE Φ he (itr_list hh s₁.heap.objs.size a xs) S1 hn
    (fun _ b hb => ⟨fun q => hit (q ▸ hb), ss_there S1 b hb⟩) hcell hkind mono (mono _ _ _ _ _ (Imm.kp k1) start) (fun i ys ow' h C D m p im S' hΦ => hsrc i ys ow' h C D _ m p _ ((Imm.kp k1).tr im) S' hΦ) ?_ ?_ (fun _ _ _ _ x => x.elim)
  · intro i ys ow' h tk C D m x hi hx im hC S' hΦ
    exact turn i ys ow' h tk C D _ _ m x hx ((Imm.kp k1).tr im) (none1 C hC) S' (S'.lit 2 rfl) hΦ ⟨he.gl, he.bi, hkind⟩
  · intro ys ow' h tk D hl hD im S' hΦ
    exact fin ys ow' h tk D hl (none1 D hD) ((Imm.kp k1).tr im) S' hΦ
end

/-! ### parts -/
mutual
noncomputable def subs : T → List T
  | .nd o ks => .nd o ks :: subsL ks
noncomputable def subsL : List T → List T
  | [] => []
  | t :: ts => subs t ++ subsL ts
end
theorem subsL_mem {u : T} : ∀ {ts : List T}, u ∈ subsL ts ↔ ∃ k ∈ ts, u ∈ subs k
  | [] => by simp [subsL]
  | t :: ts => by rw [subsL, List.mem_append, subsL_mem]; simp
noncomputable def T.size (t : T) : Nat := (subs t).length
theorem size_nd (o : Op) (ks : List T) : (T.nd o ks).size = 1 + (ks.map T.size).sum := by
  have : ∀ ts : List T, (subsL ts).length = (ts.map T.size).sum := by
    intro ts
    induction ts with
    | nil => rfl
    | cons t ts ih => rw [subsL, List.length_append, List.map_cons, List.sum_cons, ih]; rfl
  unfold T.size
  rw [subs, List.length_cons, this]; unfold T.size; lia
theorem size_kid {o : Op} {ks : List T} {k : T} (h : k ∈ ks) : k.size + 1 ≤ (T.nd o ks).size := by
  rw [size_nd]
  have : k.size ≤ (ks.map T.size).sum := by
    induction ks with
    | nil => cases h
    | cons a r ih =>
      rw [List.map_cons, List.sum_cons]
      rcases List.mem_cons.mp h with rfl | h
      · simp
      · have := ih h; lia
  lia
theorem subs_self (t : T) : t ∈ subs t := by cases t; dsimp only [subs]; exact .head _
theorem subs_nd {o : Op} {ks : List T} {u : T} : u ∈ subs (.nd o ks) ↔ u = .nd o ks ∨ ∃ k ∈ ks, u ∈ subs k := by rw [subs, List.mem_cons, subsL_mem]
theorem subs_wf : ∀ {n : Nat} {t u : T}, Wf n t → u ∈ subs t → Wf n u
  | 0, _, _, h, _ => h.elim
  | n + 1, .nd o ks, u, h, hu => by
    rcases subs_nd.mp hu with rfl | ⟨k, hk, hu⟩
    · exact h
    · exact (subs_wf (h.2 k hk) hu).up (Nat.le_succ _)

section
variable {prog : Program} {w : World} {A : Around} {E : Value → Shared → Prop} {s : Shared} {Q : Value → Shared → Prop}
theorem eq_trees {n m : Nat} {t u : T} {v r : Value} (x : Rep s.heap t v) (y : Rep s.heap u r) (hx : Wf n t) (hy : Wf m u) (hn : n ≤ 60) (hm : m ≤ 60) (hu : A.units + 64 < cLine) (h : ∀ b, (b = true ↔ t = u) → Q (.bool b) s) :
    wpAny (model prog w) A (compareOp .Eq v r) Q E s := by
  refine e11 x.reads fun as ra => ?_
  refine e11 y.reads fun bs rb => ?_
  refine eq_dataH ra rb ?_ ?_ hu (h _ (py_eqv t u))
  · have := wf_lay _ _ hx; unfold SeqAt.shaped; rw [this.1, Bool.true_and]; exact decide_eq_true (by lia)
  · have := wf_lay _ _ hy; unfold SeqAt.shaped; rw [this.1, Bool.true_and]; exact decide_eq_true (by lia)
theorem ne_trees {n m : Nat} {t u : T} {v r : Value} (x : Rep s.heap t v) (y : Rep s.heap u r) (hx : Wf n t) (hy : Wf m u) (hn : n ≤ 60) (hm : m ≤ 60) (hu : A.units + 64 < cLine) (h : ∀ b, (b = true ↔ t ≠ u) → Q (.bool b) s) :
    wpAny (model prog w) A (compareOp .NotEq v r) Q E s := by
  refine e11 x.reads fun as ra => ?_
  refine e11 y.reads fun bs rb => ?_
  refine ne_dataH ra rb ?_ ?_ hu (h _ ?_)
  · have := wf_lay _ _ hx; unfold SeqAt.shaped; rw [this.1, Bool.true_and]; exact decide_eq_true (by omega)
  · have := wf_lay _ _ hy; unfold SeqAt.shaped; rw [this.1, Bool.true_and]; exact decide_eq_true (by omega)
  · have := py_eqv t u
    rw [Bool.not_eq_true', ← Bool.not_eq_true]; exact not_congr this
theorem pys_any {u : T} : ∀ ts : List T, ((pys ts).any fun y => PyData.eqv y u.py) = true ↔ u ∈ ts
  | [] => by simp [pys]
  | t :: ts => by
    rw [pys, List.any_cons, Bool.or_eq_true, pys_any ts, py_eqv, List.mem_cons]
    exact or_congr ⟨Eq.symm, Eq.symm⟩ Iff.rfl
theorem pys_lay {n : Nat} : ∀ ts : List T, (∀ t ∈ ts, Wf n t) → PyData.canLayAll0 (pys ts) = true ∧ PyData.depthAll (pys ts) ≤ n + 1
  | [], _ => by simp [pys, PyData.canLayAll0, PyData.depthAll]
  | t :: ts, h => by
    have h1 := wf_lay n t (h t (.head _))
    have h2 := pys_lay ts fun e he => h e (.tail _ he)
    simp only [pys, PyData.canLayAll0, PyData.depthAll, h1.1, h2.1, Bool.and_self, true_and]
    have a1 := h1.2
    have a2 := h2.2
    lia
theorem notIn_trees {n m : Nat} {l : Addr} {ts : List T} {vs : List Value} {u : T} {r : Value} (hl : s.heap.IsList l vs.toArray) (x : RepL s.heap ts vs) (y : Rep s.heap u r) (hx : ∀ t ∈ ts, Wf n t) (hy : Wf m u) (hm : m ≤ 60) (hu : A.units + 64 < cLine)
    (h : ∀ b, (b = true ↔ u ∉ ts) → Q (.bool b) s) : wpAny (model prog w) A (compareOp .NotIn r (.ref l)) Q E s := by
  refine e11 x.reads fun as ra => ?_
  refine e11 y.reads fun bs rb => ?_
  obtain ⟨o, ho, hc, k, hd⟩ := hl
  have l1 := pys_lay ts hx
  have l2 := wf_lay _ _ hy
  refine SeqAt.notIn_list_reads (reads_list_at ho hc hd (by simpa using ra)) rb l1.1 l2.1 ?_ (h _ ?_)
  · have := Nat.min_le_right (PyData.depthAll (pys ts)) u.py.depth
    have := l2.2
    lia
  · rw [Bool.not_eq_true', ← Bool.not_eq_true]; exact not_congr (pys_any ts)
end
section
variable {prog : Program} {w : World} {B : Heap}

/-- the parts of a term, each once, as a new list -/
noncomputable def PartsOut (h0 h : Heap) (t : T) (r : Value) : Prop := X3 fun D ys ts => C7 (r = .ref D) (h0.get? D = none) (h.PlainList D (List.toArray ys)) (RepL h ts ys) (ts.Nodup) ((∀ u, u ∈ ts ↔ u ∈ subs t)) (ts.length ≤ t.size)

theorem take_succ_mem {α : Type} {l : List α} {i : Nat} {x a : α} (h : l[i]? = some x) : a ∈ l.take (i + 1) ↔ a ∈ l.take i ∨ a = x := by
  rw [List.take_add_one, h, List.mem_append]; simp

open Classical in
theorem lparts_spec (W : Wd w B) : ∀ (n : Nat) (t : T) (A : Around) (s : Shared) (R : Result → Shared → Prop) (v : Value), Wf n t → n ≤ 50 → t.size ≤ 900 → Kp B s.heap → Room A (n + 2) → Rep s.heap t v →
    (∀ r h' tk, Kp s.heap h' → PartsOut s.heap h' t r → R (.ok (.ret r)) { s with heap := h', toks := tk }) → codeAny (model prog w) A (.call (.ref 224) ⟨[v], []⟩) R s := by
  intro n
  induction n with
  | zero => intro t A s R v hw; exact hw.elim
  | succ n ih =>
    intro t A s R v hw hn50 hsz kb hr hp hR
    refine enterX (n := n + 2) (fun L => [("found", L + 1)]) (fun L => [(L, nsP (up nil0 "t" v)), (L + 1, cellP none)]) W kb hr ?_
    intro L env h₁ tk EO hL S E'
    try dsimp only
    have hp1 : Rep h₁ t v := hp.imm (Imm.kp S.kpH)
    refine wpAny_execs_cons (wpAny_Assign_Name (wpAny_List (wpAny_items_cons (nameL EO (S.ns 0 rfl) rfl (wpAny_items_nil ⟨by have := sizeLine_big; simp; exact Nat.le_add_left _ _, ?_⟩)))))
    try dsimp only
    have hDn : s.heap.get? h₁.objs.size = none := by
      cases e : s.heap.get? h₁.objs.size with
      | none => rfl
      | some o => exact absurd (Heap.lt_size (S.kpH _ _ e)) (Nat.lt_irrefl _)
    have S1 := S.addPush (o := { cls := .type "list", data := .seq [v].toArray }) (p := listP #[v]) rfl ⟨0, rfl⟩ (listP.nt ⟨0, rfl⟩)
    have k1 : Kp h₁ (h₁.push { cls := .type "list", data := .seq [v].toArray }) := Kp.push _ _
    generalize hh2 : h₁.push { cls := .type "list", data := .seq [v].toArray } = h2 at *
    generalize hD : h₁.objs.size = D at *
    refine S1.storeC 2 rfl EO (fun h3 S2 im2 => ?_)
    try dsimp only
    have S3 : St B s.heap [] [(D, listP #[v]), (L, nsP (up nil0 "t" v)), (L + 1, cellP (some (.ref D)))] h3 := S2
    have hp3 : Rep h3 t v := (hp1.imm (Imm.kp k1)).imm im2
    obtain ⟨op, ks⟩ := t
    (refine x3c3 (Rep.iff.mp hp3) fun a tk0 vs hq3 ht hks => ?_; subst hq3)
    have hlen : (Value.str op.s tk0 :: vs).length = ks.length + 1 := by rw [List.length_cons, hks.length]
    have hk9 : ks.length ≤ 9 := hw.1
    have hvl : vs.length = ks.length := hks.length
    have hL1 : 1 ≤ (Value.str op.s tk0 :: vs).length := by rw [hlen]; exact Nat.le_add_left _ _
    have hLs : (Value.str op.s tk0 :: vs).length ≤ sizeLine := by have := sizeLine_big; lia
    refine wpAny_execs_cons (forTup B s.heap [] hr.hh (hide fun K0 hK0 => sub_from (nameL EO (S3.ns 1 rfl) rfl (wpAny_Constant_int ⟨a, Value.str op.s tk0 :: vs, 1, _, rfl, rfl, ht, Nat.le_refl _, hL1, hLs, fun h4 d tk (k4 : Kp h3 h4) hd => ?_⟩))))
    try dsimp only
    have S4 := S3.kp k4
    have hks4 : RepL h4 ks vs := hks.imm (Imm.kp k4)
    have hself : Rep h4 (.nd op ks) (.ref a) := hp3.imm (Imm.kp k4)
    refine hK0 _ _ ⟨d, vs, _, fun i ow h => X3 fun m ys ts => C5 (ow = [(D, listP (List.toArray ys)), (L, nsP m), (L + 1, cellP (some (.ref D)))]) (RepL h ts ys) (ts.Nodup) ((∀ u, u ∈ ts ↔ u = .nd op ks ∨ ∃ k ∈ ks.take i, u ∈ subs k)) (ts.length ≤ 1 + ((ks.take i).map T.size).sum), rfl, by simpa using hd, S4, ?_, ?_, ?_, ?_⟩
    · intro i ow h h' im hpz1; (refine x3c5 hpz1 fun m ys ts e r r1 r2 r3 => ?_; clear hpz1)
      exact ⟨m, ys, ts, e, r.imm im, r1, r2, r3⟩
    · exact ⟨_, [.ref a], [.nd op ks], rfl, RepL.one hself, by simp, by simp, by simp⟩
    · intro i ow h tk it p x hx im S5 hpz2; (refine x3c5 hpz2 fun m ys ts hq3 hys hnd hmem hlen5 => ?_; subst hq3; clear hpz2)
      refine e12 (hks4.at hx) fun k hk hxk => ?_
      have hkm : k ∈ ks := List.mem_of_getElem? hk
      refine wpAny_pure (wpAny_assign_Name (S5.storeL 2 rfl EO (fun h6 S6 im6 => ?_)))
      refine hide (fun K1 hK1 => ?_)
      have S6' : St B s.heap [] [(it, p), (D, listP ys.toArray), (L, nsP (up m "kid" x)), (L + 1, cellP (some (.ref D)))] h6 := S6
      clear S6
      have hsum : ((ks.take (i + 1)).map T.size).sum = ((ks.take i).map T.size).sum + k.size := by
        rw [List.take_add_one, hk]; simp
      have htot : (T.nd op ks).size = 1 + (ks.map T.size).sum := size_nd op ks
      have hle : ((ks.take (i + 1)).map T.size).sum ≤ (ks.map T.size).sum := by
        have e : ks.map T.size = (ks.take (i + 1)).map T.size ++ (ks.drop (i + 1)).map T.size := by rw [← List.map_append, List.take_append_drop]
        rw [e, List.sum_append]; simp
      have hys6 : RepL h6 ts ys := hys.imm im6
      have htw : ∀ u ∈ ts, Wf (n + 1) u := fun u hu => by
        rcases (hmem u).mp hu with rfl | ⟨k', hk', hu'⟩
        · exact hw
        · exact (subs_wf (hw.2 k' (List.mem_of_mem_take hk')) hu').up (Nat.le_succ _)
      refine wpAny_execs_cons (wpAny_Expr (methT PySem.F.plainAttrs_list PySem.F.slot_list_extend PySem.F.type_list_extend (nameC EO (S6'.cell 3 rfl) ⟨(S6'.list 1 rfl).typeIs, ?_, ?_⟩)))
      · intro b hb; cases hb
        refine e11 (S6'.plain 1 rfl) fun nn e => ?_
        exact ⟨_, e, rfl⟩
      refine compListE B s.heap [] EO hr.hh (hide fun K2 hK2 => callF W S6'.kb EO gn_lparts kf_lparts (nameL EO (S6'.ns 2 rfl) rfl ⟨S6'.kb, ih k _ _ _ _ (hw.2 k hkm) (by exact Nat.le_of_lt (by assumption)) (by have := size_kid (o := op) hkm; lia) S6'.kb hr.deeper (hxk.imm (im.tr im6)) (fun r h7 tk7 (k7 : Kp h6 h7) hout => ?_)⟩))
      try dsimp only
      (refine x3c7 hout fun Z zs us hq3 hZn hZ hzs hund humem hulen => ?_; subst hq3; clear hout)
      have hZn' : h6.get? Z = none := hZn
      have S7 : St B s.heap [] [(Z, listP zs.toArray), (it, p), (D, listP ys.toArray), (L, nsP (up m "kid" x)), (L + 1, cellP (some (.ref D)))] h7 :=
        S6'.add hZn' k7 (let ⟨nn, e⟩ := hZ; ⟨_, e, ⟨nn, rfl⟩, listP.nt ⟨nn, rfl⟩⟩)
      have hzl : zs.length = us.length := hzs.length
      refine hK2 _ _ ⟨Z, zs, _, fun j rs ow h => ow = [(Z, listP zs.toArray), (it, p), (D, listP ys.toArray), (L, nsP (up m "kid" x)), (L + 1, cellP (some (.ref D)))] ∧ RepL h ((us.take j).filter (· ∉ ts)) rs, rfl, hZ.isList, ?_, S7, ?_, ⟨rfl, by simp [RepL.nil_iff]⟩, ?_, ?_, ?_⟩
      try dsimp only
      · have := size_kid (o := op) hkm; lia
      · intro j rs ow h h' im hpz3; (refine e02 hpz3 fun e r => ?_; clear hpz3)
        exact ⟨e, r.imm im⟩
      · intro j rs ow h C D' it' m' p' q im S8 hpz4; obtain ⟨rfl, _⟩ := hpz4
        exact S8.list 3 rfl
      · intro j rs ow h tk C D' it' p' m' x' hx' im8 hC S8 _ hpz5 EO'; (refine e02 hpz5 fun hq0 hrs => ?_; subst hq0; clear hpz5)
        refine e12 (hzs.at hx') fun u hu hxu => ?_
        refine wpAny_pure (wpAny_assign_Name (S8.storeL 0 rfl EO' (fun h9 S9 im9 => ?_)))
        try dsimp only
        have hys9 : RepL h9 ts ys := ((hys6.imm (Imm.kp k7)).imm im8).imm im9
        have hxu9 : Rep h9 u x' := (hxu.imm im8).imm im9
        refine wpAny_tests_one (wpAny_isTrue_Compare1 (nameL EO' (S9.ns 0 rfl) rfl (nameC EO' (S9.cell 7 rfl) (notIn_trees (S9.list 5 rfl) hys9 hxu9 htw (subs_wf (hw.2 k hkm) ((humem u).mp (List.mem_of_getElem? hu))) (by exact Nat.le_trans (Nat.le_of_lt (by assumption)) (Nat.le_of_ble_eq_true rfl)) hr.deeper.units64 (fun b hb => wpAny_truthy_bool ?_)))))
        try dsimp only
        have htake : us.take (j + 1) = us.take j ++ [u] := by rw [List.take_add_one, hu]; rfl
        cases b with
        | false =>
          rw [if_neg (by decide)]
          refine ⟨h9, _, _, _, rfl, im9, S9, rfl, ?_⟩
          try dsimp only
          have : ¬ (u ∉ ts) := fun q => by have := hb.mpr q; cases this
          rw [htake, List.filter_append]
          have e : ([u] : List T).filter (· ∉ ts) = [] := by simp; exact Classical.not_not.mp this
          rw [e, List.append_nil]; exact hrs.imm im9
        | true =>
          rw [if_pos rfl]
          refine nameL EO' (S9.ns 0 rfl) rfl ⟨h9, _, _, _, rfl, im9, S9, rfl, ?_⟩
          try dsimp only
          have hnu : u ∉ ts := hb.mp rfl
          rw [htake, List.filter_append]
          have e : ([u] : List T).filter (· ∉ ts) = [u] := by simp [hnu]
          rw [e]; exact (hrs.imm im9).append (RepL.one hxu9)
      · intro rs ow h tk D' hrl hD' im8 S8 hpz6; obtain ⟨rfl, hrs⟩ := hpz6
        have hfull : us.take zs.length = us := by rw [hzl]; exact List.take_length
        rw [hfull] at hrs
        have hyl : ys.length = ts.length := hys6.length
        refine list_extend_plain (xs := ys.toArray) (ys := rs.toArray) (S8.plain 3 rfl) (S8.plain 0 rfl) (fun h10 hl10 hs10 => ?_) ?_
        try dsimp only
        · refine e02 (S8.setList 3 rfl hs10 hl10) fun S10 im10 => ?_
          refine wpAny_execs_nil (hK1 _ _ ⟨h10, tk, [(D, listP (ys ++ rs).toArray), (L, nsP (up m "kid" x)), (L + 1, cellP (some (.ref D)))], rfl, ((im6.tr (Imm.kp k7)).tr im8).tr im10, ?_, up m "kid" x, ys ++ rs, ts ++ us.filter (· ∉ ts), rfl, ?_, ?_, ?_, ?_⟩)
          try dsimp only
          · have e : (ys.toArray ++ rs.toArray) = (ys ++ rs).toArray := by simp
            rw [e] at S10
            exact (St.tail (a := (D', listP rs.toArray)) S10 List.not_mem_nil).tail List.not_mem_nil
          · exact ((((hys6.imm (Imm.kp k7)).imm im8).imm im10)).append (hrs.imm im10)
          · rw [List.nodup_append]
            refine ⟨hnd, hund.filter _, fun a ha b hb hab => ?_⟩
            try dsimp only
            subst hab
            have := (List.mem_filter.mp hb).2
            simp at this; exact this ha
          · intro z
            rw [List.mem_append, hmem, List.mem_filter]
            constructor
            · rintro ((h | ⟨k', hk', hz⟩) | ⟨h1, h2⟩)
              · exact .inl h
              · exact .inr ⟨k', (take_succ_mem hk).mpr (.inl hk'), hz⟩
              · exact .inr ⟨k, (take_succ_mem hk).mpr (.inr rfl), (humem z).mp h1⟩
            · rintro (h | ⟨k', hk', hz⟩)
              · exact .inl (.inl h)
              · rcases (take_succ_mem hk).mp hk' with h | rfl
                · exact .inl (.inr ⟨k', h, hz⟩)
                · by_cases hzt : z ∈ ts
                  · exact .inl ((hmem z).mp hzt)
                  · exact .inr ⟨(humem z).mpr hz, by simpa using hzt⟩
          · have := List.length_filter_le (fun u => decide (u ∉ ts)) us
            rw [List.length_append, hsum]; lia
        · have := sizeLine_big
          rw [List.size_toArray, List.size_toArray]
          lia
    · intro ow h tk im S5 hpz7; (refine x3c5 hpz7 fun m ys ts hq3 hys hnd hmem hlen5 => ?_; subst hq3; clear hpz7)
      have hfull : ks.take vs.length = ks := by rw [hvl]; exact List.take_length
      rw [hfull] at hmem hlen5
      refine wpAny_execs_cons (wpAny_Return_some (nameC EO (S5.cell 2 rfl) (hR _ _ _ S5.kpH ⟨D, ys, ts, rfl, hDn, S5.plain 0 rfl, hys, hnd, fun u => (hmem u).trans subs_nd.symm, ?_⟩)))
      try dsimp only
      rw [size_nd]; exact hlen5
end

noncomputable def dictP {prog : Program} {w : World} {K : Type} [DecidableEq K] (knd : KeyKind prog w K) (kvs : List (K × Value)) : OP := fun o =>
  ∃ es ep, o.ExactDict ∧ o.data = .dict es ep ∧ KeysOf knd es ∧ Pairs knd es.toList kvs ∧ (kvs.map (·.1)).Nodup
theorem dictP.nt {prog : Program} {w : World} {K : Type} [DecidableEq K] {knd : KeyKind prog w K} {kvs : List (K × Value)} {o : Obj} (x : dictP knd kvs o) : NT o := by
  obtain ⟨es, ep, _, e, _⟩ := x; exact nt_data fun _ _ q => by rw [e] at q; cases q
theorem dictP_of {prog : Program} {w : World} {K : Type} [DecidableEq K] {knd : KeyKind prog w K} {h : Heap} {a : Addr} {kvs : List (K × Value)} : h.DictOf knd a kvs ↔ ∃ o, h.get? a = some o ∧ dictP knd kvs o :=
  ⟨fun ⟨o, es, ep, e, x, r⟩ => ⟨o, e, es, ep, x, r⟩, fun ⟨o, e, es, ep, x, r⟩ => ⟨o, es, ep, e, x, r⟩⟩
namespace St
variable {prog : Program} {w : World} {K : Type} [DecidableEq K] {knd : KeyKind prog w K} {B H h h' : Heap} {S : List Addr} {ow : List (Addr × OP)}
theorem dict (x : St B H S ow h) (i : Nat) {a : Addr} {kvs : List (K × Value)} (hi : ow[i]? = some (a, dictP knd kvs)) : h.DictOf knd a kvs := let ⟨o, e, r, _⟩ := x.get i hi; dictP_of.mpr ⟨o, e, r⟩
theorem dictM (x : St B H S ow h) {a : Addr} {kvs : List (K × Value)} (hi : (a, dictP knd kvs) ∈ ow) : h.DictOf knd a kvs := let ⟨o, e, r, _⟩ := x.own _ hi; dictP_of.mpr ⟨o, e, r⟩
theorem setDict (x : St B H S ow h) (i : Nat) {a : Addr} {p : OP} {kvs : List (K × Value)} (hi : ow[i]? = some (a, p)) (hs : Heap.ExtBut a h h') (hn : h'.DictOf knd a kvs) : St B H S (ow.set i (a, dictP knd kvs)) h' ∧ Imm h h' :=
  x.upd i hi hs (let ⟨o, e, r⟩ := dictP_of.mp hn; ⟨o, e, r, r.nt⟩)
/-- an object of the entry that may be changed from now on -/
theorem claim (x : St B H S ow h) {a : Addr} {o : Obj} {p : OP} (hB : B.get? a = none) (ha : a ∉ ow.map (·.1)) (e : h.get? a = some o) (hp : p o) (nt : NT o) : St B H (a :: S) ((a, p) :: ow) h := by
  refine ⟨x.kb, fun b o hb e => x.base b o (fun q => hb (.tail _ q)) e, fun q hq => ?_, fun q hq => ?_, ?_, fun b hb => ?_⟩
  · rcases List.mem_cons.mp hq with rfl | hq
    · exact ⟨o, e, hp, nt⟩
    · exact x.own q hq
  · rcases List.mem_cons.mp hq with rfl | hq
    · exact ⟨hB, .inr (.head _)⟩
    · exact ⟨(x.new q hq).1, (x.new q hq).2.imp id fun m => .tail _ m⟩
  · rw [List.map_cons, List.nodup_cons]; exact ⟨ha, x.nd⟩
  · rw [List.map_cons]
    rcases List.mem_cons.mp hb with rfl | hb
    · exact .head _
    · exact .tail _ (x.sub b hb)
theorem notown (x : St B H [] ow h) {a : Addr} {o : Obj} (e : H.get? a = some o) : a ∉ ow.map (·.1) := fun q => by
  (refine e12 (List.mem_map.mp q) fun p hp hq2 => ?_; subst hq2)
  rcases (x.new p hp).2 with hn | hn
  · rw [hn] at e; cases e
  · cases hn
end St

/-! ### the hand -/
noncomputable abbrev handKvs (cl : Addr) (a : Int) (t1 : Tok) (m : Int) (t2 : Tok) : List (Str × Value) := [("cells", .ref cl), ("at", .int a t1), ("mix", .int m t2)]
/-- what is fixed of a hand: its list of cells, its mix -/
structure HandSt (h : Heap) (hd : Addr) (c : Addr × List Value × Int) : Prop where
  ne : c.1 ≠ hd
  lst : h.IsList c.1 (List.toArray c.2.1)
  itm : ∀ v ∈ c.2.1, ∃ i t, v = Value.int i t
  len : c.2.1.length ≤ 40
  mix : 0 ≤ c.2.2
theorem HandSt.of {h h' : Heap} {hd : Addr} {c : Addr × List Value × Int} (x : HandSt h hd c) (k : ∀ o, h.get? c.1 = some o → h'.get? c.1 = some o) : HandSt h' hd c :=
  ⟨x.ne, let ⟨o, e, r⟩ := x.lst; ⟨o, k o e, r⟩, x.itm, x.len, x.mix⟩
noncomputable def handP (prog : Program) (w : World) (c : Addr × List Value × Int) (a : Nat) : OP := fun o => ∃ t1 t2, dictP (strKind prog w) (handKvs c.1 a t1 c.2.2 t2) o
theorem handP.nt {prog : Program} {w : World} {c : Addr × List Value × Int} {a : Nat} {o : Obj} (x : handP prog w c a o) : NT o := by obtain ⟨_, _, x⟩ := x; exact x.nt
noncomputable def HandAt (prog : Program) (w : World) (h : Heap) (hd : Addr) (c : Addr × List Value × Int) (a : Nat) : Prop := (∃ o, h.get? hd = some o ∧ handP prog w c a o) ∧ HandSt h hd c
theorem bits_small {a : Nat} (h : a ≤ 100000) : Builtin.Int.intBits (a : Int) ≤ 64 := by
  unfold Builtin.Int.intBits
  split
  · exact Nat.zero_le _
  · have h1 : (a : Int).natAbs = a := Int.natAbs_natCast a
    rw [h1]
    have h3 : a < 2 ^ 17 := by exact Nat.lt_of_le_of_lt h (Nat.le_of_ble_eq_true rfl)
    rename_i hne
    have hne' : a ≠ 0 := by rintro rfl; simp at hne
    have := (Nat.log2_lt hne').mpr h3
    exact Nat.lt_of_lt_of_le (by assumption) (Nat.le_of_ble_eq_true rfl)

section
variable {prog : Program} {w : World} {B : Heap}
theorem strKey (x : Str) (t : Tok) : Value.isStrOf x (.str x t) = true := by simp [Value.isStrOf]
theorem item_str_dict {A : Around} {E : Value → Shared → Prop} {s : Shared} {Q : Value → Shared → Prop} {value slice : Expr} {d : Addr} {kvs : List (Str × Value)} {x : Str} {t : Tok} {v : Value} (hd : s.heap.DictOf (strKind prog w) d kvs) (hv : valueAt kvs x = some v)
    (h : Q v { s with toks := s.toks + 1 }) (hs : autoParam (subscripted slice false (.ref d) (.str x t) = operate [.ref d, .str x t] (getItem (.ref d) (.str x t))) aWu) :
    wpAny (model prog w) A (subscriptTail value slice (.ref d) (.str x t)) Q E s :=
  tail_any hd.typeIs slot_dict_getitem.lookup (wpAny_getItem_of (knd := strKind prog w) (k := x) (strKey x t) hd.mapOf hv h) hs
theorem set_str {A : Around} {E : Value → Shared → Prop} {s : Shared} {d : Addr} {kvs : List (Str × Value)} {x : Str} {t : Tok} {v : Value} {Q : Unit → Shared → Prop} (hd : s.heap.DictOf (strKind prog w) d kvs)
    (hQ : ∀ h', h'.DictOf (strKind prog w) d (stored kvs x v) → Heap.SameBut d s.heap h' → Q () { s with heap := h', toks := s.toks + 1 }) (hz : kvs.length ≤ sizeLine) : wpAny (model prog w) A (setItem (.ref d) (.str x t) v) Q E s :=
  wpAny_setItem_pairs (knd := strKind prog w) (k := x) (key := .str x t) (strKey x t) hd hQ hz
theorem ifT {b : Bool} {X Y : Prop} (h : b = true) (x : X) : if b = true then X else Y := by rw [h]; exact x
theorem ifF {b : Bool} {X Y : Prop} (h : b = false) (x : Y) : if b = true then X else Y := by rw [h]; exact x
theorem len_listL {A : Around} {E : Value → Shared → Prop} {s : Shared} {Q : Value → Shared → Prop} {l : Addr} {xs : List Value} (hl : s.heap.IsList l xs.toArray) (hk : xs.length ≤ 1000000)
    (h : Q (.int xs.length (s.toks + 1)) { s with toks := s.toks + 1 + 1 }) : wpAny (model prog w) A (call (.builtin "len") [.ref l]) Q E s :=
  PyProof.Rows.len_list hl (by rw [List.size_toArray]; lia) (by rw [List.size_toArray]; exact h)
theorem len_tupL {A : Around} {E : Value → Shared → Prop} {s : Shared} {Q : Value → Shared → Prop} {l : Addr} {xs : List Value} (hl : IsTup s.heap l xs.toArray) (hk : xs.length ≤ 1000000)
    (h : Q (.int xs.length (s.toks + 1)) { s with toks := s.toks + 1 + 1 }) : wpAny (model prog w) A (call (.builtin "len") [.ref l]) Q E s :=
  PyProof.Rows.len_tuple hl (by rw [List.size_toArray]; omega) (by rw [List.size_toArray]; exact h)
theorem item_list {A : Around} {E : Value → Shared → Prop} {s : Shared} {Q : Value → Shared → Prop} {value slice : Expr} {l : Addr} {xs : List Value} {k : Nat} {u : Tok} {v : Value} {i : Int} (hl : s.heap.IsList l xs.toArray) (hi : i = k) (hv : xs[k]? = some v) (hk : k < 1000000)
    (h : Q v s) (hs : autoParam (subscripted slice false (.ref l) (.int i u) = operate [.ref l, .int i u] (getItem (.ref l) (.int i u))) aWu) :
    wpAny (model prog w) A (subscriptTail value slice (.ref l) (.int i u)) Q E s := by
  subst hi
  exact tail_any hl.typeIs slot_list_getitem.lookup (wpAny_getItem_list (x := v) hl (Int.natCast_nonneg _) (by lia) (by simpa using hv) h) hs

set_option maxHeartbeats 4000000 in
theorem draw_spec (W : Wd w B) {A : Around} {s : Shared} {R : Result → Shared → Prop} {hd : Addr} {c : Addr × List Value × Int} {a : Nat} {wide : Int} {tw : Tok} {n : Nat} (kb : Kp B s.heap) (hr : Room A (n + 2)) (hB : B.get? hd = none) (hH : HandAt prog w s.heap hd c a) (ha : a ≤ 90000) (hw : 0 < wide) (hw2 : wide < 1000)
    (hR : ∀ r t h' tk, Heap.ExtBut hd s.heap h' → HandAt prog w h' hd c (a + 1) → 0 ≤ r → r < wide → R (.ok (.ret (.int r t))) { s with heap := h', toks := tk }) :
    codeAny (model prog w) A (.call (.ref 209) ⟨[.ref hd, .int wide tw], []⟩) R s := by
  refine enterX (n := n + 1) (fun L => []) (fun L => [(L, nsP (up (up nil0 "hand" (.ref hd)) "wide" (.int wide tw)))]) W kb hr ?_
  intro L env h₁ tk EO hL S0 E'
  obtain ⟨cl, xs, m⟩ := c
  (refine e02 hH fun hpz1 hSt => ?_; clear hH); obtain ⟨od, eod, t1, t2, pod⟩ := hpz1
  have hSt' := hSt
  obtain ⟨hne, hl, hints, hlen, hm0⟩ := hSt
  dsimp only at hne hl hints hlen hm0 pod
  have S : St B s.heap [hd] [(hd, dictP (strKind prog w) (handKvs cl a t1 m t2)), (L, nsP (up (up nil0 "hand" (.ref hd)) "wide" (.int wide tw)))] h₁ :=
    S0.claim hB (S0.notown eod) (S0.kpH _ _ eod) pod pod.nt
  clear S0
  have hcl : cl ∉ ([hd] : List Addr) := by simpa using hne
  have lst : ∀ {ow h}, St B s.heap [hd] ow h → h.IsList cl xs.toArray := fun S => let ⟨o, e, r⟩ := hl; ⟨o, S.base _ _ hcl e, r⟩
  -- hand['at'] = hand['at'] + 1
  refine wpAny_execs_cons (wpAny_Assign_Subscript (wpAny_BinOp (Subscript_ (nameL EO (S.ns 1 rfl) rfl (Constant_str (item_str_dict (S.dict 0 rfl) rfl (wpAny_Constant_int (PyProof.Rows.add_int ?_))))))))
  dsimp only
  refine nameL EO (S.ns 1 rfl) rfl (Constant_str ?_)
  dsimp only
  refine set_str (S.dict 0 rfl) (fun h2 hd2 hs2 => ?_) (show (3 : Nat) ≤ sizeLine by decide)
  refine e02 (S.setDict 0 rfl hs2.extBut hd2) fun S2 im2 => ?_
  have S3 : ∃ t1', St B s.heap [hd] [(hd, dictP (strKind prog w) (handKvs cl ((a : Int) + 1) t1' m t2)), (L, nsP (up (up nil0 "hand" (.ref hd)) "wide" (.int wide tw)))] h2 := ⟨_, S2⟩
  refine e11 S3 fun t1' S3 => ?_
  clear S2
  have lst2 := lst S3
  have hw0 : wide ≠ 0 := by lia
  have fin : ∀ r t h' tk, Kp h2 h' → 0 ≤ r → r < wide → R (.ok (.ret (.int r t))) { s with heap := h', toks := tk } := fun r t h' tk k h0 h1 => by
    have S4 := S3.kp k
    refine hR r t h' tk (fun b o hb e => S4.base b o (by simpa using hb) e) ⟨?_, hne, lst S4, hints, hlen, hm0⟩ h0 h1
    obtain ⟨o4, e4, p4, _⟩ := S4.get 0 rfl
    exact ⟨o4, e4, t1', t2, by simpa using p4⟩
  -- if hand['at'] <= len(hand['cells'])
  refine wpAny_execs_cons (wpAny_If (wpAny_isTrue_Compare1 (Subscript_ (nameL EO (S3.ns 1 rfl) rfl (Constant_str (item_str_dict (S3.dict 0 rfl) rfl ?_))))))
  dsimp only
  refine callB W S3.kb EO bn_len rfl (Subscript_ (nameL EO (S3.ns 1 rfl) rfl (Constant_str (item_str_dict (S3.dict 0 rfl) rfl (len_listL lst2 (by exact Nat.le_trans hlen (Nat.le_of_ble_eq_true rfl)) (PyProof.Rows.le_int (wpAny_truthy_bool ?_)))))))
  dsimp only
  by_cases hle : ((a : Int) + 1 ≤ (xs.length : Int))
  · refine ifT (decide_eq_true hle) ?_
    have hx : xs[a]? = some xs[a] := List.getElem?_eq_getElem (by omega)
    refine e21 (hints _ (List.mem_of_getElem? hx)) fun i ti hi => ?_
    refine wpAny_execs_cons (wpAny_Return_some (wpAny_BinOp (Subscript_ (Subscript_ (nameL EO (S3.ns 1 rfl) rfl (Constant_str (item_str_dict (S3.dict 0 rfl) rfl ?_)))))))
    dsimp only
    refine wpAny_BinOp (Subscript_ (nameL EO (S3.ns 1 rfl) rfl (Constant_str (item_str_dict (S3.dict 0 rfl) rfl (wpAny_Constant_int (PyProof.Rows.sub_int ?_))))))
    dsimp only
    refine item_list (k := a) lst2 (by simp) (hx.trans (congrArg some hi)) (by exact Nat.lt_of_le_of_lt ha (Nat.le_of_ble_eq_true rfl)) ?_
    refine nameL EO (S3.ns 1 rfl) rfl ?_
    refine PyProof.Rows.mod_int hw0 ?_
    (try dsimp only)
    refine fin _ _ h2 _ (fun _ _ e => e) ?_ ?_
    · rw [Int.fmod_eq_emod_of_nonneg _ (by lia)]; exact Int.emod_nonneg _ (by assumption)
    · rw [Int.fmod_eq_emod_of_nonneg _ (by omega)]; exact Int.emod_lt_of_pos _ hw
  · refine ifF (decide_eq_false hle) ?_
    have hb := bits_small (a := a + 1) (by exact Nat.lt_of_le_of_lt (by assumption) (Nat.le_of_ble_eq_true rfl))
    have e1 : ((a + 1 : Nat) : Int) = (a : Int) + 1 := by rfl
    rw [e1] at hb
    refine wpAny_execs_nil ?_
    refine wpAny_execs_cons (wpAny_Return_some ?_)
    refine wpAny_BinOp ?_
    refine wpAny_BinOp ?_
    refine wpAny_BinOp ?_
    refine wpAny_BinOp ?_
    refine wpAny_BinOp ?_
    refine wpAny_BinOp ?_
    refine Subscript_ ?_
    refine nameL EO (S3.ns 1 rfl) rfl ?_
    refine Constant_str ?_
    refine item_str_dict (S3.dict 0 rfl) rfl ?_
    dsimp only
    refine Subscript_ (nameL EO (S3.ns 1 rfl) rfl (Constant_str (item_str_dict (S3.dict 0 rfl) rfl (PyProof.Rows.mul_int ?_ (.of_left hb)))))
    dsimp only
    refine wpAny_Constant_int (PyProof.Rows.mul_int ?_ (.of_right (by decide)))
    dsimp only
    refine wpAny_BinOp (Subscript_ (nameL EO (S3.ns 1 rfl) rfl (Constant_str (item_str_dict (S3.dict 0 rfl) rfl (wpAny_Constant_int (PyProof.Rows.mul_int ?_ (.of_right (by decide))))))))
    dsimp only
    refine PyProof.Rows.add_int (Subscript_ (nameL EO (S3.ns 1 rfl) rfl (Constant_str (item_str_dict (S3.dict 0 rfl) rfl (PyProof.Rows.add_int ?_)))))
    dsimp only
    refine wpAny_Constant_int (PyProof.Rows.floordiv_int (by decide) ?_ (.inl (PyProof.noPylong_small (by decide))))
    dsimp only
    refine nameL EO (S3.ns 1 rfl) rfl ?_
    refine PyProof.Rows.mod_int hw0 ?_
    dsimp only
    (try dsimp only)
    refine fin _ _ h2 _ (fun _ _ e => e) ?_ ?_
    · rw [Int.fmod_eq_emod_of_nonneg _ (by omega)]; exact Int.emod_nonneg _ (by assumption)
    · rw [Int.fmod_eq_emod_of_nonneg _ (by omega)]; exact Int.emod_lt_of_pos _ hw
end

section
variable {prog : Program} {w : World} {A : Around} {E : Value → Shared → Prop} {s : Shared} {env : Env}
/-- x, y = e1, e2, both locals of one row: the stores come in the other order -/
theorem pairSwapped {x y : Str} {px py tpos vpos pos : Pos} {k1 k2 : Nat} {e1 e2 : Expr} {Q : Flow → Shared → Prop} (hh : A.handled = none)
    (h : wpAny (model prog w) A (eval e1 env) (fun v1 s₁ => wpAny (model prog w) A (eval e2 env) (fun v2 s₂ => ∀ h' tk, Kp s₂.heap h' →
      wpAny (model prog w) A (storeName env y v2) (fun _ s₃ => wpAny (model prog w) A (storeName env x v1) (fun _ => Q .next) E s₃) E { s₂ with heap := h', toks := tk }) E s₁) E s)
    (he : autoParam (([e1, e2] : List Expr).all plainE = true) aRfl)
    (hs : autoParam (swapsWithSole [.Tuple [.Name x px, .Name y py] k1 tpos] (.Tuple [e1, e2] k2 vpos) pos.line env = pure false) aRfl)
    (hw : autoParam (swappedStores [.Tuple [.Name x px, .Name y py] k1 tpos] (.Tuple [e1, e2] k2 vpos) env = pure (some [x, y])) aRfl) :
    wpAny (model prog w) A (exec (.Assign [.Tuple [.Name x px, .Name y py] k1 tpos] (.Tuple [e1, e2] k2 vpos) pos) env) Q E s := by
  refine Assign_Tuple_swapped ?_ hs hw
  refine wpAny_Tuple (spliced_args he ?_)
  refine wpAny_mono h (fun v1 s₁ h₁ => wpAny_mono h₁ (fun v2 s₂ h₂ => ⟨by have := sizeLine_big; simp; exact Nat.le_add_left _ _, ?_⟩) fun _ _ e => e) fun _ _ e => e
  refine unpackItems_tuple (items := #[v1, v2]) hh (IsTup.new _ _) (fun h' hx => ?_)
  have k : Kp s₂.heap h' := fun b o e => by
    refine hx b o (fun q => ?_) (Heap.get?_push_of_some _ e)
    have := Heap.lt_size e
    dsimp only at q
    rw [Heap.size_push] at q
    exact absurd this (by rw [q]; exact Nat.not_lt.mpr (Nat.le_succ _))
  refine assignInOrder_cons (wpAny_bindName ?_)
  exact wpAny_mono (h₂ h' _ k) (fun _ s₃ h₃ => assignInOrder_cons (wpAny_bindName (wpAny_mono h₃ (fun _ _ x => assignInOrder_nil x) fun _ _ e => e))) fun _ _ e => e
/-- x, y = e1, e2 otherwise: the stores from the left -/
theorem pairPlain {x y : Str} {px py tpos vpos pos : Pos} {k1 k2 : Nat} {e1 e2 : Expr} {Q : Flow → Shared → Prop} (hh : A.handled = none)
    (h : wpAny (model prog w) A (eval e1 env) (fun v1 s₁ => wpAny (model prog w) A (eval e2 env) (fun v2 s₂ => ∀ h' tk, Kp s₂.heap h' →
      wpAny (model prog w) A (storeName env x v1) (fun _ s₃ => wpAny (model prog w) A (storeName env y v2) (fun _ => Q .next) E s₃) E { s₂ with heap := h', toks := tk }) E s₁) E s)
    (he : autoParam (([e1, e2] : List Expr).all plainE = true) aRfl)
    (hs : autoParam (swapsWithSole [.Tuple [.Name x px, .Name y py] k1 tpos] (.Tuple [e1, e2] k2 vpos) pos.line env = pure false) aRfl)
    (hw : autoParam (swappedStores [.Tuple [.Name x px, .Name y py] k1 tpos] (.Tuple [e1, e2] k2 vpos) env = pure none) aRfl) :
    wpAny (model prog w) A (exec (.Assign [.Tuple [.Name x px, .Name y py] k1 tpos] (.Tuple [e1, e2] k2 vpos) pos) env) Q E s := by
  refine PyProof.Rows.Assign_Tuple ?_ hs hw
  refine wpAny_Tuple (spliced_args he ?_)
  refine wpAny_mono h (fun v1 s₁ h₁ => wpAny_mono h₁ (fun v2 s₂ h₂ => ⟨by have := sizeLine_big; simp; exact Nat.le_add_left _ _, ?_⟩) fun _ _ e => e) fun _ _ e => e
  refine assign_Tuple_tuple (items := #[v1, v2]) hh (IsTup.new _ _) rfl rfl (fun h' hx => ?_)
  have k : Kp s₂.heap h' := fun b o e => by
    refine hx b o (fun q => ?_) (Heap.get?_push_of_some _ e)
    have := Heap.lt_size e
    dsimp only at q
    rw [Heap.size_push] at q
    exact absurd this (by rw [q]; exact Nat.not_lt.mpr (Nat.le_succ _))
  refine assignInOrder_cons (wpAny_assign_Name ?_)
  exact wpAny_mono (h₂ h' _ k) (fun _ s₃ h₃ => assignInOrder_cons (wpAny_assign_Name (wpAny_mono h₃ (fun _ _ x => assignInOrder_nil x) fun _ _ e => e))) fun _ _ e => e

noncomputable def ritP (n : Nat) (i : Nat) : OP := fun o => o = { cls := .type "range_iterator", dict := none, data := .fields #[rawInt (0 + (i : Int) * 1), rawInt ((n : Int) - i), rawInt 1], slots := #[] }
theorem ritP.nt {n i o} (x : ritP n i o) : NT o := by rw [x]; exact nt_cls (show Value.type "range_iterator" ≠ Value.type "tuple" by decide)
theorem itr_range (hh : A.handled = none) (it : Addr) (n : Nat) : Itr prog w A it (ritP n) (fun _ => True) n (fun i x => ∃ t, x = .int i t) where
  nt := fun i o h => h.nt
  item := fun i s Q E hi ho _ hq => by
    (refine e12 ho fun o e hq2 => ?_; subst hq2; clear ho)
    refine wpAny_pyNext_range_item (x := 0 + (i : Int) * 1) (left := (n : Int) - i) (step := 1) e (by simp [*]) (fun h' hit hs => hq _ h' _ ⟨s.toks, by simp⟩ ⟨_, hit, ?_⟩ hs.extBut)
    unfold ritP
    have e1 : (0 + ((i + 1 : Nat) : Int) * 1) = 0 + (i : Int) * 1 + 1 := by rfl
    have e2 : ((n : Int) - ((i + 1 : Nat) : Int)) = (n : Int) - i - 1 := by lia
    rw [e1, e2]
  stop := fun s Q E ho _ hq => by
    (refine e12 ho fun o e hq2 => ?_; subst hq2; clear ho)
    exact wpAny_pyNext_range_end (x := 0 + (n : Int) * 1) (left := (n : Int) - n) (step := 1) hh e (by simp) fun h' hs => hq h' s.toks hs
  again := fun s Q E ho hq => by
    (refine e12 ho fun o e hq2 => ?_; subst hq2; clear ho)
    exact wpAny_pyIter_rangeiter (x := 0 + ((0 : Nat) : Int) * 1) (left := (n : Int) - (0 : Nat)) (step := 1) e hq

/-- a list comprehension over range(n) -/
theorem compRangeE (B H : Heap) (Ss : List Addr) {elt target : Expr} {ne : Expr} {rp np : Pos} {ifs : List Expr} {scope : Scope} {cl : List (Str × Addr)} {pos : Pos} {Q : Value → Shared → Prop} (W : Wd w B) (kb : Kp B s.heap) (he : EnvOk env) (hh : A.handled = none)
    (h : wpAny (model prog w) A (eval ne env) (fun xv s₁ => X4 fun (n : Nat) (t : Tok) (ow : List (Addr × OP)) (Φ : Nat → List Value → List (Addr × OP) → Heap → Prop) => C7 (xv = .int n t) (n ≤ 100) (St B H Ss ow s₁.heap) ((∀ i ys ow' h h', Imm h h' → Φ i ys ow' h → Φ i ys ow' h')) (Φ 0 [] ow s₁.heap) ((∀ (i : Nat) (ys : List Value) (ow' : List (Addr × OP)) (h : Heap) (tk : Nat) (C D it : Addr) (p : OP) (m : Str → Option Value) (x : Value), i < n → (∃ t, x = .int i t) → Imm s₁.heap h →
        St B H Ss ((C, nsP m) :: (D, listP ys.toArray) :: (it, p) :: ow') h → Φ i ys ow' h → EnvOk (compEnvC scope cl C env) →
        wpAny (model prog w) A (letOwnedTupleGo target (.ref it) x) (fun _ s₁' => wpAny (model prog w) A (assign target (compEnvC scope cl C env) x) (fun _ s₂ =>
          ifsWp prog w A ifs (compEnvC scope cl C env) (fun ok s₃ =>
          if ok = true then wpAny (model prog w) A (eval elt (compEnvC scope cl C env)) (fun y s₄ => X4 fun h' tk' m' ow'' => C4 (s₄ = { s₁ with heap := h', toks := tk' }) (Imm h h') (St B H Ss ((C, nsP m') :: (D, listP ys.toArray) :: (it, p) :: ow'') h') (Φ (i + 1) (ys ++ [y]) ow'' h')) noE s₃
          else X4 fun h' tk' m' ow'' => C4 (s₃ = { s₁ with heap := h', toks := tk' }) (Imm h h') (St B H Ss ((C, nsP m') :: (D, listP ys.toArray) :: (it, p) :: ow'') h') (Φ (i + 1) ys ow'' h')) noE s₂) noE s₁') noE
        { s₁ with heap := h, toks := tk })) ((∀ ys ow' h tk D, ys.length ≤ n → Imm s₁.heap h → St B H Ss ((D, listP (List.toArray ys)) :: ow') h → Φ n ys ow' h → Q (.ref D) { s₁ with heap := h, toks := tk }))) E s)
    (hx : autoParam (env.kindOf "range" = some .globalImplicit) aRfl) (hp : autoParam (([ne] : List Expr).all plainE = true) aRfl)
    (hclos : autoParam (closureFor scope env = pure cl) aRfl) (hcell : autoParam (∀ y ∈ scope.names, y.2 ≠ .cell) aDec) (hkind : autoParam (scope.kind = .function) aRfl)
    (hnames : autoParam (∀ y ∈ scope.names, y.2 = .local → scope.names.lookup y.1 = some .local) aDec)
    (hs : autoParam (∀ x, foldedSetIterable (.Call (.Name "range" np) [ne] [] rp) env x = pure x) aIRfl) :
    wpAny (model prog w) A (eval (.ListComp elt [⟨target, .Call (.Name "range" np) [ne] [] rp, ifs, 0⟩] scope pos) env) Q E s := by
  dsimp only [eval_ListComp]
  refine wpAny_comprehension_free (use := none) rfl hs hclos hkind hnames (callB W kb he bn_range rfl (wpAny_mono h (fun xv s₁ h₁ => ?_) fun _ _ e => e) hx hp)
  (refine x4c7 h₁ fun n t ow Φ hq4 hn S mono start turn fin => ?_; subst hq4; clear h₁)
  refine call_range_1 ?_
  have kr : Kp s₁.heap (s₁.heap.push { cls := .type "range", data := .fields #[.int 0 s₁.toks, .int n t, .int 1 (s₁.toks + 1)] }) := Kp.push _ _
  have Sr := S.kp kr
  have hr := IsRange.new s₁.heap 0 n 1 s₁.toks t (s₁.toks + 1)
  generalize hh2 : s₁.heap.push { cls := .type "range", data := .fields #[.int 0 s₁.toks, .int n t, .int 1 (s₁.toks + 1)] } = h2 at *
  have hsize : Builtin.Range.rangeSize 0 (n : Int) 1 = n := by
    have all : ∀ n : Fin 101, Builtin.Range.rangeSize 0 ((n : Nat) : Int) 1 = (n : Nat) := by decide +kernel
    exact all ⟨n, by exact Nat.succ_le_succ (by assumption)⟩
  have hsmall : Builtin.Range.small 0 (n : Int) 1 = true := by
    have all : ∀ n : Fin 101, Builtin.Range.small 0 ((n : Nat) : Int) 1 = true := by decide +kernel
    exact all ⟨n, by exact Nat.succ_le_succ (by assumption)⟩
  refine wpAny_pyIter_range hr hsmall ?_
  rw [hsize]
  have hin : h2.get? h2.objs.size = none := Heap.get?_none_of_le (Nat.le_refl _)
  have S1 := Sr.addPush (o := { cls := .type "range_iterator", data := .fields #[rawInt 0, rawInt n, rawInt 1] }) (p := ritP n 0) rfl (by unfold ritP; simp) (nt_cls (show Value.type "range_iterator" ≠ Value.type "tuple" by decide))
  have k1 : Kp h2 (h2.push { cls := .type "range_iterator", data := .fields #[rawInt 0, rawInt n, rawInt 1] }) := Kp.push _ _
  have hit := ext_notin Sr hin
  refine comp_core (s := { s₁ with heap := h2.push { cls := .type "range_iterator", data := .fields #[rawInt 0, rawInt n, rawInt 1] }, toks := s₁.toks + 1 + 1 }) noE Φ he (itr_range hh h2.objs.size n) S1 (by exact Nat.le_trans hn (Nat.le_of_ble_eq_true rfl))
    (fun _ b hb => ⟨fun q => hit (q ▸ hb), ss_there S1 b hb⟩) hcell hkind mono (mono _ _ _ _ _ (Imm.kp (kr.tr k1)) start) (fun _ _ _ _ _ _ _ _ _ _ _ => trivial) ?_ ?_ (fun _ _ _ _ x => x.elim)
  · intro i ys ow' h tk C D m x hi hx im hC S' hΦ
    exact turn i ys ow' h tk C D _ _ m x hi hx ((Imm.kp (kr.tr k1)).tr im) S' hΦ ⟨he.gl, he.bi, hkind⟩
  · intro ys ow' h tk D hl hD im S' hΦ
    exact fin ys ow' h tk D hl ((Imm.kp (kr.tr k1)).tr im) S' hΦ
end

section
variable {prog : Program} {w : World} {A : Around} {E : Value → Shared → Prop} {s : Shared} {env : Env} {Q : Value → Shared → Prop}
theorem tup1 {e : Expr} {k : Nat} {pos : Pos} (h : wpAny (model prog w) A (eval e env) (fun v s₁ => ∀ h' c, Kp s₁.heap h' → IsTup h' c (List.toArray [v]) → Q (.ref c) { s₁ with heap := h' }) E s) (he : autoParam (([e] : List Expr).all plainE = true) aRfl) :
    wpAny (model prog w) A (eval (.Tuple [e] k pos) env) Q E s := by
  refine wpAny_Tuple (spliced_args he (wpAny_mono h (fun v s₁ h₁ => ⟨by have := sizeLine_big; simp; exact Nat.le_add_left _ _, h₁ _ _ (Kp.push _ _) (IsTup.new _ _)⟩) fun _ _ e => e))
theorem tup2 {e1 e2 : Expr} {k : Nat} {pos : Pos} (h : wpAny (model prog w) A (eval e1 env) (fun v s₁ => wpAny (model prog w) A (eval e2 env) (fun u s₂ => ∀ h' c, Kp s₂.heap h' → IsTup h' c (List.toArray [v, u]) → Q (.ref c) { s₂ with heap := h' }) E s₁) E s) (he : autoParam (([e1, e2] : List Expr).all plainE = true) aRfl) :
    wpAny (model prog w) A (eval (.Tuple [e1, e2] k pos) env) Q E s := by
  refine wpAny_Tuple (spliced_args he (wpAny_mono h (fun v s₁ h₁ => wpAny_mono h₁ (fun u s₂ h₂ => ⟨by have := sizeLine_big; simp; exact Nat.le_add_left _ _, h₂ _ _ (Kp.push _ _) (IsTup.new _ _)⟩) fun _ _ e => e) fun _ _ e => e))
theorem tuple_of_list {l : Addr} {xs : List Value} (hl : s.heap.IsList l xs.toArray) (hk : xs.length ≤ 1000000) (h : ∀ h' c, Kp s.heap h' → IsTup h' c xs.toArray → Q (.ref c) { s with heap := h' }) :
    wpAny (model prog w) A (call (.type "tuple") [.ref l]) Q E s :=
  call_tuple_list hl (fun h5 (k5 : Kp s.heap h5) => h _ _ (k5.tr (Kp.push _ _)) (IsTup.new _ _)) (by rw [List.size_toArray]; have := sizeLine_big; exact Nat.le_trans hk (Nat.le_of_ble_eq_true rfl))
end

/-- what _law_one draws -/
noncomputable def One (los : List Op) : Nat → T → Prop
  | 0, .nd o ks => o ∈ los ∧ ks = []
  | d + 1, .nd o ks => (o ∈ los ∧ ks = []) ∨ ((o = .f ∨ o = .g) ∧ 1 ≤ ks.length ∧ ks.length ≤ d + 2 ∧ ∀ k ∈ ks, One los d k)
noncomputable def LeavesAt (h : Heap) (la : Addr) (los : List Op) : Prop := ∃ vs, h.IsList la (List.toArray vs) ∧ vs.length = los.length ∧ ∀ (i : Nat) o, los[i]? = some o → ∃ t, vs[i]? = some (Value.str o.s t)
theorem LeavesAt.of {h h' : Heap} {la : Addr} {los : List Op} (x : LeavesAt h la los) (k : ∀ o, h.get? la = some o → h'.get? la = some o) : LeavesAt h' la los :=
  let ⟨vs, ⟨o, e, r⟩, z⟩ := x; ⟨vs, ⟨o, k o e, r⟩, z⟩

section
variable {prog : Program} {w : World} {B : Heap}
noncomputable def six : Nat → Nat | 0 => 1 | d + 1 => 6 * six d
theorem six_pos : ∀ d, 1 ≤ six d | 0 => Nat.le_refl _ | d + 1 => by have := six_pos d; unfold six; lia

noncomputable def oneOw (prog : Program) (w : World) (hd L la : Addr) (c : Addr × List Value × Int) (d : Nat) (td : Tok) (a : Nat) (m : Str → Option Value) : List (Addr × OP) :=
  [(hd, handP prog w c a), (L, nsP m), (L + 1 + 1 + 1, cellP (some (.ref la))), (L + 1 + 1, cellP (some (.int (d : Nat) td))), (L + 1, cellP (some (.ref hd)))]
theorem one_spec (W : Wd w B) : ∀ (d : Nat) (A : Around) (s : Shared) (R : Result → Shared → Prop) (hd la : Addr) (c : Addr × List Value × Int) (a : Nat) (los : List Op) (td : Tok) (dz : Int), dz = (d : Nat) → d ≤ 2 → Kp B s.heap → Room A (d + 4) → B.get? hd = none →
    HandAt prog w s.heap hd c a → a + six d ≤ 80000 → la ≠ hd → LeavesAt s.heap la los → 1 ≤ los.length → los.length ≤ 9 →
    (∀ r t h' tk a', Heap.ExtBut hd s.heap h' → HandAt prog w h' hd c a' → a ≤ a' → a' ≤ a + six d → Rep h' t r → One los d t → R (.ok (.ret r)) { s with heap := h', toks := tk }) →
    codeAny (model prog w) A (.call (.ref 219) ⟨[.ref hd, .int dz td, .ref la], []⟩) R s := by
  intro d
  induction d using Nat.strongRecOn with
  | ind d ih =>
    intro A s R hd la c a los td dz hdz hd2 kb hr hB hH ha hla hL hl1 hl9 hR
    subst hdz
    refine enterX (n := d + 3) (fun L => [("leaves", L + 1 + 1 + 1), ("deep", L + 1 + 1), ("hand", L + 1)]) (fun L => [(L, nsP nil0), (L + 1 + 1 + 1, cellP (some (.ref la))), (L + 1 + 1, cellP (some (.int (d : Nat) td))), (L + 1, cellP (some (.ref hd)))]) W kb hr ?_
    intro L env h₁ tk EO hLn S0 E'
    try dsimp only
    (refine e02 hH fun hpz6 hst => ?_; clear hH); (refine e12 hpz6 fun oh eoh poh => ?_; clear hpz6)
    have S : St B s.heap [hd] (oneOw prog w hd L la c d td a nil0) h₁ :=
      S0.claim hB (S0.notown eoh) (S0.kpH _ _ eoh) poh poh.nt
    clear S0
    have hc1 : c.1 ∉ ([hd] : List Addr) := by simpa using hst.ne
    have hla1 : la ∉ ([hd] : List Addr) := by simpa using hla
    have hstAt : ∀ {ow h}, St B s.heap [hd] ow h → HandSt h hd c := fun S => hst.of fun o e => S.base _ _ hc1 e
    have hlAt : ∀ {ow h}, St B s.heap [hd] ow h → LeavesAt h la los := fun S => hL.of fun o e => S.base _ _ hla1 e
    have hAt : ∀ {ow h b}, St B s.heap [hd] ((hd, handP prog w c b) :: ow) h → HandAt prog w h hd c b := fun S => ⟨let ⟨o, e, r, _⟩ := S.get 0 rfl; ⟨o, e, r⟩, hstAt S⟩
    have hrd := hr.deeper (env := envX "" default L 219 .none [])
    have hs6 := six_pos d
    -- way
    refine wpAny_execs_cons (cps (P := fun Q' => ∀ (h' : Heap) (tk' : Nat) (b : Nat) (r : Int) (tr : Tok), ((d = 0 → r = 0 ∧ b = a)) → (0 ≤ r) → (r < 4) → (a ≤ b) → (b ≤ a + 1) → (St B s.heap [hd] (oneOw prog w hd L la c d td b (up nil0 "way" (.int r tr))) h') → Q' .next { s with heap := h', toks := tk' }) ?_ ?_)
    · intro K0 hK0
      refine wpAny_Assign_Name ?_
      try dsimp only
      refine wpAny_IfExp ?_
      try dsimp only
      refine wpAny_isTrue_Compare1 (nameC EO (S.cell 3 rfl) ?_)
      try dsimp only
      refine wpAny_Constant_int (PyProof.Rows.gt_int (wpAny_truthy_bool ?_))
      dsimp only
      by_cases hd0 : d = 0
      · refine ifF (by rw [hd0]; rfl) ?_
        try dsimp only
        refine wpAny_Constant_int ?_
        dsimp only
        refine S.storeL 1 rfl EO (fun h2 S2 im2 => ?_)
        try dsimp only
        exact (hK0 h2 _ a 0 _ (fun _ => ⟨rfl, rfl⟩) (Int.le_refl _) (by decide) (Nat.le_refl _) (Nat.le_succ _) S2)
      · refine ifT (decide_eq_true (by lia)) ?_
        try dsimp only
        refine callF W S.kb EO gn_draw kf_draw (nameC EO (S.cell 4 rfl) ?_)
        try dsimp only
        refine wpAny_Constant_int ?_
        try dsimp only
        refine ⟨S.kb, draw_spec W (n := d + 1) S.kb (hr.deeper.mono (by simp)) hB (hAt S) (by lia) (by decide) (by decide) (fun r t h' tk' hx hH' h0 h4 => ?_)⟩
        try dsimp only
        refine e02 (S.upd (p' := handP prog w c (a + 1)) 0 rfl hx (let ⟨o, e, r⟩ := hH'.1; ⟨o, e, r, r.nt⟩)) fun S1 im1 => ?_
        refine S1.storeL 1 rfl EO (fun h2 S2 im2 => ?_)
        try dsimp only
        exact (hK0 h2 _ (a + 1) r t (fun q => absurd q hd0) h0 h4 (by simp) (Nat.le_refl _) S2)
    intro h2 tk2 b r tr hz hr0 hr4 hab hba S2
    -- the test
    refine wpAny_execs_cons (wpAny_If (wpAny_isTrue_BoolOp (wpAny_mono (Q := fun x s' => ∃ tk', s' = { s with heap := h2, toks := tk' } ∧ (d = 0 → x = true)) ?_ ?_ (fun _ _ x => x))))
    · refine wpAny_allTrue_Or_cons (wpAny_isTrue_Compare1 (nameL EO (S2.ns 1 rfl) rfl ?_))
      try dsimp only
      refine wpAny_Constant_int (PyProof.Rows.eq_int (wpAny_truthy_bool ?_))
      dsimp only
      by_cases hr00 : r = 0
      · exact ifT (by rw [hr00]; rfl) ⟨_, rfl, fun _ => rfl⟩
      · refine ifF (by rw [beq_eq_false_iff_ne]; exact hr00) ?_
        try dsimp only
        have hd0 : d ≠ 0 := fun q => hr00 (hz q).1
        refine wpAny_allTrue_Or_cons (wpAny_isTrue_BoolOp (wpAny_allTrue_And_cons (wpAny_isTrue_Compare1 (nameL EO (S2.ns 1 rfl) rfl ?_))))
        try dsimp only
        refine wpAny_Constant_int (PyProof.Rows.eq_int (wpAny_truthy_bool ?_))
        dsimp only
        split
        · refine wpAny_allTrue_And_cons (wpAny_isTrue_Compare1 (nameC EO (S2.cell 3 rfl) ?_))
          try dsimp only
          refine wpAny_Constant_int (PyProof.Rows.eq_int (wpAny_truthy_bool ?_))
          dsimp only
          split
          · exact wpAny_allTrue_And_nil (ifT rfl ⟨_, rfl, fun q => absurd q hd0⟩)
          · exact ifF rfl (wpAny_allTrue_Or_nil ⟨_, rfl, fun q => absurd q hd0⟩)
        · exact ifF rfl (wpAny_allTrue_Or_nil ⟨_, rfl, fun q => absurd q hd0⟩)
    intro x s' hpz1; (refine e12 hpz1 fun tk3 hq1 hx0 => ?_; subst hq1; clear hpz1)
    have hLn2 := hlAt S2
    cases x with
    | true =>
      refine ifT rfl ?_
      try dsimp only
      (refine e13 hLn2 fun vs hvl hvn hvo => ?_; clear hLn2)
      refine wpAny_execs_cons (wpAny_Return_some (tup1 ?_))
      try dsimp only
      refine Subscript_ (nameC EO (S2.cell 2 rfl) ?_)
      try dsimp only
      refine callF W S2.kb EO gn_draw kf_draw (nameC EO (S2.cell 4 rfl) ?_)
      try dsimp only
      refine callB W S2.kb EO bn_len rfl (nameC EO (S2.cell 2 rfl) ?_)
      try dsimp only
      refine len_listL hvl (by exact Nat.le_trans (Nat.le_trans (Nat.le_of_eq hvn) hl9) (Nat.le_of_ble_eq_true rfl)) ?_
      try dsimp only
      have hb8 : b ≤ 90000 := by lia
      refine ⟨S2.kb, draw_spec W (n := d + 1) S2.kb (hr.deeper.mono (by simp)) hB (hAt S2) hb8 (by lia) (by lia) (fun q t h' tk' hx hH' h0 h4 => ?_)⟩
      refine e02 (S2.upd (p' := handP prog w c (b + 1)) 0 rfl hx (let ⟨o, e, r⟩ := hH'.1; ⟨o, e, r, r.nt⟩)) fun S3 im3 => ?_
      have hlt : q.toNat < los.length := by lia
      have ho : los[q.toNat]? = some los[q.toNat] := List.getElem?_eq_getElem hlt
      refine e11 (hvo _ _ ho) fun t0 hv => ?_
      have hvl3 : h'.IsList la vs.toArray := by
        (refine e12 hvl fun o e r => ?_; clear hvl)
        exact ⟨o, hx _ _ hla e, r⟩
      refine item_list (k := q.toNat) hvl3 (by lia) hv (by exact Nat.lt_of_lt_of_le (Nat.lt_of_lt_of_le hlt hl9) (Nat.le_of_ble_eq_true rfl)) ?_
      intro h4' c4 k4 ht4
      have S4 := S3.kp k4
      refine hR _ (.nd los[q.toNat] []) _ _ (b + 1) (fun x o hxo e => S4.base x o (by simpa using hxo) e) (hAt S4) (by exact Nat.le_succ_of_le (by assumption)) ?_ (Rep.iff.mpr ⟨c4, t0, [], rfl, ht4, RepL.nil_iff.mpr rfl⟩) ?_
      · by_cases hd0 : d = 0
        · have := (hz hd0).2; subst hd0; subst this; exact Nat.le_refl _
        · obtain ⟨d', rfl⟩ : ∃ d', d = d' + 1 := ⟨d - 1, by lia⟩
          have := six_pos d'; unfold six; lia
      · cases d with
        | zero => exact ⟨List.getElem_mem hlt, rfl⟩
        | succ d => exact .inl ⟨List.getElem_mem hlt, rfl⟩
    | false =>
      refine ifF rfl ?_
      have hd0 : d ≠ 0 := fun q => by have := hx0 q; cases this
      obtain ⟨d', rfl⟩ : ∃ d', d = d' + 1 := ⟨d - 1, by lia⟩
      refine wpAny_execs_nil ?_
      dsimp only
      have hs5 := six_pos d'
      have h6 : six (d' + 1) = 6 * six d' := rfl
      refine wpAny_execs_cons (pairSwapped hr.hh (Subscript_ (Constant_str ?_)))
      refine callF W S2.kb EO gn_draw kf_draw (nameC EO (S2.cell 4 rfl) ?_)
      refine wpAny_Constant_int ?_
      refine ⟨S2.kb, draw_spec W (n := d' + 1) S2.kb (hr.deeper.mono (by simp)) hB (hAt S2) (by lia) (by decide) (by decide) (fun q t h' tk' hx hH' q0 q2 => ?_)⟩
      try dsimp only
      refine e02 (S2.upd (p' := handP prog w c (b + 1)) 0 rfl hx (let ⟨o, e, r⟩ := hH'.1; ⟨o, e, r, r.nt⟩)) fun S3 im3 => ?_
      obtain ⟨op, hop, hq⟩ : ∃ op : Op, (op = .f ∨ op = .g) ∧ (seqIndex? q (Str.ofString "fg").length).bind ((Str.ofString "fg").cps[·]?) = (op.s).cps[0]? ∧ (⟨#[((op.s).cps[0]?).getD 0]⟩ : Str) = op.s := by
        have : q = 0 ∨ q = 1 := by lia
        rcases this with rfl | rfl
        · exact ⟨.f, .inl rfl, by decide +kernel, by decide +kernel⟩
        · exact ⟨.g, .inr rfl, by decide +kernel, by decide +kernel⟩
      have hcp : (op.s).cps[0]? = some (((op.s).cps[0]?).getD 0) := by rcases hop with rfl | rfl <;> decide +kernel
      refine tail_any (typeIs_str _ _ _) slot_str_getitem.lookup (P.getItem_str ?_ (hq.1.trans hcp) ?_) (by with_unfolding_all rfl)
      · have e1 : decide (q < -(2 ^ 63 : Int)) = false := decide_eq_false (by lia)
        have e2 : decide (q ≥ (2 ^ 63 : Int)) = false := decide_eq_false (by lia)
        rw [e1, e2]; rfl
      have hopv : Value.str ⟨#[((op.s).cps[0]?).getD 0]⟩ tk' = Value.str op.s tk' := by rw [hq.2]
      refine wpAny_BinOp (wpAny_Constant_int ?_)
      try dsimp only
      refine callF W S3.kb EO gn_draw kf_draw (nameC EO (S3.cell 4 rfl) ?_)
      try dsimp only
      refine wpAny_BinOp (wpAny_Constant_int ?_)
      try dsimp only
      refine nameC EO (S3.cell 3 rfl) (PyProof.Rows.add_int ?_)
      try dsimp only
      refine ⟨S3.kb, draw_spec W (n := d' + 1) S3.kb (hr.deeper.mono (by simp)) hB (hAt S3) (by lia) (by lia) (by lia) (fun q3 t3 h3 tk3 hx3 hH3 q30 q31 => ?_)⟩
      try dsimp only
      refine e02 (S3.upd (p' := handP prog w c (b + 1 + 1)) 0 rfl hx3 (let ⟨o, e, r⟩ := hH3.1; ⟨o, e, r, r.nt⟩)) fun S4 im4 => ?_
      refine PyProof.Rows.add_int ?_
      intro h5 tk5 k5
      have S5 := S4.kp k5
      dsimp only
      refine storeL EO (S5.ns 1 rfl) (fun h6 hn6 hs6' => ?_)
      try dsimp only
      refine e02 (S5.setNs 1 rfl hs6' hn6) fun S6 im6 => ?_
      refine storeL EO (S6.ns 1 rfl) (fun h7 hn7 hs7 => ?_)
      refine e02 (S6.setNs 1 rfl hs7 hn7) fun S7' im7 => ?_
      have S7 : St B s.heap [hd] (oneOw prog w hd L la c (d' + 1) td (b + 1 + 1) (up (up (up nil0 "way" (.int r tr)) _ _) _ _)) h7 := S7'
      clear S7'
      obtain ⟨mn, hmn⟩ : ∃ mn : Nat, 1 + q3 = (mn : Int) := ⟨(1 + q3).toNat, by lia⟩
      have hmn1 : 1 ≤ mn ∧ mn ≤ d' + 2 := by constructor <;> lia
      dsimp only
      refine wpAny_execs_cons (wpAny_Return_some (wpAny_BinOp (tup1 (nameL EO (S7.ns 1 rfl) rfl ?_))))
      try dsimp only
      intro h8 c8 k8 ht8
      have S8 := S7.kp k8
      refine callB W S8.kb EO bn_tuple rfl ?_
      try dsimp only
      refine compRangeE B s.heap [hd] W S8.kb EO hr.hh (nameL EO (S8.ns 1 rfl) rfl ?_)
      try dsimp only
      refine ⟨mn, _, _, fun i ys ow' h => X3 fun (a' : Nat) (ts : List T) (m : Str → Option Value) => C6 (ow' = oneOw prog w hd L la c (d' + 1) td a' m) (b + 1 + 1 ≤ a') (a' ≤ b + 1 + 1 + i * six d') (RepL h ts ys) (ts.length = i) (∀ u ∈ ts, One los d' u), congrArg (fun z => Value.int z _) hmn, by lia, S8, ?_, ?_, ?_, ?_⟩
      · intro i ys ow' h h' im hpz2; (refine x3c6 hpz2 fun a' ts m e h1 h2 hr' r1 r2 => ?_; clear hpz2)
        exact ⟨a', ts, m, e, h1, h2, hr'.imm im, r1, r2⟩
      · exact ⟨b + 1 + 1, [], _, rfl, Nat.le_refl _, by simp, RepL.nil_iff.mpr rfl, rfl, by simp⟩
      · intro i ys ow' h tk C D it p m x hi hpz3 im Sc hpz4 EO'; (refine e11 hpz3 fun tx hq1 => ?_; subst hq1; clear hpz3); (refine x3c6 hpz4 fun a' ts m' hq3 h1 h2 hrs hlen hone => ?_; subst hq3; clear hpz4)
        have hi1 : (i + 1) * six d' = i * six d' + six d' := Nat.succ_mul _ _
        have hile : (i + 1) * six d' ≤ 3 * six d' := Nat.mul_le_mul_right _ (by lia)
        refine wpAny_pure (wpAny_assign_Name (Sc.storeL 0 rfl EO' (fun h9 Sd im9 => ?_)))
        try dsimp only
        refine wpAny_tests_nil (ifT rfl ?_)
        refine hide (fun K2 hK2 => ?_)
        try dsimp only
        refine callF W Sd.kb EO' gn_one kf_one (nameC EO' (Sd.cell 7 rfl) ?_)
        try dsimp only
        refine wpAny_BinOp (nameC EO' (Sd.cell 6 rfl) ?_)
        try dsimp only
        refine wpAny_Constant_int (PyProof.Rows.sub_int ?_)
        try dsimp only
        refine nameC EO' (Sd.cell 5 rfl) ?_
        try dsimp only
        have hHd : HandAt prog w h9 hd c a' := ⟨let ⟨o, e, r, _⟩ := Sd.get 3 rfl; ⟨o, e, r⟩, hstAt Sd⟩
        refine ⟨Sd.kb, ih d' (by simp) _ _ _ hd la c a' los _ _ (by simp) (by exact Nat.le_of_lt (by assumption)) Sd.kb hr.deeper hB hHd (by lia) hla (hlAt Sd) hl1 hl9 (fun r t h10 tk10 a10 hx10 hH10 ha1 ha2 hrep hone' => ?_)⟩
        try dsimp only
        refine e02 (Sd.upd (p' := handP prog w c a10) 3 rfl hx10 (let ⟨o, e, r⟩ := hH10.1; ⟨o, e, r, r.nt⟩)) fun Se im10 => ?_
        refine (hK2 _ _ ⟨h10, tk10, _, _, rfl, im9.tr im10, Se, a10, ts ++ [t], m', rfl, by exact Nat.lt_of_lt_of_le (by assumption) (by assumption), by lia, ((hrs.imm im9).imm im10).append (RepL.one hrep), by simp [hlen], fun u hu => ?_⟩)
        try dsimp only
        rcases List.mem_append.mp hu with hu | hu
        · exact hone u hu
        · rw [List.mem_singleton.mp hu]; exact hone'
      · intro ys ow' h tk D hyl im Sc hpz5; (refine x3c6 hpz5 fun a' ts m' hq3 h1 h2 hrs hlen hone => ?_; subst hq3; clear hpz5)
        have hile : mn * six d' ≤ 4 * six d' := Nat.mul_le_mul_right _ (by lia)
        refine tuple_of_list (Sc.list 0 rfl) (by lia) (fun h11 c11 k11 ht11 => ?_)
        try dsimp only
        refine add_tup (vs := [Value.str op.s tk']) (ws := ys) ?_ ht11 (fun h12 c12 k12 ht12 => ?_) (by simp; have := sizeLine_big; lia)
        · rw [← hopv]; exact Imm.kp k11 _ _ (im _ _ ht8)
        · have Sf := (Sc.kp k11).kp k12
          have hil3 : mn * six d' ≤ 3 * six d' := Nat.mul_le_mul_right _ (by lia)
          refine hR _ (.nd op ts) _ _ a' (fun x o hxo e => Sf.base x o (by simpa using hxo) e) ⟨let ⟨o, e, r, _⟩ := Sf.get 1 rfl; ⟨o, e, r⟩, hstAt Sf⟩ (by lia) (by lia)
            (Rep.iff.mpr ⟨c12, tk', ys, rfl, ht12, (hrs.imm (Imm.kp k11)).imm (Imm.kp k12)⟩) (.inr ⟨hop, by simp [*], by simp [*], hone⟩)
end

mutual
/-- what placed gives back; none: it is refused -/
noncomputable def plc (tab : Tab) : T → Option T
  | .nd o ks => if ks.isEmpty && o.isQ then tab.lookup o else (plcs tab ks).map (T.nd o)
noncomputable def plcs (tab : Tab) : List T → Option (List T)
  | [] => some []
  | t :: ts => match plc tab t with
    | none => none
    | some u => (plcs tab ts).map (u :: ·)
end
theorem plcs_at {tab : Tab} : ∀ {ts us : List T}, plcs tab ts = some us → us.length = ts.length ∧ ∀ (i : Nat) t, ts[i]? = some t → ∃ u, us[i]? = some u ∧ plc tab t = some u
  | [], us, h => by rw [plcs] at h; cases h; exact ⟨rfl, fun i t e => by simp at e⟩
  | t :: ts, us, h => by
    rw [plcs] at h
    split at h
    · cases h
    · rename_i u hu
      (refine e12 (Option.map_eq_some_iff.mp h) fun us' hus hq2 => ?_; subst hq2)
      refine e02 (plcs_at hus) fun h1 h2 => ?_
      refine ⟨by simp [h1], fun i t' e => ?_⟩
      try dsimp only
      cases i with
      | zero => cases e; exact ⟨u, rfl, hu⟩
      | succ i => exact h2 i t' e

section
variable {prog : Program} {w : World} {B : Heap}
theorem notIn_tab {A : Around} {E : Value → Shared → Prop} {s : Shared} {Q : Value → Shared → Prop} {tab : Tab} {v : Value} {o : Op} {t : Tok} (x : TabAt prog w s.heap tab v) (h : ∀ tk, Q (.bool (!(tab.lookup o).isSome)) { s with toks := tk }) :
    wpAny (model prog w) A (compareOp .NotIn (.str o.s t) v) Q E s := by
  obtain ⟨d, kvs, rfl, hn, hd, hr⟩ := x
  refine wpAny_notIn_of (knd := strKind prog w) (k := o.s) (opKey o t) hn hd.mapOf ?_
  try dsimp only
  have : (valueAt kvs o.s).isSome = (tab.lookup o).isSome := by
    cases e : tab.lookup o with
    | none => rw [hr.none e]; rfl
    | some u => obtain ⟨v, hv, _⟩ := hr.some e; rw [hv]; rfl
  rw [this]; exact h _

theorem placed_ok (W : Wd w B) : ∀ (n : Nat) (t u : T) (A : Around) (s : Shared) (R : Result → Shared → Prop) (v tv : Value) (tab : Tab), Wf n t → plc tab t = some u → Kp B s.heap → Room A (n + 3) → Rep s.heap t v → TabAt prog w s.heap tab tv →
    (∀ r h' tk, Kp s.heap h' → Rep h' u r → R (.ok (.ret r)) { s with heap := h', toks := tk }) → codeAny (model prog w) A (.call (.ref 84) ⟨[v, tv], []⟩) R s := by
  intro n
  induction n with
  | zero => intro t u A s R v tv tab hw; exact hw.elim
  | succ n ih =>
    intro t u A s R v tv tab hw hu kb hr hp hT hR
    refine enterX (n := n + 3) (fun L => [("table", L + 1)]) (fun L => [(L, nsP (up nil0 "pattern" v)), (L + 1, cellP (some tv))]) W kb hr ?_
    intro L env h₁ tk EO hL S E'
    try dsimp only
    have hp1 := hp.imm (Imm.kp S.kpH)
    refine wpAny_execs_cons (wpAny_If (wpAny_isTrue_Not (wpAny_isTrue_value (callF W S.kb EO gn_is_variable kf_is_variable (nameL EO (S.ns 0 rfl) rfl ⟨S.kb, is_variable_spec W (n := n) S.kb (hr.deeper.mono (by simp)) hp1 hw (fun h2 tk2 (k2 : Kp h₁ h2) => ?_)⟩)))))
    refine wpAny_truthy_bool ?_
    have S2 := S.kp k2
    obtain ⟨op, ks⟩ := t
    have hp2 := hp1.imm (Imm.kp k2)
    (refine x3c3 (Rep.iff.mp hp2) fun a tk0 vs hq3 ht hks => ?_; subst hq3)
    have hlen : (Value.str op.s tk0 :: vs).length = ks.length + 1 := by rw [List.length_cons, hks.length]
    have hk9 : ks.length ≤ 9 := hw.1
    have hvl : vs.length = ks.length := hks.length
    have hL1 : 1 ≤ (Value.str op.s tk0 :: vs).length := by rw [hlen]; exact Nat.le_add_left _ _
    have hLs : (Value.str op.s tk0 :: vs).length ≤ sizeLine := by have := sizeLine_big; lia
    have hT2 : TabAt prog w h2 tab tv := hT.kp S2.kpH
    have hv : T.isVar (.nd op ks) = (ks.isEmpty && op.isQ) := rfl
    dsimp only
    cases hb : T.isVar (.nd op ks) with
    | true =>
      refine ifF rfl ?_
      rw [hv] at hb
      have hl : tab.lookup op = some u := by rw [plc, hb] at hu; exact hu
      refine wpAny_execs_nil ?_
      refine wpAny_execs_cons (wpAny_If (wpAny_isTrue_Compare1 (sub_tup (nameL EO (S2.ns 0 rfl) rfl ⟨_, _, 0, _, rfl, ht, seq0 _, rfl, nameC EO (S2.cell 1 rfl) (notIn_tab hT2 (fun tk => wpAny_truthy_bool ?_))⟩))))
      refine ifF (by rw [hl]; rfl) ?_
      try dsimp only
      refine wpAny_execs_nil ?_
      try dsimp only
      refine wpAny_execs_cons (wpAny_Return_some (Subscript_ (nameC EO (S2.cell 1 rfl) (sub_tup (nameL EO (S2.ns 0 rfl) rfl ⟨_, _, 0, _, rfl, ht, seq0 _, rfl, item_tab hT2 hl (fun r tk hr => ?_)⟩)))))
      try dsimp only
      exact hR _ _ _ S2.kpH hr
    | false =>
      refine ifT rfl ?_
      try dsimp only
      rw [hv] at hb
      rw [plc, hb] at hu
      (refine e12 (Option.map_eq_some_iff.mp hu) fun us hus hq2 => ?_; subst hq2)
      refine e02 (plcs_at hus) fun hul huat => ?_
      refine wpAny_execs_cons (wpAny_Return_some (wpAny_BinOp (tup1 (sub_tup (nameL EO (S2.ns 0 rfl) rfl ⟨_, _, 0, _, rfl, ht, seq0 _, rfl, ?_⟩)))))
      try dsimp only
      intro h3 c3 (k3 : Kp h2 h3) ht3
      have S3 := S2.kp k3
      refine callB W S3.kb EO bn_tuple rfl ?_
      try dsimp only
      refine compTupMap B s.heap [] EO hr.hh (sub_from (nameL EO (S3.ns 0 rfl) rfl (wpAny_Constant_int ⟨a, Value.str op.s tk0 :: vs, 1, _, rfl, rfl, ht.keeps k3, Nat.le_refl _, hL1, hLs, fun h4 d tk (k4 : Kp h3 h4) hd => ?_⟩)))
      try dsimp only
      have S4 := S3.kp k4
      have hks4 : RepL h4 ks vs := hks.imm (Imm.kp (k3.tr k4))
      refine ⟨d, vs, _, fun i y h => ∃ k, us[i]? = some k ∧ Rep h k y, rfl, by simpa using hd, by exact Nat.le_trans (Nat.le_trans (Nat.le_of_eq hvl) hk9) (Nat.le_of_ble_eq_true rfl), S4, ?_, ?_, ?_⟩
      try dsimp only
      · intro i y h h' im hpz1; (refine e12 hpz1 fun k hk hy => ?_; clear hpz1)
        exact ⟨k, hk, hy.imm im⟩
      · intro i h tk C m ow' x hx im S5 hin EO'
        refine e12 (hks4.at hx) fun k hk hxk => ?_
        refine e12 (huat i k hk) fun u' hu' hpl => ?_
        refine callF W S5.kb EO' gn_placed kf_placed (nameL EO' (S5.ns 0 rfl) rfl (nameC EO' (S5.cellM (a := L + 1) (v := some tv) (.tail _ (hin _ (by simp)))) ⟨S5.kb, ?_⟩))
        try dsimp only
        refine ih k u' _ _ _ _ _ tab (hw.2 k (List.mem_of_getElem? hk)) hpl S5.kb hr.deeper (hxk.imm im) (hT.kp S5.kpH) (fun r h' tk k' hrep => ?_)
        exact ⟨h', tk, rfl, k', u', hu', hrep⟩
      · intro ys h tk D hyl hF hD im S5
        refine tuple_of_list (S5.list 0 rfl) (by exact Nat.le_trans (Nat.le_trans (Nat.le_trans (Nat.le_of_eq hyl) (Nat.le_of_eq hvl)) hk9) (Nat.le_of_ble_eq_true rfl)) (fun h6 c6 (k6 : Kp h h6) ht6 => ?_)
        refine add_tup (vs := [Value.str op.s tk0]) (ws := ys) ?_ ht6 (fun h7 e (k7 : Kp h6 h7) he => ?_) (by simp; have := sizeLine_big; lia)
        · exact Imm.kp k6 _ _ (im _ _ (Imm.kp k4 _ _ ht3))
        · have kk := k6.tr k7
          refine hR _ _ _ (S5.kpH.tr kk) (Rep.iff.mpr ⟨e, tk0, ys, rfl, he, RepL.of (by simp [*]) (fun i t v h1 h2 => ?_)⟩)
          refine e12 (hF i v h2) fun k hk hy => ?_
          rw [hk] at h1
          cases h1
          exact hy.imm (Imm.kp kk)
end

section
variable {prog : Program} {w : World} {A : Around} {E : Value → Shared → Prop} {s : Shared}

theorem nextOf_tup_item {it t : Addr} {i : Nat} {items : Array Value} {x : Value} {Q : Value → Shared → Prop} (hit : IsTupIter s.heap it t i)
    (ht : IsTup s.heap t items) (hx : items[i]? = some x)
    (hQ : ∀ h', IsTupIter h' it t (i + 1) → Heap.SameBut it s.heap h' → Q x { s with heap := h' }) :
    wpAny (model prog w) A (Builtin.SmallTypes.nextOf (.ref it)) Q E s := by
  refine e13 (id hit) fun o ho hc hd => ?_
  obtain ⟨ol, hol, _, nl, hdl⟩ := ht
  have hT : s.TypeIs (.ref it) "tuple_iterator" := ⟨o, ho, hc⟩
  unfold Builtin.SmallTypes.nextOf
  refine wpAny_bind (wpAny_callSpecial?_slot (name := Str.ofString "__next__") hT PySem.F.slot_tuple_iterator_next
    (wpAny_call_entry PySem.F.slot_tuple_iterator_next hT PySem.F.entry_tuple_iterator_next ?_ (PySem.F.args_tuple_iterator_next_1 _)))
  show wpAny _ _ (field (.ref it) 0 >>= _) _ _ s
  refine wpAny_bind (wpAny_field ho hd (x := .ref t) rfl ?_)
  show wpAny _ _ (if (Value.ref t == Value.none) = true then _ else _) _ _ s
  rw [if_neg (show ¬ ((Value.ref t == Value.none) = true) from Bool.false_ne_true)]
  show wpAny _ _ (field (.ref it) 1 >>= _) _ _ s
  refine wpAny_bind (wpAny_field ho hd (x := .int i 0) rfl ?_)
  show wpAny _ _ (seqItems? (.ref t) >>= _) _ _ s
  refine wpAny_bind (wpAny_seqItems hol hdl ?_)
  simp only [Int.toNat_natCast, hx]
  refine wpAny_bind (wpAny_setField ho hd (by simp) (wpAny_pure ⟨x, rfl, wpAny_pure (hQ _ ?_ (Heap.SameBut.update ..))⟩))
  exact ⟨_, Heap.get?_update_self _ ho (Obj.isFreed_of_fields (Obj.data_mapFields hd _)), (Obj.cls_mapFields ..).trans hc, by
    rw [Obj.data_mapFields hd]; simp [rawInt]⟩

theorem nextOf_tup_end {it t : Addr} {i : Nat} {items : Array Value} {Q : Value → Shared → Prop} (hh : A.handled = none)
    (hit : IsTupIter s.heap it t i) (ht : IsTup s.heap t items) (hx : items[i]? = none)
    (hE : ∀ h' e, Heap.ExtBut it s.heap h' → (∃ o, h'.get? e = some o ∧ o.cls = .type "StopIteration") → E (.ref e) { s with heap := h' }) :
    wpAny (model prog w) A (Builtin.SmallTypes.nextOf (.ref it)) Q E s := by
  refine e13 (id hit) fun o ho hc hd => ?_
  obtain ⟨ol, hol, _, nl, hdl⟩ := ht
  have hT : s.TypeIs (.ref it) "tuple_iterator" := ⟨o, ho, hc⟩
  unfold Builtin.SmallTypes.nextOf
  refine wpAny_bind (wpAny_callSpecial?_slot (name := Str.ofString "__next__") hT PySem.F.slot_tuple_iterator_next
    (wpAny_call_entry PySem.F.slot_tuple_iterator_next hT PySem.F.entry_tuple_iterator_next ?_ (PySem.F.args_tuple_iterator_next_1 _)))
  show wpAny _ _ (field (.ref it) 0 >>= _) _ _ s
  refine wpAny_bind (wpAny_field ho hd (x := .ref t) rfl ?_)
  show wpAny _ _ (if (Value.ref t == Value.none) = true then _ else _) _ _ s
  rw [if_neg (show ¬ ((Value.ref t == Value.none) = true) from Bool.false_ne_true)]
  show wpAny _ _ (field (.ref it) 1 >>= _) _ _ s
  refine wpAny_bind (wpAny_field ho hd (x := .int i 0) rfl ?_)
  show wpAny _ _ (seqItems? (.ref t) >>= _) _ _ s
  refine wpAny_bind (wpAny_seqItems hol hdl ?_)
  simp only [Int.toNat_natCast, hx]
  refine wpAny_bind (wpAny_rule (wpAny_bind (wpAny_setField ho hd (by simp) ?_)))
  show wpAny _ _ (newExc (.type "StopIteration") [] >>= _) _ _ _
  refine wpAny_bind ?_
  simp only [newExc, newTuple]
  refine wpAny_bind (wpAny_newObj_type ?_ (by size_fits))
  refine wpAny_bind (m := firstArgMember _ _) (wpAny_of_eq (a := Value.none) (by first | rfl | (simp only [firstArgMember]; rfl)) ?_)
  refine wpAny_newObj_type ?_ (by size_fits)
  dsimp only [raiseNew]
  refine wpAny_bind (wpAny_handled ?_)
  first | rw [show A.in1.handled = none from hh] | rw [hh]
  refine wpAny_bind (wpAny_pure (wpAny_throw ?_))
  exact hE _ _ (((Heap.SameBut.update ..).extBut.push _).push _) ⟨_, Heap.get?_push_size _ rfl, rfl⟩

theorem loadIfAlive_ {a : Addr} {o : Obj} {Q : Option Obj → Shared → Prop} (ho : s.heap.get? a = some o) (h : Q (some o) s) : wpAny (model prog w) A (loadIfAlive a) Q E s :=
  fun Γ p _ => by
    show Sem.wp _ _ (.loadIfAlive a .pure) _ _ _ _
    rw [Sem.wp_loadIfAlive, ho]
    exact h

/-- a zip object of two tuple iterators, between two turns -/
structure ZipSt (h : Heap) (z TI TO i1 i2 : Addr) : Prop where
  zz : ∃ f0 f1, h.get? z = some { cls := .type "zip", dict := none, data := .fields #[f0, f1, .bool false, .ref TI, .ref TO], slots := #[] } ∧ ((f0 = .none ∧ f1 = .bool false) ∨ ∃ (T : Addr) (o : Obj), C6 (f0 = rawInt T) (h.get? T = some o) (T ≠ z) (T ≠ TO) (T ≠ i1) (T ≠ i2))
  ti : IsPair h TI (.ref i1) (.ref i2)
  to : ∃ a b, IsPair h TO a b
structure ZipDist (z TI TO i1 i2 : Addr) : Prop where
  TIz : TI ≠ z
  TOz : TO ≠ z
  i1z : i1 ≠ z
  i2z : i2 ≠ z
  TITO : TI ≠ TO
  TIi1 : TI ≠ i1
  TIi2 : TI ≠ i2
  TOi1 : TO ≠ i1
  TOi2 : TO ≠ i2
  i12 : i1 ≠ i2
theorem tupiter_but {h h' : Heap} {a b t : Addr} {i : Nat} (x : IsTupIter h a t i) (hs : Heap.ExtBut b h h') (hab : a ≠ b) : IsTupIter h' a t i :=
  let ⟨o, ho, r⟩ := x; ⟨o, hs a o hab ho, r⟩
theorem tupiter_at {h h' : Heap} {a t : Addr} {i : Nat} (x : IsTupIter h a t i) (hs : ∀ o, h.get? a = some o → h'.get? a = some o) : IsTupIter h' a t i :=
  let ⟨o, ho, r⟩ := x; ⟨o, hs o ho, r⟩
theorem tup_at {h h' : Heap} {a : Addr} {xs : Array Value} (x : IsTup h a xs) (hs : ∀ o, h.get? a = some o → h'.get? a = some o) : IsTup h' a xs :=
  let ⟨o, ho, r⟩ := x; ⟨o, hs o ho, r⟩
theorem tup_ne_iter {h : Heap} {a b t : Addr} {i : Nat} {xs : Array Value} (x : IsTup h a xs) (y : IsTupIter h b t i) : a ≠ b := by
  rintro rfl
  obtain ⟨o, e, c, _⟩ := x
  obtain ⟨o', e', c', _⟩ := y
  rw [e] at e'; cases e'
  rw [c] at c'; exact absurd c' (by decide)
theorem tup_ne_zip {h : Heap} {a z : Addr} {xs : Array Value} {fs : Array Value} (x : IsTup h a xs) (y : h.get? z = some { cls := .type "zip", dict := none, data := .fields fs, slots := #[] }) : a ≠ z := by
  rintro rfl
  obtain ⟨o, e, c, _⟩ := x
  rw [e] at y; cases y
  exact absurd c (show Value.type "zip" ≠ Value.type "tuple" by decide)

set_option maxHeartbeats 4000000 in
theorem zipT_next_item {z TI TO i1 i2 l1 l2 : Addr} {k : Nat} {xs ys : Array Value} {x y : Value} {Q : Option Value → Shared → Prop} (D : ZipDist z TI TO i1 i2)
    (Z : ZipSt s.heap z TI TO i1 i2) (h1 : IsTupIter s.heap i1 l1 k) (h2 : IsTupIter s.heap i2 l2 k) (hl1 : IsTup s.heap l1 xs) (hl2 : IsTup s.heap l2 ys) (d1 : l1 ≠ TO) (d2 : l2 ≠ TO) (hx : xs[k]? = some x) (hy : ys[k]? = some y)
    (hQ : ∀ h' c tk, ZipSt h' z TI TO i1 i2 → IsTupIter h' i1 l1 (k + 1) → IsTupIter h' i2 l2 (k + 1) → s.heap.get? c = none → IsTup h' c (List.toArray [x, y]) →
      (∀ b o, b ≠ z → b ≠ TO → b ≠ i1 → b ≠ i2 → s.heap.get? b = some o → h'.get? b = some o) → Q (some (.ref c)) { s with heap := h', toks := tk }) :
    wpAny (model prog w) A (pyNext (.ref z)) Q E s := by
  obtain ⟨hpz1, hTI, hpz2⟩ := id Z; (refine e22 hpz1 fun f0 f1 hz hcase => ?_; clear hpz1); (refine e21 hpz2 fun a b hTO => ?_; clear hpz2)
  have d1z := tup_ne_zip hl1 hz
  have d2z := tup_ne_zip hl2 hz
  have d11 := tup_ne_iter hl1 h1
  have d12 := tup_ne_iter hl1 h2
  have d21 := tup_ne_iter hl2 h1
  have d22 := tup_ne_iter hl2 h2
  have hT : s.TypeIs (.ref z) "zip" := ⟨_, hz, rfl⟩
  unfold pyNext
  refine wpAny_bind (wpAny_attempt (wpAny_callSpecial?_slot (name := Str.ofString "__next__") hT PySem.F.slot_zip_next
    (wpAny_call_entry PySem.F.slot_zip_next hT PySem.F.entry_zip_next ?_ (PySem.F.args_zip_next_1 _))))
  show wpAny _ _ (field (.ref z) 2 >>= _) _ _ _
  refine wpAny_bind (wpAny_field hz rfl (x := .bool false) rfl ?_)
  show wpAny _ _ (field (.ref z) 3 >>= _) _ _ _
  refine wpAny_bind (wpAny_field hz rfl (x := .ref TI) rfl ?_)
  refine wpAny_bind (wpAny_seqItems hTI rfl ?_)
  show wpAny _ _ (Builtin.SmallTypes.ownedTupleIsFree (.ref z) >>= _) _ _ _
  rcases hcase with ⟨rfl, rfl⟩ | ⟨T, oT, rfl, hTo, Tz, TTO, Ti1, Ti2⟩
  · refine wpAny_bind ?_
    unfold Builtin.SmallTypes.ownedTupleIsFree
    refine wpAny_bind (wpAny_field hz rfl (x := .none) rfl (wpAny_pure ?_))
    simp only [if_true]
    refine wpAny_bind (wpAny_rule ?_)
    refine wpAny_bind (wpAny_field hz rfl (x := .ref TO) rfl ?_)
    refine wpAny_bind (wpAny_setField_rec hz (by simp) fun h₁ hz₁ hs₁ => ?_)
    replace hz₁ : IsZip h₁ z TI TO .ellipsis := hz₁
    refine wpAny_bind ?_
    simp only [List.zipIdx_cons, List.zipIdx_nil, List.forIn_cons, List.forIn_nil]
    refine wpAny_bind (wpAny_bind (wpAny_onRaise ?_))
    show wpAny _ _ (Builtin.SmallTypes.nextOf (.ref i1) >>= _) _ _ _
    refine wpAny_bind (nextOf_tup_item (tupiter_but h1 hs₁.extBut D.i1z) (tup_at hl1 fun o e => hs₁.extBut _ _ d1z e) hx fun h₂ h1₂ hs₂ => wpAny_pure ?_)
    have hTO₂ : IsPair h₂ TO a b := hs₂.extBut _ _ D.TOi1 (hs₁.extBut _ _ D.TOz hTO)
    refine wpAny_bind (wpAny_seqItems hTO₂ rfl ?_)
    refine wpAny_bind (wpAny_updateSeq_pair hTO₂ fun h₃ hTO₃ hs₃ => ?_)
    replace hTO₃ : IsPair h₃ TO x b := hTO₃
    refine wpAny_bind (wpAny_letGo (wpAny_pure ?_))
    refine wpAny_bind (wpAny_bind (wpAny_onRaise ?_))
    show wpAny _ _ (Builtin.SmallTypes.nextOf (.ref i2) >>= _) _ _ _
    refine wpAny_bind (nextOf_tup_item (tupiter_but (tupiter_but (tupiter_but h2 hs₁.extBut D.i2z) hs₂.extBut D.i12.symm) hs₃.extBut D.TOi2.symm)
      (tup_at hl2 fun o e => hs₃.extBut _ _ d2 (hs₂.extBut _ _ d21 (hs₁.extBut _ _ d2z e))) hy fun h₄ h2₄ hs₄ => wpAny_pure ?_)
    have hTO₄ : IsPair h₄ TO x b := hs₄.extBut _ _ D.TOi2 hTO₃
    refine wpAny_bind (wpAny_seqItems hTO₄ rfl ?_)
    refine wpAny_bind (wpAny_updateSeq_pair hTO₄ fun h₅ hTO₅ hs₅ => ?_)
    replace hTO₅ : IsPair h₅ TO x y := hTO₅
    refine wpAny_bind (wpAny_letGo (wpAny_pure (wpAny_pure ?_)))
    refine wpAny_bind (wpAny_seqItems hTO₅ rfl ?_)
    refine wpAny_bind (wpAny_newTuple ?_)
    have hsz : h₅.objs.size = s.heap.objs.size := by rw [hs₅.1, hs₄.1, hs₃.1, hs₂.1, hs₁.1]
    have hz₅ : IsZip h₅ z TI TO .ellipsis := hs₅.extBut _ _ D.TOz.symm (hs₄.extBut _ _ D.i2z.symm (hs₃.extBut _ _ D.TOz.symm (hs₂.extBut _ _ D.i1z.symm hz₁)))
    have hk₅ : ∀ c o, c ≠ z → c ≠ TO → c ≠ i1 → c ≠ i2 → s.heap.get? c = some o → h₅.get? c = some o := fun c o c1 c2 c3 c4 e =>
      hs₅.extBut _ _ c2 (hs₄.extBut _ _ c4 (hs₃.extBut _ _ c2 (hs₂.extBut _ _ c3 (hs₁.extBut _ _ c1 e))))
    have h1₅ : IsTupIter h₅ i1 l1 (k + 1) := tupiter_but (tupiter_but (tupiter_but h1₂ hs₃.extBut D.TOi1.symm) hs₄.extBut D.i12) hs₅.extBut D.TOi1.symm
    have h2₅ : IsTupIter h₅ i2 l2 (k + 1) := tupiter_but h2₄ hs₅.extBut D.TOi2.symm
    have hzlt : z < h₅.objs.size := Heap.lt_size hz₅
    have hTOlt : TO < h₅.objs.size := Heap.lt_size hTO₅
    have hi1lt : i1 < h₅.objs.size := by obtain ⟨_, e, _⟩ := h1₅; exact Heap.lt_size e
    have hi2lt : i2 < h₅.objs.size := by obtain ⟨_, e, _⟩ := h2₅; exact Heap.lt_size e
    show wpAny _ _ (Builtin.SmallTypes.ownedTupleHandOut (.ref z) (.ref h₅.objs.size) >>= _) _ _ _
    refine wpAny_bind ?_
    unfold Builtin.SmallTypes.ownedTupleHandOut
    have hz₆ : IsZip (h₅.push { cls := .type "tuple", data := .seq #[x, y] }) z TI TO .ellipsis := Heap.get?_push_of_some _ hz₅
    refine wpAny_bind (wpAny_setField_rec hz₆ (by simp) fun h₇ hz₇ hs₇ => ?_)
    replace hz₇ : IsZip h₇ z TI TO (rawInt h₅.objs.size) := hz₇
    refine wpAny_setField_rec hz₇ (by simp) fun h₈ hz₈ hs₈ => ?_
    replace hz₈ : IsZip h₈ z TI TO (rawInt h₅.objs.size) := hz₈
    have up : ∀ c o, c ≠ z → h₅.get? c = some o → h₈.get? c = some o := fun c o c1 e => hs₈.extBut _ _ c1 (hs₇.extBut _ _ c1 (Heap.get?_push_of_some _ e))
    have hT₈ : IsPair h₈ h₅.objs.size x y := hs₈.extBut _ _ (Nat.ne_of_gt hzlt) (hs₇.extBut _ _ (Nat.ne_of_gt hzlt) (Heap.get?_push_size _ rfl))
    refine wpAny_pure ⟨_, rfl, ?_⟩
    refine wpAny_pure ?_
    refine hQ h₈ h₅.objs.size s.toks ⟨⟨_, _, hz₈, .inr ⟨_, _, rfl, hT₈, Nat.ne_of_gt hzlt, Nat.ne_of_gt hTOlt, Nat.ne_of_gt hi1lt, Nat.ne_of_gt hi2lt⟩⟩, ?_, ⟨_, _, up _ _ D.TOz hTO₅⟩⟩ (tupiter_at h1₅ fun o e => up _ o D.i1z e) (tupiter_at h2₅ fun o e => up _ o D.i2z e)
      (Heap.get?_none_of_le (by rw [hsz]; exact Nat.le_refl _)) ⟨_, hT₈, rfl, _, rfl⟩ fun c o c1 c2 c3 c4 e => up c o c1 (hk₅ c o c1 c2 c3 c4 e)
    exact up _ _ D.TIz (hk₅ _ _ D.TIz D.TITO D.TIi1 D.TIi2 hTI)
  · -- the tuple handed out before is kept
    have hz' : ∃ h₁, h₁.get? z = some { cls := .type "zip", dict := none, data := .fields #[rawInt T, .bool true, .bool false, .ref TI, .ref TO], slots := #[] } ∧ Heap.SameBut z s.heap h₁ ∧ ∀ (Q' : Bool → Shared → Prop) (E' : Value → Shared → Prop) (A' : Around), Q' false { s with heap := h₁ } → wpAny (model prog w) A' (Builtin.SmallTypes.ownedTupleIsFree (.ref z)) Q' E' s := by
      by_cases hf : f1 = .bool true
      · subst hf
        refine ⟨s.heap, hz, Heap.SameBut.refl _ _, fun Q' E' A' h => ?_⟩
        unfold Builtin.SmallTypes.ownedTupleIsFree
        refine wpAny_bind (wpAny_field hz rfl (x := rawInt T) rfl ?_)
        show wpAny _ _ (loadIfAlive (Int.toNat (T : Int)) >>= _) _ _ _
        rw [Int.toNat_natCast]
        refine wpAny_bind (loadIfAlive_ (o := oT) hTo ?_)
        show wpAny _ _ (field (.ref z) 1 >>= _) _ _ _
        refine wpAny_bind (wpAny_field hz rfl (x := .bool true) rfl ?_)
        exact wpAny_pure h
      · refine ⟨_, Heap.get?_update_self (Obj.mapFields fun fs => fs.setIfInBounds 1 (.bool true)) hz rfl, Heap.SameBut.update .., fun Q' E' A' h => ?_⟩
        unfold Builtin.SmallTypes.ownedTupleIsFree
        refine wpAny_bind (wpAny_field hz rfl (x := rawInt T) rfl ?_)
        show wpAny _ _ (loadIfAlive (Int.toNat (T : Int)) >>= _) _ _ _
        rw [Int.toNat_natCast]
        refine wpAny_bind (loadIfAlive_ (o := oT) hTo ?_)
        show wpAny _ _ (field (.ref z) 1 >>= _) _ _ _
        refine wpAny_bind (wpAny_field hz rfl (x := f1) rfl ?_)
        have e : (f1 != Value.bool true) = true := by simpa using hf
        simp only [e, if_true]
        refine wpAny_bind (wpAny_setField hz rfl (by simp) ?_)
        exact wpAny_pure h
    (refine e13 hz' fun h₁ hz₁ hs₁ hfree => ?_; clear hz')
    refine wpAny_bind (hfree _ _ _ ?_)
    simp only [Bool.false_eq_true, if_false]
    simp only [List.forIn_toArray, List.forIn_cons, List.forIn_nil]
    refine wpAny_bind (wpAny_bind (wpAny_bind (wpAny_holding ?_)))
    show wpAny _ _ (Builtin.SmallTypes.nextOf (.ref i1) >>= _) _ _ _
    refine wpAny_bind (nextOf_tup_item (tupiter_but h1 hs₁.extBut D.i1z) (tup_at hl1 fun o e => hs₁.extBut _ _ d1z e) hx fun h₂ h1₂ hs₂ => wpAny_pure ?_)
    refine wpAny_pure ?_
    refine wpAny_bind (wpAny_bind (wpAny_holding ?_))
    show wpAny _ _ (Builtin.SmallTypes.nextOf (.ref i2) >>= _) _ _ _
    refine wpAny_bind (nextOf_tup_item (tupiter_but (tupiter_but h2 hs₁.extBut D.i2z) hs₂.extBut D.i12.symm)
      (tup_at hl2 fun o e => hs₂.extBut _ _ d21 (hs₁.extBut _ _ d2z e)) hy fun h₄ h2₄ hs₄ => wpAny_pure ?_)
    refine wpAny_pure (wpAny_pure ?_)
    refine wpAny_bind (wpAny_newTuple (hsz := show (2 : Nat) ≤ sizeLine by decide) ?_)
    have hk₄ : ∀ c o, c ≠ z → c ≠ i1 → c ≠ i2 → s.heap.get? c = some o → h₄.get? c = some o := fun c o c1 c3 c4 e =>
      hs₄.extBut _ _ c4 (hs₂.extBut _ _ c3 (hs₁.extBut _ _ c1 e))
    have hsz : h₄.objs.size = s.heap.objs.size := by rw [hs₄.1, hs₂.1, hs₁.1]
    have h1₄ : IsTupIter h₄ i1 l1 (k + 1) := tupiter_but h1₂ hs₄.extBut D.i12
    have hz₄ := hs₄.extBut _ _ D.i2z.symm (hs₂.extBut _ _ D.i1z.symm hz₁)
    refine wpAny_pure ⟨_, rfl, ?_⟩
    refine wpAny_pure ?_
    have kp : Kp h₄ (h₄.push { cls := .type "tuple", data := .seq #[x, y] }) := Kp.push _ _
    refine hQ _ h₄.objs.size s.toks ⟨⟨_, _, kp _ _ hz₄, .inr ⟨T, oT, rfl, kp _ _ (hk₄ _ _ Tz Ti1 Ti2 hTo), Tz, TTO, Ti1, Ti2⟩⟩, ?_, ⟨a, b, ?_⟩⟩ (tupiter_at h1₄ fun o e => kp _ _ e) (tupiter_at h2₄ fun o e => kp _ _ e)
      (Heap.get?_none_of_le (by rw [hsz]; exact Nat.le_refl _)) (IsTup.new _ _) fun c o c1 c2 c3 c4 e => kp _ _ (hk₄ c o c1 c3 c4 e)
    · exact kp _ _ (hk₄ _ _ D.TIz D.TIi1 D.TIi2 hTI)
    · exact kp _ _ (hk₄ _ _ D.TOz D.TOi1 D.TOi2 hTO)

set_option maxHeartbeats 4000000 in
theorem zipT_next_end {z TI TO i1 i2 l1 : Addr} {k : Nat} {xs : Array Value} {Q : Option Value → Shared → Prop} (hh : A.handled = none) (D : ZipDist z TI TO i1 i2)
    (Z : ZipSt s.heap z TI TO i1 i2) (h1 : IsTupIter s.heap i1 l1 k) (hl1 : IsTup s.heap l1 xs) (hx : xs[k]? = none)
    (hQ : ∀ h', (∀ b o, b ≠ z → b ≠ TO → b ≠ i1 → b ≠ i2 → s.heap.get? b = some o → h'.get? b = some o) → Q none { s with heap := h' }) :
    wpAny (model prog w) A (pyNext (.ref z)) Q E s := by
  obtain ⟨hpz3, hTI, hpz4⟩ := id Z; (refine e22 hpz3 fun f0 f1 hz hcase => ?_; clear hpz3); (refine e21 hpz4 fun a b hTO => ?_; clear hpz4)
  have d1z := tup_ne_zip hl1 hz
  have hT : s.TypeIs (.ref z) "zip" := ⟨_, hz, rfl⟩
  unfold pyNext
  refine wpAny_bind (wpAny_attempt (wpAny_callSpecial?_slot (name := Str.ofString "__next__") hT PySem.F.slot_zip_next
    (wpAny_call_entry PySem.F.slot_zip_next hT PySem.F.entry_zip_next ?_ (PySem.F.args_zip_next_1 _))))
  show wpAny _ _ (field (.ref z) 2 >>= _) _ _ _
  refine wpAny_bind (wpAny_field hz rfl (x := .bool false) rfl ?_)
  show wpAny _ _ (field (.ref z) 3 >>= _) _ _ _
  refine wpAny_bind (wpAny_field hz rfl (x := .ref TI) rfl ?_)
  refine wpAny_bind (wpAny_seqItems hTI rfl ?_)
  show wpAny _ _ (Builtin.SmallTypes.ownedTupleIsFree (.ref z) >>= _) _ _ _
  rcases hcase with ⟨rfl, rfl⟩ | ⟨T, oT, rfl, hTo, Tz, TTO, Ti1, Ti2⟩
  · refine wpAny_bind ?_
    unfold Builtin.SmallTypes.ownedTupleIsFree
    refine wpAny_bind (wpAny_field hz rfl (x := .none) rfl (wpAny_pure ?_))
    simp only [if_true]
    refine wpAny_bind (wpAny_rule ?_)
    refine wpAny_bind (wpAny_field hz rfl (x := .ref TO) rfl ?_)
    refine wpAny_bind (wpAny_setField_rec hz (by simp) fun h₁ hz₁ hs₁ => ?_)
    replace hz₁ : IsZip h₁ z TI TO .ellipsis := hz₁
    refine wpAny_bind ?_
    simp only [List.zipIdx_cons, List.zipIdx_nil, List.forIn_cons, List.forIn_nil]
    refine wpAny_bind (wpAny_bind (wpAny_onRaise ?_))
    show wpAny _ _ (Builtin.SmallTypes.nextOf (.ref i1) >>= _) _ _ _
    refine wpAny_bind (nextOf_tup_end hh (tupiter_but h1 hs₁.extBut D.i1z) (tup_at hl1 fun o e => hs₁.extBut _ _ d1z e) hx fun h₂ e hs₂ he => ?_)
    (refine e12 he fun oe hoe hce => ?_; clear he)
    have hz₂ : IsZip h₂ z TI TO .ellipsis := hs₂ _ _ D.i1z.symm hz₁
    have hez : e ≠ z := fun x => by subst x; rw [hz₂] at hoe; cases hoe; simp at hce
    refine wpAny_setField_rec hz₂ (by simp) fun h₃ _ hs₃ => ?_
    refine wpAny_bind (wpAny_isInstance (T := "StopIteration") (b := true) ⟨oe, hs₃.extBut _ _ hez hoe, hce⟩ isSubtype_stop ?_)
    exact wpAny_pure (hQ _ (fun c o c1 _ c3 _ x => hs₃.extBut _ _ c1 (hs₂ _ _ c3 (hs₁.extBut _ _ c1 x))))
  · have hz' : ∃ h₁, Heap.SameBut z s.heap h₁ ∧ ∀ (Q' : Bool → Shared → Prop) (E' : Value → Shared → Prop) (A' : Around), Q' false { s with heap := h₁ } → wpAny (model prog w) A' (Builtin.SmallTypes.ownedTupleIsFree (.ref z)) Q' E' s := by
      by_cases hf : f1 = .bool true
      · subst hf
        refine ⟨s.heap, Heap.SameBut.refl _ _, fun Q' E' A' h => ?_⟩
        unfold Builtin.SmallTypes.ownedTupleIsFree
        refine wpAny_bind (wpAny_field hz rfl (x := rawInt T) rfl ?_)
        show wpAny _ _ (loadIfAlive (Int.toNat (T : Int)) >>= _) _ _ _
        rw [Int.toNat_natCast]
        refine wpAny_bind (loadIfAlive_ (o := oT) hTo ?_)
        show wpAny _ _ (field (.ref z) 1 >>= _) _ _ _
        refine wpAny_bind (wpAny_field hz rfl (x := .bool true) rfl ?_)
        exact wpAny_pure h
      · refine ⟨s.heap.update z (Obj.mapFields fun fs => fs.setIfInBounds 1 (.bool true)), Heap.SameBut.update .., fun Q' E' A' h => ?_⟩
        unfold Builtin.SmallTypes.ownedTupleIsFree
        refine wpAny_bind (wpAny_field hz rfl (x := rawInt T) rfl ?_)
        show wpAny _ _ (loadIfAlive (Int.toNat (T : Int)) >>= _) _ _ _
        rw [Int.toNat_natCast]
        refine wpAny_bind (loadIfAlive_ (o := oT) hTo ?_)
        show wpAny _ _ (field (.ref z) 1 >>= _) _ _ _
        refine wpAny_bind (wpAny_field hz rfl (x := f1) rfl ?_)
        have e : (f1 != Value.bool true) = true := by simpa using hf
        simp only [e, if_true]
        refine wpAny_bind (wpAny_setField hz rfl (by simp) ?_)
        exact wpAny_pure h
    (refine e12 hz' fun h₁ hs₁ hfree => ?_; clear hz')
    refine wpAny_bind (hfree _ _ _ ?_)
    simp only [Bool.false_eq_true, if_false]
    simp only [List.forIn_toArray, List.forIn_cons, List.forIn_nil]
    refine wpAny_bind (wpAny_bind (wpAny_bind (wpAny_holding ?_)))
    show wpAny _ _ (Builtin.SmallTypes.nextOf (.ref i1) >>= _) _ _ _
    refine wpAny_bind (nextOf_tup_end hh (tupiter_but h1 hs₁.extBut D.i1z) (tup_at hl1 fun o e => hs₁.extBut _ _ d1z e) hx fun h₂ e hs₂ he => ?_)
    (refine e12 he fun oe hoe hce => ?_; clear he)
    refine wpAny_bind (wpAny_isInstance (T := "StopIteration") (b := true) ⟨oe, hoe, hce⟩ isSubtype_stop ?_)
    exact wpAny_pure (hQ _ (fun c o c1 _ c3 _ x => hs₂ _ _ c3 (hs₁.extBut _ _ c1 x)))

set_option maxHeartbeats 2000000 in
theorem meets_zipT_new (l1 l2 : Addr) (xs ys : Array Value) :
    Meets (Builtin.«zip.__new__» ⟨[.type "zip", .ref l1, .ref l2], []⟩) (fun _ R s => s.heap.IsTuple l1 xs ∧ s.heap.IsTuple l2 ys ∧
      ∀ h', ZipSt h' (s.heap.objs.size + 4) (s.heap.objs.size + 2) (s.heap.objs.size + 3) s.heap.objs.size (s.heap.objs.size + 1) → IsTupIter h' s.heap.objs.size l1 0 → IsTupIter h' (s.heap.objs.size + 1) l2 0 →
        Kp s.heap h' → R (.ok (.ret (.ref (s.heap.objs.size + 4)))) { s with heap := h' }) :=
  .of_wp fun prog w A R s h => by
    obtain ⟨hp, g, d, tk, os⟩ := s; refine e03 h fun hl1 hl2 h => ?_
    have hsub := sub_zip
    have hL1 : Heap.IsTuple (Shared.heap ⟨hp, g, d, tk, os⟩) l1 xs := hl1
    have hL2 : Heap.IsTuple (Shared.heap ⟨hp.push { cls := .type "tuple_iterator", data := .fields #[.ref l1, .int 0 0] }, g, d, tk, os⟩) l2 ys := Heap.IsTuple.push hl2 _
    wp_walk using wpAny_pyIter_tuple hL1, wpAny_pyIter_tuple hL2
    have z1 : (hp.push { cls := .type "tuple_iterator", data := .fields #[.ref l1, .int 0 0] }).objs.size = hp.objs.size + 1 := Heap.size_push ..
    have key : ∀ (h1 h2 h3 h4 h5 : Heap), h1 = hp.push { cls := .type "tuple_iterator", data := .fields #[.ref l1, .int 0 0] } → h2 = h1.push { cls := .type "tuple_iterator", data := .fields #[.ref l2, .int 0 0] } →
        h3 = h2.push { cls := .type "tuple", data := .seq #[.ref hp.objs.size, .ref h1.objs.size] } → h4 = h3.push { cls := .type "tuple", data := .seq #[.none, .none] } →
        h5 = h4.push { cls := .type "zip", data := .fields #[.none, .bool false, .bool false, .ref h2.objs.size, .ref h3.objs.size] } →
        R (.ok (.ret (.ref h4.objs.size))) ⟨h5, g, d, tk, os⟩ := by
      rintro h1 h2 h3 h4 h5 e1 e2 e3 e4 e5
      have s1 : h1.objs.size = hp.objs.size + 1 := by rw [e1, Heap.size_push]
      have s2 : h2.objs.size = hp.objs.size + 2 := by rw [e2, Heap.size_push, s1]
      have s3 : h3.objs.size = hp.objs.size + 3 := by rw [e3, Heap.size_push, s2]
      have s4 : h4.objs.size = hp.objs.size + 4 := by rw [e4, Heap.size_push, s3]
      have k1 : Kp hp h1 := by rw [e1]; exact Kp.push _ _
      have k2 : Kp h1 h2 := by rw [e2]; exact Kp.push _ _
      have k3 : Kp h2 h3 := by rw [e3]; exact Kp.push _ _
      have k4 : Kp h3 h4 := by rw [e4]; exact Kp.push _ _
      have k5 : Kp h4 h5 := by rw [e5]; exact Kp.push _ _
      have g5 : h5.get? (hp.objs.size + 4) = some { cls := .type "zip", data := .fields #[.none, .bool false, .bool false, .ref h2.objs.size, .ref h3.objs.size] } := by rw [e5, ← s4]; exact Heap.get?_push_size _ rfl
      have g4 : h4.get? (hp.objs.size + 3) = some { cls := .type "tuple", data := .seq #[.none, .none] } := by rw [e4, ← s3]; exact Heap.get?_push_size _ rfl
      have g3 : h3.get? (hp.objs.size + 2) = some { cls := .type "tuple", data := .seq #[.ref hp.objs.size, .ref h1.objs.size] } := by rw [e3, ← s2]; exact Heap.get?_push_size _ rfl
      have g2 : h2.get? (hp.objs.size + 1) = some { cls := .type "tuple_iterator", data := .fields #[.ref l2, .int 0 0] } := by rw [e2, ← s1]; exact Heap.get?_push_size _ rfl
      have g1 : h1.get? hp.objs.size = some { cls := .type "tuple_iterator", data := .fields #[.ref l1, .int 0 0] } := by rw [e1]; exact Heap.get?_push_size _ rfl
      have := h h5 ⟨⟨_, _, (by rw [g5, s2, s3]), .inl ⟨rfl, rfl⟩⟩, (by rw [← s1]; exact k5 _ _ (k4 _ _ g3)), ⟨_, _, k5 _ _ g4⟩⟩ ⟨_, k5 _ _ (k4 _ _ (k3 _ _ (k2 _ _ g1))), rfl, rfl⟩ ⟨_, k5 _ _ (k4 _ _ (k3 _ _ g2)), rfl, rfl⟩ ((((k1.tr k2).tr k3).tr k4).tr k5)
      rw [s4]; exact this
    exact ⟨_, rfl, key _ _ _ _ _ rfl rfl rfl rfl rfl⟩

theorem zip_tup {l1 l2 : Addr} {xs ys : Array Value} {Q : Value → Shared → Prop} (hl1 : IsTup s.heap l1 xs) (hl2 : IsTup s.heap l2 ys)
    (h : ∀ h', ZipSt h' (s.heap.objs.size + 4) (s.heap.objs.size + 2) (s.heap.objs.size + 3) s.heap.objs.size (s.heap.objs.size + 1) → IsTupIter h' s.heap.objs.size l1 0 → IsTupIter h' (s.heap.objs.size + 1) l2 0 →
      Kp s.heap h' → Q (.ref (s.heap.objs.size + 4)) { s with heap := h' }) :
    wpAny (model prog w) A (call (.type "zip") [.ref l1, .ref l2]) Q E s := by
  refine callType_new PySem.F.called_zip (by decide) (PySem.F.typeCall_zip_2 _ _) (PySem.F.newCall_zip_2 _ _) (fun obj => PySem.F.args_object_init_3 obj _ _) PySem.F.entry_zip_new
    (meets_zipT_new l1 l2 xs ys) ⟨hl1, hl2, ?_⟩
  intro h' Z a b k
  refine e22 Z.zz fun f0 f1 hz r => ?_
  exact ⟨⟨_, hz, rfl⟩, h h' Z a b k⟩
theorem zip_dist (n : Addr) : ZipDist (n + 4) (n + 2) (n + 3) n (n + 1) := by
  constructor <;> (intro h; have h' : (_ : Nat) = _ := h; lia)

end

section
variable {prog : Program} {w : World} {A : Around} {E : Value → Shared → Prop} {s : Shared}
theorem zip_no_len : typeLookup (.type "zip") "__len__" = pure none := by rw [typeLookup_type, builtinLookup_eq_fast]; kernel_rfl
theorem zip_no_hint : typeLookup (.type "zip") "__length_hint__" = pure none := by rw [typeLookup_type, builtinLookup_eq_fast]; kernel_rfl

/-- what the loop of extend leaves: D longer by the pairs -/
theorem extend_loop_zip {R : Result → Shared → Prop} {z TI TO i1 i2 l1 l2 Dl : Addr} {xs ys : List Value} (hh : A.handled = none) (D : ZipDist z TI TO i1 i2) (hlen : ys.length = xs.length) (hn : xs.length ≤ 1000)
    (d1 : l1 ≠ TO) (d2 : l2 ≠ TO) (c1 : Dl ≠ z) (c2 : Dl ≠ TO) (c3 : Dl ≠ i1) (c4 : Dl ≠ i2) (c5 : l1 ≠ Dl) (c6 : l2 ≠ Dl) (c7 : TI ≠ Dl) :
    ∀ (m k : Nat) (s : Shared) (acc : List Value), k + m = xs.length → ZipSt s.heap z TI TO i1 i2 → IsTupIter s.heap i1 l1 k → IsTupIter s.heap i2 l2 k → IsTup s.heap l1 xs.toArray → IsTup s.heap l2 ys.toArray → s.heap.PlainList Dl acc.toArray → acc.length ≤ 1000000 - m →
    (∀ h' tk ps, ps.length = m → h'.PlainList Dl (acc ++ ps).toArray → (∀ (j : Nat) p, ps[j]? = some p → X3 fun c x y => C4 (p = .ref c) (xs[k + j]? = some x) (ys[k + j]? = some y) (IsTup h' c (List.toArray [x, y]))) →
      (∀ b o, b ≠ z → b ≠ TO → b ≠ i1 → b ≠ i2 → b ≠ Dl → s.heap.get? b = some o → h'.get? b = some o) → R (.ok (.ret .none)) { s with heap := h', toks := tk }) →
    codeAny (model prog w) A (.builtin "list.extend.loop" ⟨[.ref Dl, .ref z, .none], []⟩) R s := by
  intro m
  induction m with
  | zero =>
    intro k s acc hk Z h1 h2 hl1 hl2 hD ha hR
    refine codeAny_builtin PySem.F.entry_extend_loop ?_
    rw [Around.under_plainId PySem.F.plain_extend_loop _]
    show wpAny _ A.in1 (pyNext (.ref z) >>= _) _ _ s
    refine wpAny_bind (zipT_next_end (A := A.in1) hh D Z h1 hl1 (by simp; lia) (fun h' hk' => ?_))
    refine wpAny_pure ?_
    (refine e11 hD fun n e => ?_; clear hD)
    exact hR h' s.toks [] rfl ⟨n, by rw [List.append_nil]; exact hk' _ _ c1 c2 c3 c4 e⟩ (fun j p e => by simp at e) (fun b o b1 b2 b3 b4 _ e => hk' b o b1 b2 b3 b4 e)
  | succ m ih =>
    intro k s acc hk Z h1 h2 hl1 hl2 hD ha hR
    have h2'0 := h2
    obtain ⟨x, hx⟩ : ∃ x, xs[k]? = some x := ⟨_, List.getElem?_eq_getElem (by lia)⟩
    obtain ⟨y, hy⟩ : ∃ y, ys[k]? = some y := ⟨_, List.getElem?_eq_getElem (by lia)⟩
    refine codeAny_builtin PySem.F.entry_extend_loop ?_
    rw [Around.under_plainId PySem.F.plain_extend_loop _]
    show wpAny _ A.in1 (pyNext (.ref z) >>= _) _ _ s
    (refine e11 hD fun n eD => ?_; clear hD)
    have t1 : l1 ≠ z := by obtain ⟨_, _, hz, _⟩ := Z.zz; exact tup_ne_zip hl1 hz
    have t2 : l2 ≠ z := by obtain ⟨_, _, hz, _⟩ := Z.zz; exact tup_ne_zip hl2 hz
    have t3 := tup_ne_iter hl1 h1
    have t4 := tup_ne_iter hl1 h2
    have t5 := tup_ne_iter hl2 h1
    have t6 := tup_ne_iter hl2 h2
    refine wpAny_bind (zipT_next_item D Z h1 h2 hl1 hl2 d1 d2 (by simpa using hx) (by simpa using hy) (fun h' c tk Z' h1' h2' hc hct hk' => ?_))
    have eD' := hk' _ _ c1 c2 c3 c4 eD
    have hcD : c ≠ Dl := fun q => by rw [q, eD] at hc; cases hc
    show wpAny _ A.in1 (updateSeq Dl (·.push (.ref c)) >>= _) _ _ _
    refine wpAny_bind ?_
    refine wpAny_updateSeq (s := { s with heap := h', toks := tk }) eD' rfl ?_ (by rw [List.size_toArray]; have := sizeLine_big; lia) (by show (acc.toArray.push _).size ≤ sizeLine + 1; rw [Array.size_push, List.size_toArray]; have := sizeLine_big; lia)
    refine wpAny_pure ⟨plainId_quiet PySem.F.plain_extend_loop _, ?_⟩
    have hs : Heap.SameBut Dl h' (h'.update Dl (Obj.mapSeq (·.push (.ref c)))) := Heap.SameBut.update ..
    have eD2 := Heap.get?_update_self (Obj.mapSeq (·.push (.ref c))) eD' rfl
    have gt : ∀ b o, b ≠ Dl → h'.get? b = some o → (h'.update Dl (Obj.mapSeq (·.push (.ref c)))).get? b = some o := fun b o hb e => hs.extBut b o hb e
    have hpl : (h'.update Dl (Obj.mapSeq (·.push (.ref c)))).PlainList Dl (acc ++ [Value.ref c]).toArray := ⟨if (acc.toArray.push (Value.ref c)).size == acc.toArray.size then n else n + 1, by
      (refine Eq.symm (eD2 ..) ▸ ?_; refine (List.push_toArray ..) ▸ ?_); rfl⟩
    refine ih (k + 1) _ (acc ++ [.ref c]) (by lia) ?_ ?_ ?_ ?_ ?_ hpl (by simp; lia) (fun h2 tk2 ps hps hpl2 hps2 hk2 => ?_)
    · obtain ⟨hpz1, hTI, hpz2⟩ := Z'; (refine e22 hpz1 fun f0 f1 hz hcase => ?_; clear hpz1); (refine e21 hpz2 fun a b hTO => ?_; clear hpz2)
      refine ⟨⟨f0, f1, gt _ _ (Ne.symm c1) hz, ?_⟩, gt _ _ c7 hTI, ⟨a, b, gt _ _ (Ne.symm c2) hTO⟩⟩
      rcases hcase with q | ⟨T, o, q1, q2, q3, q4, q5, q6⟩
      · exact .inl q
      · by_cases hTD : T = Dl
        · exact .inr ⟨T, _, q1, by rw [hTD]; exact eD2, q3, q4, q5, q6⟩
        · exact .inr ⟨T, o, q1, gt _ _ hTD q2, q3, q4, q5, q6⟩
    · exact tupiter_at h1' fun o e => gt _ _ (Ne.symm c3) e
    · exact tupiter_at h2' fun o e => gt _ _ (Ne.symm c4) e
    · exact tup_at hl1 fun o e => gt _ _ c5 (hk' _ _ t1 d1 t3 t4 e)
    · exact tup_at hl2 fun o e => gt _ _ c6 (hk' _ _ t2 d2 t5 t6 e)
    · refine hR h2 tk2 (.ref c :: ps) (by simp [hps]) (by simpa using hpl2) ?_ (fun b o b1 b2 b3 b4 b5 e => hk2 b o b1 b2 b3 b4 b5 (gt _ _ b5 (hk' b o b1 b2 b3 b4 e)))
      intro j p hp
      cases j with
      | zero =>
        cases hp
        refine ⟨c, x, y, rfl, by simpa using hx, by simpa using hy, tup_at hct fun o e => ?_⟩
        obtain ⟨_, _, hz, _⟩ := Z.zz
        obtain ⟨_, _, hTO⟩ := Z.to
        have nn : ∀ {b o}, s.heap.get? b = some o → c ≠ b := fun e q => by rw [q, e] at hc; cases hc
        exact hk2 _ _ (nn hz) (nn hTO) (by obtain ⟨_, e, _⟩ := h1; exact nn e) (by obtain ⟨_, e, _⟩ := h2'0; exact nn e) hcD (gt _ _ hcD e)
      | succ j =>
        refine x3c4 (hps2 j p hp) fun c' x y e1 e2 e3 e4 => ?_
        exact ⟨c', x, y, e1, by rw [← e2]; congr 1; lia, by rw [← e3]; congr 1; omega, e4⟩

theorem list_extend_zip {z TI TO i1 i2 l1 l2 Dl : Addr} {xs ys acc : List Value} {Q : Value → Shared → Prop} (hh : A.handled = none) (D : ZipDist z TI TO i1 i2) (hlen : ys.length = xs.length) (hn : xs.length ≤ 1000)
    (d1 : l1 ≠ TO) (d2 : l2 ≠ TO) (c1 : Dl ≠ z) (c2 : Dl ≠ TO) (c3 : Dl ≠ i1) (c4 : Dl ≠ i2) (c5 : l1 ≠ Dl) (c6 : l2 ≠ Dl) (c7 : TI ≠ Dl)
    (Z : ZipSt s.heap z TI TO i1 i2) (h1 : IsTupIter s.heap i1 l1 0) (h2 : IsTupIter s.heap i2 l2 0) (hl1 : IsTup s.heap l1 xs.toArray) (hl2 : IsTup s.heap l2 ys.toArray) (hD : s.heap.PlainList Dl acc.toArray) (ha : acc.length ≤ 10000)
    (hQ : ∀ h' tk ps, ps.length = xs.length → h'.PlainList Dl (acc ++ ps).toArray → (∀ (j : Nat) p, ps[j]? = some p → X3 fun c x y => C4 (p = .ref c) (xs[j]? = some x) (ys[j]? = some y) (IsTup h' c (List.toArray [x, y]))) →
      (∀ b o, b ≠ z → b ≠ TO → b ≠ i1 → b ≠ i2 → b ≠ Dl → s.heap.get? b = some o → h'.get? b = some o) → Q .none { s with heap := h', toks := tk }) :
    wpAny (model prog w) A (call (.builtin "list.extend") [.ref Dl, .ref z]) Q E s := by
  (refine e11 hD fun n eD => ?_; clear hD)
  obtain ⟨f0, f1, hz, _⟩ := Z.zz
  have hT : s.TypeIs (.ref z) "zip" := ⟨_, hz, rfl⟩
  refine wpAny_call ?_
  refine codeAny_call_builtin PySem.F.slot_list_extend.plain PySem.F.entry_list_extend (PySem.F.slot_list_extend.check _ _ _ _ _ _ _ _ ⟨_, eD, rfl⟩ (PySem.F.args_list_extend_2 _ _) ?_)
  show wpAny _ _ (Builtin.List.listExtendWith (.ref Dl) (.ref z) .none) _ _ s
  unfold Builtin.List.listExtendWith
  refine wpAny_bind (wpAny_typeOf hT ?_)
  have e1 : Builtin.List.listSameRef (.ref Dl) (.ref z) = false := by simp [Builtin.List.listSameRef, c1]
  have e2 : (Value.type "zip" == Value.type "list") = false := by decide
  have e3 : (Value.type "zip" == Value.type "tuple") = false := by decide
  simp only [e1, e2, e3, Bool.or_false, Bool.false_eq_true, if_false]
  refine wpAny_bind (wpAny_pyIter_slot hT PySem.F.slot_zip_iter (wpAny_call_entry PySem.F.slot_zip_iter hT PySem.F.entry_zip_iter ?_ (PySem.F.args_zip_iter_1 _)))
  show wpAny _ _ (ret (.ref z)) _ _ _
  refine wpAny_pure ⟨_, rfl, "zip", _, hT, PySem.F.slot_zip_next.lookup, ?_⟩
  refine wpAny_bind (wpAny_holding ?_)
  unfold Builtin.List.listLengthHint
  refine wpAny_bind (wpAny_specialOf hT zip_no_len ?_)
  show wpAny _ A.in1 (specialOf (Value.ref z) (Str.ofString "__length_hint__") >>= _) _ _ _
  refine wpAny_bind (wpAny_specialOf hT zip_no_hint ?_)
  refine wpAny_pure ?_
  show wpAny _ A.in1 (rule "list.extend.makes-room" >>= fun _ => Builtin.List.listTouch (.ref Dl) >>= fun _ =>
    again (.builtin "list.extend.loop" ⟨[.ref Dl, .ref z, .none], []⟩)) _ _ _
  refine wpAny_bind (wpAny_rule ?_)
  refine wpAny_bind ?_
  show wpAny _ A.in1 (updateSeq Dl (·.push .none) >>= fun _ => updateSeq Dl (·.pop)) _ _ _
  have hb := sizeLine_big
  refine wpAny_bind (wpAny_updateSeq eD rfl ?_ (by rw [List.size_toArray]; exact Nat.le_trans ha (Nat.le_of_ble_eq_true rfl)) (by show (acc.toArray.push _).size ≤ sizeLine + 1; rw [Array.size_push, List.size_toArray]; exact Nat.lt_of_le_of_lt (by assumption) (Nat.le_of_ble_eq_true rfl)))
  have eD2 := Heap.get?_update_self (Obj.mapSeq (·.push Value.none)) eD rfl
  refine wpAny_updateSeq eD2 rfl ?_ (by show (acc.toArray.push _).size ≤ _; rw [Array.size_push, List.size_toArray]; exact Nat.lt_of_le_of_lt (by assumption) (Nat.le_of_ble_eq_true rfl)) (by show (acc.toArray.push _).pop.size ≤ _; rw [Array.pop_push, List.size_toArray]; exact Nat.le_trans ha (Nat.le_of_ble_eq_true rfl))
  have eD3 := Heap.get?_update_self (Obj.mapSeq (·.pop)) eD2 rfl
  have oth : ∀ b o, b ≠ Dl → s.heap.get? b = some o → ((s.heap.update Dl (Obj.mapSeq (·.push Value.none))).update Dl (Obj.mapSeq (·.pop))).get? b = some o :=
    fun b o hb e => (Heap.get?_update_other _ _ (Ne.symm hb)).trans ((Heap.get?_update_other _ _ (Ne.symm hb)).trans e)
  have hpl : ∃ n', Obj.mapSeq (·.pop) (Obj.mapSeq (·.push Value.none) { cls := .type "list", data := .seq acc.toArray n }) = { cls := .type "list", data := .seq acc.toArray n' } := by
    refine ⟨if (acc.toArray.push Value.none).pop.size == (acc.toArray.push Value.none).size then (if (acc.toArray.push Value.none).size == acc.toArray.size then n else n + 1) else (if (acc.toArray.push Value.none).size == acc.toArray.size then n else n + 1) + 1, ?_⟩
    show ({ cls := .type "list", data := .seq (acc.toArray.push Value.none).pop _ } : Obj) = _
    simp only [Array.pop_push]
  (refine e11 hpl fun n' hn' => ?_; clear hpl)
  rw [hn'] at eD3
  refine wpAny_pure ⟨plainId_quiet PySem.F.plain_extend_loop _, extend_loop_zip hh D hlen hn d1 d2 c1 c2 c3 c4 c5 c6 c7 xs.length 0 _ acc (by simp) ?_ ?_ ?_ ?_ ?_ ⟨n', eD3⟩ (by lia) (fun h' tk ps hps hpl hps2 hk => ?_)⟩
  · obtain ⟨hpz3, hTI, hpz4⟩ := Z; (refine e22 hpz3 fun f0 f1 hz hcase => ?_; clear hpz3); (refine e21 hpz4 fun a b hTO => ?_; clear hpz4)
    refine ⟨⟨f0, f1, oth _ _ (Ne.symm c1) hz, ?_⟩, oth _ _ c7 hTI, ⟨a, b, oth _ _ (Ne.symm c2) hTO⟩⟩
    rcases hcase with q | ⟨T, o, q1, q2, q3, q4, q5, q6⟩
    · exact .inl q
    · by_cases hTD : T = Dl
      · exact .inr ⟨T, _, q1, by rw [hTD]; exact eD3, q3, q4, q5, q6⟩
      · exact .inr ⟨T, o, q1, oth _ _ hTD q2, q3, q4, q5, q6⟩
  · exact tupiter_at h1 fun o e => oth _ _ (Ne.symm c3) e
  · exact tupiter_at h2 fun o e => oth _ _ (Ne.symm c4) e
  · exact tup_at hl1 fun o e => oth _ _ c5 e
  · exact tup_at hl2 fun o e => oth _ _ c6 e
  · exact hQ h' tk ps hps hpl (fun j p e => by simpa using hps2 j p e) (fun b o b1 b2 b3 b4 b5 e => hk b o b1 b2 b3 b4 b5 (oth _ _ b5 e))
end

section
variable {prog : Program} {w : World} {A : Around} {E : Value → Shared → Prop} {s : Shared}

theorem dictSetDefault_pairs {K : Type} [DecidableEq K] {knd : KeyKind prog w K} {d : Addr} {kvs : List (K × Value)} {k : K} {key dflt : Value} {Q : Value → Shared → Prop} (hkey : knd.is k key = true) (hm : s.heap.DictOf knd d kvs)
    (hthere : ∀ v, valueAt kvs k = some v → Q v { s with toks := s.toks + 1 })
    (hnew : valueAt kvs k = none → ∀ h', h'.DictOf knd d (kvs ++ [(k, dflt)]) → Heap.SameBut d s.heap h' → Q dflt { s with heap := h', toks := s.toks + 1 })
    (hz : kvs.length ≤ sizeLine) :
    wpAny (model prog w) A (dictSetDefault d key dflt) Q E s := by
  obtain ⟨o, es, ep, ho, hc, hd, hk, hp, hn⟩ := hm
  have hes : es.size ≤ sizeLine := by
    have e1 := hp.length
    have e2 : es.toList.length = es.size := by simp
    exact Nat.le_trans (Nat.le_trans (Nat.le_of_eq e2.symm) (Nat.le_of_eq e1)) hz
  have hf : ∀ x, (es.toList.find? fun e => knd.is x e.key).map (·.val) = valueAt kvs x := fun x => hp.find x
  have hidx : (es.findIdx? fun e => knd.is k e.key) = kvs.findIdx? fun kv => decide (kv.1 = k) := by
    rw [← hp.findIdx k]; obtain ⟨l⟩ := es; simp
  unfold dictSetDefault
  try with_reducible refine wpAny_holding ?_
  refine wpAny_bind (knd.pyHash hkey ?_)
  refine wpAny_bind (wpAny_dictFind_of (s := { s with toks := s.toks + 1 }) hkey ho hd hk ?_)
  cases hi : es.findIdx? fun e => knd.is k e.key with
  | some i =>
    refine wpAny_bind (wpAny_dictEntries (s := { s with toks := s.toks + 1 }) ho hd ?_)
    have hlt : i < es.size := (Array.findIdx?_eq_some_iff_findIdx_eq.mp hi).1
    have hfk : valueAt kvs k = (es[i]?).map (·.val) := by
      have := PySem.findBy_of_findIdx? knd.is es k
      rw [hi] at this
      rw [← hf k]
      refine Eq.trans ?_ this
      obtain ⟨l⟩ := es
      simp [findBy]
    cases he : es[i]? with
    | none => rw [Array.getElem?_eq_getElem hlt] at he; exact nomatch he
    | some e =>
      rw [he] at hfk
      exact wpAny_bind (wpAny_rule (wpAny_pure (hthere e.val hfk)))
  | none =>
    have hnot : k ∉ kvs.map (·.1) := not_mem_of_findIdx_none (hidx ▸ hi)
    have hfk : valueAt kvs k = none := by
      unfold valueAt
      rw [Option.map_eq_none_iff, List.find?_eq_none]
      intro kv hkv
      simp only [decide_eq_true_eq]
      exact fun q => hnot (List.mem_map.mpr ⟨kv, hkv, q⟩)
    refine wpAny_bind (wpAny_rule (wpAny_bind (wpAny_updateDictKeys (hz := hes) (s := { s with toks := s.toks + 1 }) ho hd (wpAny_pure (hnew hfk _ ⟨_, _, ep + 1, Heap.get?_update_self _ ho (Obj.isFreed_of_dict (Obj.data_mapDictKeys hd _)),
      hc.mapDictKeys _, Obj.data_mapDictKeys hd _, hk.push hkey _, ?_, ?_⟩ (Heap.SameBut.update ..))))))
    · simpa using hp.append hkey _ dflt
    · rw [List.map_append, List.nodup_append]
      refine ⟨hn, by simp, fun a ha b hb => ?_⟩
      simp at hb
      subst hb
      rintro rfl; exact hnot ha
theorem setdef_str {d : Addr} {kvs : List (Str × Value)} {x : Str} {t : Tok} {dflt : Value} {Q : Value → Shared → Prop} (hs : (d == sysModules) = false) (hm : s.heap.DictOf (strKind prog w) d kvs)
    (hthere : ∀ v, valueAt kvs x = some v → Q v { s with toks := s.toks + 1 })
    (hnew : valueAt kvs x = none → ∀ h', h'.DictOf (strKind prog w) d (kvs ++ [(x, dflt)]) → Heap.SameBut d s.heap h' → Q dflt { s with heap := h', toks := s.toks + 1 })
    (hz : kvs.length ≤ 100000) : wpAny (model prog w) A (call (.builtin "dict.setdefault") [.ref d, .str x t, dflt]) Q E s := by
  refine wpAny_call (codeAny_call_builtin PySem.F.slot_dict_setdefault.plain PySem.F.entry_dict_setdefault (PySem.F.slot_dict_setdefault.check _ _ _ _ _ _ _ _ hm.typeIs (PySem.F.args_dict_setdefault_3 _ _ _) ?_))
  show wpAny _ _ (Builtin.«dict.setdefault» _) _ _ s
  unfold Builtin.«dict.setdefault»
  refine wpAny_bind ?_
  unfold Builtin.Dict.keyAndDefault
  refine wpAny_bind (wpAny_notOrdered_dict hm.typeIs ?_)
  show wpAny _ _ (pure (d, Value.str x t, some dflt)) _ _ s
  refine wpAny_pure ?_
  show wpAny _ _ (if (d == sysModules) = true then _ else (dictSetDefault d (.str x t) dflt >>= _)) _ _ s
  rw [if_neg (by rw [hs]; exact Bool.false_ne_true)]
  refine wpAny_bind (dictSetDefault_pairs (knd := strKind prog w) (k := x) (strKey x t) hm (fun v hv => wpAny_pure (hthere v hv)) (fun hn h' hm' hs' => wpAny_pure (hnew hn h' hm' hs')) (by have := sizeLine_big; exact Nat.le_trans hz (Nat.le_of_ble_eq_true rfl)))

theorem pop_plain {l : Addr} {xs : List Value} {y : Value} {Q : Value → Shared → Prop} (hl : s.heap.PlainList l (xs ++ [y]).toArray) (hk : xs.length ≤ 100000)
    (h : ∀ h', h'.PlainList l xs.toArray → Heap.SameBut l s.heap h' → Q y { s with heap := h' }) : wpAny (model prog w) A (call (.builtin "list.pop") [.ref l]) Q E s := by
  (refine e11 hl fun n e => ?_; clear hl)
  refine call_meets PySem.F.slot_list_pop ⟨_, e, rfl⟩ PySem.F.entry_list_pop (PySem.F.args_list_pop_1 _) (PySem.MeetsSeq.list_pop_last l (xs ++ [y]).toArray n y (by simp) (by simp; have := sizeLine_big; exact Nat.lt_of_le_of_lt (by assumption) (Nat.le_of_ble_eq_true rfl))) ⟨e, ?_⟩
  have e2 := Heap.get?_update_self (Obj.mapSeq fun xs' => xs'.eraseIdxIfInBounds ((xs ++ [y]).toArray.size - 1)) e rfl
  have e3 : ((xs ++ [y]).toArray).eraseIdxIfInBounds ((xs ++ [y]).toArray.size - 1) = xs.toArray := by
    simp [Array.eraseIdxIfInBounds]
    rw [List.eraseIdx_append_of_length_le (Nat.le_refl _)]; simp
  refine h _ (e3 ▸ ⟨if ((xs ++ [y]).toArray.eraseIdxIfInBounds ((xs ++ [y]).toArray.size - 1)).size == (xs ++ [y]).toArray.size then n else n + 1, ?_⟩) (Heap.SameBut.update ..)
  rw [e2]
  rfl

variable {env : Env}
theorem list1 {e : Expr} {pos : Pos} {Q : Value → Shared → Prop} (h : wpAny (model prog w) A (eval e env) (fun v s₁ => Q (.ref s₁.heap.objs.size) { s₁ with heap := s₁.heap.push { cls := .type "list", data := .seq (List.toArray [v]) } }) E s) (he : autoParam (([e] : List Expr).all plainE = true) aRfl) :
    wpAny (model prog w) A (eval (.List [e] pos) env) Q E s := by
  refine wpAny_List (spliced_args he (wpAny_mono h (fun v s₁ h₁ => ⟨show (1 : Nat) ≤ sizeLine by decide, h₁⟩) fun _ _ e => e))
theorem list0 {pos : Pos} {Q : Value → Shared → Prop} (h : Q (.ref s.heap.objs.size) { s with heap := s.heap.push { cls := .type "list", data := .seq (List.toArray []) } }) :
    wpAny (model prog w) A (eval (.List [] pos) env) Q E s := by
  refine wpAny_List (spliced_args (args := []) rfl ⟨show (0 : Nat) ≤ sizeLine by decide, h⟩)
/-- x, y = e, what comes is a pair -/
theorem pairOf {x y : Str} {px py tpos pos : Pos} {k1 : Nat} {e : Expr} {Q : Flow → Shared → Prop} (hh : A.handled = none)
    (h : wpAny (model prog w) A (eval e env) (fun v s₂ => X3 fun a v1 v2 => v = .ref a ∧ IsTup s₂.heap a (List.toArray [v1, v2]) ∧ ∀ h', Kp s₂.heap h' →
      wpAny (model prog w) A (storeName env x v1) (fun _ s₃ => wpAny (model prog w) A (storeName env y v2) (fun _ => Q .next) E s₃) E { s₂ with heap := h' }) E s)
    (hs : autoParam (swapsWithSole [.Tuple [.Name x px, .Name y py] k1 tpos] e pos.line env = pure false) aRfl)
    (hw : autoParam (swappedStores [.Tuple [.Name x px, .Name y py] k1 tpos] e env = pure none) aRfl) :
    wpAny (model prog w) A (exec (.Assign [.Tuple [.Name x px, .Name y py] k1 tpos] e pos) env) Q E s := by
  refine PyProof.Rows.Assign_Tuple (wpAny_mono h (fun v s₂ h₂ => ?_) fun _ _ e => e) hs hw
  (refine x3c3 h₂ fun a v1 v2 hq3 ht h₂ => ?_; subst hq3; clear h₂)
  refine assign_Tuple_tuple (items := #[v1, v2]) hh ht rfl rfl (fun h' hx => ?_)
  have k : Kp s₂.heap h' := fun b o e => hx b o (Nat.ne_of_lt (Heap.lt_size e)) e
  refine assignInOrder_cons (wpAny_assign_Name ?_)
  exact wpAny_mono (h₂ h' k) (fun _ s₃ h₃ => assignInOrder_cons (wpAny_assign_Name (wpAny_mono h₃ (fun _ _ x => assignInOrder_nil x) fun _ _ e => e))) fun _ _ e => e
end

open Classical in
/-- the run of matched over its stack, top first; n: fuel -/
noncomputable def mrun : Nat → Tab → List (T × T) → Option Tab
  | _, tab, [] => some tab
  | 0, _, _ :: _ => none
  | n + 1, tab, (p, u) :: rest =>
    if p.isVar = true then match tab.lookup p.op with
      | some v => if v = u then mrun n tab rest else none
      | none => mrun n (tab ++ [(p.op, u)]) rest
    else if p.op = u.op ∧ p.kids.length = u.kids.length then mrun n tab ((p.kids.zip u.kids).reverse ++ rest) else none
noncomputable def stk (st : List (T × T)) : Nat := (st.map fun x => x.1.size).sum

noncomputable def PairAt (h : Heap) (x : T × T) (p : Value) : Prop := X3 fun c v r => C4 (p = Value.ref c) (IsTup h c (List.toArray [v, r])) (Rep h x.1 v) (Rep h x.2 r)
theorem PairAt.imm {h h' : Heap} (k : Imm h h') {x : T × T} {p : Value} (y : PairAt h x p) : PairAt h' x p :=
  let ⟨c, v, r, e, t, a, b⟩ := y; ⟨c, v, r, e, k _ _ t, a.imm k, b.imm k⟩
/-- the stack, its top first, against the list, its top last -/
noncomputable def Stk (h : Heap) : List (T × T) → List Value → Prop
  | [], ps => ps = []
  | x :: st, ps => ∃ p ps', ps = ps' ++ [p] ∧ PairAt h x p ∧ Stk h st ps'
theorem Stk.imm {h h' : Heap} (k : Imm h h') : ∀ {st : List (T × T)} {ps : List Value}, Stk h st ps → Stk h' st ps
  | [], _, e => e
  | _ :: _, _, ⟨p, ps', e, a, b⟩ => ⟨p, ps', e, a.imm k, b.imm k⟩
theorem Stk.length {h : Heap} : ∀ {st : List (T × T)} {ps : List Value}, Stk h st ps → ps.length = st.length
  | [], _, e => by rw [show _ = [] from e]; rfl
  | _ :: st, _, ⟨p, ps', e, a, b⟩ => by rw [e, List.length_append, b.length]; rfl
theorem Stk.more {h : Heap} : ∀ (xs : List (T × T)) (qs : List Value) (st : List (T × T)) (ps : List Value), Stk h st ps → qs.length = xs.length →
    (∀ (j : Nat) x q, xs[j]? = some x → qs[j]? = some q → PairAt h x q) → Stk h (xs.reverse ++ st) (ps ++ qs)
  | [], [], st, ps, y, _, _ => by simpa using y
  | [], _ :: _, _, _, _, e, _ => by simp at e
  | _ :: _, [], _, _, _, e, _ => by simp at e
  | x :: xs, q :: qs, st, ps, y, e, k => by
    have := Stk.more xs qs (x :: st) (ps ++ [q]) ⟨q, ps, rfl, k 0 x q rfl rfl, y⟩ (by simpa using e) (fun j x' q' h1 h2 => k (j + 1) x' q' h1 h2)
    simpa using this

theorem kids_size (o : Op) (ks : List T) (us : List T) (hl : us.length = ks.length) (rest : List (T × T)) (u : T) : stk ((ks.zip us).reverse ++ rest) + 1 = stk ((T.nd o ks, u) :: rest) := by
  unfold stk
  rw [List.map_append, List.sum_append, List.map_reverse, List.sum_reverse, List.map_cons, List.sum_cons, size_nd]
  have : (ks.zip us).map (fun x => x.1.size) = ks.map T.size := by
    have h1 : (ks.zip us).map (fun x => x.1.size) = ((ks.zip us).map Prod.fst).map T.size := by rw [List.map_map]; rfl
    rw [h1, List.map_fst_zip (by exact Nat.le_of_eq hl.symm)]
  rw [this]
  lia
theorem size_pos (t : T) : 1 ≤ t.size := by obtain ⟨o, ks⟩ := t; rw [size_nd]; simp

section
variable {prog : Program} {w : World} {B : Heap}
theorem notMods (W : Wd w B) {h : Heap} (kb : Kp B h) : (h.objs.size == sysModules) = false := by
  have : B.get? 96 = some _ := W.kin 96 _ (show (KK w).lookup 96 = some _ from rfl)
  have hlt := Heap.lt_size (kb _ _ this)
  have e : sysModules = 1 := by decide
  rw [beq_eq_false_iff_ne, e]
  intro q
  have q' : h.objs.size = (1 : Nat) := q
  have h2 : (96 : Nat) < h.objs.size := hlt
  lia
end
section
variable {prog : Program} {w : World} {B : Heap}
theorem dictP_new {K : Type} [DecidableEq K] {knd : KeyKind prog w K} : dictP knd [] { cls := .type "dict", data := .dict #[] } :=
  ⟨#[], 0, ⟨rfl, rfl, rfl⟩, rfl, fun _ he => by simp at he, Pairs.nil, List.nodup_nil⟩
theorem nd_dict {knd : KeyKind prog w Str} {h : Heap} {a : Addr} {kvs : List (Str × Value)} (x : h.DictOf knd a kvs) : ∀ b, Value.ref a = .ref b → ∃ ob, h.get? b = some ob ∧ ob.dict = none := by
  rintro b e; cases e
  refine e33 x fun o es ep e x r => ?_
  exact ⟨o, e, x.2.1⟩
theorem nd_list {h : Heap} {a : Addr} {xs : Array Value} (x : h.PlainList a xs) : ∀ b, Value.ref a = .ref b → ∃ ob, h.get? b = some ob ∧ ob.dict = none := by
  rintro b e; cases e
  (refine e11 x fun n e => ?_; clear x)
  exact ⟨_, e, rfl⟩
theorem plain_typeIs {s : Shared} {a : Addr} {xs : Array Value} (x : s.heap.PlainList a xs) : s.TypeIs (.ref a) "list" := let ⟨n, e⟩ := x; ⟨_, e, rfl⟩

theorem stk_len : ∀ st : List (T × T), st.length ≤ stk st
  | [] => Nat.le_refl _
  | y :: st => by
    have := stk_len st
    have := size_pos y.1
    unfold stk at *
    rw [List.map_cons, List.sum_cons, List.length_cons]; lia
theorem Rows.snoc {h : Heap} {o : Op} {u : T} {r : Value} (y : Rep h u r) : ∀ {tab : Tab} {kvs : List (Str × Value)}, Rows h tab kvs → Rows h (tab ++ [(o, u)]) (kvs ++ [(o.s, r)])
  | [], [], _ => ⟨rfl, y, trivial⟩
  | (_, _) :: _, (_, _) :: _, ⟨a, b, c⟩ => ⟨a, b, c.snoc y⟩
  | [], _ :: _, x => x.elim
  | _ :: _, [], x => x.elim
theorem lookup_mem {o : Op} {u : T} : ∀ {tab : Tab}, tab.lookup o = some u → (o, u) ∈ tab
  | [], e => by simp at e
  | (o', u') :: tab, e => by
    rw [List.lookup_cons] at e
    by_cases h : o = o'
    · subst h; simp at e; subst e; exact .head _
    · have hb : (o == o') = false := by rw [beq_eq_false_iff_ne]; exact h
      simp only [hb] at e
      exact .tail _ (lookup_mem e)

theorem wf_kid : ∀ {n : Nat} {o : Op} {ks : List T} {t : T}, Wf n (.nd o ks) → t ∈ ks → Wf n t
  | 0, _, _, _, h, _ => h.elim
  | n + 1, _, _, _, h, ht => (h.2 _ ht).up (Nat.le_succ _)
theorem mrun_there {n : Nat} {tab : Tab} {p u v : T} {rest : List (T × T)} (hp : p.isVar = true) (hl : tab.lookup p.op = some v) (h : v = u) : mrun (n + 1) tab ((p, u) :: rest) = mrun n tab rest := by
  rw [mrun, if_pos hp, hl]; exact if_pos h
theorem mrun_other {n : Nat} {tab : Tab} {p u v : T} {rest : List (T × T)} (hp : p.isVar = true) (hl : tab.lookup p.op = some v) (h : v ≠ u) : mrun (n + 1) tab ((p, u) :: rest) = none := by
  rw [mrun, if_pos hp, hl]; exact if_neg h
theorem mrun_new {n : Nat} {tab : Tab} {p u : T} {rest : List (T × T)} (hp : p.isVar = true) (hl : tab.lookup p.op = none) : mrun (n + 1) tab ((p, u) :: rest) = mrun n (tab ++ [(p.op, u)]) rest := by
  rw [mrun, if_pos hp, hl]
theorem mrun_kids {n : Nat} {tab : Tab} {p u : T} {rest : List (T × T)} (hp : p.isVar = false) (h : p.op = u.op ∧ p.kids.length = u.kids.length) : mrun (n + 1) tab ((p, u) :: rest) = mrun n tab ((p.kids.zip u.kids).reverse ++ rest) := by
  rw [mrun, hp, if_neg (by decide)]; exact if_pos h
theorem mrun_no {n : Nat} {tab : Tab} {p u : T} {rest : List (T × T)} (hp : p.isVar = false) (h : ¬ (p.op = u.op ∧ p.kids.length = u.kids.length)) : mrun (n + 1) tab ((p, u) :: rest) = none := by
  rw [mrun, hp, if_neg (by decide)]; exact if_neg h
theorem mrun_nil (n : Nat) (tab : Tab) : mrun n tab [] = some tab := by cases n <;> rfl

set_option maxHeartbeats 8000000 in
theorem matched_spec (W : Wd w B) {A : Around} {s : Shared} {R : Result → Shared → Prop} {p u : T} {v r : Value} {k n : Nat} (kb : Kp B s.heap) (hr : Room A (n + 3)) (hp : Rep s.heap p v) (hu : Rep s.heap u r) (wp : Wf k p) (wu : Wf k u) (hk : k ≤ 50) (hsz : p.size ≤ 900)
    (hR : ∀ rv h' tk, Kp s.heap h' → (mrun p.size [] [(p, u)] = none → rv = .none) → (∀ tab, mrun p.size [] [(p, u)] = some tab → TabAt prog w h' tab rv) → R (.ok (.ret rv)) { s with heap := h', toks := tk }) :
    codeAny (model prog w) A (.call (.ref 96) ⟨[v, r], []⟩) R s := by
  refine enterX (n := n + 2) (fun L => []) (fun L => [(L, nsP (up (up nil0 "pattern" v) "t" r))]) W kb hr ?_
  intro L env h₁ tk EO hL S0 E'
  try dsimp only
  have hu8 : A.units + 64 < cLine := hr.units64
  generalize hres : mrun p.size [] [(p, u)] = res at hR
  -- table, waiting = ({}, [(pattern, t)])
  refine wpAny_execs_cons (cps (P := fun Q' => ∀ (h' : Heap) (tk' : Nat) (D Wl : Addr) (ps : List Value) (m : Str → Option Value), ((D == sysModules) = false) → (m "table" = some (.ref D)) → (m "waiting" = some (.ref Wl)) → (Stk h' [(p, u)] ps) → (St B s.heap [] [(Wl, listP ps.toArray), (D, dictP (strKind prog w) []), (L, nsP m)] h') → Q' .next { s with heap := h', toks := tk' }) ?_ ?_)
  · intro K0 hK0
    refine pairSwapped hr.hh (wpAny_Dict_empty ?_)
    have S1 := S0.addPush (o := { cls := .type "dict", data := .dict #[] }) (p := dictP (strKind prog w) []) rfl dictP_new (nt_data fun _ _ q => by cases q)
    have hm := notMods W S0.kb
    have kD : Kp h₁ (h₁.push { cls := .type "dict", data := .dict #[] }) := Kp.push _ _
    dsimp only
    generalize h₁.push { cls := .type "dict", data := .dict #[] } = h2 at S1 kD
    refine list1 (tup2 (nameL EO (S1.ns 1 rfl) rfl (nameL EO (S1.ns 1 rfl) rfl ?_)))
    intro h3 c (k3 : Kp h2 h3) hc
    have S3 := S1.kp k3
    dsimp only
    have S4 := S3.addPush (o := { cls := .type "list", data := .seq (List.toArray [Value.ref c]) }) (p := listP (List.toArray [Value.ref c])) rfl ⟨0, rfl⟩ (nt_cls (show Value.type "list" ≠ Value.type "tuple" by decide))
    have k4 : Kp h3 (h3.push { cls := .type "list", data := .seq (List.toArray [Value.ref c]) }) := Kp.push _ _
    generalize h3.push { cls := .type "list", data := .seq (List.toArray [Value.ref c]) } = h4 at S4 k4
    intro h5 tk5 (k5 : Kp h4 h5)
    have S5 := S4.kp k5
    have kk : Kp s.heap h5 := S5.kpH
    refine S5.storeL 2 rfl EO (fun h6 S6 im6 => ?_)
    try dsimp only
    refine S6.storeL 2 rfl EO (fun h7 S7 im7 => ?_)
    try dsimp only
    refine hK0 h7 _ _ _ [Value.ref c] _ hm rfl rfl ⟨Value.ref c, [], rfl, ⟨c, v, r, rfl, im7 _ _ (im6 _ _ ((Imm.kp (k4.tr k5)) _ _ hc)), hp.imm (Imm.kp S7.kpH), hu.imm (Imm.kp S7.kpH)⟩, rfl⟩ S7
  intro h2 tk2 D Wl ps m hmod hmD hmW hst S2
  dsimp only
  let I : Nat → Shared → Prop := fun j s' => X7 fun (tab : Tab) (st : List (T × T)) (ps : List Value) (m : Str → Option Value) (kvs : List (Str × Value)) (h : Heap) (tk : Nat) => C12 (s' = { s with heap := h, toks := tk }) (mrun j tab st = res) (stk st ≤ j) (Stk h st ps) ((∀ x ∈ st, Wf k x.1 ∧ Wf k x.2)) ((∀ x ∈ tab, Wf k x.2)) (Rows h tab kvs) (tab.length + stk st ≤ p.size) (st.length ≤ stk st) (m "table" = some (.ref D)) (m "waiting" = some (.ref Wl)) (St B s.heap [] [(Wl, listP ps.toArray), (D, dictP (strKind prog w) kvs), (L, nsP m)] h)
  refine wpAny_execs_cons (wpAny_While (codeAny_whileLoop I ?_ p.size ?_))
  try dsimp only
  · intro j s' hpz1; (refine x7c12 hpz1 fun tab st ps m kvs h tk hq7 hrun hj hst hwf hwt hrows htl hsl hmD hmW S => ?_; refine wpS hq7 ?_; clear hq7)
    have hpsl := hst.length
    refine wpAny_isTrue_Compare1 (callB W S.kb EO bn_len rfl (nameL EO (S.ns 2 rfl) hmW ?_))
    try dsimp only
    refine len_listL (S.list 0 rfl) (by lia) ?_
    try dsimp only
    refine wpAny_Constant_int (PyProof.Rows.gt_int (wpAny_truthy_bool ?_))
    dsimp only
    cases st with
    | nil =>
      refine ifF (by rw [hpsl]; rfl) ?_
      try dsimp only
      refine wpAny_execs_nil ?_
      try dsimp only
      have hres' : res = some tab := by rw [← hrun]; cases j <;> rfl
      refine wpAny_execs_cons (wpAny_Return_some (nameL EO (S.ns 2 rfl) hmD ?_))
      try dsimp only
      exact hR _ _ _ S.kpH (fun q => by rw [hres'] at q; cases q) (fun tab' q => by
        rw [hres'] at q; cases q
        exact ⟨D, kvs, rfl, hmod, S.dict 1 rfl, hrows⟩)
    | cons x st =>
      (refine e23 hst fun pv ps' hq2 hpz3 hst' => ?_; subst hq2; clear hst); (refine x3c4 hpz3 fun c v1 r1 hq3 hct hv1 hr1 => ?_; subst hq3; clear hpz3)
      have hx := hwf x (.head _)
      have hstk : stk (x :: st) = x.1.size + stk st := by unfold stk; rfl
      have hsp := size_pos x.1
      refine ifT (by rw [hpsl]; simp) ?_
      refine hideE (fun K hK E9 => ?_)
      try dsimp only
      have hps' : ps'.length ≤ 1000 := by have := hst'.length; simp at hsl; lia
      refine wpAny_execs_cons (pairOf hr.hh (methT PySem.F.plainAttrs_list PySem.F.slot_list_pop PySem.F.type_list_pop (nameL EO (S.ns 2 rfl) hmW ⟨plain_typeIs (S.plain 0 rfl), nd_list (S.plain 0 rfl), ?_⟩)))
      try dsimp only
      refine pop_plain (S.plain 0 rfl) (by exact Nat.le_trans hps' (Nat.le_of_ble_eq_true rfl)) (fun h2 hpl2 hs2 => ?_)
      try dsimp only
      refine e02 (S.setList 0 rfl hs2 hpl2) fun S2 im2 => ?_
      refine ⟨c, v1, r1, rfl, im2 _ _ hct, fun h3 (k3 : Kp h2 h3) => ?_⟩
      try dsimp only
      have S3 := S2.kp k3
      refine S3.storeL 2 rfl EO (fun h4 S4 im4 => ?_)
      try dsimp only
      refine S4.storeL 2 rfl EO (fun h5 S5 im5 => ?_)
      have imA : Imm h h5 := ((im2.tr (Imm.kp k3)).tr im4).tr im5
      dsimp only [List.set_cons_zero, List.set_cons_succ] at S5
      have hv5 := hv1.imm imA
      have hr5 := hr1.imm imA
      have hst5 := hst'.imm imA
      have hrows5 := hrows.imm imA
      clear S4 S3 S2 hs2 hpl2
      dsimp only
      refine wpAny_execs_cons (wpAny_If (wpAny_isTrue_value (callF W S5.kb EO gn_is_variable kf_is_variable (nameL EO (S5.ns 2 rfl) rfl ⟨S5.kb, is_variable_spec W (n := n) S5.kb (hr.deeper.mono (by simp)) hv5 hx.1 (fun h6 tk6 (k6 : Kp h5 h6) => ?_)⟩))))
      refine wpAny_truthy_bool ?_
      have hu9 : (A.deeper (envX (Str.ofString "matched") default L 96 (Value.ref 95) [])).units + 64 < cLine := (hr.deeper (env := (envX (Str.ofString "matched") default L 96 (Value.ref 95) []))).units64
      have S6' : ∃ m', C5 (m' "table" = some (.ref D)) (m' "waiting" = some (.ref Wl)) (m' "here" = some v1) (m' "there" = some r1) (St B s.heap [] [(Wl, listP ps'.toArray), (D, dictP (strKind prog w) kvs), (L, nsP m')] h6) := ⟨up (up m "here" v1) "there" r1, hmD, hmW, rfl, rfl, S5.kp k6⟩
      clear hmD hmW
      obtain ⟨m', hmD, hmW, hmh, hmt, S6⟩ := S6'
      have hv6 := hv5.imm (Imm.kp k6)
      have hr6 := hr5.imm (Imm.kp k6)
      have hst6 := hst5.imm (Imm.kp k6)
      have hrows6 := hrows5.imm (Imm.kp k6)
      clear S5 hv5 hr5 hst5 hrows5
      dsimp only
      obtain ⟨j, rfl⟩ : ∃ j', j = j' + 1 := ⟨j - 1, by lia⟩
      have hwf' : ∀ y ∈ st, Wf k y.1 ∧ Wf k y.2 := fun y hy => hwf y (.tail _ hy)
      have hsl' : st.length ≤ stk st := stk_len st
      obtain ⟨hpz4, u1⟩ := x; obtain ⟨o, ks⟩ := hpz4
      (refine x3c3 (Rep.iff.mp hv6) fun a tk0 vs hq3 ht6 hks6 => ?_; subst hq3)
      dsimp only at hx hsp hstk hr6 ⊢
      cases hb : T.isVar (.nd o ks) with
      | true =>
        refine ifT rfl ?_
        try dsimp only
        refine wpAny_execs_cons (wpAny_If (wpAny_isTrue_Compare1 (methT PySem.F.plainAttrs_dict PySem.F.slot_dict_setdefault PySem.F.type_dict_setdefault (nameL EO (S6.ns 2 rfl) hmD ⟨(S6.dict 1 rfl).typeIs, nd_dict (S6.dict 1 rfl), ?_⟩))))
        try dsimp only
        refine sub_tup (nameL EO (S6.ns 2 rfl) hmh ⟨_, _, 0, _, rfl, ht6, seq0 _, rfl, nameL EO (S6.ns 2 rfl) hmt ?_⟩)
        dsimp only
        refine setdef_str hmod (S6.dict 1 rfl) (fun v0 hv0 => ?_) (fun hn0 h7 hd7 hs7 => ?_) (by rw [hrows6.length]; lia)
        · dsimp only
          refine nameL EO (S6.ns 2 rfl) hmt ?_
          try dsimp only
          cases hl : tab.lookup o with
          | none => rw [hrows6.none hl] at hv0; cases hv0
          | some t0 =>
            refine e12 (hrows6.some hl) fun v' hv' hrep' => ?_
            rw [hv0] at hv'; cases hv'
            refine ne_trees hrep' hr6 (hwt _ (lookup_mem hl)) hx.2 (by exact Nat.le_trans hk (Nat.le_of_ble_eq_true rfl)) (by exact Nat.le_trans hk (Nat.le_of_ble_eq_true rfl)) hu9 (fun b hbb => wpAny_truthy_bool ?_)
            try dsimp only
            cases b with
            | true =>
              refine ifT rfl (wpAny_execs_cons (wpAny_Return_some (wpAny_Constant_none ?_)))
              have hno : res = none := hrun.symm.trans (mrun_other hb hl (hbb.mp rfl))
              exact hK _ _ (hR _ _ _ S6.kpH (fun _ => rfl) (fun tab' q => by rw [hno] at q; cases q))
            | false =>
              have heq : t0 = u1 := Classical.byContradiction fun q => by have := hbb.mpr q; cases this
              refine ifF rfl (wpAny_execs_nil (wpAny_execs_nil (wpAny_execs_nil (hK _ _ ⟨j, Nat.lt_succ_self _, ?_⟩))))
              exact ⟨tab, st, ps', m', kvs, h6, _, rfl, (mrun_there hb hl heq).symm.trans hrun, by lia, hst6, hwf', hwt, hrows6, by lia, hsl', hmD, hmW, S6⟩
        · refine e02 (S6.setDict 1 rfl hs7.extBut hd7) fun S7 im7 => ?_
          dsimp only [List.set_cons_zero, List.set_cons_succ] at S7
          dsimp only
          have hl : tab.lookup o = none := by
            cases hl : tab.lookup o with
            | none => rfl
            | some t0 => obtain ⟨v', hv', _⟩ := hrows6.some hl; rw [hn0] at hv'; cases hv'
          have hr7 := hr6.imm im7
          refine nameL EO (S7.ns 2 rfl) hmt ?_
          refine ne_trees hr7 hr7 hx.2 hx.2 (by exact Nat.le_trans hk (Nat.le_of_ble_eq_true rfl)) (by exact Nat.le_trans hk (Nat.le_of_ble_eq_true rfl)) hu9 (fun b hbb => wpAny_truthy_bool ?_)
          have hbf : b = false := by cases b with | false => rfl | true => exact absurd rfl (hbb.mp rfl)
          refine ifF hbf (wpAny_execs_nil (wpAny_execs_nil (wpAny_execs_nil (hK _ _ ⟨j, Nat.lt_succ_self _, ?_⟩))))
          refine ⟨tab ++ [(o, u1)], st, ps', m', _, h7, _, rfl, (mrun_new hb hl).symm.trans hrun, by omega, hst6.imm im7, hwf', ?_, (hrows6.imm im7).snoc hr7, ?_, hsl', hmD, hmW, S7⟩
          · intro x hx'
            rcases List.mem_append.mp hx' with hx' | hx'
            · exact hwt x hx'
            · rw [List.mem_singleton.mp hx']; exact hx.2
          · rw [List.length_append]; simp; lia
      | false =>
        refine ifF rfl ?_
        obtain ⟨o', us⟩ := u1
        (refine x3c3 (Rep.iff.mp hr6) fun a2 tk2' vs2 hq3 ht6' hus6 => ?_; subst hq3)
        have hk9 := wfLen hx.1
        have hu9' := wfLen hx.2
        have hvl := hks6.length
        have hvl2 := hus6.length
        refine wpAny_execs_cons (wpAny_If (wpAny_isTrue_BoolOp (wpAny_mono (Q := fun b s' => ∃ tk', s' = { s with heap := h6, toks := tk' } ∧ (b = false ↔ (o = o' ∧ ks.length = us.length))) ?_ ?_ (fun _ _ x => x))))
        · refine wpAny_allTrue_Or_cons (wpAny_isTrue_Compare1 (sub_tup (nameL EO (S6.ns 2 rfl) hmh ⟨_, _, 0, _, rfl, ht6, seq0 _, rfl, ?_⟩)))
          refine sub_tup (nameL EO (S6.ns 2 rfl) hmt ⟨_, _, 0, _, rfl, ht6', seq0 _, rfl, PyProof.Rows.ne_str (wpAny_truthy_bool ?_)⟩)
          by_cases ho : o = o'
          · refine ifF (by rw [ho]; simp) ?_
            refine wpAny_allTrue_Or_cons (wpAny_isTrue_Compare1 (callB W S6.kb EO bn_len rfl (nameL EO (S6.ns 2 rfl) hmh (len_tupL ht6 (by simp; exact Nat.le_trans (Nat.le_trans (Nat.le_of_eq hvl) hk9) (Nat.le_of_ble_eq_true rfl)) ?_))))
            refine callB W S6.kb EO bn_len rfl (nameL EO (S6.ns 2 rfl) hmt (len_tupL ht6' (by simp; exact Nat.le_trans (Nat.le_trans (Nat.le_of_eq hvl2) hu9') (Nat.le_of_ble_eq_true rfl)) ?_))
            refine PyProof.Rows.ne_int (wpAny_truthy_bool ?_)
            by_cases hkl : ks.length = us.length
            · refine ifF (by simp; simp [*]) (wpAny_allTrue_Or_nil ⟨_, rfl, ⟨fun _ => ⟨ho, hkl⟩, fun _ => rfl⟩⟩)
            · refine ifT (by simp; lia) ⟨_, rfl, ⟨fun q => (by cases q), fun q => absurd q.2 hkl⟩⟩
          · refine ifT (by simp; exact fun q => ho (Op.s_inj q)) ⟨_, rfl, ⟨fun q => (by cases q), fun q => absurd q.1 ho⟩⟩
        · intro b s' hpz2; (refine e12 hpz2 fun tk' hq1 hbb => ?_; subst hq1; clear hpz2)
          cases b with
          | true =>
            refine ifT rfl (wpAny_execs_cons (wpAny_Return_some (wpAny_Constant_none ?_)))
            try dsimp only
            have hno : res = none := hrun.symm.trans (mrun_no hb (fun q => by have := hbb.mpr q; cases this))
            exact hK _ _ (hR _ _ _ S6.kpH (fun _ => rfl) (fun tab' q => by rw [hno] at q; cases q))
          | false =>
            refine e02 (hbb.mp rfl) fun ho hkl => ?_
            refine ifF rfl ?_
            try dsimp only
            refine wpAny_execs_cons (wpAny_Expr_any (methT PySem.F.plainAttrs_list PySem.F.slot_list_extend PySem.F.type_list_extend (nameL EO (S6.ns 2 rfl) hmW ⟨plain_typeIs (S6.plain 0 rfl), nd_list (S6.plain 0 rfl), ?_⟩)))
            try dsimp only
            have hsz : (Value.str o.s tk0 :: vs).length ≤ sizeLine := by simp; have := sizeLine_big; lia
            have hsz2 : (Value.str o'.s tk2' :: vs2).length ≤ sizeLine := by simp; have := sizeLine_big; lia
            refine callB W S6.kb EO bn_zip rfl (sub_tup_from (nameL EO (S6.ns 2 rfl) hmh ⟨a, _, rfl, ht6, by simp, hsz, fun h7 c1 tk7 (k7 : Kp h6 h7) hcn hc1 => ?_⟩))
            try dsimp only
            have S7 := S6.kp k7
            refine sub_tup_from (nameL EO (S7.ns 2 rfl) hmt ⟨a2, _, rfl, ht6'.keeps k7, by simp, hsz2, fun h8 c2 tk8 (k8 : Kp h7 h8) hcn2 hc2 => ?_⟩)
            try dsimp only
            have S8 := S7.kp k8
            have hc1' := hc1.keeps k8
            dsimp only at hcn hcn2 hc1' hc2 ⊢
            have lt1 : c1 < h8.objs.size := by obtain ⟨_, e, _⟩ := hc1'; exact Heap.lt_size e
            have lt2 : c2 < h8.objs.size := by obtain ⟨_, e, _⟩ := hc2; exact Heap.lt_size e
            obtain ⟨oW, eW6, _, _⟩ := S6.get 0 rfl
            have eW7 := k7 _ _ eW6
            have ltW : Wl < h8.objs.size := Heap.lt_size (k8 _ _ eW7)
            have n1 : c1 ≠ Wl := fun q => by rw [q, eW6] at hcn; cases hcn
            have n2 : c2 ≠ Wl := fun q => by rw [q, eW7] at hcn2; cases hcn2
            have ne : ∀ {x : Addr} (n : Nat), x < h8.objs.size → x ≠ (h8.objs.size + n : Nat) := fun n h q => by
              have q' : _ = (h8.objs.size + n : Nat) := q
              have h' : (_ : Nat) < h8.objs.size := h
              lia
            refine zip_tup hc1' hc2 (fun h9 Z i1 i2 k9 => ?_)
            try dsimp only
            have S9 := S8.kp k9
            dsimp only at Z i1 i2 k9 ⊢
            refine list_extend_zip (A := A.deeper _) hr.hh (zip_dist _) (xs := vs) (ys := vs2) (acc := ps') (by simp [*]) (by exact Nat.le_trans (Nat.le_trans (Nat.le_of_eq hvl) hk9) (Nat.le_of_ble_eq_true rfl)) (ne 3 lt1) (ne 3 lt2) (ne 4 ltW) (ne 3 ltW) (ne 0 ltW) (ne 1 ltW) n1 n2 (ne 2 ltW).symm Z i1 i2 (hc1'.keeps k9) (hc2.keeps k9) (S9.plain 0 rfl) (by exact Nat.le_trans hps' (Nat.le_of_ble_eq_true rfl)) (fun h10 tk10 qs hql hpl hq hk10 => ?_)
            have hx10 : Heap.ExtBut Wl h8 h10 := fun b ob hb e => by
              have hlt := Heap.lt_size e
              exact hk10 b ob (ne 4 hlt) (ne 3 hlt) (ne 0 hlt) (ne 1 hlt) hb (k9 b ob e)
            refine e02 (S8.upd (p' := listP (ps' ++ qs).toArray) 0 rfl hx10 (let ⟨n, e⟩ := hpl; ⟨_, e, ⟨n, rfl⟩, listP.nt ⟨n, rfl⟩⟩)) fun S10 im10 => ?_
            have imB : Imm h6 h10 := (Imm.kp (k7.tr k8)).tr im10
            refine wpAny_execs_nil (wpAny_execs_nil (wpAny_execs_nil (hK _ _ ⟨j, Nat.lt_succ_self _, ?_⟩)))
            have hm := kids_size o ks us hkl.symm st (.nd o' us)
            refine ⟨tab, (ks.zip us).reverse ++ st, ps' ++ qs, m', kvs, h10, _, rfl, (mrun_kids (u := .nd o' us) hb ⟨ho, hkl⟩).symm.trans hrun, by lia, ?_, ?_, hwt, hrows6.imm imB, by lia, stk_len _, hmD, hmW, S10⟩
            · refine Stk.more (ks.zip us) qs st ps' (hst6.imm imB) (by rw [hql, List.length_zip]; simp [*]) (fun i x q hx1 hq1 => ?_)
              (refine x3c4 (hq i q hq1) fun c x1 y1 hq3 e1 e2 ht => ?_; subst hq3)
              refine e12 (hks6.at e1) fun t1 e3 r1' => ?_
              refine e12 (hus6.at e2) fun t2 e4 r2' => ?_
              have : x = (t1, t2) := by
                have := (List.getElem?_zip_eq_some (l₁ := ks) (l₂ := us) (z := (t1, t2)) (i := i)).mpr ⟨e3, e4⟩
                rw [hx1] at this; exact Option.some.inj this
              subst this
              exact ⟨c, x1, y1, rfl, ht, r1'.imm imB, r2'.imm imB⟩
            · intro y hy
              rcases List.mem_append.mp hy with hy | hy
              · have hz := List.mem_reverse.mp hy
                obtain ⟨y1, y2⟩ := y
                have hz1 := List.of_mem_zip hz
                exact ⟨wf_kid hx.1 hz1.1, wf_kid hx.2 hz1.2⟩
              · exact hwf' y hy
  · refine ⟨[], [(p, u)], ps, m, [], h2, tk2, rfl, hres, ?_, hst, ?_, (fun x hx => nomatch hx), trivial, ?_, ?_, hmD, hmW, S2⟩
    · simp [stk]
    · intro x hx
      rw [List.mem_singleton.mp hx]; exact ⟨wp, wu⟩
    · simp [stk]
    · have := size_pos p
      simp [stk]; simp [*]
end

theorem St.upd2 {B H h h' : Heap} {S : List Addr} {ow : List (Addr × OP)} {a b : Addr} {p q p' q' : OP} (x : St B H S ((a, p) :: (b, q) :: ow) h) (hs : ∀ c o, c ≠ a → c ≠ b → h.get? c = some o → h'.get? c = some o)
    (ha : ∃ o, h'.get? a = some o ∧ p' o ∧ NT o) (hb : ∃ o, h'.get? b = some o ∧ q' o ∧ NT o) : St B H S ((a, p') :: (b, q') :: ow) h' ∧ Imm h h' := by
  obtain ⟨oa, ea, _, nta⟩ := x.own _ (.head _)
  obtain ⟨ob, eb, _, ntb⟩ := x.own _ (.tail _ (.head _))
  have na := x.new _ (.head _)
  have nb := x.new _ (.tail _ (.head _))
  have nd := x.nd
  rw [List.map_cons, List.map_cons, List.nodup_cons, List.nodup_cons] at nd
  refine ⟨⟨fun c o e => hs c o (fun k => by rw [k, na.1] at e; cases e) (fun k => by rw [k, nb.1] at e; cases e) (x.kb c o e), fun c o hc e => hs c o (fun k => ?_) (fun k => ?_) (x.base c o hc e), fun r hr => ?_, fun r hr => ?_, x.nd, x.sub⟩, ?_⟩
  · subst k
    rcases na.2 with k | k
    · rw [k] at e; cases e
    · exact hc k
  · subst k
    rcases nb.2 with k | k
    · rw [k] at e; cases e
    · exact hc k
  · rcases List.mem_cons.mp hr with rfl | hr
    · exact ha
    rcases List.mem_cons.mp hr with rfl | hr
    · exact hb
    refine e12 (x.own r (.tail _ (.tail _ hr))) fun o e k => ?_
    refine ⟨o, hs _ _ (fun k => ?_) (fun k => ?_) e, k⟩
    · exact nd.1 (.tail _ (List.mem_map.mpr ⟨r, hr, k⟩))
    · exact nd.2.1 (List.mem_map.mpr ⟨r, hr, k⟩)
  · rcases List.mem_cons.mp hr with rfl | hr
    · exact na
    rcases List.mem_cons.mp hr with rfl | hr
    · exact nb
    exact x.new r (.tail _ (.tail _ hr))
  · intro c xs ⟨o, e, hc, n, hd⟩
    refine ⟨o, hs c o (fun k => ?_) (fun k => ?_) e, hc, n, hd⟩
    · subst k; rw [ea] at e; cases e; exact nta hc _ _ hd
    · subst k; rw [eb] at e; cases e; exact ntb hc _ _ hd

theorem ctt {prog : Program} {w : World} {A : Around} {E : Value → Shared → Prop} {s : Shared} {c : Value} {Q : Bool → Shared → Prop} (h : ∀ b, Q b s) : wpAny (model prog w) A (Builtin.SmallTypes.calledThroughType c) Q E s := by
  unfold Builtin.SmallTypes.calledThroughType
  exact wpAny_bind (wpAny_stack_any fun st => wpAny_pure (h _))
theorem meets_enumerate_newT (l : Addr) (items : Array Value) (n : Nat) (dct : Option Addr) (sl : Array (Option Value)) :
    Meets (Builtin.«enumerate.__new__» ⟨[.type "enumerate", .ref l], []⟩) (fun _ R s => s.heap.get? l = some { cls := .type "tuple", dict := dct, data := .seq items n, slots := sl } ∧
      R (.ok (.ret (.ref (s.heap.push { cls := .type "tuple_iterator", data := .fields #[.ref l, .int 0 0] }).objs.size)))
        { s with heap := (s.heap.push { cls := .type "tuple_iterator", data := .fields #[.ref l, .int 0 0] }).push { cls := .type "enumerate", data := .fields #[.none, .bool false, .ref s.heap.objs.size, rawInt 0, .none, .none] } }) :=
  .of_wp fun prog w A R s h => by
    obtain ⟨hp, g, d, tk, os⟩ := s; refine e02 h fun hl h => ?_
    have hsub := sub_enumerate
    have hL : Heap.IsTuple (Shared.heap ⟨hp, g, d, tk, os⟩) l items := ⟨_, hl, rfl, n, rfl⟩
    wp_walk using wpAny_loadPart' hl, ctt
    intro b
    cases b
    · wp_walk using wpAny_loadPart' hl, wpAny_pyIter_tuple hL
      exact ⟨_, rfl, h⟩
    · wp_walk using wpAny_loadPart' hl, wpAny_pyIter_tuple hL
      exact ⟨_, rfl, h⟩

section
variable {prog : Program} {w : World} {A : Around} {E : Value → Shared → Prop} {s : Shared}
theorem call_enumerate_tup {l : Addr} {items : Array Value} {Q : Value → Shared → Prop} (hL : IsTup s.heap l items)
    (h : ∀ h', IsEnum h' (s.heap.objs.size + 1) s.heap.objs.size 0 .none → IsTupIter h' s.heap.objs.size l 0 → Kp s.heap h' → Q (.ref (s.heap.objs.size + 1)) { s with heap := h' }) :
    wpAny (model prog w) A (call (.type "enumerate") [.ref l]) Q E s := by
  obtain ⟨hpz1, hl, hc, n, hd⟩ := hL; obtain ⟨c, dct, dt, sl⟩ := hpz1
  replace hc : c = .type "tuple" := hc
  replace hd : dt = .seq items n := hd
  subst hc hd
  refine callType_new PySem.F.called_enumerate (by decide) (PySem.F.typeCall_enumerate_1 _) (PySem.F.newCall_enumerate_1 _) (fun obj => PySem.F.args_object_init_2 obj _) PySem.F.entry_enumerate_new
    (meets_enumerate_newT l items n dct sl) ⟨hl, ?_⟩
  have hz : (s.heap.push { cls := .type "tuple_iterator", data := .fields #[.ref l, .int 0 0] }).objs.size = s.heap.objs.size + 1 := Heap.size_push ..
  show _ ∧ _
  rw [hz]
  have he : IsEnum ((s.heap.push { cls := .type "tuple_iterator", data := .fields #[.ref l, .int 0 0] }).push
      { cls := .type "enumerate", data := .fields #[.none, .bool false, .ref s.heap.objs.size, rawInt 0, .none, .none] }) (s.heap.objs.size + 1) s.heap.objs.size 0 .none := by
    have := Heap.get?_push_size (s.heap.push { cls := .type "tuple_iterator", data := .fields #[.ref l, .int 0 0] })
      (o := { cls := .type "enumerate", data := .fields #[.none, .bool false, .ref s.heap.objs.size, rawInt 0, .none, .none] }) rfl
    rw [hz] at this; exact this
  exact ⟨⟨_, he, rfl⟩, h _ he ⟨_, Heap.get?_push_of_some _ (Heap.get?_push_size _ rfl), rfl, rfl⟩ fun b o x => Heap.get?_push_of_some _ (Heap.get?_push_of_some _ x)⟩

theorem enumT_next_item {e it l : Addr} {i : Nat} {items : Array Value} {x old : Value} {Q : Option Value → Shared → Prop}
    (he : IsEnum s.heap e it i old) (hit : IsTupIter s.heap it l i) (hl : IsTup s.heap l items) (hx : items[i]? = some x) (hne : e ≠ it)
    (hQ : ∀ h' c tk, IsEnumOut h' e it ((i : Int) + 1) x c → IsTupIter h' it l (i + 1) → IsTup h' c (List.toArray [.int i s.toks, x]) → c ≠ e → c ≠ it →
      (∀ b o, b ≠ e → b ≠ it → s.heap.get? b = some o → h'.get? b = some o) → Q (some (.ref c)) { s with heap := h', toks := tk }) :
    wpAny (model prog w) A (pyNext (.ref e)) Q E s := by
  have hT : s.TypeIs (.ref e) "enumerate" := ⟨_, he, rfl⟩
  unfold pyNext
  refine wpAny_bind (wpAny_attempt (wpAny_callSpecial?_slot (name := Str.ofString "__next__") hT PySem.F.slot_enumerate_next
    (wpAny_call_entry PySem.F.slot_enumerate_next hT PySem.F.entry_enumerate_next ?_ (PySem.F.args_enumerate_next_1 _))))
  obtain ⟨hp, g, d, tk, os⟩ := s
  show wpAny _ _ (field (.ref e) 2 >>= _) _ _ _
  refine wpAny_bind (wpAny_field he rfl (x := .ref it) rfl ?_)
  refine wpAny_bind (nextOf_tup_item hit hl hx fun h₁ hit₁ hs₁ => ?_)
  replace hs₁ : Heap.SameBut it hp h₁ := hs₁
  have he₁ : IsEnum h₁ e it i old := (hs₁.2 e hne).trans he
  show wpAny _ _ (field (.ref e) 3 >>= _) _ _ ⟨h₁, g, d, tk, os⟩
  refine wpAny_bind (wpAny_field he₁ rfl (x := rawInt i) rfl ?_)
  show wpAny _ _ (field (.ref e) 4 >>= _) _ _ ⟨h₁, g, d, tk, os⟩
  refine wpAny_bind (wpAny_field he₁ rfl (x := .none) rfl ?_)
  show wpAny _ _ (mkInt i >>= _) _ _ ⟨h₁, g, d, tk, os⟩
  refine wpAny_bind (wpAny_mkInt ?_)
  show wpAny _ _ (setField (.ref e) 3 (rawInt ((i : Int) + 1)) >>= _) _ _ ⟨h₁, g, d, tk + 1, os⟩
  refine wpAny_bind (wpAny_setField_rec he₁ (by simp) fun h₂ he₂ hs₂ => ?_)
  replace hs₂ : Heap.SameBut e h₁ h₂ := hs₂
  replace he₂ : IsEnum h₂ e it ((i : Int) + 1) old := he₂
  show wpAny _ _ (setField (.ref e) 4 .none >>= _) _ _ ⟨h₂, g, d, tk + 1, os⟩
  refine wpAny_bind (wpAny_setField_rec he₂ (by simp) fun h₃ he₃ hs₃ => ?_)
  replace hs₃ : Heap.SameBut e h₂ h₃ := hs₃
  replace he₃ : IsEnum h₃ e it ((i : Int) + 1) old := he₃
  show wpAny _ _ (newTuple [.int i tk, x] >>= _) _ _ ⟨h₃, g, d, tk + 1, os⟩
  refine wpAny_bind (wpAny_newTuple ?_)
  have he₄ : IsEnum (h₃.push { cls := .type "tuple", data := .seq #[.int i tk, x] }) e it ((i : Int) + 1) old := Heap.get?_push_of_some _ he₃
  generalize hh₄ : h₃.push { cls := .type "tuple", data := .seq #[.int i tk, x] } = h₄ at he₄
  have hel : e < h₃.objs.size := Heap.lt_size he₃
  have ht₄ : h₄.get? h₃.objs.size = some { cls := .type "tuple", data := .seq #[.int i tk, x] } := by rw [← hh₄]; exact Heap.get?_push_size _ rfl
  have hk₄ : ∀ b o, b ≠ e → b ≠ it → hp.get? b = some o → h₄.get? b = some o := fun b o hbe hbi hb => by
    rw [← hh₄]; exact Heap.get?_push_of_some _ (hs₃.extBut b o hbe (hs₂.extBut b o hbe (hs₁.extBut b o hbi hb)))
  have hit₃ : IsTupIter h₃ it l (i + 1) := tupiter_but (tupiter_but hit₁ hs₂.extBut (Ne.symm hne)) hs₃.extBut (Ne.symm hne)
  have hil : it < h₃.objs.size := by obtain ⟨o, ho, _⟩ := hit₃; exact Heap.lt_size ho
  have hit₄ : IsTupIter h₄ it l (i + 1) := by
    rw [← hh₄]; exact tupiter_at hit₃ fun o ho => Heap.get?_push_of_some _ ho
  show wpAny _ _ (Builtin.SmallTypes.ownedTupleIsFree (.ref e) >>= _) _ _ ⟨h₄, g, d, tk + 1, os⟩
  clear hh₄ he₃ hs₃ he₂ hs₂ he₁ hs₁ hit₁ hit₃ h₂ h₁
  refine wpAny_bind ?_
  unfold Builtin.SmallTypes.ownedTupleIsFree
  refine wpAny_bind (wpAny_field he₄ rfl (x := .none) rfl (wpAny_pure ?_))
  simp only [if_true]
  refine wpAny_bind (wpAny_rule ?_)
  refine wpAny_bind (wpAny_field he₄ rfl (x := old) rfl ?_)
  refine wpAny_bind (wpAny_setField_rec he₄ (by simp) fun h₅ he₅ hs₅ => ?_)
  replace hs₅ : Heap.SameBut e h₄ h₅ := hs₅
  replace he₅ : IsEnum h₅ e it ((i : Int) + 1) x := he₅
  show wpAny _ _ (Builtin.SmallTypes.ownedTupleHandOut (.ref e) (.ref h₃.objs.size) >>= _) _ _ ⟨h₅, g, d, tk + 1, os⟩
  refine wpAny_bind ?_
  unfold Builtin.SmallTypes.ownedTupleHandOut
  refine wpAny_bind (wpAny_setField_rec he₅ (by simp) fun h₆ he₆ hs₆ => ?_)
  replace hs₆ : Heap.SameBut e h₅ h₆ := hs₆
  replace he₆ : IsEnumOut h₆ e it ((i : Int) + 1) x h₃.objs.size := he₆
  refine wpAny_setField_rec he₆ (by simp) fun h₇ he₇ hs₇ => ?_
  replace hs₇ : Heap.SameBut e h₆ h₇ := hs₇
  replace he₇ : IsEnumOut h₇ e it ((i : Int) + 1) x h₃.objs.size := he₇
  have up : ∀ b o, b ≠ e → h₄.get? b = some o → h₇.get? b = some o := fun b o hb k => hs₇.extBut b o hb (hs₆.extBut b o hb (hs₅.extBut b o hb k))
  refine wpAny_bind (wpAny_letGo (wpAny_pure ⟨_, rfl, wpAny_pure (hQ h₇ h₃.objs.size (tk + 1) he₇ (tupiter_at hit₄ fun o ho => up _ o hne.symm ho) ?_ (Nat.ne_of_gt hel) (Nat.ne_of_gt hil) fun b o hbe hbi hb => up b o hbe (hk₄ b o hbe hbi hb))⟩))
  exact ⟨_, up _ _ (Nat.ne_of_gt hel) ht₄, rfl, _, rfl⟩

theorem enumT_next_end {e it l : Addr} {i : Nat} {items : Array Value} {old : Value} {Q : Option Value → Shared → Prop} (hh : A.handled = none)
    (he : IsEnum s.heap e it i old) (hit : IsTupIter s.heap it l i) (hl : IsTup s.heap l items) (hx : items[i]? = none)
    (hQ : ∀ h', Heap.ExtBut it s.heap h' → Q none { s with heap := h' }) : wpAny (model prog w) A (pyNext (.ref e)) Q E s := by
  have hT : s.TypeIs (.ref e) "enumerate" := ⟨_, he, rfl⟩
  unfold pyNext
  refine wpAny_bind (wpAny_attempt (wpAny_callSpecial?_slot (name := Str.ofString "__next__") hT PySem.F.slot_enumerate_next
    (wpAny_call_entry PySem.F.slot_enumerate_next hT PySem.F.entry_enumerate_next ?_ (PySem.F.args_enumerate_next_1 _))))
  show wpAny _ _ (field (.ref e) 2 >>= _) _ _ _
  refine wpAny_bind (wpAny_field he rfl (x := .ref it) rfl ?_)
  refine wpAny_bind (nextOf_tup_end hh hit hl hx fun h' x he' hx' => ?_)
  (refine e12 hx' fun o ho hc => ?_; clear hx')
  refine wpAny_bind (wpAny_isInstance (T := "StopIteration") (b := true) ⟨o, ho, hc⟩ isSubtype_stop ?_)
  exact wpAny_pure (hQ _ he')
end
noncomputable def enumP (it : Addr) (i : Nat) : OP := fun o => ∃ old, o = { cls := .type "enumerate", dict := none, data := .fields #[.none, .bool false, .ref it, rawInt i, .none, old], slots := #[] }
theorem enumP.nt {it : Addr} {i : Nat} {o : Obj} (x : enumP it i o) : NT o := by obtain ⟨_, rfl⟩ := x; exact nt_cls (show Value.type "enumerate" ≠ Value.type "tuple" by decide)
theorem St.add2 {B H h h' : Heap} {ow : List (Addr × OP)} {a b : Addr} {p q : OP} (x : St B H [] ow h) (ha : h.get? a = none) (hb : h.get? b = none) (hab : a ≠ b) (k : Kp h h')
    (hoa : ∃ o, h'.get? a = some o ∧ p o ∧ NT o) (hob : ∃ o, h'.get? b = some o ∧ q o ∧ NT o) : St B H [] ((a, p) :: (b, q) :: ow) h' := by
  have y := x.add hb k hob
  have hnin : a ∉ ((b, q) :: ow).map (·.1) := by
    intro hm
    rw [List.map_cons] at hm
    rcases List.mem_cons.mp hm with e | hm
    · exact hab e
    · (refine e12 (List.mem_map.mp hm) fun r hr hq2 => ?_; subst hq2)
      obtain ⟨o, e, _⟩ := x.own r hr
      rw [ha] at e; cases e
  refine ⟨y.kb, y.base, fun r hr => ?_, fun r hr => ?_, ?_, fun c hc => nomatch hc⟩
  · rcases List.mem_cons.mp hr with rfl | hr
    · exact hoa
    · exact y.own r hr
  · rcases List.mem_cons.mp hr with rfl | hr
    · refine ⟨?_, .inl ?_⟩
      · cases e : B.get? a with
        | none => rfl
        | some o => have := x.kb _ _ e; rw [ha] at this; cases this
      · cases e : H.get? a with
        | none => rfl
        | some o => have := x.kpH _ _ e; rw [ha] at this; cases this
    · exact y.new r hr
  · rw [List.map_cons, List.nodup_cons]; exact ⟨hnin, y.nd⟩

section
variable {prog : Program} {w : World} {A : Around} {B H : Heap} {Ss : List Addr} {s : Shared} {env : Env}
noncomputable def TurnEnd2 (B H : Heap) (Ss : List Addr) (Φ : Nat → List (Addr × OP) → Heap → Prop) (K : Flow → Shared → Prop) (s : Shared) (e it : Addr) (p q : OP) (i : Nat) (h : Heap) (f : Flow) (s₃ : Shared) : Prop := match f with
  | .next | .cont => X3 fun h' tk' ow'' => C4 (s₃ = { s with heap := h', toks := tk' }) (Imm h h') (St B H Ss ((e, p) :: (it, q) :: ow'') h') (Φ (i + 1) ow'' h')
  | .brk => K .next s₃
  | .ret v => K (.ret v) s₃

set_option maxHeartbeats 4000000 in
/-- for x, y in enumerate(TUPLE) -/
theorem forEnum (B H : Heap) {E : Value → Shared → Prop} {x y : Str} {px py tpos np cp : Pos} {k : Nat} {arg : Expr} {body : List Stmt} {pos : Pos} {Q : Flow → Shared → Prop} (W : Wd w B) (kb : Kp B s.heap) (he : EnvOk env) (hh : A.handled = none)
    (h : wpAny (model prog w) A (eval arg env) (fun xv s₁ => X4 fun (a : Addr) (xs : List Value) (ow : List (Addr × OP)) (Φ : Nat → List (Addr × OP) → Heap → Prop) => C7 (xv = .ref a) (IsTup s₁.heap a xs.toArray) (St B H [] ow s₁.heap) ((∀ i ow' h h', Imm h h' → Φ i ow' h → Φ i ow' h')) (Φ 0 ow s₁.heap) ((∀ (i : Nat) (ow' : List (Addr × OP)) (h : Heap) (tk : Nat) (ti : Tok) (e it : Addr) (p q : OP) (v : Value), xs[i]? = some v → Imm s₁.heap h → St B H [] ((e, p) :: (it, q) :: ow') h → Φ i ow' h →
        wpAny (model prog w) A (storeName env x (.int i ti)) (fun _ s₂ => wpAny (model prog w) A (storeName env y v) (fun _ s₃ =>
          wpAny (model prog w) A (execs body env) (TurnEnd2 B H [] Φ Q s₁ e it p q i h) noE s₃) noE s₂) noE { s₁ with heap := h, toks := tk })) ((∀ ow' h tk, Imm s₁.heap h → St B H [] ow' h → Φ xs.length ow' h → Q .next { s₁ with heap := h, toks := tk }))) E s)
    (hx : autoParam (env.kindOf "enumerate" = some .globalImplicit) aRfl) (hp : autoParam (([arg] : List Expr).all plainE = true) aRfl)
    (hs : autoParam (∀ z, foldedSetIterable (.Call (.Name "enumerate" np) [arg] [] cp) env z = pure z) aIRfl) :
    wpAny (model prog w) A (exec (.For (.Tuple [.Name x px, .Name y py] k tpos) (.Call (.Name "enumerate" np) [arg] [] cp) body [] pos) env) Q E s := by
  refine wpAny_For (callB W kb he bn_enumerate rfl (wpAny_mono h (fun xv s₁ h₁ => ?_) fun _ _ e => e) hx hp) hs
  (refine x4c7 h₁ fun a xs ow Φ hq4 ht S mono start turn fin => ?_; subst hq4; clear h₁)
  refine call_enumerate_tup ht (fun h2 hen hit k2 => ?_)
  refine wpAny_pyIter_enum hen ?_
  have S2 : St B H [] ((s₁.heap.objs.size + 1, enumP s₁.heap.objs.size 0) :: (s₁.heap.objs.size, titP a 0) :: ow) h2 :=
    S.add2 (Heap.get?_none_of_le (Nat.le_succ _)) (Heap.get?_none_of_le (Nat.le_refl _)) (Nat.ne_of_gt (Nat.lt_succ_self _)) k2 ⟨_, hen, ⟨_, rfl⟩, enumP.nt ⟨_, rfl⟩⟩ (let ⟨o, e, r⟩ := hit; ⟨o, e, r, titP.nt r⟩)
  have hei : (s₁.heap.objs.size + 1 : Addr) ≠ s₁.heap.objs.size := Nat.ne_of_gt (Nat.lt_succ_self _)
  generalize (s₁.heap.objs.size + 1 : Addr) = e at *
  generalize (s₁.heap.objs.size : Addr) = it at *
  let J : Nat → Shared → Prop := fun j s' => X4 fun i ow' h tk => C6 (j + i = xs.length + 1) (i ≤ xs.length) (s' = { s₁ with heap := h, toks := tk }) (Imm s₁.heap h) (St B H [] ((e, enumP it i) :: (it, titP a i) :: ow') h) (Φ i ow' h)
  refine forLoopG J (fun j s' hJ => ?_) (xs.length + 1) ⟨0, ow, h2, s₁.toks, rfl, Nat.zero_le _, rfl, Imm.kp k2, S2, mono _ _ _ _ (Imm.kp k2) start⟩
  (refine x4c6 hJ fun i ow' h tk hji hin hq6 im S3 hΦ => ?_; subst hq6; clear hJ)
  have ht3 : IsTup h a xs.toArray := im _ _ ht
  obtain ⟨oe, ee, ⟨old, rfl⟩, _⟩ := S3.get 0 rfl
  have hit3 : IsTupIter h it a i := S3.tit 1 rfl
  by_cases hlt : i < xs.length
  · refine enumT_next_item (x := xs[i]) ee hit3 ht3 (by simp [hlt]) hei (fun h4 c tk4 hen4 hit4 hc4 hce hci hk4 => ?_)
    refine wpAny_letOwnedTupleGo_enum (s := { s₁ with heap := h4, toks := tk4 }) hen4 (fun h5 hen5 hs5 => ?_)
    refine e02 (S3.upd2 (h' := h5) (p' := enumP it (i + 1)) (q' := titP a (i + 1)) (fun b o hb hb2 eo => hs5.extBut b o hb (hk4 b o hb hb2 eo)) ⟨_, hen5, ⟨_, rfl⟩, enumP.nt ⟨_, rfl⟩⟩
      (let ⟨o, eo, r⟩ := hit4; ⟨o, hs5.extBut _ _ hei.symm eo, r, titP.nt r⟩)) fun S5 im5 => ?_
    have hc5 : IsTup h5 c (List.toArray [.int i tk, xs[i]]) := tup_at hc4 fun o eo => hs5.extBut _ _ hce eo
    have hx : xs[i]? = some xs[i] := List.getElem?_eq_getElem hlt
    refine assign_Tuple_tuple (items := #[.int i tk, xs[i]]) hh hc5 rfl rfl (fun h6 hx6 => ?_)
    have k6 : Kp h5 h6 := fun b o eo => hx6 b o (Nat.ne_of_lt (Heap.lt_size eo)) eo
    have imh6 : Imm h h6 := im5.tr (Imm.kp k6)
    have t := turn i ow' h6 tk4 tk e it _ _ xs[i] hx (im.tr imh6) (S5.kp k6) (mono _ _ _ _ imh6 hΦ)
    refine assignInOrder_cons (wpAny_assign_Name (wpAny_mono t (fun _ s2 t => assignInOrder_cons (wpAny_assign_Name (wpAny_mono t (fun _ s3 t => assignInOrder_nil (wpAny_mono t (fun f s₃ t => ?_) (fun _ _ x => False.elim x))) (fun _ _ x => False.elim x)))) (fun _ _ x => False.elim x)))
    have go : (X3 fun h' tk' ow'' => C4 (s₃ = { s₁ with heap := h', toks := tk' }) (Imm h6 h') (St B H [] ((e, enumP it (i + 1)) :: (it, titP a (i + 1)) :: ow'') h') (Φ (i + 1) ow'' h')) → ∃ m, m < j ∧ J m s₃ := by
      rintro ⟨h'', tk'', ow'', rfl, im7, S7, hΦ7⟩
      exact ⟨j - 1, by lia, i + 1, ow'', h'', tk'', by lia, by exact hlt, rfl, (im.tr imh6).tr im7, S7, hΦ7⟩
    cases f with
    | next => exact go t
    | cont => exact go t
    | brk => exact t
    | ret v => exact t
  · have hie : i = xs.length := by lia
    subst hie
    refine enumT_next_end hh ee hit3 ht3 (by simp) (fun h4 hx4 => ?_)
    have S3' := (S3.tail List.not_mem_nil)
    refine e02 (S3'.lose List.not_mem_nil hx4) fun S4 im4 => ?_
    exact wpAny_execs_nil (fin ow' h4 tk (im.tr im4) S4 (mono _ _ _ _ im4 hΦ))
end

/-- one pair of parts: a path of at most m steps, and the part -/
noncomputable def PartAt (h : Heap) (m : Nat) (t : T) (p : Value) : Prop := X4 fun c q v xs => C5 (p = Value.ref c) (IsTup h c (List.toArray [.ref q, v])) (IsTup h q (List.toArray xs)) (xs.length ≤ m) (Rep h t v)
theorem PartAt.imm {h h' : Heap} (k : Imm h h') {m : Nat} {t : T} {p : Value} (x : PartAt h m t p) : PartAt h' m t p :=
  let ⟨c, q, v, xs, e, a, b, l, r⟩ := x; ⟨c, q, v, xs, e, k _ _ a, k _ _ b, l, r.imm k⟩
theorem PartAt.le {h : Heap} {m m' : Nat} (hm : m ≤ m') {t : T} {p : Value} (x : PartAt h m t p) : PartAt h m' t p :=
  let ⟨c, q, v, xs, e, a, b, l, r⟩ := x; ⟨c, q, v, xs, e, a, b, Nat.le_trans l hm, r⟩
noncomputable def PartsL (h : Heap) (m : Nat) : List T → List Value → Prop
  | [], ps => ps = []
  | t :: ts, ps => ∃ p r, ps = p :: r ∧ PartAt h m t p ∧ PartsL h m ts r
theorem PartsL.imm {h h' : Heap} (k : Imm h h') {m : Nat} : ∀ {ts : List T} {ps : List Value}, PartsL h m ts ps → PartsL h' m ts ps
  | [], _, e => e
  | _ :: _, _, ⟨p, r, e, a, b⟩ => ⟨p, r, e, a.imm k, b.imm k⟩
theorem PartsL.le {h : Heap} {m m' : Nat} (hm : m ≤ m') : ∀ {ts : List T} {ps : List Value}, PartsL h m ts ps → PartsL h m' ts ps
  | [], _, e => e
  | _ :: _, _, ⟨p, r, e, a, b⟩ => ⟨p, r, e, a.le hm, b.le hm⟩
theorem PartsL.length {h : Heap} {m : Nat} : ∀ {ts : List T} {ps : List Value}, PartsL h m ts ps → ps.length = ts.length
  | [], _, e => by rw [show _ = [] from e]; rfl
  | _ :: _, _, ⟨p, r, e, a, b⟩ => by rw [e, List.length_cons, b.length]; rfl
theorem PartsL.append {h : Heap} {m : Nat} : ∀ {ts us : List T} {ps qs : List Value}, PartsL h m ts ps → PartsL h m us qs → PartsL h m (ts ++ us) (ps ++ qs)
  | [], _, _, _, e, y => by rw [show _ = [] from e]; exact y
  | _ :: _, _, _, _, ⟨p, r, e, a, b⟩, y => by rw [e]; exact ⟨p, r ++ _, rfl, a, b.append y⟩
theorem PartsL.at {h : Heap} {m : Nat} : ∀ {ts : List T} {ps : List Value} {i : Nat} {p : Value}, PartsL h m ts ps → ps[i]? = some p → ∃ t, ts[i]? = some t ∧ PartAt h m t p
  | [], _, i, p, x, e => by rw [show _ = [] from x] at e; simp at e
  | t :: ts, _, i, p, ⟨q, r, e', a, b⟩, e => by
    subst e'
    cases i with
    | zero => cases e; exact ⟨t, rfl, a⟩
    | succ i => exact b.at (i := i) e
theorem PartsL.one {h : Heap} {m : Nat} {t : T} {p : Value} (x : PartAt h m t p) : PartsL h m [t] [p] := ⟨p, [], rfl, x, rfl⟩
theorem subsL_take {ks : List T} {i : Nat} {k : T} (h : ks[i]? = some k) : subsL (ks.take (i + 1)) = subsL (ks.take i) ++ subs k := by
  have key : ∀ (as bs : List T), subsL (as ++ bs) = subsL as ++ subsL bs := by
    intro as bs
    induction as with
    | nil => rfl
    | cons a as ih => rw [List.cons_append, subsL, subsL, ih, List.append_assoc]
  rw [List.take_add_one, h, key]
  show _ ++ subsL [k] = _
  rw [subsL, subsL, List.append_nil]
theorem subsL_len : ∀ (ts : List T), (subsL ts).length = (ts.map T.size).sum
  | [] => rfl
  | t :: ts => by rw [subsL, List.length_append, List.map_cons, List.sum_cons, subsL_len ts]; rfl

section
variable {prog : Program} {w : World} {B : Heap}
theorem tup0 {A : Around} {E : Value → Shared → Prop} {s : Shared} {env : Env} {Q : Value → Shared → Prop} {k : Nat} {pos : Pos} (h : ∀ h' c, Kp s.heap h' → IsTup h' c (List.toArray []) → Q (.ref c) { s with heap := h' }) :
    wpAny (model prog w) A (eval (.Tuple [] k pos) env) Q E s :=
  wpAny_Tuple (spliced_args (args := []) rfl ⟨by have := sizeLine_big; simp, h _ _ (Kp.push _ _) (IsTup.new _ _)⟩)

set_option maxHeartbeats 8000000 in
theorem parts_spec (W : Wd w B) : ∀ (n : Nat) (t : T) (A : Around) (s : Shared) (R : Result → Shared → Prop) (v : Value), Wf n t → n ≤ 50 → t.size ≤ 900 → Kp B s.heap → Room A (n + 2) → Rep s.heap t v →
    (∀ D ps h' tk, s.heap.get? D = none → Kp s.heap h' → h'.PlainList D (List.toArray ps) → PartsL h' n (subs t) ps → R (.ok (.ret (.ref D))) { s with heap := h', toks := tk }) → codeAny (model prog w) A (.call (.ref 89) ⟨[v], []⟩) R s := by
  intro n
  induction n with
  | zero => intro t A s R v hw; exact hw.elim
  | succ n ih =>
    intro t A s R v hw hn50 hsz kb hr hp hR
    refine enterX (n := n + 2) (fun L => [("k", L + 1)]) (fun L => [(L, nsP (up nil0 "t" v)), (L + 1, cellP none)]) W kb hr ?_
    intro L env h₁ tk EO hL S E'
    try dsimp only
    have hp1 : Rep h₁ t v := hp.imm (Imm.kp S.kpH)
    refine wpAny_execs_cons (cps (P := fun Q' => ∀ (h' : Heap) (tk' : Nat) (D c : Addr), (s.heap.get? D = none) → (Imm h₁ h') → (PartAt h' (n + 1) t (.ref c)) → (St B s.heap [] [(D, listP (List.toArray [Value.ref c])), (L, nsP (up (up nil0 "t" v) "found" (.ref D))), (L + 1, cellP none)] h') → Q' .next { s with heap := h', toks := tk' }) ?_ ?_)
    · intro K0 hK0
      refine wpAny_Assign_Name (list1 (tup2 (tup0 (fun h2 q (k2 : Kp h₁ h2) hq => ?_))))
      try dsimp only
      have S2 := S.kp k2
      refine nameL EO (S2.ns 0 rfl) rfl ?_
      intro h3 c (k3 : Kp h2 h3) hc
      have S3 := S2.kp k3
      dsimp only
      have hDn : s.heap.get? h3.objs.size = none := by
        cases e : s.heap.get? h3.objs.size with
        | none => rfl
        | some o => exact absurd (Heap.lt_size (S3.kpH _ _ e)) (Nat.lt_irrefl _)
      have S4 := S3.addPush (o := { cls := .type "list", data := .seq (List.toArray [Value.ref c]) }) (p := listP (List.toArray [Value.ref c])) rfl ⟨0, rfl⟩ (listP.nt ⟨0, rfl⟩)
      have k4 : Kp h3 (h3.push { cls := .type "list", data := .seq (List.toArray [Value.ref c]) }) := Kp.push _ _
      generalize h3.push { cls := .type "list", data := .seq (List.toArray [Value.ref c]) } = h4 at *
      generalize h3.objs.size = D at *
      refine S4.storeL 1 rfl EO (fun h5 S5 im5 => ?_)
      try dsimp only
      have imA : Imm h3 h5 := (Imm.kp k4).tr im5
      exact hK0 h5 _ D c hDn ((Imm.kp (k2.tr k3)).tr imA) ⟨c, q, v, [], rfl, imA _ _ hc, imA _ _ (Imm.kp k3 _ _ hq), Nat.zero_le _, hp1.imm ((Imm.kp (k2.tr k3)).tr imA)⟩ S5
    intro h3 tk3 D c0 hDn im3 hself S3
    have hp3 : Rep h3 t v := hp1.imm im3
    obtain ⟨op, ks⟩ := t
    (refine x3c3 (Rep.iff.mp hp3) fun a tk0 vs hq3 ht hks => ?_; subst hq3)
    have hk9 : ks.length ≤ 9 := hw.1
    have hvl : vs.length = ks.length := hks.length
    have hLs : (Value.str op.s tk0 :: vs).length ≤ sizeLine := by have := sizeLine_big; simp; lia
    dsimp only
    refine wpAny_execs_cons (forEnum B s.heap W S3.kb EO hr.hh (hide fun K1 hK1 => sub_tup_from (nameL EO (S3.ns 1 rfl) rfl ⟨a, _, rfl, ht, by simp, hLs, fun h4 d tk4 (k4 : Kp h3 h4) hdn hd => ?_⟩)))
    have S4 := S3.kp k4
    have hks4 : RepL h4 ks vs := hks.imm (Imm.kp k4)
    refine hK1 _ _ ⟨d, vs, _, fun i ow h => X3 fun m ys kv => C4 (ow = [(D, listP (List.toArray ys)), (L, nsP m), (L + 1, cellP kv)]) (m "t" = some (.ref a)) (m "found" = some (.ref D)) (PartsL h (n + 1) (T.nd op ks :: subsL (ks.take i)) ys), rfl, by simpa using hd, S4, ?_, ?_, ?_, ?_⟩
    · intro i ow h h' im hpz1; (refine x3c4 hpz1 fun m ys kv e e1 e2 r => ?_; clear hpz1)
      exact ⟨m, ys, kv, e, e1, e2, r.imm im⟩
    · exact ⟨_, [.ref c0], none, rfl, rfl, rfl, PartsL.one (hself.imm (Imm.kp k4))⟩
    · intro i ow h tk ti e it p q x hx im S5 hpz2; (refine x3c4 hpz2 fun m ys kv hq3 hmt hmf hys => ?_; subst hq3; clear hpz2)
      refine e12 (hks4.at hx) fun k hk hxk => ?_
      have hkm : k ∈ ks := List.mem_of_getElem? hk
      dsimp only
      refine S5.storeC 4 rfl EO (fun h6 S6 im6 => ?_)
      try dsimp only
      refine S6.storeL 3 rfl EO (fun h7 S7 im7 => ?_)
      refine hide (fun K2 hK2 => ?_)
      try dsimp only
      dsimp only [List.set_cons_zero, List.set_cons_succ] at S7
      have S7' : ∃ m', C4 (m' "t" = some (.ref a)) (m' "found" = some (.ref D)) (m' "kid" = some x) (St B s.heap [] [(e, p), (it, q), (D, listP ys.toArray), (L, nsP m'), (L + 1, cellP (some (.int i ti)))] h7) := ⟨up m "kid" x, hmt, hmf, rfl, S7⟩
      clear S6 S7 hmt hmf
      obtain ⟨m', hmt, hmf, hmk, S7⟩ := S7'
      have hys7 := hys.imm (im6.tr im7)
      have htot : (T.nd op ks).size = 1 + (ks.map T.size).sum := size_nd op ks
      have hsum : ((ks.take (i + 1)).map T.size).sum = ((ks.take i).map T.size).sum + k.size := by
        rw [List.take_add_one, hk]; simp
      have hle : ((ks.take (i + 1)).map T.size).sum ≤ (ks.map T.size).sum := by
        have e : ks.map T.size = (ks.take (i + 1)).map T.size ++ (ks.drop (i + 1)).map T.size := by rw [← List.map_append, List.take_append_drop]
        rw [e, List.sum_append]; simp
      have hyl : ys.length = 1 + ((ks.take i).map T.size).sum := by rw [hys.length, List.length_cons, subsL_len]; lia
      have hkz := size_kid (o := op) hkm
      refine wpAny_execs_cons (wpAny_Expr_any (methT PySem.F.plainAttrs_list PySem.F.slot_list_extend PySem.F.type_list_extend (nameL EO (S7.ns 3 rfl) hmf ⟨plain_typeIs (S7.plain 2 rfl), nd_list (S7.plain 2 rfl), ?_⟩)))
      try dsimp only
      refine compListE B s.heap [] EO hr.hh (hide fun K3 hK3 => callF W S7.kb EO gn_parts kf_parts (nameL EO (S7.ns 3 rfl) hmk ⟨S7.kb, ih k _ _ _ _ (hw.2 k hkm) (by exact Nat.le_of_lt (by assumption)) (by lia) S7.kb hr.deeper (hxk.imm (im.tr (im6.tr im7))) (fun Z zs h8 tk8 hZn (k8 : Kp h7 h8) hZ hzs => ?_)⟩))
      try dsimp only
      have S8 : St B s.heap [] [(Z, listP zs.toArray), (e, p), (it, q), (D, listP ys.toArray), (L, nsP m'), (L + 1, cellP (some (.int i ti)))] h8 :=
        S7.add hZn k8 (let ⟨nn, e⟩ := hZ; ⟨_, e, ⟨nn, rfl⟩, listP.nt ⟨nn, rfl⟩⟩)
      have hzl : zs.length = k.size := hzs.length
      have hys8 := hys7.imm (Imm.kp k8)
      refine hK3 _ _ ⟨Z, zs, _, fun j rs ow h => ow = [(Z, listP zs.toArray), (e, p), (it, q), (D, listP ys.toArray), (L, nsP m'), (L + 1, cellP (some (.int i ti)))] ∧ PartsL h (n + 1) ((subs k).take j) rs, rfl, hZ.isList, by lia, S8, ?_, ⟨rfl, rfl⟩, ?_, ?_, ?_⟩
      try dsimp only
      · intro j rs ow h h' im hpz3; (refine e02 hpz3 fun e r => ?_; clear hpz3)
        exact ⟨e, r.imm im⟩
      · intro j rs ow h C D' it' m' p' q' im S9 hpz4; obtain ⟨rfl, _⟩ := hpz4
        exact S9.list 3 rfl
      · intro j rs ow h tk C D' it' p' m'' x' hx' im9 hC S9 hlit hpz5 EO'; (refine e02 hpz5 fun hq0 hrs => ?_; subst hq0; clear hpz5)
        obtain ⟨u, hu, c, qq, vv, xs, rfl, hc, hq, hxl, hvv⟩ := hzs.at hx'
        refine wpAny_letOwnedTupleGo_listiter hlit ?_
        try dsimp only
        refine assign_Tuple_tuple (items := #[.ref qq, vv]) hr.hh (im9 _ _ hc) rfl rfl (fun h10 hx10 => ?_)
        have k10 : Kp h h10 := fun b o eo => hx10 b o (Nat.ne_of_lt (Heap.lt_size eo)) eo
        have S10 := S9.kp k10
        refine assignInOrder_cons (wpAny_assign_Name (S10.storeL 0 rfl EO' (fun h11 S11 im11 => ?_)))
        refine assignInOrder_cons (wpAny_assign_Name (S11.storeL 0 rfl EO' (fun h12 S12 im12 => ?_)))
        refine assignInOrder_nil ?_
        have imx : Imm h h12 := ((Imm.kp k10).tr im11).tr im12
        refine wpAny_tests_nil (ifT rfl ?_)
        refine hide (fun K4 hK4 => ?_)
        refine tup2 (wpAny_BinOp (tup1 (nameC EO' (S12.cell 8 rfl) (fun h13 c13 (k13 : Kp h12 h13) ht13 => ?_))))
        have S13 := S12.kp k13
        refine nameL EO' (S13.ns 0 rfl) rfl ?_
        try dsimp only
        refine add_tup (vs := [Value.int i ti]) (ws := xs) ht13 (Imm.kp k13 _ _ (imx _ _ (im9 _ _ hq))) (fun h14 c14 (k14 : Kp h13 h14) ht14 => ?_) (by simp; have := sizeLine_big; lia)
        have S14 := S13.kp k14
        refine nameL EO' (S14.ns 0 rfl) rfl ?_
        try dsimp only
        intro h15 c15 (k15 : Kp h14 h15) ht15
        have imy : Imm h h15 := imx.tr (Imm.kp ((k13.tr k14).tr k15))
        have htake : (subs k).take (j + 1) = (subs k).take j ++ [u] := by rw [List.take_add_one, hu]; rfl
        refine hK4 _ _ ⟨h15, _, _, _, rfl, imy, S14.kp k15, rfl, ?_⟩
        try dsimp only
        rw [htake]
        exact (hrs.imm imy).append (PartsL.one ⟨c15, c14, vv, _, rfl, ht15, Imm.kp k15 _ _ ht14, by simp; simp [*], (hvv.imm im9).imm imy⟩)
      · intro rs ow h tk D' hrl hD' im9 S9 hpz6; obtain ⟨rfl, hrs⟩ := hpz6
        have hfull : (subs k).take zs.length = subs k := by rw [hzl]; exact List.take_length
        rw [hfull] at hrs
        refine list_extend_plain (xs := ys.toArray) (ys := rs.toArray) (S9.plain 4 rfl) (S9.plain 0 rfl) (fun h10 hl10 hs10 => ?_) (by rw [List.size_toArray, List.size_toArray]; have := sizeLine_big; lia)
        refine e02 (S9.setList 4 rfl hs10 hl10) fun S10 im10 => ?_
        have e1 : (ys.toArray ++ rs.toArray) = (ys ++ rs).toArray := by simp
        rw [e1] at S10
        refine wpAny_execs_nil (hK2 _ _ ⟨h10, tk, _, rfl, ((im6.tr im7).tr (Imm.kp k8)).tr (im9.tr im10), (St.tail (a := (D', listP rs.toArray)) S10 List.not_mem_nil).tail List.not_mem_nil, m', ys ++ rs, some (.int i ti), rfl, hmt, hmf, ?_⟩)
        try dsimp only
        · have := (hys8.imm (im9.tr im10)).append (hrs.imm im10)
          rw [subsL_take hk]; simpa using this
    · intro ow h tk im S5 hpz7; (refine x3c4 hpz7 fun m ys kv hq3 hmt hmf hys => ?_; subst hq3; clear hpz7)
      have hfull : ks.take vs.length = ks := by rw [hvl]; exact List.take_length
      rw [hfull] at hys
      refine wpAny_execs_cons (wpAny_Return_some (nameL EO (S5.ns 1 rfl) hmf (hR D ys _ _ hDn S5.kpH (S5.plain 0 rfl) ?_)))
      try dsimp only
      dsimp only [subs]; exact hys
end
section
variable {prog : Program} {w : World} {A : Around} {B H : Heap} {Ss : List Addr}
/-- a list comprehension over one iterator: what stands between the turns is Φ -/
theorem comp_coreU {E : Value → Shared → Prop} {s : Shared} {env : Env} {elt target iter : Expr} {ifs : List Expr} {scope : Scope} {cl : List (Str × Addr)} {pos : Pos} {Q : Value → Shared → Prop}
    {it : Addr} {pr : Nat → OP} {src : Heap → Prop} {n : Nat} {P : Nat → Value → Prop} {ow : List (Addr × OP)} (Er : Value → Shared → Prop) (use : Option (Value → Sem Unit))
    (Φ : Nat → List Value → List (Addr × OP) → Heap → Prop)
    (he : EnvOk env) (I : Itr prog w A it pr src n P) (S : St B H Ss ((it, pr 0) :: ow) s.heap) (hn : n ≤ 1000) (hSs : ∀ h' : Heap, ∀ b ∈ Ss, b ≠ it ∧ (∃ o, s.heap.get? b = some o))
    (hcell : ∀ y ∈ scope.names, y.2 ≠ .cell) (hkind : scope.kind = .function)
    (mono : ∀ i ys ow' h h', Imm h h' → Φ i ys ow' h → Φ i ys ow' h')
    (start : Φ 0 [] ow s.heap)
    (hsrc : ∀ i ys ow' h C D m p, Imm s.heap h → St B H Ss ((C, nsP m) :: (D, listP p) :: (it, pr i) :: ow') h → Φ i ys ow' h → src h)
    (turn : ∀ (i : Nat) (ys : List Value) (ow' : List (Addr × OP)) (h : Heap) (tk : Nat) (C D : Addr) (m : Str → Option Value) (x : Value), i < n → P i x → Imm s.heap h → s.heap.get? C = none →
      St B H Ss ((C, nsP m) :: (D, listP ys.toArray) :: (it, pr (i + 1)) :: ow') h → Φ i ys ow' h →
      wpAny (model prog w) A (letOwnedTupleGo target (.ref it) x) (fun _ s₁ => wpAny (model prog w) A (assign target (compEnvC scope cl C env) x) (fun _ s₂ =>
        ifsWp prog w A ifs (compEnvC scope cl C env) (fun ok s₃ =>
          if ok = true then wpAny (model prog w) A (eval elt (compEnvC scope cl C env)) (fun y s₄ => X4 fun h' tk' m' ow'' => C4 (s₄ = { s with heap := h', toks := tk' }) (Imm h h') (St B H Ss ((C, nsP m') :: (D, listP ys.toArray) :: (it, pr (i + 1)) :: ow'') h') (Φ (i + 1) (ys ++ [y]) ow'' h')) Er s₃
          else X4 fun h' tk' m' ow'' => C4 (s₃ = { s with heap := h', toks := tk' }) (Imm h h') (St B H Ss ((C, nsP m') :: (D, listP ys.toArray) :: (it, pr (i + 1)) :: ow'') h') (Φ (i + 1) ys ow'' h')) Er s₂) Er s₁) Er
        { s with heap := h, toks := tk })
    (fin : ∀ ys ow' h tk C D m, ys.length ≤ n → s.heap.get? D = none → s.heap.get? C = none → Imm s.heap h → St B H Ss ((C, nsP m) :: (D, listP (List.toArray ys)) :: ow') h → Φ n ys ow' h → compPost (model prog w) A E use Q (.ref D) C (.ok .next) { s with heap := h, toks := tk })
    (hEr : ∀ (C : Addr) e s', s.heap.get? C = none → Er e s' → notedBy (model prog w) A (compEnvC scope cl C env) (fun e s' => compPost (model prog w) A E use Q (.ref s.heap.objs.size) C (.error e) s') e s') :
    wpAny (model prog w) A (newList []) (fun acc s₃ => wpAny (model prog w) A (newFunctionEnv scope env.globals cl [] env.qual none .none (some env)) (fun cenv s₄ =>
      codeAny (model prog w) A (.compStart (.ListComp elt [⟨target, iter, ifs, 0⟩] scope pos) 0 (.ref it) acc { cenv with scope := relabel scope env }) (compPost (model prog w) A E use Q acc cenv.locals) s₄) E s₃) E s := by
  refine wpAny_newList ?_
  try dsimp only
  have S1 := S.addPush (o := { cls := .type "list", data := .seq ([] : List Value).toArray }) (p := listP #[]) rfl ⟨0, rfl⟩ (nt_cls (by decide))
  generalize hH2 : s.heap.push { cls := .type "list", data := .seq ([] : List Value).toArray } = H2 at S1 ⊢
  refine wpAny_newFunctionEnv hcell (by intro y hy; simp at hy) (fun h₁ hns₁ hsb₁ => ?_) hkind
  dsimp only at hns₁ hsb₁ ⊢
  have k1 : Kp s.heap H2 := by rw [← hH2]; exact Kp.push _ _
  have hsz : H2.objs.size = s.heap.objs.size + 1 := by rw [← hH2, Heap.size_push]
  have hCn : H2.get? H2.objs.size = none := Heap.get?_none_of_le (Nat.le_refl _)
  have hCs : s.heap.get? H2.objs.size = none := Heap.get?_none_of_le (by rw [hsz]; exact Nat.le_succ _)
  have k2 : Kp H2 h₁ := fun b o e => hsb₁.extBut b o (fun q => by subst q; rw [hCn] at e; cases e) (Heap.get?_push_of_some _ e)
  have S2 : St B H Ss ((H2.objs.size, nsP fun x => ([] : List (Str × Value)).reverse.lookup x) :: (s.heap.objs.size, listP #[]) :: (it, pr 0) :: ow) h₁ :=
    S1.add hCn k2 (let ⟨o, e, r⟩ := nsP_ns.mp hns₁; ⟨o, e, r, r.nt⟩)
  have im2 : Imm s.heap h₁ := Imm.kp (k1.tr k2)
  have hDn : s.heap.get? s.heap.objs.size = none := Heap.get?_none_of_le (Nat.le_refl _)
  generalize hC : H2.objs.size = C at *
  generalize hD : s.heap.objs.size = D at *
  have hCS : C ∉ Ss := fun q => by obtain ⟨o, e⟩ := (hSs s.heap C q).2; rw [hCs] at e; cases e
  have hIS : it ∉ Ss := fun q => (hSs s.heap it q).1 rfl
  have Erc := fun e s' => hEr C e s' hCs
  let J : Nat → Shared → Prop := fun k s' => X6 fun i ys ow' h tk m => C7 (k + i = n + 1) (ys.length ≤ i) (i ≤ n) (s' = { s with heap := h, toks := tk }) (Imm s.heap h) (St B H Ss ((C, nsP m) :: (D, listP (List.toArray ys)) :: (it, pr i) :: ow') h) (Φ i ys ow' h)
  have hJ : J (n + 1) { s with heap := h₁, toks := s.toks + ([] : List (Str × Value)).length } := ⟨0, [], ow, h₁, _, _, rfl, Nat.le_refl _, Nat.zero_le _, rfl, im2, S2, mono _ _ _ _ _ im2 start⟩
  have loop : ∀ s₃ : Shared, s₃ = { s with heap := h₁, toks := s.toks + ([] : List (Str × Value)).length } →
      codeAny (model prog w) A (.compLoop (.ListComp elt [⟨target, iter, ifs, 0⟩] scope pos) 0 (.ref it) (.ref D) (compEnvC scope cl C env)) (compPost (model prog w) A E use Q (.ref D) C) s₃ := by
    rintro s₃ rfl
    refine compLoopG J (fun k s' hJk => ?_) (n + 1) hJ
    (refine x6c7 hJk fun i ys ow' h tk m hki hyl hin hq9 im S3 hΦ => ?_; subst hq9; clear hJk)
    have so := hsrc i ys ow' h C D m _ im S3 hΦ
    have hit : ∃ o, h.get? it = some o ∧ pr i o := let ⟨o, e, r, _⟩ := S3.get 2 rfl; ⟨o, e, r⟩
    by_cases hlt : i < n
    · refine I.item i _ _ _ hlt hit so (fun x h' tk' hx hit' hs' => ?_)
      refine e02 (S3.upd (p' := pr (i + 1)) 2 rfl hs' (let ⟨o, e, r⟩ := hit'; ⟨o, e, r, I.nt _ _ r⟩)) fun S4 im4 => ?_
      have t := turn i ys ow' h' tk' C D m x hlt hx (im.tr im4) hCs S4 (mono _ _ _ _ _ im4 hΦ)
      refine wpAny_mono t (fun _ s₁ t => wpAny_mono t (fun _ s₂ t => wpAny_mono t (fun ok s₃ t => ?_) Erc) Erc) Erc
      cases ok with
      | false =>
        (refine x4c4 t fun h'' tk'' m'' ow'' hq4 im5 S5 hΦ5 => ?_; subst hq4; clear t)
        exact ⟨k - 1, by omega, i + 1, ys, ow'', h'', tk'', m'', by lia, by exact Nat.le_succ_of_le (by assumption), by exact hlt, rfl, (im.tr im4).tr im5, S5, hΦ5⟩
      | true =>
        refine wpAny_mono t (fun y s₄ t => ?_) Erc
        (refine x4c4 t fun h'' tk'' m'' ow'' hq4 im5 S5 hΦ5 => ?_; subst hq4; clear t)
        refine wpAny_list_append_plain (S5.plain 1 rfl) (fun h6 hl6 hs6 => ?_) (by rw [List.size_toArray]; have := sizeLine_big; exact Nat.le_trans (Nat.le_trans (Nat.le_trans hyl hin) hn) (Nat.le_of_ble_eq_true rfl))
        refine e02 (S5.setList 1 rfl hs6 hl6) fun S6 im6 => ?_
        refine ⟨k - 1, by omega, i + 1, ys ++ [y], ow'', h6, tk'', m'', by omega, by rw [List.length_append]; simp; simp [*], by exact hlt, rfl, ((im.tr im4).tr im5).tr im6, ?_, mono _ _ _ _ _ im6 hΦ5⟩
        have e : ys.toArray.push y = (ys ++ [y]).toArray := by simp
        (refine (e ..) ▸ ?_); exact S6
    · have hie : i = n := by lia
      subst hie
      refine I.stop _ _ _ hit so (fun h' tk' hs' => ?_)
      try dsimp only
      -- forget the iterator, then the frame
      have S4 := S3.swap
      have S5 : St B H Ss ((it, pr i) :: (D, listP ys.toArray) :: (C, nsP m) :: ow') h := by
        refine ⟨S3.kb, S3.base, fun p hp => S3.own p ?_, fun p hp => S3.new p ?_, ?_, fun c hc => ?_⟩
        try dsimp only
        · simp only [List.mem_cons] at hp ⊢; rcases hp with h | h | h | h <;> simp [h]
        · simp only [List.mem_cons] at hp ⊢; rcases hp with h | h | h | h <;> simp [h]
        · have := S3.nd
          simp only [List.map_cons, List.nodup_cons, List.mem_cons, not_or] at this ⊢
          exact ⟨⟨Ne.symm this.2.1.1, Ne.symm this.1.2.1, this.2.2.1⟩, ⟨Ne.symm this.1.1, this.2.1.2⟩, this.1.2.2, this.2.2.2⟩
        · have := S3.sub c hc
          simp only [List.map_cons, List.mem_cons] at this ⊢
          rcases this with h | h | h | h <;> simp [h]
      refine e02 (S5.lose hIS hs') fun S6 im6 => ?_
      have S7 := S6.swap
      exact fin ys ow' h' tk' C D m hyl hDn hCs (im.tr im6) S7 (mono _ _ _ _ _ im6 hΦ)
  exact codeAny_compStart_list (loop _ rfl) (I.again _ _ _ (let ⟨o, e, r, _⟩ := S2.get 2 rfl; ⟨o, e, r⟩) (loop _ rfl))

/-- y = [elt for target in LIST], y a local: the store comes before the comprehension's row goes -/
theorem compListUse (B H : Heap) (Ss : List Addr) {E : Value → Shared → Prop} {s : Shared} {env : Env} {elt iter target : Expr} {y : Str} {py : Pos} {ifs : List Expr} {scope : Scope} {cl : List (Str × Addr)} {pos spos : Pos} {Q : Flow → Shared → Prop} (he : EnvOk env) (hh : A.handled = none)
    (h : wpAny (model prog w) A (eval iter env) (fun xv s₁ => X4 fun (a : Addr) (xs : List Value) (ow : List (Addr × OP)) (Φ : Nat → List Value → List (Addr × OP) → Heap → Prop) => C9 (xv = .ref a) (s₁.heap.IsList a xs.toArray) (xs.length ≤ 1000) (St B H Ss ow s₁.heap) ((∀ i ys ow' h h', Imm h h' → Φ i ys ow' h → Φ i ys ow' h')) (Φ 0 [] ow s₁.heap) ((∀ i ys ow' h C D it m p q, Imm s₁.heap h → St B H Ss ((C, nsP m) :: (D, listP p) :: (it, q) :: ow') h → Φ i ys ow' h → h.IsList a xs.toArray)) ((∀ (i : Nat) (ys : List Value) (ow' : List (Addr × OP)) (h : Heap) (tk : Nat) (C D it : Addr) (p : OP) (m : Str → Option Value) (x : Value), xs[i]? = some x → Imm s₁.heap h → s₁.heap.get? C = none →
        St B H Ss ((C, nsP m) :: (D, listP ys.toArray) :: (it, p) :: ow') h → h.IsListIter it a (i + 1) → Φ i ys ow' h → EnvOk (compEnvC scope cl C env) →
        wpAny (model prog w) A (letOwnedTupleGo target (.ref it) x) (fun _ s₁' => wpAny (model prog w) A (assign target (compEnvC scope cl C env) x) (fun _ s₂ =>
          ifsWp prog w A ifs (compEnvC scope cl C env) (fun ok s₃ =>
          if ok = true then wpAny (model prog w) A (eval elt (compEnvC scope cl C env)) (fun y s₄ => X4 fun h' tk' m' ow'' => C4 (s₄ = { s₁ with heap := h', toks := tk' }) (Imm h h') (St B H Ss ((C, nsP m') :: (D, listP ys.toArray) :: (it, p) :: ow'') h') (Φ (i + 1) (ys ++ [y]) ow'' h')) noE s₃
          else X4 fun h' tk' m' ow'' => C4 (s₃ = { s₁ with heap := h', toks := tk' }) (Imm h h') (St B H Ss ((C, nsP m') :: (D, listP ys.toArray) :: (it, p) :: ow'') h') (Φ (i + 1) ys ow'' h')) noE s₂) noE s₁') noE
        { s₁ with heap := h, toks := tk })) ((∀ ys ow' h tk C D m, ys.length ≤ xs.length → s₁.heap.get? D = none → Imm s₁.heap h → St B H Ss ((C, nsP m) :: (D, listP (List.toArray ys)) :: ow') h → Φ xs.length ys ow' h →
        wpAny (model prog w) A (storeName env y (.ref D)) (fun _ s'' => ∃ m, s''.heap.Ns C m ∧ ∀ h', Heap.SameBut C s''.heap h' → Q .next { s'' with heap := h' }) E { s₁ with heap := h, toks := tk }))) E s)
    (hsw : autoParam (swapsWith (.ListComp elt [⟨target, iter, ifs, 0⟩] scope pos) (some (.Name y py)) spos.line env = pure true) aRfl)
    (hclos : autoParam (closureFor scope env = pure cl) aRfl) (hcell : autoParam (∀ y ∈ scope.names, y.2 ≠ .cell) aDec) (hkind : autoParam (scope.kind = .function) aRfl)
    (hnames : autoParam (∀ y ∈ scope.names, y.2 = .local → scope.names.lookup y.1 = some .local) aDec)
    (hs : autoParam (∀ x, foldedSetIterable iter env x = pure x) aIRfl) :
    wpAny (model prog w) A (exec (.Assign [.Name y py] (.ListComp elt [⟨target, iter, ifs, 0⟩] scope pos) spos) env) Q E s := by
  rw [exec_Assign_Name_used _ _ _ _ hsw]
  refine wpAny_bind (wpAny_standAt (wpAny_bind ?_))
  try dsimp only
  show wpAny _ A (do let _ ← comprehension (.ListComp elt [⟨target, iter, ifs, 0⟩] scope pos) scope env _ (newList []) false (eval iter env) (some (assign (.Name y py) env))) _ _ s
  refine wpAny_bind (wpAny_mono (wpAny_comprehension_free (use := some (assign (.Name y py) env)) (Q := fun _ s' => Q .next s') rfl hs hclos hkind hnames
    (wpAny_mono h (fun xv s₁ h₁ => ?_) fun _ _ e => e)) (fun _ s' hq => wpAny_pure (wpAny_pure hq)) fun _ _ e => e)
  obtain ⟨a, xs, ow, Φ, rfl, hl, hn, S, mono, start, hsrc, turn, fin⟩ := h₁
  refine wpAny_pyIter_list hl ?_
  try dsimp only
  have hin : s₁.heap.get? s₁.heap.objs.size = none := Heap.get?_none_of_le (Nat.le_refl _)
  have S1 := S.addPush (o := { cls := .type "list_iterator", data := .fields #[.ref a, .int 0 0] }) (p := litP a 0) rfl ⟨rfl, rfl⟩ (nt_cls (show (Value.type "list_iterator") ≠ Value.type "tuple" by decide))
  have k1 : Kp s₁.heap (s₁.heap.push { cls := .type "list_iterator", data := .fields #[.ref a, .int 0 0] }) := Kp.push _ _
  have hit := ext_notin S hin
  refine comp_coreU (s := { s₁ with heap := s₁.heap.push { cls := .type "list_iterator", data := .fields #[.ref a, .int 0 0] } }) noE (some (assign (.Name y py) env)) Φ he (itr_list hh s₁.heap.objs.size a xs) S1 hn
    (fun _ b hb => ⟨fun q => hit (q ▸ hb), ss_there S1 b hb⟩) hcell hkind mono (mono _ _ _ _ _ (Imm.kp k1) start) (fun i ys ow' h C D m p im S' hΦ => hsrc i ys ow' h C D _ m p _ ((Imm.kp k1).tr im) S' hΦ) ?_ ?_ (fun _ _ _ _ x => x.elim)
  · intro i ys ow' h tk C D m x hi hx im hC S' hΦ
    refine turn i ys ow' h tk C D _ _ m x hx ((Imm.kp k1).tr im) ?_ S' (S'.lit 2 rfl) hΦ ⟨he.gl, he.bi, hkind⟩
    cases e : s₁.heap.get? C with
    | none => rfl
    | some o => have := k1 _ _ e; rw [hC] at this; cases this
  · intro ys ow' h tk C D m hl hD hC im S' hΦ
    refine wpAny_assign_Name (fin ys ow' h tk C D m hl ?_ ((Imm.kp k1).tr im) S' hΦ)
    cases e : s₁.heap.get? D with
    | none => rfl
    | some o => have := k1 _ _ e; rw [hD] at this; cases this
end
theorem compTurn_two0 (elt t0 i0 t1 i1 : Expr) (scope : Scope) (pos : Pos) (it acc : Value) (env : Env) :
    compTurn (.ListComp elt [⟨t0, i0, [], 0⟩, ⟨t1, i1, [], 0⟩] scope pos) 0 it acc env = (do
      standAt i0.pos
      match ← pyNext it with
      | none => pure (.done .next)
      | some v =>
        letOwnedTupleGo t0 it v
        assign t0 env v
        let x ← eval i1 env
        standAt i1.pos
        let x ← foldedSetIterable i1 env x
        let _ ← runOwn (.compStart (.ListComp elt [⟨t0, i0, [], 0⟩, ⟨t1, i1, [], 0⟩] scope pos) 1 (← holding [x] (pyIter x)) acc env) env
        again (.compLoop (.ListComp elt [⟨t0, i0, [], 0⟩, ⟨t1, i1, [], 0⟩] scope pos) 0 it acc env)) := by rfl
theorem compTurn_two1 (elt t0 i0 t1 i1 : Expr) (scope : Scope) (pos : Pos) (it acc : Value) (env : Env) :
    compTurn (.ListComp elt [⟨t0, i0, [], 0⟩, ⟨t1, i1, [], 0⟩] scope pos) 1 it acc env = (do
      standAt i1.pos
      match ← pyNext it with
      | none => pure (.done .next)
      | some v =>
        letOwnedTupleGo t1 it v
        assign t1 env v
        (do let _ ← call (.builtin "list.append") [acc, ← eval elt env])
        again (.compLoop (.ListComp elt [⟨t0, i0, [], 0⟩, ⟨t1, i1, [], 0⟩] scope pos) 1 it acc env)) := by rfl

section
variable {prog : Program} {w : World} {A : Around} {R : Result → Shared → Prop} {s : Shared}
theorem compLoop_two1 {elt t0 i0 t1 i1 : Expr} {scope : Scope} {pos : Pos} {it acc : Value} {env : Env} (I : Nat → Shared → Prop)
    (turn : ∀ n s, I n s → wpAny (model prog w) A (pyNext it) (fun r s₁ => match r with
      | none => R (.ok .next) s₁
      | some v => wpAny (model prog w) A (letOwnedTupleGo t1 it v) (fun _ s₁ => wpAny (model prog w) A (assign t1 env v) (fun _ s₂ =>
          wpAny (model prog w) A (eval elt env) (fun x s₄ =>
              wpAny (model prog w) A (call (.builtin "list.append") [acc, x]) (fun _ s₅ => ∃ m, m < n ∧ I m s₅) noE s₄) noE s₂) noE s₁) noE s₁) noE s)
    (n : Nat) (h : I n s) :
    codeAny (model prog w) A (.compLoop (.ListComp elt [⟨t0, i0, [], 0⟩, ⟨t1, i1, [], 0⟩] scope pos) 1 it acc env) R s := by
  refine codeAny_loop rfl I (fun n s hI => ?_) n h
  show wpAny _ A ((compTurn (.ListComp elt [⟨t0, i0, [], 0⟩, ⟨t1, i1, [], 0⟩] scope pos) 1 it acc env).onRaise (fun x => do noteFrame x env; theTreesLotGoes x)) _ _ s
  refine wpAny_noted ?_
  try dsimp only
  rw [compTurn_two1]
  refine wpAny_bind (wpAny_standAt (wpAny_bind (wpAny_mono (turn n s hI) (fun r s₁ h₁ => ?_) fun _ _ h' => False.elim h')))
  cases r with
  | none => exact wpAny_pure h₁
  | some v =>
    refine wpAny_bind (wpAny_mono h₁ (fun _ s₁ h₁ => ?_) fun _ _ h' => False.elim h')
    refine wpAny_bind (wpAny_mono h₁ (fun _ s₂ h₂ => ?_) fun _ _ h' => False.elim h')
    exact wpAny_bind (wpAny_bind (wpAny_mono h₂ (fun x s₄ h₄ => wpAny_bind (wpAny_mono h₄ (fun _ s₅ h₅ => wpAny_pure (wpAny_pure ⟨rfl, h₅⟩)) fun _ _ h' => False.elim h')) fun _ _ h' => False.elim h'))

theorem compLoop_two0 {elt t0 i0 t1 i1 : Expr} {scope : Scope} {pos : Pos} {it acc : Value} {env : Env} (I : Nat → Shared → Prop)
    (turn : ∀ n s, I n s → wpAny (model prog w) A (pyNext it) (fun r s₁ => match r with
      | none => R (.ok .next) s₁
      | some v => wpAny (model prog w) A (letOwnedTupleGo t0 it v) (fun _ s₁ => wpAny (model prog w) A (assign t0 env v) (fun _ s₂ =>
          wpAny (model prog w) A (eval i1 env) (fun x s₃ => wpAny (model prog w) A (pyIter x) (fun it2 s₄ =>
            codeAny (model prog w) A (.compStart (.ListComp elt [⟨t0, i0, [], 0⟩, ⟨t1, i1, [], 0⟩] scope pos) 1 it2 acc env) (fun r s₅ => r = .ok .next ∧ ∃ m, m < n ∧ I m s₅) s₄) noE s₃) noE s₂) noE s₁) noE s₁) noE s)
    (hs : ∀ x, foldedSetIterable i1 env x = pure x) (n : Nat) (h : I n s) :
    codeAny (model prog w) A (.compLoop (.ListComp elt [⟨t0, i0, [], 0⟩, ⟨t1, i1, [], 0⟩] scope pos) 0 it acc env) R s := by
  refine codeAny_loop rfl I (fun n s hI => ?_) n h
  show wpAny _ A ((compTurn (.ListComp elt [⟨t0, i0, [], 0⟩, ⟨t1, i1, [], 0⟩] scope pos) 0 it acc env).onRaise (fun x => do noteFrame x env; theTreesLotGoes x)) _ _ s
  refine wpAny_noted ?_
  try dsimp only
  rw [compTurn_two0]
  refine wpAny_bind (wpAny_standAt (wpAny_bind (wpAny_mono (turn n s hI) (fun r s₁ h₁ => ?_) fun _ _ h' => False.elim h')))
  cases r with
  | none => exact wpAny_pure h₁
  | some v =>
    refine wpAny_bind (wpAny_mono h₁ (fun _ s₁ h₁ => ?_) fun _ _ h' => False.elim h')
    refine wpAny_bind (wpAny_mono h₁ (fun _ s₂ h₂ => ?_) fun _ _ h' => False.elim h')
    refine wpAny_bind (wpAny_mono h₂ (fun x s₃ h₃ => ?_) fun _ _ h' => False.elim h')
    refine wpAny_bind (wpAny_standAt (wpAny_bind (wpAny_of_eq (hs x) ?_)))
    try dsimp only
    refine wpAny_bind (wpAny_holding (wpAny_mono h₃ (fun it2 s₄ h₄ => ?_) fun _ _ h' => False.elim h'))
    refine wpAny_bind (wpAny_runOwn (codeAny_mono h₄ fun r s₅ h₅ => ?_))
    try dsimp only
    obtain ⟨rfl, h₅⟩ := h₅
    exact wpAny_pure ⟨rfl, h₅⟩

theorem compStart_two1 {elt t0 i0 t1 i1 scope pos it acc env}
    (h0 : codeAny (model prog w) A (.compLoop (.ListComp elt [⟨t0, i0, [], 0⟩, ⟨t1, i1, [], 0⟩] scope pos) 1 it acc env) R s)
    (h : wpAny (model prog w) A (pyIter it) (fun it' s' => codeAny (model prog w) A (.compLoop (.ListComp elt [⟨t0, i0, [], 0⟩, ⟨t1, i1, [], 0⟩] scope pos) 1 it' acc env) R s') (notedBy (model prog w) A env fun x s' => R (.error x) s') s) :
    codeAny (model prog w) A (.compStart (.ListComp elt [⟨t0, i0, [], 0⟩, ⟨t1, i1, [], 0⟩] scope pos) 1 it acc env) R s := by
  refine codeAny_of_tree ?_
  try dsimp only
  show wpAny _ _ ((compStart (.ListComp elt [⟨t0, i0, [], 0⟩, ⟨t1, i1, [], 0⟩] scope pos) 1 it acc env).onRaise (fun x => do noteFrame x env; standAt theWindowsPlace)) _ _ s
  refine wpAny_notedAt ?_
  try dsimp only
  unfold compStart
  show wpAny _ _ (ask >>= _) _ _ s
  refine wpAny_bind (wpAny_askSetting (wpAny_ite ?_))
  split
  · first
      | exact wpAny_bind (wpAny_pure (wpAny_pure (And.intro rfl h0)))
      | exact wpAny_pure (And.intro rfl h0)
  · first
      | exact wpAny_bind (wpAny_rule (wpAny_bind (wpAny_standAt (wpAny_bind (wpAny_mono h (fun it' s' h' => wpAny_pure (And.intro rfl h')) fun _ _ x => x)))))
      | (refine wpAny_bind (wpAny_rule ?_); show wpAny _ _ (standAt i1.pos >>= _) _ _ s; exact wpAny_bind (wpAny_standAt (wpAny_bind (wpAny_mono h (fun it' s' h' => wpAny_pure (And.intro rfl h')) fun _ _ x => x))))
end

section
variable {prog : Program} {w : World} {A : Around}
set_option maxHeartbeats 8000000 in
/-- y = [elt for tx in LIST for ty in LIST], y a local -/
theorem comp2Use (B H : Heap) {E : Value → Shared → Prop} {s : Shared} {env : Env} {elt i0 i1 : Expr} {tx ty y : Str} {px py pz : Pos} {scope : Scope} {cl : List (Str × Addr)} {pos spos : Pos} {Q : Flow → Shared → Prop} (he : EnvOk env) (hh : A.handled = none) (hxy : tx ≠ ty)
    (h : wpAny (model prog w) A (eval i0 env) (fun xv s₁ => X6 fun (a b : Addr) (xs zs : List Value) (ow : List (Addr × OP)) (Φ : Nat → List Value → List (Addr × OP) → Heap → Prop) => C10 (xv = .ref a) (s₁.heap.IsList a xs.toArray) (xs.length * zs.length ≤ 5000) (St B H [] ow s₁.heap) ((∀ k ys ow' h h', Imm h h' → Φ k ys ow' h → Φ k ys ow' h')) (Φ 0 [] ow s₁.heap) ((∀ k ys pre ow' h, Imm s₁.heap h → St B H [] (pre ++ ow') h → Φ k ys ow' h → h.IsList a xs.toArray ∧ h.IsList b zs.toArray)) ((∀ k ys ow' h tk C D it m q, Imm s₁.heap h → St B H [] ((C, nsP m) :: (D, listP (List.toArray ys)) :: (it, q) :: ow') h → Φ k ys ow' h → EnvOk (compEnvC scope cl C env) →
        wpAny (model prog w) A (eval i1 (compEnvC scope cl C env)) (fun v s' => v = .ref b ∧ s' = { s₁ with heap := h, toks := tk }) noE { s₁ with heap := h, toks := tk })) ((∀ (i j : Nat) (ys : List Value) ow' h tk C D it it2 m p q x z, xs[i]? = some x → zs[j]? = some z → Imm s₁.heap h → m tx = some x → m ty = some z → St B H [] ((it2, p) :: (C, nsP m) :: (D, listP ys.toArray) :: (it, q) :: ow') h → Φ (i * zs.length + j) ys ow' h → EnvOk (compEnvC scope cl C env) →
        wpAny (model prog w) A (eval elt (compEnvC scope cl C env)) (fun v s₄ => X3 fun h' tk' ow'' => C4 (s₄ = { s₁ with heap := h', toks := tk' }) (Imm h h') (St B H [] ((it2, p) :: (C, nsP m) :: (D, listP ys.toArray) :: (it, q) :: ow'') h') (Φ (i * zs.length + j + 1) (ys ++ [v]) ow'' h')) noE { s₁ with heap := h, toks := tk })) ((∀ ys ow' h tk C D m, s₁.heap.get? D = none → Imm s₁.heap h → St B H [] ((C, nsP m) :: (D, listP (List.toArray ys)) :: ow') h → Φ (xs.length * zs.length) ys ow' h →
        wpAny (model prog w) A (storeName env y (.ref D)) (fun _ s'' => ∃ m, s''.heap.Ns C m ∧ ∀ h', Heap.SameBut C s''.heap h' → Q .next { s'' with heap := h' }) E { s₁ with heap := h, toks := tk }))) E s)
    (hkx : autoParam (∀ C, (compEnvC scope cl C env).kindOf tx = some .local) aIRfl) (hky : autoParam (∀ C, (compEnvC scope cl C env).kindOf ty = some .local) aIRfl)
    (hsw : autoParam (swapsWith (.ListComp elt [⟨.Name tx px, i0, [], 0⟩, ⟨.Name ty pz, i1, [], 0⟩] scope pos) (some (.Name y py)) spos.line env = pure true) aRfl)
    (hclos : autoParam (closureFor scope env = pure cl) aRfl) (hcell : autoParam (∀ y ∈ scope.names, y.2 ≠ .cell) aDec) (hkind : autoParam (scope.kind = .function) aRfl)
    (hnames : autoParam (∀ y ∈ scope.names, y.2 = .local → scope.names.lookup y.1 = some .local) aDec)
    (hs : autoParam (∀ x, foldedSetIterable i0 env x = pure x) aIRfl) (hs1 : autoParam (∀ e x, foldedSetIterable i1 e x = pure x) aIIRfl) :
    wpAny (model prog w) A (exec (.Assign [.Name y py] (.ListComp elt [⟨.Name tx px, i0, [], 0⟩, ⟨.Name ty pz, i1, [], 0⟩] scope pos) spos) env) Q E s := by
  rw [exec_Assign_Name_used _ _ _ _ hsw]
  refine wpAny_bind (wpAny_standAt (wpAny_bind ?_))
  show wpAny _ A (do let _ ← comprehension (.ListComp elt [⟨.Name tx px, i0, [], 0⟩, ⟨.Name ty pz, i1, [], 0⟩] scope pos) scope env _ (newList []) false (eval i0 env) (some (assign (.Name y py) env))) _ _ s
  refine wpAny_bind (wpAny_mono (wpAny_comprehension_free (use := some (assign (.Name y py) env)) (Q := fun _ s' => Q .next s') rfl hs hclos hkind hnames
    (wpAny_mono h (fun xv s₁ h₁ => ?_) fun _ _ e => e)) (fun _ s' hq => wpAny_pure (wpAny_pure hq)) fun _ _ e => e)
  obtain ⟨a, b, xs, zs, ow, Φ, rfl, hl, hn, S, mono, start, src, inner, turn, fin⟩ := h₁
  refine wpAny_pyIter_list hl ?_
  have hin : s₁.heap.get? s₁.heap.objs.size = none := Heap.get?_none_of_le (Nat.le_refl _)
  have S1 := S.addPush (o := { cls := .type "list_iterator", data := .fields #[.ref a, .int 0 0] }) (p := litP a 0) rfl ⟨rfl, rfl⟩ (nt_cls (show (Value.type "list_iterator") ≠ Value.type "tuple" by decide))
  have k1 : Kp s₁.heap (s₁.heap.push { cls := .type "list_iterator", data := .fields #[.ref a, .int 0 0] }) := Kp.push _ _
  generalize hH1 : s₁.heap.push { cls := .type "list_iterator", data := .fields #[.ref a, .int 0 0] } = H1 at *
  generalize hit : s₁.heap.objs.size = it at *
  refine wpAny_newList ?_
  have S2 := S1.addPush (o := { cls := .type "list", data := .seq ([] : List Value).toArray }) (p := listP #[]) rfl ⟨0, rfl⟩ (nt_cls (show Value.type "list" ≠ Value.type "tuple" by decide))
  have k2 : Kp H1 (H1.push { cls := .type "list", data := .seq ([] : List Value).toArray }) := Kp.push _ _
  have hD1 : H1.get? H1.objs.size = none := Heap.get?_none_of_le (Nat.le_refl _)
  dsimp only
  generalize hH2 : H1.push { cls := .type "list", data := .seq ([] : List Value).toArray } = H2 at *
  have hDn : s₁.heap.get? H1.objs.size = none := by
    cases e : s₁.heap.get? H1.objs.size with
    | none => rfl
    | some o => have := k1 _ _ e; rw [hD1] at this; cases this
  generalize hD : H1.objs.size = D at *
  refine wpAny_newFunctionEnv hcell (by intro y hy; simp at hy) (fun h₁ hns₁ hsb₁ => ?_) hkind
  dsimp only at hns₁ hsb₁ ⊢
  have hCn : H2.get? H2.objs.size = none := Heap.get?_none_of_le (Nat.le_refl _)
  have k3 : Kp H2 h₁ := fun b o e => hsb₁.extBut b o (fun q => by subst q; rw [hCn] at e; cases e) (Heap.get?_push_of_some _ e)
  have S3 : St B H [] ((H2.objs.size, nsP fun x => ([] : List (Str × Value)).reverse.lookup x) :: (D, listP #[]) :: (it, litP a 0) :: ow) h₁ :=
    S2.add hCn k3 (let ⟨o, e, r⟩ := nsP_ns.mp hns₁; ⟨o, e, r, r.nt⟩)
  have im3 : Imm s₁.heap h₁ := Imm.kp ((k1.tr k2).tr k3)
  generalize hC : H2.objs.size = C at *
  have EO' : EnvOk (compEnvC scope cl C env) := ⟨he.gl, he.bi, hkind⟩
  let J : Nat → Shared → Prop := fun k s' => X6 fun i ys ow' h tk m => C7 (k + i = xs.length + 1) (ys.length ≤ i * zs.length) (i ≤ xs.length) (s' = { s₁ with heap := h, toks := tk }) (Imm s₁.heap h) (St B H [] ((C, nsP m) :: (D, listP (List.toArray ys)) :: (it, litP a i) :: ow') h) (Φ (i * zs.length) ys ow' h)
  have hJ : J (xs.length + 1) { s₁ with heap := h₁, toks := s₁.toks + ([] : List (Str × Value)).length } := ⟨0, [], ow, h₁, _, _, rfl, Nat.zero_le _, Nat.zero_le _, rfl, im3, S3, by rw [Nat.zero_mul]; exact mono _ _ _ _ _ im3 start⟩
  have loop : ∀ s₃ : Shared, s₃ = { s₁ with heap := h₁, toks := s₁.toks + ([] : List (Str × Value)).length } →
      codeAny (model prog w) A (.compLoop (.ListComp elt [⟨.Name tx px, i0, [], 0⟩, ⟨.Name ty pz, i1, [], 0⟩] scope pos) 0 (.ref it) (.ref D) (compEnvC scope cl C env)) (compPost (model prog w) A E (some (assign (.Name y py) env)) (fun _ s' => Q .next s') (.ref D) C) s₃ := by
    rintro s₃ rfl
    refine compLoop_two0 J (fun k s' hJk => ?_) (hs1 _) (xs.length + 1) hJ
    (refine x6c7 hJk fun i ys ow' h tk m hki hyl hin' hq9 im S4 hΦ => ?_; subst hq9; clear hJk)
    have IT := itr_list (prog := prog) (w := w) (A := A) hh it a xs
    have so := (src _ ys ((C, nsP m) :: (D, listP (List.toArray ys)) :: (it, litP a i) :: []) ow' h im S4 hΦ)
    have hito : ∃ o, h.get? it = some o ∧ litP a i o := let ⟨o, e, r, _⟩ := S4.get 2 rfl; ⟨o, e, r⟩
    by_cases hlt : i < xs.length
    · refine IT.item i _ _ _ hlt hito so.1 (fun x h2 tk2 hx hit' hs' => ?_)
      refine e02 (S4.upd (p' := litP a (i + 1)) 2 rfl hs' (let ⟨o, e, r⟩ := hit'; ⟨o, e, r, IT.nt _ _ r⟩)) fun S5 im5 => ?_
      dsimp only [List.set_cons_zero, List.set_cons_succ] at S5
      refine wpAny_pure (wpAny_assign_Name (storeL EO' (S5.ns 0 rfl) (fun h3 hn3 hs3 => ?_) (hkx C)))
      refine e02 (S5.setNs 0 rfl hs3 hn3) fun S6 im6 => ?_
      dsimp only [List.set_cons_zero, List.set_cons_succ] at S6
      have S6' : ∃ m', m' tx = some x ∧ St B H [] ((C, nsP m') :: (D, listP ys.toArray) :: (it, litP a (i + 1)) :: ow') h3 := ⟨up m tx x, if_pos rfl, S6⟩
      clear S6
      (refine e12 S6' fun m' hmx S6 => ?_; clear S6')
      have im06 : Imm s₁.heap h3 := (im.tr im5).tr im6
      have hΦ6 := mono _ _ _ _ _ (im5.tr im6) hΦ
      refine wpAny_mono (inner _ ys ow' h3 _ C D it m' _ im06 S6 hΦ6 EO') (fun v s4 hv => ?_) (fun _ _ x => x)
      obtain ⟨rfl, rfl⟩ := hv
      have so6 := (src _ ys ((C, nsP m') :: (D, listP (List.toArray ys)) :: (it, litP a (i + 1)) :: []) ow' h3 im06 S6 hΦ6)
      refine wpAny_pyIter_list so6.2 ?_
      have S7 := S6.addPush (o := { cls := .type "list_iterator", data := .fields #[.ref b, .int 0 0] }) (p := litP b 0) rfl ⟨rfl, rfl⟩ (nt_cls (show (Value.type "list_iterator") ≠ Value.type "tuple" by decide))
      have k7 : Kp h3 (h3.push { cls := .type "list_iterator", data := .fields #[.ref b, .int 0 0] }) := Kp.push _ _
      dsimp only
      generalize h3.push { cls := .type "list_iterator", data := .fields #[.ref b, .int 0 0] } = h4 at *
      generalize hit2 : h3.objs.size = it2 at *
      have IT2 := itr_list (prog := prog) (w := w) (A := A) hh it2 b zs
      let J2 : Nat → Shared → Prop := fun k' s' => X6 fun j ys ow' h tk m => C8 (k' + j = zs.length + 1) (ys.length ≤ i * zs.length + j) (j ≤ zs.length) (s' = { s₁ with heap := h, toks := tk }) (Imm s₁.heap h) (m tx = some x) (St B H [] ((it2, litP b j) :: (C, nsP m) :: (D, listP (List.toArray ys)) :: (it, litP a (i + 1)) :: ow') h) (Φ (i * zs.length + j) ys ow' h)
      have hJ2 : ∀ tk, J2 (zs.length + 1) { s₁ with heap := h4, toks := tk } := fun tk => ⟨0, ys, ow', h4, tk, m', rfl, hyl, Nat.zero_le _, rfl, im06.tr (Imm.kp k7), hmx, S7, mono _ _ _ _ _ (Imm.kp k7) hΦ6⟩
      have hi1 : (i + 1) * zs.length = i * zs.length + zs.length := Nat.succ_mul _ _
      have hi2 : (i + 1) * zs.length ≤ xs.length * zs.length := Nat.mul_le_mul_right _ hlt
      have loop2 : ∀ tk, codeAny (model prog w) A (.compLoop (.ListComp elt [⟨.Name tx px, i0, [], 0⟩, ⟨.Name ty pz, i1, [], 0⟩] scope pos) 1 (.ref it2) (.ref D) (compEnvC scope cl C env)) (fun r s₅ => r = .ok .next ∧ ∃ m, m < k ∧ J m s₅) { s₁ with heap := h4, toks := tk } := by
        intro tk
        refine compLoop_two1 J2 (fun k' s' hJk => ?_) (zs.length + 1) (hJ2 tk)
        (refine x6c8 hJk fun j ys ow' h tk m hkj hyl2 hjn hq9 im8 hmx8 S8 hΦ8 => ?_; subst hq9; clear hJk)
        have so8 := (src _ ys ((it2, litP b j) :: (C, nsP m) :: (D, listP (List.toArray ys)) :: (it, litP a (i + 1)) :: []) ow' h im8 S8 hΦ8)
        have hito2 : ∃ o, h.get? it2 = some o ∧ litP b j o := let ⟨o, e, r, _⟩ := S8.get 0 rfl; ⟨o, e, r⟩
        by_cases hltj : j < zs.length
        · refine IT2.item j _ _ _ hltj hito2 so8.2 (fun z h9 tk9 hz hit' hs' => ?_)
          refine e02 (S8.upd (p' := litP b (j + 1)) 0 rfl hs' (let ⟨o, e, r⟩ := hit'; ⟨o, e, r, IT2.nt _ _ r⟩)) fun S9 im9 => ?_
          dsimp only [List.set_cons_zero, List.set_cons_succ] at S9
          refine wpAny_pure (wpAny_assign_Name (storeL EO' (S9.ns 1 rfl) (fun h10 hn10 hs10 => ?_) (hky C)))
          refine e02 (S9.setNs 1 rfl hs10 hn10) fun S10 im10 => ?_
          dsimp only [List.set_cons_zero, List.set_cons_succ] at S10
          have S10' : ∃ m', m' tx = some x ∧ m' ty = some z ∧ St B H [] ((it2, litP b (j + 1)) :: (C, nsP m') :: (D, listP ys.toArray) :: (it, litP a (i + 1)) :: ow') h10 := ⟨up m ty z, (if_neg hxy).trans hmx8, if_pos rfl, S10⟩
          clear S10
          (refine e13 S10' fun m10 hmx10 hmy10 S10 => ?_; clear S10')
          refine wpAny_mono (turn i j ys ow' h10 _ C D it it2 m10 _ _ x z hx hz ((im8.tr im9).tr im10) hmx10 hmy10 S10 (mono _ _ _ _ _ (im9.tr im10) hΦ8) EO') (fun v s11 hv => ?_) (fun _ _ x => x)
          obtain ⟨h11, tk11, ow11, rfl, im11, S11, hΦ11⟩ := hv
          refine wpAny_list_append_plain (S11.plain 2 rfl) (fun h12 hl12 hs12 => ?_) (by rw [List.size_toArray]; have := sizeLine_big; lia)
          refine e02 (S11.setList 2 rfl hs12 hl12) fun S12 im12 => ?_
          refine ⟨k' - 1, by lia, j + 1, ys ++ [v], ow11, h12, tk11, m10, by lia, by rw [List.length_append]; simp; exact Nat.succ_le_succ (by assumption), by assumption, rfl, ((((im8.tr im9).tr im10).tr im11).tr im12), hmx10, ?_, mono _ _ _ _ _ im12 hΦ11⟩
          have e : ys.toArray.push v = (ys ++ [v]).toArray := by simp
          (refine (e ..) ▸ ?_); exact S12
        · have hje : j = zs.length := by lia
          subst hje
          refine IT2.stop _ _ _ hito2 so8.2 (fun h9 tk9 hs' => ?_)
          refine e02 (S8.lose List.not_mem_nil hs') fun S9 im9 => ?_
          exact ⟨rfl, k - 1, by lia, i + 1, ys, ow', h9, tk9, m, by lia, by exact Nat.le_trans hyl2 (Nat.le_of_eq hi1.symm), by exact hlt, rfl, im8.tr im9, S9, by rw [hi1]; exact mono _ _ _ _ _ im9 hΦ8⟩
      exact compStart_two1 (loop2 _) (wpAny_pyIter_listiter (i := 0) (S7.lit 0 rfl) (loop2 _))
    · have hie : i = xs.length := by lia
      subst hie
      refine IT.stop _ _ _ hito so.1 (fun h' tk' hs' => ?_)
      try dsimp only
      have S5 : St B H [] ((it, litP a xs.length) :: (D, listP ys.toArray) :: (C, nsP m) :: ow') h := by
        refine ⟨S4.kb, S4.base, fun p hp => S4.own p ?_, fun p hp => S4.new p ?_, ?_, fun c hc => nomatch hc⟩
        · simp only [List.mem_cons] at hp ⊢; rcases hp with h | h | h | h <;> simp [h]
        · simp only [List.mem_cons] at hp ⊢; rcases hp with h | h | h | h <;> simp [h]
        · have := S4.nd
          simp only [List.map_cons, List.nodup_cons, List.mem_cons, not_or] at this ⊢
          exact ⟨⟨Ne.symm this.2.1.1, Ne.symm this.1.2.1, this.2.2.1⟩, ⟨Ne.symm this.1.1, this.2.1.2⟩, this.1.2.2, this.2.2.2⟩
      refine e02 (S5.lose List.not_mem_nil hs') fun S6 im6 => ?_
      have S7 := S6.swap
      show wpAny _ A (assign (.Name y py) env (.ref D)) _ _ _
      exact wpAny_assign_Name (fin ys ow' h' tk' C D m hDn (im.tr im6) S7 (mono _ _ _ _ _ im6 hΦ))
  exact codeAny_compStart_list (loop _ rfl) (wpAny_pyIter_listiter (i := 0) (S3.lit 2 rfl) (loop _ rfl))
end
section
variable {prog : Program} {w : World} {A : Around} {E : Value → Shared → Prop} {s : Shared}
theorem list_no_keys : typeLookup (.type "list") (Str.ofString "keys") = pure none := by rw [typeLookup_type, builtinLookup_eq_fast]; kernel_rfl
theorem keys_miss {a : Addr} {xs : Array Value} {k : Nat} {Q : Option Value → Shared → Prop}
    (hx : s.heap.get? a = some { cls := .type "list", dict := none, data := .seq xs k, slots := #[] }) (hA : A.handled = none)
    (h : ∀ h' tk, Kp s.heap h' → Q none { s with heap := h', toks := tk }) :
    wpAny (model prog w) A (getAttr? (.ref a) (Str.ofString "keys")) Q E s := by
  obtain ⟨hp, g, d, tk, os⟩ := s
  have hT : ∀ tk', (⟨hp, g, d, tk', os⟩ : Shared).TypeIs (.ref a) "list" := fun _ => ⟨_, hx, rfl⟩
  have f1 := sub_AttributeError
  have f3 := PySem.F.slot_list_getattribute.lookup
  have f4 := PySem.F.slot_list_getattribute.bind (.ref a)
  have f5 := am_list_getattr_none
  have hmiss := list_no_keys
  unfold getAttr? getAttrBy? getAttrBy
  repeat (any_goals (first | assumption | exact hT _ | ((with_reducible show wpAny _ _ (call (Value.builtin "list.__getattribute__") _ _) _ _ _); refine call_meets PySem.F.slot_list_getattribute (hT _) am_entry_list_getattribute (PySem.F.args_list_getattribute_2 _ _) (meets_getattribute_miss_list a xs k #[] (Str.ofString "keys") _ hmiss (by decide) (by decide)) ⟨hx, hA, fun h' tk' e hx' => ?_⟩) | wp_step))
  refine e21 hx'.there fun t' u' he => ?_
  show wpAny _ _ (getattributeRaised _ _ _ _ _ _ _) _ _ _
  unfold getattributeRaised
  repeat (any_goals (first | assumption | wp_step))
  exact h _ _ hx'.keeps
end
theorem plain_dict_loop : plainId "dict.update.loop" = true := by decide +kernel
theorem entry_dict_loop : entryFor table "dict.update.loop" = some Builtin.«dict.update.loop» := entryFor_of_tree (by kernel_rfl)
noncomputable def KV (h : Heap) (kv : Str × Value) (p : Value) : Prop := ∃ c t, p = Value.ref c ∧ IsTup h c (List.toArray [.str kv.1 t, kv.2])
theorem KV.imm {h h' : Heap} (k : Imm h h') {kv : Str × Value} {p : Value} (x : KV h kv p) : KV h' kv p := let ⟨c, t, e, y⟩ := x; ⟨c, t, e, k _ _ y⟩
noncomputable def KVs (h : Heap) (kvs : List (Str × Value)) (ps : List Value) : Prop := ps.length = kvs.length ∧ ∀ (i : Nat) kv p, kvs[i]? = some kv → ps[i]? = some p → KV h kv p
theorem KVs.imm {h h' : Heap} (k : Imm h h') {kvs : List (Str × Value)} {ps : List Value} (x : KVs h kvs ps) : KVs h' kvs ps := ⟨x.1, fun i kv p a b => (x.2 i kv p a b).imm k⟩
section
variable {prog : Program} {w : World} {A : Around} {E : Value → Shared → Prop} {s : Shared}
theorem dict_loop {R : Result → Shared → Prop} (hh : A.handled = none) {D it l : Addr} {kvs : List (Str × Value)} {ps : List Value} (hDi : D ≠ it) (hDl : D ≠ l) (hli : l ≠ it) (hn : kvs.length ≤ 1000) :
    ∀ (m k : Nat) (s : Shared) (ii : Int), k + m = kvs.length → KVs s.heap kvs ps → s.heap.IsListIter it l k → s.heap.IsList l ps.toArray → s.heap.DictOf (strKind prog w) D (merged [] (kvs.take k)) →
    (∀ h' tk, h'.DictOf (strKind prog w) D (merged [] kvs) → (∀ b o, b ≠ D → b ≠ it → s.heap.get? b = some o → h'.get? b = some o) → R (.ok (.ret .none)) { s with heap := h', toks := tk }) →
    codeAny (model prog w) A (.builtin "dict.update.loop" ⟨[.ref D, .ref it, .int ii 0, .none], []⟩) R s := by
  have IT := itr_list (prog := prog) (w := w) (A := A.in1) hh it l ps
  intro m
  induction m with
  | zero =>
    intro k s ii hk hkv hit hl hd hR
    refine codeAny_builtin entry_dict_loop ?_
    rw [Around.under_plainId plain_dict_loop _]
    show wpAny _ A.in1 (pyNext (.ref it) >>= _) _ _ s
    have hkl : k = ps.length := by rw [hkv.1]; assumption
    subst hkl
    refine wpAny_bind (IT.stop _ _ _ (let ⟨o, e, r⟩ := hit; ⟨o, e, r⟩) hl (fun h' tk hx => ?_))
    show wpAny _ A.in1 (Builtin.Dict.addKeywords D [] >>= _) _ _ _
    refine wpAny_bind (wpAny_pure ?_)
    refine wpAny_pure ?_
    have hf : kvs.take ps.length = kvs := by rw [hkv.1]; exact List.take_length
    rw [hf] at hd
    exact hR h' tk (dictOf_kp hd fun o e => hx _ _ hDi e) (fun b o _ hb e => hx b o hb e)
  | succ m ih =>
    intro k s ii hk hkv hit hl hd hR
    refine codeAny_builtin entry_dict_loop ?_
    rw [Around.under_plainId plain_dict_loop _]
    show wpAny _ A.in1 (pyNext (.ref it) >>= _) _ _ s
    have hlt : k < ps.length := by rw [hkv.1]; lia
    obtain ⟨kv, hkvk⟩ : ∃ kv, kvs[k]? = some kv := ⟨_, List.getElem?_eq_getElem (by lia)⟩
    refine wpAny_bind (IT.item k _ _ _ hlt (let ⟨o, e, r⟩ := hit; ⟨o, e, r⟩) hl (fun x h1 tk1 hx hit1 hs1 => ?_))
    (refine e22 (hkv.2 k kv x hkvk hx) fun c t hq2 hct => ?_; subst hq2)
    have hci : c ≠ it := by
      rintro rfl
      obtain ⟨o, e, c1, _⟩ := hct
      obtain ⟨o', e', c2, _⟩ := hit
      rw [e] at e'; cases e'; rw [c1] at c2; exact absurd c2 (by decide)
    have hcD : c ≠ D := by
      rintro rfl
      obtain ⟨o, e, c1, _⟩ := hct
      obtain ⟨o', es, ep, e', hex, _⟩ := hd
      rw [e] at e'; cases e'; rw [hex.1] at c1; exact absurd c1 (by decide)
    have hct1 : IsTup h1 c (List.toArray [.str kv.1 t, kv.2]) := tup_at hct fun o e => hs1 _ _ hci e
    refine wpAny_bind (wpAny_holding ?_)
    refine wpAny_bind (wpAny_tryCatch ?_)
    unfold Builtin.Dict.pairItems
    obtain ⟨oc, ec, cc, nc, dc⟩ := id hct1
    refine wpAny_bind (wpAny_typeOf (T := "tuple") ⟨oc, ec, cc⟩ ?_)
    rw [if_pos (by decide)]
    refine wpAny_bind (wpAny_seqItems ec dc ?_)
    refine wpAny_pure ?_
    show wpAny _ A.in1 (holding [Value.str kv.1 t, kv.2] (dictSet D (.str kv.1 t) kv.2)) _ _ _
    refine wpAny_holding ?_
    have hd1 : h1.DictOf (strKind prog w) D (merged [] (kvs.take k)) := dictOf_kp hd fun o e => hs1 _ _ hDi e
    have hml : (merged [] (kvs.take k)).length ≤ k := by
      have : ∀ (more acc : List (Str × Value)), (merged acc more).length ≤ acc.length + more.length := by
        intro more
        induction more with
        | nil => intro acc; exact Nat.le_refl _
        | cons x more ih =>
          intro acc
          have h1 := ih (stored acc x.1 x.2)
          have h2 : (stored acc x.1 x.2).length ≤ acc.length + 1 := by unfold stored; split <;> simp
          show (merged (stored acc x.1 x.2) more).length ≤ _
          dsimp only [List.length_cons]; lia
      have h1 := this (kvs.take k) []
      rw [List.length_take] at h1
      simp at h1; lia
    refine wpAny_dictSet_pairs (knd := strKind prog w) (k := kv.1) (strKey kv.1 t) hd1 (fun h2 hd2 hs2 => ?_) (by have := sizeLine_big; lia)
    refine wpAny_pure ⟨plainId_quiet plain_dict_loop _, ?_⟩
    have hl1 : h1.IsList l ps.toArray := by (refine e12 hl fun o e r => ?_; clear hl); exact ⟨o, hs1 _ _ hli e, r⟩
    have hit1' : h1.IsListIter it l (k + 1) := let ⟨o, e, r⟩ := hit1; ⟨o, e, r⟩
    refine ih (k + 1) { s with heap := h2, toks := tk1 + 1 } (ii + 1) (by lia) ⟨hkv.1, fun i kv' p' a b => ?_⟩ (let ⟨o, e, r⟩ := hit1'; ⟨o, hs2.extBut _ _ hDi.symm e, r⟩) (let ⟨o, e, r⟩ := hl1; ⟨o, hs2.extBut _ _ hDl.symm e, r⟩)
      (by rw [merged_take_succ _ _ _ _ hkvk]; exact hd2) (fun h3 tk3 hd3 hk3 => hR h3 tk3 hd3 (fun b o hb hb2 e => hk3 b o hb hb2 (hs2.extBut _ _ hb (hs1 _ _ hb2 e))))
    refine e22 (hkv.2 i kv' p' a b) fun c' t' e1 e2 => ?_
    refine ⟨c', t', e1, tup_at e2 fun o e => hs2.extBut _ _ (fun q => ?_) (hs1 _ _ (fun q => ?_) e)⟩
    · subst q
      obtain ⟨o, e, c1, _⟩ := e2
      obtain ⟨o', es, ep, e', hex, _⟩ := hd
      rw [e] at e'; cases e'; rw [hex.1] at c1; exact absurd c1 (by decide)
    · subst q
      obtain ⟨o, e, c1, _⟩ := e2
      obtain ⟨o', e', c2, _⟩ := hit
      rw [e] at e'; cases e'; rw [c1] at c2; exact absurd c2 (by decide)

set_option maxHeartbeats 4000000 in
/-- dict(a list of pairs) -/
theorem dict_pairs {l : Addr} {kvs : List (Str × Value)} {ps : List Value} {Q : Value → Shared → Prop} (hh : A.handled = none) (hl : s.heap.PlainList l ps.toArray) (hkv : KVs s.heap kvs ps) (hn : kvs.length ≤ 1000)
    (h : ∀ h' tk, h'.DictOf (strKind prog w) s.heap.objs.size (merged [] kvs) → Kp s.heap h' → Q (.ref s.heap.objs.size) { s with heap := h', toks := tk }) :
    wpAny (model prog w) A (call (.type "dict") [.ref l]) Q E s := by
  refine callType_codes (Q₁ := fun obj s₁ => obj = .ref s.heap.objs.size ∧ s₁ = { s with heap := s.heap.push { cls := .type "dict", data := .dict #[] } }) PySem.F.kt_called_dict (PySem.F.kt_typeCall_dict_1 _) PySem.F.entry_dict_init (kt_code_dict_new _ ⟨rfl, rfl⟩) ?_
  intro obj s₁ hpz1; obtain ⟨rfl, rfl⟩ := hpz1
  have hnew : (s.heap.push { cls := .type "dict", data := .dict #[] }).DictOf (strKind prog w) s.heap.objs.size [] := Heap.DictOf.new s.heap
  (refine e11 hl fun n el => ?_; clear hl)
  have k0 : Kp s.heap (s.heap.push { cls := .type "dict", data := .dict #[] }) := Kp.push _ _
  have el' := k0 _ _ el
  have hlD : s.heap.objs.size ≠ l := fun q => absurd (Heap.lt_size el) (by rw [← q]; exact Nat.lt_irrefl _)
  have hDn : s.heap.get? s.heap.objs.size = none := Heap.get?_none_of_le (Nat.le_refl _)
  have hkv' := hkv.imm (Imm.kp k0)
  generalize (s.heap.objs.size : Addr) = D at *
  generalize s.heap.push { cls := .type "dict", data := .dict #[] } = h1 at *
  refine ⟨hnew.typeIs, PySem.F.args_dict_init_2 _ _, ?_⟩
  unfold Builtin.«dict.__init__»
  refine wpAny_bind ?_
  unfold Builtin.Dict.selfAndRest
  refine wpAny_bind (wpAny_notOrdered_dict hnew.typeIs ?_)
  show wpAny _ _ (pure (D, [Value.ref l])) _ _ _
  refine wpAny_pure ?_
  show wpAny _ _ (Builtin.Dict.updateFrom "dict.__init__" D (.ref l) [] .none) _ _ _
  unfold Builtin.Dict.updateFrom
  refine wpAny_bind (wpAny_typeOf (T := "list") ⟨_, el', rfl⟩ ?_)
  rw [if_pos (by decide)]
  refine wpAny_bind (keys_miss el' hh (fun h2 tk2 k2 => ?_))
  refine wpAny_ite_split (fun _ => ?_) (fun hq => absurd rfl hq)
  refine wpAny_bind (wpAny_rule ?_)
  have hl2 : h2.IsList l ps.toArray := ⟨_, k2 _ _ el', rfl, n, rfl⟩
  refine wpAny_bind (wpAny_pyIter_list (s := { s with heap := h2, toks := tk2 }) hl2 ?_)
  have k3 : Kp h2 (h2.push { cls := .type "list_iterator", data := .fields #[.ref l, .int 0 0] }) := Kp.push _ _
  have hlit : (h2.push { cls := .type "list_iterator", data := .fields #[.ref l, .int 0 0] }).IsListIter h2.objs.size l 0 := ⟨_, Heap.get?_push_size _ rfl, rfl, rfl⟩
  have hin : h2.get? h2.objs.size = none := Heap.get?_none_of_le (Nat.le_refl _)
  dsimp only
  generalize h2.push { cls := .type "list_iterator", data := .fields #[.ref l, .int 0 0] } = h3 at *
  generalize (h2.objs.size : Addr) = it at *
  have hd3 : h3.DictOf (strKind prog w) D [] := dictOf_kp hnew fun o e => k3 _ _ (k2 _ _ e)
  have hDit : D ≠ it := fun q => by
    obtain ⟨o, es, ep, e, _⟩ := hnew
    have := k2 _ _ e; rw [q, hin] at this; cases this
  have hlit' : l ≠ it := fun q => by have := k2 _ _ el'; rw [q, hin] at this; cases this
  refine wpAny_pure ⟨plainId_quiet plain_dict_loop _, ?_⟩
  refine dict_loop (A := A.in1) hh hDit hlD hlit' hn kvs.length 0 _ 0 (by simp) (hkv'.imm (Imm.kp (k2.tr k3))) hlit (let ⟨o, e, r⟩ := hl2; ⟨o, k3 _ _ e, r⟩) hd3 (fun h4 tk4 hd4 hk4 => ?_)
  refine ⟨rfl, h h4 tk4 hd4 (fun b o e => hk4 b o (fun q => by rw [q, hDn] at e; cases e) (fun q => ?_) (k3 _ _ (k2 _ _ (k0 _ _ e))))⟩
  have := k2 _ _ (k0 _ _ e); rw [q, hin] at this; cases this
end
theorem St.perm {B H h : Heap} {S : List Addr} {ow ow' : List (Addr × OP)} (x : St B H S ow h) (p : ow.Perm ow') : St B H S ow' h :=
  ⟨x.kb, x.base, fun q hq => x.own q (p.mem_iff.mpr hq), fun q hq => x.new q (p.mem_iff.mpr hq), (p.map _).nodup_iff.mp x.nd, fun b hb => (p.map _).mem_iff.mp (x.sub b hb)⟩
section
variable {prog : Program} {w : World} {A : Around} {E : Value → Shared → Prop} {s : Shared}
theorem dict_items {d : Addr} {kvs : List (Str × Value)} {Q : Value → Shared → Prop} (lo : (d == sysModules) = false) (hd : s.heap.DictOf (strKind prog w) d kvs)
    (h : ∀ h' v, Kp s.heap h' → h'.IsItemsView v d → Q (.ref v) { s with heap := h' }) : wpAny (model prog w) A (call (.builtin "dict.items") [.ref d]) Q E s :=
  call_meetsIn PySem.F.slot_dict_items hd.typeIs PySem.F.entry_dict_items (PySem.F.args_dict_items_1 _) (meets_dict_items (strKind prog w) d lo) ⟨⟨kvs, hd⟩, h _ _ (Kp.push _ _) ⟨_, Heap.get?_push_size _ rfl, rfl, rfl⟩⟩
theorem list_items {v d : Addr} {kvs : List (Str × Value)} {Q : Value → Shared → Prop} (hh : A.handled = none) (hv : s.heap.IsItemsView v d) (hd : s.heap.DictOf (strKind prog w) d kvs) (hn : kvs.length ≤ 1000)
    (h : ∀ h' tk c ps, Kp s.heap h' → s.heap.get? c = none → h'.PlainList c (List.toArray ps) → KVs h' kvs ps → Q (.ref c) { s with heap := h', toks := tk }) : wpAny (model prog w) A (call (.type "list") [.ref v]) Q E s := by
  (refine e31 hd fun o es ep r => ?_; clear hd)
  refine kdx_call (knd := strKind prog w) (kvs := kvs) (ep := ep) hh hv ⟨o, es, r⟩ (by have := sizeLine_big; exact Nat.le_trans hn (Nat.le_of_ble_eq_true rfl)) (fun h' tk acc c as hk hS hl hG hacc => ?_)
  refine h h' tk _ (as.map Value.ref) hk (Heap.get?_none_of_le (Nat.le_refl _)) ⟨c, by (refine Eq.symm (hS ..) ▸ ?_; refine (hacc ..) ▸ ?_; exact Eq.symm (Array.toArray_toList ..) ▸ rfl)⟩ ⟨by rw [List.length_map]; exact hl, fun i kv p e1 e2 => ?_⟩
  rw [List.getElem?_map] at e2
  (refine e12 (Option.map_eq_some_iff.mp e2) fun a ha hq2 => ?_; subst hq2)
  refine e33 (hG.pairs i a ha) fun key k x e3 e4 e5 => ?_
  rw [e1] at e3
  cases e3
  have e4' : Value.isStrOf k key = true := e4
  obtain ⟨t, rfl⟩ : ∃ t, key = .str k t := by
    cases key <;> simp [Value.isStrOf] at e4'
    subst e4'; exact ⟨_, rfl⟩
  exact ⟨a, t, rfl, _, e5, rfl, _, rfl⟩
theorem add_lists {l b : Addr} {xs ys : List Value} {Q : Value → Shared → Prop} (hl : s.heap.PlainList l xs.toArray) (hb : s.heap.PlainList b ys.toArray) (hn : xs.length + ys.length ≤ 100000)
    (h : ∀ h' c, Kp s.heap h' → s.heap.get? c = none → h'.PlainList c (xs ++ ys).toArray → Q (.ref c) { s with heap := h' }) : wpAny (model prog w) A (binaryOp .Add (.ref l) (.ref b)) Q E s := by
  (refine e11 hl fun n e => ?_; clear hl)
  (refine e11 hb fun n2 e2 => ?_; clear hb)
  refine PySem.P.add_list e e2 (h _ _ (Kp.push _ _) (Heap.get?_none_of_le (Nat.le_refl _)) ⟨0, ?_⟩) (by rw [List.size_toArray, List.size_toArray]; have := sizeLine_big; exact Nat.le_trans hn (Nat.le_of_ble_eq_true rfl))
  rw [Heap.get?_push_size _ rfl]
  congr 2
  simp
end
theorem Rows.keys {h : Heap} : ∀ {tab : Tab} {kvs : List (Str × Value)}, Rows h tab kvs → kvs.map (·.1) = tab.map (·.1.s)
  | [], [], _ => rfl
  | (o, t) :: r, (x, v) :: r', ⟨a, b, c⟩ => by rw [List.map_cons, List.map_cons, c.keys, a]
  | [], _ :: _, x => x.elim
  | _ :: _, [], x => x.elim
theorem nodup_s : ∀ {os : List Op}, os.Nodup → (os.map Op.s).Nodup
  | [], _ => List.nodup_nil
  | o :: os, h => by
    rw [List.map_cons, List.nodup_cons]
    have h' := List.nodup_cons.mp h
    refine ⟨fun q => ?_, nodup_s h'.2⟩
    refine e12 (List.mem_map.mp q) fun p hp e => ?_
    rw [Op.s_inj e] at hp; exact h'.1 hp
/-- the tables of _law_tables -/
noncomputable def tabsF (ts : List T) (os : List Op) : List Tab := os.foldl (fun found o => found.flatMap fun tab => ts.map fun t => tab ++ [(o, t)]) [[]]
theorem St.sublist {B H h : Heap} {ow ow' : List (Addr × OP)} (x : St B H [] ow h) (p : ow'.Sublist ow) : St B H [] ow' h :=
  ⟨x.kb, x.base, fun q hq => x.own q (p.subset hq), fun q hq => x.new q (p.subset hq), List.Nodup.sublist (p.map _) x.nd, fun b hb => nomatch hb⟩

noncomputable abbrev tabsStep (ts : List T) (o : Op) (found : List Tab) : List Tab := found.flatMap fun tab => ts.map fun t => tab ++ [(o, t)]
theorem tabsF_snoc (ts : List T) (os : List Op) (o : Op) : tabsF ts (os ++ [o]) = tabsStep ts o (tabsF ts os) := by
  unfold tabsF; rw [List.foldl_append]; rfl
theorem tabsStep_len (ts : List T) (o : Op) (found : List Tab) : (tabsStep ts o found).length = found.length * ts.length := by
  induction found with
  | nil => simp [tabsStep]
  | cons a r ih =>
    have : tabsStep ts o (a :: r) = (ts.map fun t => a ++ [(o, t)]) ++ tabsStep ts o r := by simp [tabsStep]
    (refine Eq.symm (this ..) ▸ ?_; refine Eq.symm (List.length_append ..) ▸ ?_; refine Eq.symm (ih ..) ▸ ?_; refine Eq.symm (List.length_map ..) ▸ ?_; refine Eq.symm (List.length_cons ..) ▸ ?_; refine Eq.symm (Nat.succ_mul ..) ▸ ?_); lia
theorem tabsStep_at {ts : List T} {o : Op} : ∀ {found : List Tab} {i j : Nat} {tab : Tab} {t : T}, found[i]? = some tab → ts[j]? = some t → (tabsStep ts o found)[i * ts.length + j]? = some (tab ++ [(o, t)])
  | [], i, j, tab, t, h1, _ => by simp at h1
  | a :: r, i, j, tab, t, h1, h2 => by
    have e : tabsStep ts o (a :: r) = (ts.map fun t => a ++ [(o, t)]) ++ tabsStep ts o r := by simp [tabsStep]
    have hj : j < ts.length := (List.getElem?_eq_some_iff.mp h2).1
    rw [e]
    cases i with
    | zero =>
      cases h1
      rw [List.getElem?_append_left (by rw [List.length_map]; simp [*]), List.getElem?_map]
      simp [h2]
    | succ i =>
      rw [List.getElem?_append_right (by rw [List.length_map, Nat.succ_mul]; lia), List.length_map]
      have : (i + 1) * ts.length + j - ts.length = i * ts.length + j := by rw [Nat.succ_mul]; lia
      rw [this]
      exact tabsStep_at (by simpa using h1) h2
theorem tabs_keys {ts : List T} : ∀ (os : List Op) (acc : List Tab) (base : List Op), (∀ tab ∈ acc, tab.map (·.1) = base) → ∀ tab ∈ os.foldl (fun found o => tabsStep ts o found) acc, tab.map (·.1) = base ++ os
  | [], acc, base, h, tab, ht => by rw [List.append_nil]; exact h tab ht
  | o :: os, acc, base, h, tab, ht => by
    have := tabs_keys os (tabsStep ts o acc) (base ++ [o]) (fun tab' ht' => by
      refine e12 (List.mem_flatMap.mp ht') fun t0 h0 h1 => ?_
      obtain ⟨t, _, rfl⟩ := List.mem_map.mp h1
      rw [List.map_append, h t0 h0]; rfl) tab ht
    rw [this]; simp
theorem tabsF_keys {ts : List T} {os : List Op} : ∀ tab ∈ tabsF ts os, tab.map (·.1) = os := fun tab h => by
  have := tabs_keys (ts := ts) os [[]] [] (by simp) tab h
  simpa using this

noncomputable def FoundIn (prog : Program) (w : World) (rest : List (Addr × OP)) (h : Heap) : List Tab → List Value → Prop
  | [], vs => vs = []
  | tab :: tabs, vs => X3 fun d kvs r => C5 (vs = Value.ref d :: r) ((d == sysModules) = false) ((d, dictP (strKind prog w) kvs) ∈ rest) (Rows h tab kvs) (FoundIn prog w rest h tabs r)
section
variable {prog : Program} {w : World}
theorem FoundIn.imm {rest : List (Addr × OP)} {h h' : Heap} (k : Imm h h') : ∀ {tabs : List Tab} {vs : List Value}, FoundIn prog w rest h tabs vs → FoundIn prog w rest h' tabs vs
  | [], _, e => e
  | _ :: _, _, ⟨d, kvs, r, e, a, b, c, f⟩ => ⟨d, kvs, r, e, a, b, c.imm k, f.imm k⟩
theorem FoundIn.more {rest rest' : List (Addr × OP)} {h : Heap} (k : ∀ p ∈ rest, p ∈ rest') : ∀ {tabs : List Tab} {vs : List Value}, FoundIn prog w rest h tabs vs → FoundIn prog w rest' h tabs vs
  | [], _, e => e
  | _ :: _, _, ⟨d, kvs, r, e, a, b, c, f⟩ => ⟨d, kvs, r, e, a, k _ b, c, f.more k⟩
theorem FoundIn.length {rest : List (Addr × OP)} {h : Heap} : ∀ {tabs : List Tab} {vs : List Value}, FoundIn prog w rest h tabs vs → vs.length = tabs.length
  | [], _, e => by rw [show _ = [] from e]; rfl
  | _ :: _, _, ⟨d, kvs, r, e, a, b, c, f⟩ => by rw [e, List.length_cons, List.length_cons, f.length]
theorem FoundIn.at {rest : List (Addr × OP)} {h : Heap} : ∀ {tabs : List Tab} {vs : List Value} {i : Nat} {v : Value}, FoundIn prog w rest h tabs vs → vs[i]? = some v →
    X3 fun tab d kvs => C5 (tabs[i]? = some tab) (v = Value.ref d) ((d == sysModules) = false) ((d, dictP (strKind prog w) kvs) ∈ rest) (Rows h tab kvs)
  | [], _, i, v, x, e => by rw [show _ = [] from x] at e; simp at e
  | tab :: tabs, _, i, v, ⟨d, kvs, r, e', a, b, c, f⟩, e => by
    subst e'
    cases i with
    | zero => cases e; exact ⟨tab, d, kvs, rfl, rfl, a, b, c⟩
    | succ i => exact f.at (i := i) e
theorem FoundIn.snoc {rest : List (Addr × OP)} {h : Heap} {d : Addr} {kvs : List (Str × Value)} {tab : Tab} (a : (d == sysModules) = false) (b : (d, dictP (strKind prog w) kvs) ∈ rest) (c : Rows h tab kvs) :
    ∀ {tabs : List Tab} {vs : List Value}, FoundIn prog w rest h tabs vs → FoundIn prog w rest h (tabs ++ [tab]) (vs ++ [Value.ref d])
  | [], _, e => by rw [show _ = [] from e]; exact ⟨d, kvs, [], rfl, a, b, c, rfl⟩
  | _ :: _, _, ⟨d', kvs', r, e, a', b', c', f⟩ => by rw [e]; exact ⟨d', kvs', r ++ [Value.ref d], rfl, a', b', c', f.snoc a b c⟩
/-- a list of tables, not changed any more; they were not there in H -/
noncomputable def TabsAt (prog : Program) (w : World) (H h : Heap) : List Tab → List Value → Prop
  | [], vs => vs = []
  | tab :: tabs, vs => ∃ d r, C4 (vs = Value.ref d :: r) (H.get? d = none) (TabAt prog w h tab (.ref d)) (TabsAt prog w H h tabs r)
theorem FoundIn.tabsAt {B H : Heap} {ow rest : List (Addr × OP)} {h : Heap} (x : St B H [] ow h) (k : ∀ p ∈ rest, p ∈ ow) : ∀ {tabs : List Tab} {vs : List Value}, FoundIn prog w rest h tabs vs → TabsAt prog w H h tabs vs
  | [], _, e => e
  | _ :: _, _, ⟨d, kvs, r, e, a, b, c, f⟩ => ⟨d, r, e, ((x.new _ (k _ b)).2.resolve_right (fun q => nomatch q)), ⟨d, kvs, rfl, a, x.dictM (k _ b), c⟩, f.tabsAt x k⟩
theorem TabsAt.length {H h : Heap} : ∀ {tabs : List Tab} {vs : List Value}, TabsAt prog w H h tabs vs → vs.length = tabs.length
  | [], _, e => by rw [show _ = [] from e]; rfl
  | _ :: _, _, ⟨d, r, e, a, b, c⟩ => by rw [e, List.length_cons, List.length_cons, c.length]
theorem TabsAt.at {H h : Heap} : ∀ {tabs : List Tab} {vs : List Value} {i : Nat} {v : Value}, TabsAt prog w H h tabs vs → vs[i]? = some v → ∃ tab d, C4 (tabs[i]? = some tab) (v = Value.ref d) (H.get? d = none) (TabAt prog w h tab (.ref d))
  | [], _, i, v, x, e => by rw [show _ = [] from x] at e; simp at e
  | tab :: tabs, _, i, v, ⟨d, r, e', a, b, c⟩, e => by
    subst e'
    cases i with
    | zero => cases e; exact ⟨tab, d, rfl, rfl, a, b⟩
    | succ i => exact c.at (i := i) e
theorem KVs.snoc {h : Heap} {kvs : List (Str × Value)} {ps : List Value} {kv : Str × Value} {p : Value} (x : KVs h kvs ps) (y : KV h kv p) : KVs h (kvs ++ [kv]) (ps ++ [p]) := by
  refine ⟨by rw [List.length_append, List.length_append, x.1]; rfl, fun i a b e1 e2 => ?_⟩
  by_cases hi : i < kvs.length
  · rw [List.getElem?_append_left hi] at e1
    rw [List.getElem?_append_left (by rw [x.1]; exact hi)] at e2
    exact x.2 i a b e1 e2
  · have hlt := (List.getElem?_eq_some_iff.mp e1).1
    rw [List.length_append] at hlt
    have hi' : i = kvs.length := by simp at hlt; lia
    subst hi'
    rw [List.getElem?_append_right (Nat.le_refl _)] at e1
    rw [← x.1, List.getElem?_append_right (Nat.le_refl _)] at e2
    simp at e1 e2
    subst e1; subst e2; exact y
end
section
variable {prog : Program} {w : World} {B : Heap}
set_option maxHeartbeats 8000000 in
theorem tables_spec (W : Wd w B) {A : Around} {s : Shared} {R : Result → Shared → Prop} {nv b : Addr} {nms : List Op} {ts : List T} {zs : List Value} {n : Nat} (kb : Kp B s.heap) (hr : Room A (n + 3)) (hN : LeavesAt s.heap nv nms) (hT : s.heap.IsList b (List.toArray zs)) (hzs : RepL s.heap ts zs) (hnd : nms.Nodup) (hn2 : nms.length ≤ 2) (htl : ts.length ≤ 60)
    (hR : ∀ F vs h' tk, s.heap.get? F = none → Kp s.heap h' → h'.PlainList F (List.toArray vs) → TabsAt prog w s.heap h' (tabsF ts nms) vs → R (.ok (.ret (.ref F))) { s with heap := h', toks := tk }) :
    codeAny (model prog w) A (.call (.ref 234) ⟨[.ref nv, .ref b], []⟩) R s := by
  refine enterX (n := n + 2) (fun L => [("name", L + 1 + 1), ("terms", L + 1)]) (fun L => [(L, nsP (up nil0 "names" (.ref nv))), (L + 1 + 1, cellP none), (L + 1, cellP (some (.ref b)))]) W kb hr ?_
  intro L env h₁ tk EO hL S0 E'
  try dsimp only
  have hzl : zs.length = ts.length := hzs.length
  refine wpAny_execs_cons (cps (P := fun Q' => ∀ (h' : Heap) (tk' : Nat) (F D : Addr), (s.heap.get? F = none) → ((D == sysModules) = false) → (St B s.heap [] [(F, listP (List.toArray [Value.ref D])), (L, nsP (up (up nil0 "names" (.ref nv)) "found" (.ref F))), (L + 1 + 1, cellP none), (L + 1, cellP (some (.ref b))), (D, dictP (strKind prog w) [])] h') → Q' .next { s with heap := h', toks := tk' }) ?_ ?_)
  · intro K0 hK0
    refine wpAny_Assign_Name (list1 (wpAny_Dict_empty ?_))
    have S1 := S0.addPush (o := { cls := .type "dict", data := .dict #[] }) (p := dictP (strKind prog w) []) rfl dictP_new (nt_data fun _ _ q => by cases q)
    have hm := notMods W S0.kb
    have k1 : Kp h₁ (h₁.push { cls := .type "dict", data := .dict #[] }) := Kp.push _ _
    dsimp only
    generalize h₁.push { cls := .type "dict", data := .dict #[] } = h2 at *
    generalize (h₁.objs.size : Addr) = D at *
    have S2 := S1.addPush (o := { cls := .type "list", data := .seq (List.toArray [Value.ref D]) }) (p := listP (List.toArray [Value.ref D])) rfl ⟨0, rfl⟩ (listP.nt ⟨0, rfl⟩)
    have hFn : s.heap.get? h2.objs.size = none := by
      cases e : s.heap.get? h2.objs.size with
      | none => rfl
      | some o => exact absurd (Heap.lt_size (S1.kpH _ _ e)) (Nat.lt_irrefl _)
    generalize h2.push { cls := .type "list", data := .seq (List.toArray [Value.ref D]) } = h3 at *
    generalize (h2.objs.size : Addr) = F at *
    refine S2.storeL 2 rfl EO (fun h4 S3 im3 => ?_)
    try dsimp only
    dsimp only [List.set_cons_zero, List.set_cons_succ] at S3
    refine hK0 h4 _ F D hFn hm (S3.perm ?_)
    try dsimp only
    exact ((List.Perm.swap _ _ _).trans (((List.Perm.swap _ _ _).trans ((List.Perm.swap _ _ _).cons _)).cons _)).cons _
  intro h2 tk2 F0 D0 hF0 hD0 S2
  dsimp only
  (refine e13 hN fun vsn hvl hvn hvo => ?_; clear hN)
  refine wpAny_execs_cons (forList B s.heap [] hr.hh (nameL EO (S2.ns 1 rfl) rfl ?_))
  try dsimp only
  have hvl2 : h2.IsList nv vsn.toArray := let ⟨o, e, r⟩ := hvl; ⟨o, S2.kpH _ _ e, r⟩
  refine ⟨nv, vsn, _, fun i ow h => X5 fun m F vs kv rest => C4 (ow = (F, listP (List.toArray vs)) :: (L, nsP m) :: (L + 1 + 1, cellP kv) :: (L + 1, cellP (some (.ref b))) :: rest) (s.heap.get? F = none) (m "found" = some (.ref F)) (FoundIn prog w rest h (tabsF ts (nms.take i)) vs),
    rfl, hvl2, S2, ?_, ?_, ?_, ?_, ?_⟩
  · intro i ow h h' im hpz1; (refine x5c4 hpz1 fun m F vs kv rest e e1 e2 r => ?_; clear hpz1)
    exact ⟨m, F, vs, kv, rest, e, e1, e2, r.imm im⟩
  · exact ⟨_, F0, [.ref D0], none, _, rfl, hF0, rfl, ⟨D0, [], [], rfl, hD0, .head _, trivial, rfl⟩⟩
  · intro i ow h it p im S hpz2; obtain ⟨m, F, vs, kv, rest, rfl, _⟩ := hpz2
    exact let ⟨o, e, r⟩ := hvl; ⟨o, S.kpH _ _ e, r⟩
  · intro i ow h tk itf pf x hx im S3 hlit hpz3; (refine x5c4 hpz3 fun m F vs kv rest hq5 hFn hmf hfound => ?_; subst hq5; clear hpz3)
    have hil : i < nms.length := by have := (List.getElem?_eq_some_iff.mp hx).1; exact Nat.lt_of_lt_of_le this (Nat.le_of_eq hvn)
    obtain ⟨o, ho⟩ : ∃ o, nms[i]? = some o := ⟨_, List.getElem?_eq_getElem hil⟩
    refine e11 (hvo i o ho) fun to ho' => ?_
    have hxe : x = Value.str o.s to := by rw [hx] at ho'; exact Option.some.inj ho'
    subst hxe
    refine wpAny_pure (wpAny_assign_Name (S3.storeC 3 rfl EO (fun h4 S4 im4 => ?_)))
    refine hide (fun K1 hK1 => ?_)
    dsimp only [List.set_cons_zero, List.set_cons_succ] at S4
    have hf4 := hfound.imm im4
    have htake : nms.take (i + 1) = nms.take i ++ [o] := by rw [List.take_add_one, ho]; rfl
    have hkeys := tabsF_keys (ts := ts) (os := nms.take i)
    have hon : o ∉ nms.take i := by
      have := hnd
      rw [← List.take_append_drop (i + 1) nms, htake, List.append_assoc, List.nodup_append] at this
      intro q
      exact this.2.2 _ q _ (by simp) rfl
    have hndt : (nms.take i).Nodup := List.Nodup.sublist (List.take_sublist _ _) hnd
    generalize hF : tabsF ts (nms.take i) = found at *
    have hfl : found.length ≤ 60 := by
      rw [← hF]
      have h2 : i = 0 ∨ i = 1 := by lia
      rcases h2 with rfl | rfl
      · simp [tabsF]
      · obtain ⟨o1, ho1⟩ : ∃ o1, nms.take 1 = [] ++ [o1] := by
          cases nms with
          | nil => simp at hil
          | cons a r => exact ⟨a, rfl⟩
        rw [ho1, tabsF_snoc, tabsStep_len]
        simp [tabsF]; simp [*]
    have hvsl := hf4.length
    have hprod : vs.length * zs.length ≤ 5000 := by
      have : vs.length * zs.length ≤ 60 * 60 := Nat.mul_le_mul (by exact Nat.le_trans (Nat.le_of_eq hvsl) hfl) (by exact Nat.le_trans (Nat.le_of_eq hzl) htl)
      exact Nat.le_trans this (Nat.le_of_ble_eq_true rfl)
    refine wpAny_execs_cons (comp2Use B s.heap EO hr.hh (by decide) (nameL EO (S4.ns 2 rfl) hmf ?_))
    try dsimp only
    refine ⟨F, b, vs, zs, _, fun k ys ow h => ∃ nd, ow = (itf, pf) :: (F, listP (List.toArray vs)) :: (L, nsP m) :: (L + 1 + 1, cellP (some (.str o.s to))) :: (L + 1, cellP (some (.ref b))) :: (nd ++ rest) ∧
      FoundIn prog w (nd ++ rest) h found vs ∧ FoundIn prog w (nd ++ rest) h ((tabsStep ts o found).take k) ys, rfl, S4.list 1 rfl, hprod, S4, ?_, ⟨[], rfl, hf4, rfl⟩, ?_, ?_, ?_, ?_⟩
    · intro k ys ow h h' im hpz4; (refine e13 hpz4 fun nd e a c => ?_; clear hpz4)
      exact ⟨nd, e, a.imm im, c.imm im⟩
    · intro k ys pre ow h im S5 hpz5; obtain ⟨nd, rfl, _⟩ := hpz5
      refine ⟨?_, let ⟨o, e, r⟩ := hT; ⟨o, S5.kpH _ _ e, r⟩⟩
      obtain ⟨oF, eF, hpz10, _⟩ := S5.own (F, listP (List.toArray vs)) (List.mem_append_right _ (.tail _ (.head _))); obtain ⟨nF, rfl⟩ := hpz10
      exact ⟨_, eF, rfl, nF, rfl⟩
    · intro k ys ow h tk C D it m' q im S5 hpz6 EO'; obtain ⟨nd, rfl, _⟩ := hpz6
      exact nameC EO' (S5.cell 7 rfl) ⟨rfl, rfl⟩
    · intro i1 j1 ys ow h tk C D it it2 m' p' q' x z hx1 hz1 im hmx hmz S5 hpz7 EO'; (refine e13 hpz7 fun nd hq1 hfa hfb => ?_; subst hq1; clear hpz7)
      (refine x3c5 (hfa.at hx1) fun tab d kvs htab hq4 hdm hdmem hrows => ?_; subst hq4)
      refine e12 (hzs.at hz1) fun t ht hrep => ?_
      have hrep5 : Rep h t z := (hrep.imm (Imm.kp S5.kpH))
      have hdd : h.DictOf (strKind prog w) d kvs := S5.dictM (by simp [hdmem])
      have htk : tab.map (·.1) = nms.take i := hkeys tab (List.mem_of_getElem? htab)
      have hkl : kvs.length ≤ 2 := by
        rw [hrows.length]
        have := congrArg List.length htk
        rw [List.length_map, List.length_take] at this; lia
      refine hide (fun K2 hK2 => ?_)
      refine callB W S5.kb EO' bn_dict rfl (wpAny_BinOp (callB W S5.kb EO' bn_list rfl (methT PySem.F.plainAttrs_dict PySem.F.slot_dict_items PySem.F.type_dict_items (nameL EO' (S5.ns 1 rfl) hmx ⟨hdd.typeIs, nd_dict hdd, dict_items hdm hdd (fun h6 v6 (k6 : Kp h h6) hv6 => ?_)⟩))))
      try dsimp only
      have S6 := S5.kp k6
      have hdd6 := dictOf_kp hdd (fun o => k6 d o)
      refine list_items hr.hh hv6 hdd6 (by exact Nat.le_trans hkl (Nat.le_of_ble_eq_true rfl)) (fun h7 tk7 c7 ps (k7 : Kp h6 h7) hcn7 hpl7 hkv7 => ?_)
      have S7 := S6.kp k7
      dsimp only
      refine list1 (tup2 (nameC EO' (S7.cell 7 rfl) (nameL EO' (S7.ns 1 rfl) hmz ?_)))
      intro h8 c8 (k8 : Kp h7 h8) hc8
      have S8 := S7.kp k8
      dsimp only
      have k9 : Kp h8 (h8.push { cls := .type "list", data := .seq (List.toArray [Value.ref c8]) }) := Kp.push _ _
      have hpl9 : (h8.push { cls := .type "list", data := .seq (List.toArray [Value.ref c8]) }).PlainList h8.objs.size (List.toArray [Value.ref c8]) := ⟨0, Heap.get?_push_size _ rfl⟩
      generalize h8.push { cls := .type "list", data := .seq (List.toArray [Value.ref c8]) } = h9 at *
      generalize (h8.objs.size : Addr) = c9 at *
      have S9 := S8.kp k9
      have hpl7' : h9.PlainList c7 ps.toArray := let ⟨n, e⟩ := hpl7; ⟨n, k9 _ _ (k8 _ _ e)⟩
      have hpsl := hkv7.1
      refine add_lists hpl7' hpl9 (by simp; exact Nat.le_trans (Nat.le_trans (Nat.le_of_eq hpsl) hkl) (Nat.le_of_ble_eq_true rfl)) (fun h10 c10 (k10 : Kp h9 h10) hcn10 hpl10 => ?_)
      have S10 := S9.kp k10
      dsimp only
      have hkv10 : KVs h10 (kvs ++ [(o.s, z)]) (ps ++ [.ref c8]) := (hkv7.imm (Imm.kp ((k8.tr k9).tr k10))).snoc ⟨c8, to, rfl, Imm.kp (k9.tr k10) _ _ hc8⟩
      have hm10 := notMods W S10.kb
      have hn10 : h10.get? h10.objs.size = none := Heap.get?_none_of_le (Nat.le_refl _)
      refine dict_pairs hr.hh hpl10 hkv10 (by simp; exact Nat.le_trans hkl (Nat.le_of_ble_eq_true rfl)) (fun h11 tk11 hd11 (k11 : Kp h10 h11) => ?_)
      dsimp only at hd11 hm10 hn10 ⊢
      generalize (h10.objs.size : Addr) = d11 at *
      have hnds : ((kvs ++ [(o.s, z)]).map (·.1)).Nodup := by
        rw [List.map_append, hrows.keys]
        have e : tab.map (·.1.s) = (nms.take i).map Op.s := by rw [← htk, List.map_map]; rfl
        rw [e]
        have := nodup_s (os := nms.take i ++ [o]) (by
          rw [List.nodup_append]
          exact ⟨hndt, by simp, fun a ha b hb => by simp at hb; subst hb; rintro rfl; exact hon ha⟩)
        simpa using this
      rw [merged_nil_of_nodup _ hnds] at hd11
      have S11 := S10.add hn10 k11 (let ⟨o, e, r⟩ := dictP_of.mp hd11; ⟨o, e, r, r.nt⟩)
      have kk : Kp h h11 := ((((k6.tr k7).tr k8).tr k9).tr k10).tr k11
      have hrows11 := (hrows.imm (Imm.kp kk)).snoc (o := o) (hrep5.imm (Imm.kp kk))
      refine hK2 _ _ ⟨h11, tk11, (itf, pf) :: (F, listP (List.toArray vs)) :: (L, nsP m) :: (L + 1 + 1, cellP (some (.str o.s to))) :: (L + 1, cellP (some (.ref b))) :: (((d11, dictP (strKind prog w) (kvs ++ [(o.s, z)])) :: nd) ++ rest), rfl, Imm.kp kk, S11.perm ?_, (d11, dictP (strKind prog w) (kvs ++ [(o.s, z)])) :: nd, rfl, (hfa.imm (Imm.kp kk)).more (fun p hp => .tail _ hp), ?_⟩
      try dsimp only
      · exact (List.perm_middle (l₁ := [(it2, p'), (C, nsP m'), (D, listP ys.toArray), (it, q'), (itf, pf), (F, listP (List.toArray vs)), (L, nsP m), (L + 1 + 1, cellP (some (.str o.s to))), (L + 1, cellP (some (.ref b)))]) (l₂ := nd ++ rest)).symm
      · have hta := tabsStep_at (o := o) htab ht
        rw [← hzl] at hta
        have e : (tabsStep ts o found).take (i1 * zs.length + j1 + 1) = (tabsStep ts o found).take (i1 * zs.length + j1) ++ [tab ++ [(o, t)]] := by
          rw [List.take_add_one, hta]; rfl
        rw [e]
        exact ((hfb.imm (Imm.kp kk)).more (fun p hp => .tail _ hp)).snoc hm10 (.head _) hrows11
    · intro ys ow h tk C D m' hDn im5 S5 hpz8; (refine e13 hpz8 fun nd hq1 hfa hfb => ?_; subst hq1; clear hpz8)
      refine S5.storeL 4 rfl EO (fun h6 S6 im6 => ?_)
      dsimp only [List.set_cons_zero, List.set_cons_succ] at S6
      refine ⟨m', S6.ns 0 rfl, fun h7 hs7 => ?_⟩
      try dsimp only
      refine e02 (S6.lose List.not_mem_nil hs7.extBut) fun S7 im7 => ?_
      have S8 := S7.swap
      have S9 : St B s.heap [] ((itf, pf) :: (D, listP ys.toArray) :: (L, nsP (up m "found" (.ref D))) :: (L + 1 + 1, cellP (some (.str o.s to))) :: (L + 1, cellP (some (.ref b))) :: (nd ++ rest)) h7 :=
        S8.sublist (((List.Sublist.cons _ (List.Sublist.refl _)).cons_cons _).cons_cons _)
      have hD' : s.heap.get? D = none := by
        cases e : s.heap.get? D with
        | none => rfl
        | some o => have := S4.kpH _ _ e; rw [hDn] at this; cases this
      refine wpAny_execs_nil (hK1 _ _ ⟨h7, _, _, rfl, ((im4.tr im5).tr im6).tr im7, S9, up m "found" (.ref D), D, ys, _, nd ++ rest, rfl, hD', rfl, ?_⟩)
      try dsimp only
      have hfull : (tabsStep ts o found).take (vs.length * zs.length) = tabsStep ts o found := by
        apply List.take_of_length_le
        rw [tabsStep_len, hvsl, hzl]; exact Nat.le_refl _
      rw [hfull] at hfb
      rw [htake, tabsF_snoc, hF]
      exact (hfb.imm (im6.tr im7))
  · intro ow h tk im S3 hpz9; obtain ⟨m, F, vs, kv, rest, rfl, hFn, hmf, hfound⟩ := hpz9
    have hfull : nms.take vsn.length = nms := by rw [hvn]; exact List.take_length
    rw [hfull] at hfound
    refine wpAny_execs_cons (wpAny_Return_some (nameL EO (S3.ns 1 rfl) hmf (hR F vs _ _ hFn S3.kpH (S3.plain 0 rfl) (hfound.tabsAt S3 (fun p hp => .tail _ (.tail _ (.tail _ (.tail _ hp))))))))
end
theorem St.rebase {B H h : Heap} {S : List Addr} {ow : List (Addr × OP)} (x : St B H S ow h) : St B h (ow.map (·.1)) ow h :=
  ⟨x.kb, fun _ _ _ e => e, x.own, fun p hp => ⟨(x.new p hp).1, .inr (List.mem_map.mpr ⟨p, hp, rfl⟩)⟩, x.nd, fun _ hb => hb⟩
theorem St.kpOf {B H h h' : Heap} {ow ow' : List (Addr × OP)} (x : St B H [] ow h) (y : St B h (ow.map (·.1)) ow' h') : Kp H h' := fun b o e =>
  y.base b o (x.notown e) (x.kpH _ _ e)
section
variable {prog : Program} {w : World} {A : Around} {s : Shared} {env : Env}
/-- for target in LIST -/
theorem forListE (B : Heap) {E : Value → Shared → Prop} {target iter : Expr} {body : List Stmt} {pos : Pos} {Q : Flow → Shared → Prop} (hh : A.handled = none)
    (h : wpAny (model prog w) A (eval iter env) (fun xv s₁ => X6 fun (H : Heap) (Ss : List Addr) (a : Addr) (xs : List Value) (ow : List (Addr × OP)) (Φ : Nat → List (Addr × OP) → Heap → Prop) => C8 (xv = .ref a) (s₁.heap.IsList a xs.toArray) (St B H Ss ow s₁.heap) ((∀ i ow' h h', Imm h h' → Φ i ow' h → Φ i ow' h')) (Φ 0 ow s₁.heap) ((∀ i ow' h it p, Imm s₁.heap h → St B H Ss ((it, p) :: ow') h → Φ i ow' h → h.IsList a xs.toArray)) ((∀ (i : Nat) (ow' : List (Addr × OP)) (h : Heap) (tk : Nat) (it : Addr) (p : OP) (x : Value), xs[i]? = some x → Imm s₁.heap h → St B H Ss ((it, p) :: ow') h → h.IsListIter it a (i + 1) → Φ i ow' h →
        wpAny (model prog w) A (letOwnedTupleGo target (.ref it) x) (fun _ s₁' => wpAny (model prog w) A (assign target env x) (fun _ s₂ =>
          wpAny (model prog w) A (execs body env) (TurnEnd B H Ss Φ Q s₁ it p i h) noE s₂) noE s₁') noE { s₁ with heap := h, toks := tk })) ((∀ ow' h tk, Imm s₁.heap h → St B H Ss ow' h → Φ xs.length ow' h → Q .next { s₁ with heap := h, toks := tk }))) E s)
    (hs : autoParam (∀ x, foldedSetIterable iter env x = pure x) aIRfl) :
    wpAny (model prog w) A (exec (.For target iter body [] pos) env) Q E s := by
  refine wpAny_For (wpAny_mono h (fun xv s₁ h₁ => ?_) fun _ _ e => e) hs
  obtain ⟨H, Ss, a, xs, ow, Φ, rfl, hl, S, mono, start, hsrc, turn, fin⟩ := h₁
  refine wpAny_pyIter_list hl ?_
  try dsimp only
  have hin : s₁.heap.get? s₁.heap.objs.size = none := Heap.get?_none_of_le (Nat.le_refl _)
  have S1 := S.addPush (o := { cls := .type "list_iterator", data := .fields #[.ref a, .int 0 0] }) (p := litP a 0) rfl ⟨rfl, rfl⟩ (nt_cls (show (Value.type "list_iterator") ≠ Value.type "tuple" by decide))
  have k1 : Kp s₁.heap (s₁.heap.push { cls := .type "list_iterator", data := .fields #[.ref a, .int 0 0] }) := Kp.push _ _
  refine for_core (s := { s₁ with heap := s₁.heap.push { cls := .type "list_iterator", data := .fields #[.ref a, .int 0 0] } }) (K := Q) Φ (itr_list hh s₁.heap.objs.size a xs) S1 (ext_notin S hin)
    mono (mono _ _ _ _ (Imm.kp k1) start) (fun i ow' h im S' hΦ => hsrc i ow' h _ _ ((Imm.kp k1).tr im) S' hΦ) ?_ ?_ (fun f s' x => x)
  · intro i ow' h tk x hi hx im S' hΦ
    exact turn i ow' h tk _ _ x hx ((Imm.kp k1).tr im) S' (S'.lit 0 rfl) hΦ
  · intro ow' h tk im S' hΦ
    exact fin ow' h tk ((Imm.kp k1).tr im) S' hΦ
end

section
variable {prog : Program} {w : World} {B : Heap}
noncomputable def DueOut (prog : Program) (w : World) (h : Heap) (p : T) (nms : List Op) (u : T) (rv : Value) : Prop := ∃ ts : List T, (∀ x, x ∈ ts ↔ x ∈ subs u) ∧
  ((rv = .none ∧ ∀ tab ∈ tabsF ts nms, lput tab p ≠ u) ∨ ∃ tab, tab ∈ tabsF ts nms ∧ TabAt prog w h tab rv ∧ lput tab p = u)
theorem lookup_mem' {o : Op} {u : T} {tab : Tab} (h : tab.lookup o = some u) : (o, u) ∈ tab := lookup_mem h
theorem wf_lput {tab : Tab} {m : Nat} (ht : ∀ x ∈ tab, Wf m x.2) : ∀ (n : Nat) (p : T), Wf n p → Wf (n + m) (lput tab p) := by
  intro n
  induction n with
  | zero => intro p h; exact h.elim
  | succ n ih =>
    intro p h
    obtain ⟨o, ks⟩ := p
    dsimp only [lput]
    cases hl : tab.lookup o with
    | some u => exact (ht _ (lookup_mem hl)).up (by exact Nat.le_add_left _ _)
    | none =>
      show Wf (n + 1 + m) (.nd o (lputs tab ks))
      rw [show n + 1 + m = (n + m) + 1 by lia, lputs_map]
      refine ⟨by rw [List.length_map]; exact h.1, fun k hk => ?_⟩
      try dsimp only
      (refine e12 (List.mem_map.mp hk) fun k' hk' hq2 => ?_; subst hq2)
      exact ih k' (h.2 k' hk')
theorem tabs_vals {ts : List T} : ∀ (os : List Op) (acc : List Tab), (∀ tab ∈ acc, ∀ x ∈ tab, x.2 ∈ ts) → ∀ tab ∈ os.foldl (fun found o => tabsStep ts o found) acc, ∀ x ∈ tab, x.2 ∈ ts
  | [], acc, h => h
  | o :: os, acc, h => tabs_vals os (tabsStep ts o acc) (fun tab ht x hx => by
      refine e12 (List.mem_flatMap.mp ht) fun t0 h0 h1 => ?_
      (refine e12 (List.mem_map.mp h1) fun t h2 hq2 => ?_; subst hq2)
      rcases List.mem_append.mp hx with hx | hx
      · exact h t0 h0 x hx
      · rw [List.mem_singleton.mp hx]; exact h2)
theorem tabsF_vals {ts : List T} {os : List Op} : ∀ tab ∈ tabsF ts os, ∀ x ∈ tab, x.2 ∈ ts := tabs_vals os [[]] (by simp)

set_option maxHeartbeats 8000000 in
theorem due_spec (W : Wd w B) {A : Around} {s : Shared} {R : Result → Shared → Prop} {pv nv tv : Value} {na : Addr} {p u : T} {nms : List Op} {n : Nat} (kb : Kp B s.heap) (hr : Room A (n + 4)) (hp : Rep s.heap p pv) (wp : Wf n p) (hnv : nv = .ref na) (hN : LeavesAt s.heap na nms) (hnd : nms.Nodup) (hn2 : nms.length ≤ 2)
    (hu : Rep s.heap u tv) (wu : Wf n u) (hn : n ≤ 20) (hus : u.size ≤ 60)
    (hR : ∀ rv h' tk, Kp s.heap h' → DueOut prog w h' p nms u rv → R (.ok (.ret rv)) { s with heap := h', toks := tk }) :
    codeAny (model prog w) A (.call (.ref 241) ⟨[pv, nv, tv], []⟩) R s := by
  subst hnv
  refine enterX (n := n + 3) (fun L => []) (fun L => [(L, nsP (up (up (up nil0 "pattern" pv) "names" (.ref na)) "t" tv))]) W kb hr ?_
  intro L env h₁ tk EO hL S1 E'
  try dsimp only
  have hu9 : (A.deeper (envX (Str.ofString "_law_due") default L 241 (Value.ref 240) [])).units + 64 < cLine := (hr.deeper (env := (envX (Str.ofString "_law_due") default L 241 (Value.ref 240) []))).units64
  refine wpAny_execs_cons (forListE B hr.hh (callF W S1.kb EO gn_tables kf_tables (nameL EO (S1.ns 0 rfl) rfl (callF W S1.kb EO gn_lparts kf_lparts (nameL EO (S1.ns 0 rfl) rfl ⟨S1.kb, lparts_spec W n u _ _ _ tv wu (by exact Nat.le_trans hn (Nat.le_of_ble_eq_true rfl)) (by exact Nat.le_trans hus (Nat.le_of_ble_eq_true rfl)) S1.kb (hr.deeper.mono (by simp)) (hu.imm (Imm.kp S1.kpH)) (fun r h2 tk2 (k2 : Kp h₁ h2) hout => ?_)⟩)))))
  try dsimp only
  (refine x3c7 hout fun Z zs ts hq3 hZn hZ hzs htn htm htl => ?_; subst hq3; clear hout)
  have S2 := S1.kp k2
  refine ⟨S2.kb, tables_spec W (n := n) (nms := nms) (ts := ts) (zs := zs) S2.kb (hr.deeper.mono (by simp)) (hN.of fun o e => S2.kpH _ _ e) hZ.isList hzs hnd hn2 (by exact Nat.le_trans htl hus) (fun F vs h3 tk3 hFn (k3 : Kp h2 h3) hF hvs => ?_)⟩
  try dsimp only
  have S3 : St B s.heap [] [(F, listP (List.toArray vs)), (L, nsP (up (up (up nil0 "pattern" pv) "names" (.ref na)) "t" tv))] h3 :=
    S2.add hFn k3 (let ⟨nn, e⟩ := hF; ⟨_, e, ⟨nn, rfl⟩, listP.nt ⟨nn, rfl⟩⟩)
  obtain ⟨oL, eL2, _⟩ := S2.get 0 rfl
  have hvl := hvs.length
  have hp3 := hp.imm (Imm.kp S3.kpH)
  have hu3 := hu.imm (Imm.kp S3.kpH)
  have nc : ∀ {ow : List (Addr × OP)} {h : Heap} {d : Addr}, St B h3 [F, L] ow h → h2.get? d = none → d ≠ F → ∀ o, h3.get? d = some o → h.get? d = some o := fun x hd hdF o e => by
    refine x.base _ _ (fun q => ?_) e
    simp only [List.mem_cons, List.not_mem_nil, or_false] at q
    rcases q with q | q
    · exact hdF q
    · rw [q, eL2] at hd; cases hd
  refine ⟨h3, [F, L], F, vs, _, fun i ow h => (∃ m, ow = [(F, listP (List.toArray vs)), (L, nsP m)] ∧ m "pattern" = some pv ∧ m "t" = some tv) ∧ ∀ tab ∈ (tabsF ts nms).take i, lput tab p ≠ u, rfl, hF.isList, S3.rebase, fun _ _ _ _ _ h => h, ⟨⟨_, rfl, rfl, rfl⟩, by simp⟩, ?_, ?_, ?_⟩
  try dsimp only
  · intro i ow h it q im S hpz1; obtain ⟨hpz2, _⟩ := hpz1; obtain ⟨m, rfl, _⟩ := hpz2
    exact S.list 1 rfl
  · intro i ow h tk it q x hx im S hlit hpz3; (refine e02 hpz3 fun hpz4 hno => ?_; clear hpz3); (refine e13 hpz4 fun m hq1 hmp hmt => ?_; subst hq1; clear hpz4)
    obtain ⟨tab, d, htab, rfl, hdn, hT3⟩ := hvs.at hx
    have hdF : d ≠ F := by
      rintro rfl
      obtain ⟨d', kvs, e, _, hpz7, _⟩ := hT3; obtain ⟨o, es, ep, eo, hex, _⟩ := hpz7
      cases e
      (refine e11 hF fun nn e' => ?_; clear hF)
      rw [eo] at e'; cases e'
      have := hex.1; exact absurd this (show Value.type "list" ≠ Value.type "dict" by decide)
    have hT : TabAt prog w h tab (.ref d) := by
      obtain ⟨d', kvs, e, lo, hd, hr⟩ := hT3
      cases e
      exact ⟨d, kvs, rfl, lo, dictOf_kp hd (nc S hdn hdF), hr.imm im⟩
    refine wpAny_pure (wpAny_assign_Name (S.storeL 2 rfl EO (fun h4 S4 im4 => ?_)))
    dsimp only [List.set_cons_zero, List.set_cons_succ] at S4
    have S4' : ∃ m', C4 (m' "pattern" = some pv) (m' "t" = some tv) (m' "table" = some (.ref d)) (St B h3 [F, L] [(it, q), (F, listP vs.toArray), (L, nsP m')] h4) := ⟨up m "table" (.ref d), hmp, hmt, rfl, S4⟩
    clear S4 hmp hmt
    obtain ⟨m', hmp, hmt, hmb, S4⟩ := S4'
    have hT4 : TabAt prog w h4 tab (.ref d) := by
      obtain ⟨d', kvs, e, lo, hd, hr⟩ := hT3
      cases e
      exact ⟨d, kvs, rfl, lo, dictOf_kp hd (nc S4 hdn hdF), hr.imm (im.tr im4)⟩
    have hp4 := hp3.imm (im.tr im4)
    have hu4 := hu3.imm (im.tr im4)
    have hwt : ∀ x ∈ tab, Wf n x.2 := fun x hx => subs_wf wu ((htm _).mp (tabsF_vals tab (List.mem_of_getElem? htab) x hx))
    refine wpAny_execs_cons (wpAny_If (wpAny_isTrue_Compare1 (callF W S4.kb EO gn_put kf_put (nameL EO (S4.ns 2 rfl) hmp (nameL EO (S4.ns 2 rfl) hmb ⟨S4.kb, put_spec W n p _ _ _ _ _ tab wp S4.kb (hr.deeper.mono (by simp)) hp4 hT4 (fun r h5 tk5 (k5 : Kp h4 h5) hrep => ?_)⟩)))))
    have S5 := S4.kp k5
    refine nameL EO (S5.ns 2 rfl) hmt ?_
    try dsimp only
    refine eq_trees hrep (hu4.imm (Imm.kp k5)) (wf_lput hwt n p wp) wu (by lia) (by exact Nat.le_trans hn (Nat.le_of_ble_eq_true rfl)) hu9 (fun b hb => wpAny_truthy_bool ?_)
    try dsimp only
    have htk : (tabsF ts nms).take (i + 1) = (tabsF ts nms).take i ++ [tab] := by rw [List.take_add_one, htab]; rfl
    cases b with
    | true =>
      refine ifT rfl (wpAny_execs_cons (wpAny_Return_some (nameL EO (S5.ns 2 rfl) hmb ?_)))
      exact hR _ _ _ (S3.kpOf S5) ⟨ts, htm, .inr ⟨tab, List.mem_of_getElem? htab, hT4.kp k5, hb.mp rfl⟩⟩
    | false =>
      refine ifF rfl (wpAny_execs_nil (wpAny_execs_nil ⟨h5, _, _, rfl, im4.tr (Imm.kp k5), S5, ⟨m', rfl, hmp, hmt⟩, fun tab' ht' => ?_⟩))
      rw [htk] at ht'
      rcases List.mem_append.mp ht' with ht' | ht'
      · exact hno tab' ht'
      · rw [List.mem_singleton.mp ht']
        exact fun e => by have := hb.mpr e; cases this
  · intro ow h tk im S hpz5; (refine e02 hpz5 fun hpz6 hno => ?_; clear hpz5); (refine e13 hpz6 fun m hq1 hmp hmt => ?_; subst hq1; clear hpz6)
    have hfull : (tabsF ts nms).take vs.length = tabsF ts nms := by rw [hvl]; exact List.take_length
    rw [hfull] at hno
    refine wpAny_execs_cons (wpAny_Return_some (wpAny_Constant_none ?_))
    exact hR _ _ _ (S3.kpOf S) ⟨ts, htm, .inl ⟨rfl, hno⟩⟩
end
theorem one_wf {los : List Op} : ∀ {d : Nat} {t : T}, One los d t → d ≤ 2 → Wf (d + 1) t
  | 0, .nd o ks, h, _ => by
    obtain ⟨_, rfl⟩ := h
    exact ⟨by simp, fun k hk => nomatch hk⟩
  | d + 1, .nd o ks, h, hd => by
    rcases h with ⟨_, rfl⟩ | ⟨_, h1, h2, h3⟩
    · exact ⟨by simp, fun k hk => nomatch hk⟩
    · exact ⟨by lia, fun k hk => one_wf (h3 k hk) (by exact Nat.le_of_lt (by assumption))⟩
theorem sum_le {α : Type} {f : α → Nat} {m : Nat} : ∀ {l : List α}, (∀ x ∈ l, f x ≤ m) → (l.map f).sum ≤ l.length * m
  | [], _ => by simp
  | a :: l, h => by
    have h1 := h a (.head _)
    have h2 := sum_le (f := f) (m := m) (fun x hx => h x (.tail _ hx))
    rw [List.map_cons, List.sum_cons, List.length_cons, Nat.succ_mul]; lia
theorem one_size0 {los : List Op} {t : T} (h : One los 0 t) : t.size ≤ 1 := by
  obtain ⟨o, ks⟩ := t
  obtain ⟨_, rfl⟩ := h
  rw [size_nd]; simp
theorem one_size1 {los : List Op} {t : T} (h : One los 1 t) : t.size ≤ 3 := by
  obtain ⟨o, ks⟩ := t
  rw [size_nd]
  rcases h with ⟨_, rfl⟩ | ⟨_, h1, h2, h3⟩
  · simp
  · have := sum_le (f := T.size) (m := 1) (fun x hx => one_size0 (h3 x hx))
    have h2' : ks.length ≤ 2 := h2
    lia
theorem one_size2 {los : List Op} {t : T} (h : One los 2 t) : t.size ≤ 10 := by
  obtain ⟨o, ks⟩ := t
  rw [size_nd]
  rcases h with ⟨_, rfl⟩ | ⟨_, h1, h2, h3⟩
  · simp
  · have := sum_le (f := T.size) (m := 3) (fun x hx => one_size1 (h3 x hx))
    have h2' : ks.length ≤ 3 := h2
    have : ks.length * 3 ≤ 3 * 3 := Nat.mul_le_mul_right _ h2'
    lia
theorem RepL.take {h : Heap} : ∀ {ts : List T} {vs : List Value} (i : Nat), RepL h ts vs → RepL h (ts.take i) (vs.take i)
  | [], _, i, x => by rw [RepL.nil_iff.mp x]; simp [RepL.nil_iff]
  | t :: ts, vs, 0, x => by simp [RepL.nil_iff]
  | t :: ts, vs, i + 1, x => by
    (refine e23 (RepL.cons_iff.mp x) fun v r hq2 a b => ?_; subst hq2)
    exact RepL.cons_iff.mpr ⟨v, r.take i, rfl, a, RepL.take i b⟩
theorem RepL.drop {h : Heap} : ∀ {ts : List T} {vs : List Value} (i : Nat), RepL h ts vs → RepL h (ts.drop i) (vs.drop i)
  | [], _, i, x => by rw [RepL.nil_iff.mp x]; simp [RepL.nil_iff]
  | t :: ts, vs, 0, x => x
  | t :: ts, vs, i + 1, x => by
    (refine e23 (RepL.cons_iff.mp x) fun v r hq2 a b => ?_; subst hq2)
    exact RepL.drop i b

section
variable {prog : Program} {w : World} {B : Heap}
set_option maxHeartbeats 8000000 in
theorem other_spec (W : Wd w B) : ∀ (n : Nat) (t : T) (A : Around) (s : Shared) (R : Result → Shared → Prop) (hd la : Addr) (c : Addr × List Value × Int) (a : Nat) (los : List Op) (v : Value), Wf n t → n ≤ 20 → Kp B s.heap → Room A (n + 6) → B.get? hd = none →
    HandAt prog w s.heap hd c a → a + 2 * n + 6 ≤ 80000 → la ≠ hd → LeavesAt s.heap la los → 1 ≤ los.length → los.length ≤ 9 → Rep s.heap t v →
    (∀ r u h' tk a', Heap.ExtBut hd s.heap h' → HandAt prog w h' hd c a' → a ≤ a' → a' ≤ a + 2 * n + 6 → Rep h' u r → Wf (n + 1) u → u.size ≤ t.size + 2 → R (.ok (.ret r)) { s with heap := h', toks := tk }) →
    codeAny (model prog w) A (.call (.ref 248) ⟨[.ref hd, v, .ref la], []⟩) R s := by
  intro n
  induction n with
  | zero => intro t A s R hd la c a los v hw; exact hw.elim
  | succ n ih =>
    intro t A s R hd la c a los v hw hn kb hr hB hH ha hla hL hl1 hl9 hp hR
    refine enterX (n := n + 6) (fun L => []) (fun L => [(L, nsP (up (up (up nil0 "hand" (.ref hd)) "t" v) "leaves" (.ref la)))]) W kb hr ?_
    intro L env h₁ tk EO hLn S0 E'
    (refine e02 hH fun hpz2 hst => ?_; clear hH); (refine e12 hpz2 fun oh eoh poh => ?_; clear hpz2)
    have S : St B s.heap [hd] [(hd, handP prog w c a), (L, nsP (up (up (up nil0 "hand" (.ref hd)) "t" v) "leaves" (.ref la)))] h₁ :=
      S0.claim hB (S0.notown eoh) (S0.kpH _ _ eoh) poh poh.nt
    have hp1 := hp.imm (Imm.kp S0.kpH)
    clear S0
    have hc1 : c.1 ∉ ([hd] : List Addr) := by simpa using hst.ne
    have hla1 : la ∉ ([hd] : List Addr) := by simpa using hla
    have hstAt : ∀ {ow h}, St B s.heap [hd] ow h → HandSt h hd c := fun S => hst.of fun o e => S.base _ _ hc1 e
    have hlAt : ∀ {ow h}, St B s.heap [hd] ow h → LeavesAt h la los := fun S => hL.of fun o e => S.base _ _ hla1 e
    have hAt : ∀ {ow h b}, St B s.heap [hd] ((hd, handP prog w c b) :: ow) h → HandAt prog w h hd c b := fun S => ⟨let ⟨o, e, r, _⟩ := S.get 0 rfl; ⟨o, e, r⟩, hstAt S⟩
    have ext : ∀ {ow h}, St B s.heap [hd] ow h → Heap.ExtBut hd s.heap h := fun S x o hxo e => S.base x o (by simpa using hxo) e
    obtain ⟨op, ks⟩ := t
    (refine x3c3 (Rep.iff.mp hp1) fun ad tk0 vs hq3 ht hks => ?_; subst hq3)
    have hvl : vs.length = ks.length := hks.length
    have hk9 : ks.length ≤ 9 := hw.1
    -- the test
    refine wpAny_execs_cons (wpAny_If (wpAny_isTrue_BoolOp (wpAny_mono (Q := fun x s' => X3 fun (h' : Heap) (tk' : Nat) (b : Nat) => C6 (s' = { s with heap := h', toks := tk' }) (a ≤ b) (b ≤ a + 1) ((x = false → ks ≠ [])) (Imm h₁ h') (St B s.heap [hd] [(hd, handP prog w c b), (L, nsP (up (up (up nil0 "hand" (.ref hd)) "t" (.ref ad)) "leaves" (.ref la)))] h')) ?_ ?_ (fun _ _ x => x))))
    · refine wpAny_allTrue_Or_cons (wpAny_isTrue_Compare1 (callB W S.kb EO bn_len rfl (nameL EO (S.ns 1 rfl) rfl (len_tupL ht (by simp; exact Nat.le_trans (Nat.le_trans (Nat.le_of_eq hvl) hk9) (Nat.le_of_ble_eq_true rfl)) ?_))))
      refine wpAny_Constant_int (PyProof.Rows.eq_int (wpAny_truthy_bool ?_))
      dsimp only
      by_cases hk0 : ks = []
      · subst hk0
        have : vs = [] := by simpa using hvl
        subst this
        exact ifT rfl ⟨h₁, _, a, rfl, Nat.le_refl _, Nat.le_succ _, fun q => (by cases q), fun _ _ e => e, S⟩
      · have hkl : ks.length ≠ 0 := fun q => hk0 (List.length_eq_zero_iff.mp q)
        refine ifF (by rw [beq_eq_false_iff_ne]; simp; lia) ?_
        try dsimp only
        refine wpAny_allTrue_Or_cons (wpAny_isTrue_Compare1 (callF W S.kb EO gn_draw kf_draw (nameL EO (S.ns 1 rfl) rfl (wpAny_Constant_int ⟨S.kb, draw_spec W (n := n + 4) S.kb (hr.deeper.mono (by simp)) hB (hAt S) (by lia) (by decide) (by decide) (fun q t h' tk' hx hH' q0 q3 => ?_)⟩))))
        try dsimp only
        refine e02 (S.upd (p' := handP prog w c (a + 1)) 0 rfl hx (let ⟨o, e, r⟩ := hH'.1; ⟨o, e, r, r.nt⟩)) fun S2 im2 => ?_
        refine wpAny_Constant_int (PyProof.Rows.eq_int (wpAny_truthy_bool ?_))
        dsimp only
        by_cases hq : q = 0
        · exact ifT (by rw [hq]; rfl) ⟨h', _, a + 1, rfl, by simp, Nat.le_refl _, fun q => (by cases q), im2, S2⟩
        · exact ifF (by rw [beq_eq_false_iff_ne]; exact hq) (wpAny_allTrue_Or_nil ⟨h', _, a + 1, rfl, by simp, Nat.le_refl _, fun _ => hk0, im2, S2⟩)
    intro x s' hpz1; (refine x3c6 hpz1 fun h2 tk2 b hq3 hab hba hx0 im2 S2 => ?_; subst hq3; clear hpz1)
    cases x with
    | true =>
      refine ifT rfl (wpAny_execs_cons (wpAny_Return_some (callF W S2.kb EO gn_one kf_one (nameL EO (S2.ns 1 rfl) rfl (wpAny_Constant_int (nameL EO (S2.ns 1 rfl) rfl ?_))))))
      refine ⟨S2.kb, one_spec W 1 _ _ _ hd la c b los _ _ (by rfl) (by exact Nat.le_add_left _ _) S2.kb (hr.deeper.mono (by exact Nat.le_add_left _ _)) hB (hAt S2) (by have : six 1 = 6 := rfl; lia) hla (hlAt S2) hl1 hl9 (fun r t h3 tk3 a3 hx3 hH3 h31 h32 hrep hone => ?_)⟩
      refine e02 (S2.upd (p' := handP prog w c a3) 0 rfl hx3 (let ⟨o, e, r⟩ := hH3.1; ⟨o, e, r, r.nt⟩)) fun S3 im3 => ?_
      have : six 1 = 6 := rfl
      refine hR r t h3 tk3 a3 (ext S3) hH3 (by exact Nat.le_trans hab h31) (by lia) hrep ((one_wf hone (by exact Nat.le_add_left _ _)).up (by exact Nat.le_add_left _ _)) ?_
      have h1 := one_size1 hone
      have h2 := size_pos (T.nd op ks)
      exact Nat.le_trans h1 (Nat.le_of_ble_eq_true rfl)
    | false =>
      have hk0 := hx0 rfl
      have hkl : ks.length ≠ 0 := fun q => hk0 (List.length_eq_zero_iff.mp q)
      refine ifF rfl (wpAny_execs_nil ?_)
      have ht2 : IsTup h2 ad (List.toArray (Value.str op.s tk0 :: vs)) := im2 _ _ ht
      have hks2 := hks.imm im2
      have hbs : b ≤ 90000 := by lia
      refine wpAny_execs_cons (wpAny_Assign_Name (wpAny_BinOp (wpAny_Constant_int (callF W S2.kb EO gn_draw kf_draw (nameL EO (S2.ns 1 rfl) rfl ?_)))))
      refine wpAny_BinOp (callB W S2.kb EO bn_len rfl (nameL EO (S2.ns 1 rfl) rfl (len_tupL ht2 (by simp; exact Nat.le_trans (Nat.le_trans (Nat.le_of_eq hvl) hk9) (Nat.le_of_ble_eq_true rfl)) ?_)))
      refine wpAny_Constant_int (PyProof.Rows.sub_int ?_)
      dsimp only
      refine ⟨S2.kb, draw_spec W (n := n + 4) S2.kb (hr.deeper.mono (by simp)) hB (hAt S2) hbs (by simp; lia) (by simp; lia) (fun q t h3 tk3 hx hH' q0 q3 => ?_)⟩
      try dsimp only
      refine e02 (S2.upd (p' := handP prog w c (b + 1)) 0 rfl hx (let ⟨o, e, r⟩ := hH'.1; ⟨o, e, r, r.nt⟩)) fun S3 im3 => ?_
      refine PyProof.Rows.add_int ?_
      dsimp only
      obtain ⟨i, rfl⟩ : ∃ i : Nat, q = (i : Int) := ⟨q.toNat, by lia⟩
      have hil : i < ks.length := by simp at q3; exact Nat.lt_of_lt_of_le q3 (Nat.le_of_eq hvl)
      have e1 : (1 + (i : Int)) = ((i + 1 : Nat) : Int) := by lia
      refine storeL EO (S3.ns 1 rfl) (fun h4 hn4 hs4 => ?_)
      rw [e1] at hn4
      refine e02 (S3.setNs 1 rfl hs4 hn4) fun S4 im4 => ?_
      dsimp only [List.set_cons_zero, List.set_cons_succ] at S4
      have S4' : ∃ m, C5 (m "hand" = some (.ref hd)) (m "t" = some (.ref ad)) (m "leaves" = some (.ref la)) ((∃ tt, m "spot" = some (.int ((i + 1 : Nat) : Int) tt))) (St B s.heap [hd] [(hd, handP prog w c (b + 1)), (L, nsP m)] h4) :=
        ⟨_, by rfl, by rfl, by rfl, by exact ⟨_, rfl⟩, S4⟩
      clear S4
      obtain ⟨m, hmh, hmt, hml, hpz3, S4⟩ := S4'; (refine e11 hpz3 fun tt hms => ?_; clear hpz3)
      have im14 : Imm h2 h4 := im3.tr im4
      have ht4 : IsTup h4 ad (List.toArray (Value.str op.s tk0 :: vs)) := im14 _ _ ht2
      have hks4 := hks2.imm im14
      have hsz : (Value.str op.s tk0 :: vs).length ≤ sizeLine := by have := sizeLine_big; simp; lia
      dsimp only
      refine wpAny_execs_cons (wpAny_Return_some (wpAny_BinOp (wpAny_BinOp (sub_upto (nameL EO (S4.ns 1 rfl) hmt (nameL EO (S4.ns 1 rfl) hms ⟨ad, _, i + 1, tt, rfl, rfl, ht4, by simp; exact Nat.le_of_lt (Nat.lt_of_lt_of_le hil (Nat.le_of_eq hvl.symm)), hsz, fun h5 c5 tk5 (k5 : Kp h4 h5) hc5 => ?_⟩))))))
      try dsimp only
      have S5 := S4.kp k5
      refine tup1 (callF W S5.kb EO gn_other kf_other (nameL EO (S5.ns 1 rfl) hmh (Subscript_ (nameL EO (S5.ns 1 rfl) hmt (nameL EO (S5.ns 1 rfl) hms ?_)))))
      obtain ⟨ki, hki⟩ : ∃ ki, ks[i]? = some ki := ⟨_, List.getElem?_eq_getElem hil⟩
      refine e12 ((hks4.imm (Imm.kp k5)).get hki) fun vi hvi hri => ?_
      have ht5 := ht4.keeps k5
      have hsi : seqIndex? ((i + 1 : Nat) : Int) (Value.str op.s tk0 :: vs).length = some (i + 1) := by
        unfold seqIndex?
        have h1 : ¬ (((i + 1 : Nat) : Int) < 0) := by lia
        simp only [h1, if_false]
        have h2 : ((i + 1 : Nat) : Int).toNat = i + 1 := by rfl
        simp; lia
      refine tail_any (T := "tuple") (IsTup.typeIs ht5) slot_tuple_getitem.lookup (PyProof.Rows.getItem_tuple (j := i + 1) (x := vi) ht5 (by lia) (by lia) (by simpa using hsi) (by simpa using hvi) ?_) (by with_unfolding_all rfl)
      refine nameL EO (S5.ns 1 rfl) hml ?_
      refine ⟨S5.kb, ih ki _ _ _ hd la c (b + 1) los vi (hw.2 ki (List.mem_of_getElem? hki)) (by exact Nat.le_of_lt (by assumption)) S5.kb hr.deeper hB (hAt S5) (by lia) hla (hlAt S5) hl1 hl9 hri (fun r u h6 tk6 a6 hx6 hH6 ha6 hb6 hrep hwu hsu => ?_)⟩
      refine e02 (S5.upd (p' := handP prog w c a6) 0 rfl hx6 (let ⟨o, e, r⟩ := hH6.1; ⟨o, e, r, r.nt⟩)) fun S6 im6 => ?_
      dsimp only
      intro h7 c7 (k7 : Kp h6 h7) hc7
      have S7 := S6.kp k7
      refine add_tup (im6.tr (Imm.kp k7) _ _ hc5) hc7 (fun h8 c8 (k8 : Kp h7 h8) hc8 => ?_) (by simp; have := sizeLine_big; lia)
      have S8 := S7.kp k8
      have im48 : Imm h4 h8 := (((Imm.kp k5).tr im6).tr (Imm.kp k7)).tr (Imm.kp k8)
      refine sub_from (nameL EO (S8.ns 1 rfl) hmt (wpAny_BinOp (nameL EO (S8.ns 1 rfl) hms (wpAny_Constant_int (PyProof.Rows.add_int ?_)))))
      try dsimp only
      have e2 : (((i + 1 : Nat) : Int) + 1) = ((i + 1 + 1 : Nat) : Int) := by simp
      (refine Eq.symm (e2 ..) ▸ ?_)
      refine ⟨ad, _, i + 1 + 1, _, rfl, rfl, im48 _ _ ht4, by exact Nat.le_add_left _ _, by simp; exact Nat.le_trans hil (Nat.le_of_eq hvl.symm), hsz, fun h9 c9 tk9 (k9 : Kp h8 h9) hc9 => ?_⟩
      try dsimp only
      refine add_tup (Imm.kp k9 _ _ hc8) hc9 (fun h10 c10 (k10 : Kp h9 h10) hc10 => ?_) (by simp; have := sizeLine_big; lia)
      have S10 := (S8.kp k9).kp k10
      have kk : Kp h6 h10 := ((k7.tr k8).tr k9).tr k10
      have hks10 := hks4.imm ((im48.tr (Imm.kp k9)).tr (Imm.kp k10))
      have hlist : List.take (i + 1) (Value.str op.s tk0 :: vs) ++ [r] ++ List.drop (i + 1 + 1) (Value.str op.s tk0 :: vs) = Value.str op.s tk0 :: (vs.take i ++ [r] ++ vs.drop (i + 1)) := by simp
      rw [hlist] at hc10
      have hmem : ∀ k ∈ ks.take i ++ [u] ++ ks.drop (i + 1), Wf (n + 1) k := by
        intro k hk
        rcases List.mem_append.mp hk with hk | hk
        · rcases List.mem_append.mp hk with hk | hk
          · exact (hw.2 k (List.mem_of_mem_take hk)).up (Nat.le_succ _)
          · rw [List.mem_singleton.mp hk]; exact hwu
        · exact (hw.2 k (List.mem_of_mem_drop hk)).up (Nat.le_succ _)
      refine hR _ (.nd op (ks.take i ++ [u] ++ ks.drop (i + 1))) h10 tk9 a6 (ext S10) (hAt S10) (by exact Nat.le_trans (by assumption) (Nat.le_of_lt (by assumption))) (by lia) (Rep.iff.mpr ⟨c10, tk0, _, rfl, hc10, ((RepL.take i hks10).append (RepL.one (hrep.imm (Imm.kp kk)))).append (RepL.drop (i + 1) hks10)⟩) ⟨?_, hmem⟩ ?_
      try dsimp only
      · simp; lia
      · rw [size_nd, size_nd]
        have e : ks.map T.size = (ks.take i).map T.size ++ [ki.size] ++ (ks.drop (i + 1)).map T.size := by
          have : ks = ks.take i ++ [ki] ++ ks.drop (i + 1) := by
            have h1 : ks.take (i + 1) = ks.take i ++ [ki] := by rw [List.take_add_one, hki]; rfl
            rw [← h1, List.take_append_drop]
          conv => lhs; rw [this]
          simp
        rw [e]; simp; lia
end
section
variable {prog : Program} {w : World} {A : Around} {E : Value → Shared → Prop} {s : Shared} {env : Env}
theorem sub_upto_list {k : Nat} {c : Nat} {value : Expr} {pos p p' : Pos} {Q : Value → Shared → Prop} (h : wpAny (model prog w) A (eval value env) (fun v s₁ => ∃ a l, C4 (v = .ref a) (s₁.heap.IsList a (List.toArray l)) (l.length ≤ 100000) (∀ h' b tk, Kp s₁.heap h' → s₁.heap.get? b = none → h'.PlainList b (l.take k).toArray → Q (.ref b) { s₁ with heap := h', toks := tk })) E s) :
    wpAny (model prog w) A (eval (.Subscript value (.Slice none (some (.Constant (.int (k : Nat)) c p')) none p) pos) env) Q E s := by
  refine Subscript_ (wpAny_mono h (fun v s₁ x => ?_) fun _ _ x => x)
  obtain ⟨a, l, rfl, hl, hsz, hq⟩ := x
  refine wpAny_Slice (wpAny_evalPart_none (wpAny_evalPart_some (wpAny_Constant_int (wpAny_evalPart_none ?_))))
  refine tail_any (T := "list") (ops := [.ref s₁.heap.objs.size, .ref a]) ?_ slot_list_getitem.lookup ?_ (by with_unfolding_all rfl)
  · exact Heap.IsList.typeIs (s := { s₁ with heap := _, toks := _ }) (hl.push _)
  · refine wpAny_getItem_list_slice (lo := none) (hi := some (k : Int)) (st := none) (hl.push _) (Heap.IsSliceOf.new ..) .none (.int _ _) .none (by simp) ?_ (by rw [List.size_toArray]; have := sizeLine_big; exact Nat.le_trans hsz (Nat.le_of_ble_eq_true rfl))
    rw [slicePick_upto']
    refine hq _ _ _ ((Kp.push _ _).tr (Kp.push _ _)) (Heap.get?_none_of_le (by rw [Heap.size_push]; exact Nat.le_succ _)) ⟨0, Heap.get?_push_size _ rfl⟩
theorem ints_are : ∀ {vs : List Value}, (∀ v ∈ vs, ∃ i t, v = Value.int i t ∧ 0 ≤ i ∧ i < 20000) → ∃ ps : List (Int × Tok), vs = ps.map (fun p => Value.int p.1 p.2) ∧ ∀ p ∈ ps, 0 ≤ p.1 ∧ p.1 < 20000
  | [], _ => ⟨[], rfl, fun p hp => nomatch hp⟩
  | v :: vs, h => by
    (refine e23 (h v (.head _)) fun i t hq2 h1 h2 => ?_; subst hq2)
    (refine e12 (ints_are (fun u hu => h u (.tail _ hu))) fun ps hq1 hps => ?_; subst hq1)
    refine ⟨(i, t) :: ps, rfl, fun p hp => ?_⟩
    rcases List.mem_cons.mp hp with rfl | hp
    · exact ⟨h1, h2⟩
    · exact hps p hp
theorem sum_small {l : Addr} {vs : List Value} {Q : Value → Shared → Prop} (hh : A.handled = none) (hl : s.heap.IsList l vs.toArray) (hv : ∀ v ∈ vs, ∃ i t, v = Value.int i t ∧ 0 ≤ i ∧ i < 20000) (hn : vs.length ≤ 100000)
    (h : ∀ h' tk t' m, Kp s.heap h' → 0 ≤ m → Q (.int m t') { s with heap := h', toks := tk }) : wpAny (model prog w) A (call (.builtin "sum") [.ref l]) Q E s := by
  (refine e12 (ints_are hv) fun ps hq1 hps => ?_; subst hq1)
  have hat : ∀ i, 0 ≤ numAt ps.toArray i ∧ numAt ps.toArray i < 20000 := by
    intro i
    unfold numAt
    cases e : ps.toArray[i]? with
    | none => exact ⟨Int.le_refl _, by decide⟩
    | some p =>
      have hm : p ∈ ps := List.mem_of_getElem? (by simpa using e)
      exact hps p hm
  have hpre : ∀ n, 0 ≤ preSum (numAt ps.toArray) n ∧ preSum (numAt ps.toArray) n ≤ 20000 * n := by
    intro n
    induction n with
    | zero => exact ⟨Int.le_refl _, by simp [preSum]⟩
    | succ n ih => have := hat n; unfold preSum; constructor <;> lia
  have e : (ps.map fun p => Value.int p.1 p.2).toArray = intItems ps.toArray := by simp [intItems]
  rw [e] at hl
  refine sum_intList hh hl (fun j hj => ?_) (fun h' tk t' k => h h' tk t' _ k (hpre _).1)
  have h1 := hat j
  have h2 := hpre (j + 1)
  have hj' : j < 100000 := by simp at hj; rw [List.length_map] at hn; exact Nat.lt_of_lt_of_le hj hn
  unfold InLong
  refine ⟨⟨by lia, by lia⟩, by lia, by lia⟩

variable {B : Heap}
set_option maxHeartbeats 8000000 in
theorem hand_spec (W : Wd w B) {R : Result → Shared → Prop} {sa : Addr} {vs : List Value} {n : Nat} (kb : Kp B s.heap) (hr : Room A (n + 2)) (hl : s.heap.IsList sa vs.toArray) (hv : ∀ v ∈ vs, ∃ i t, v = Value.int i t) (hn : vs.length ≤ 1000)
    (hR : ∀ hd c h' tk, s.heap.get? hd = none → Kp s.heap h' → HandAt prog w h' hd c 0 → R (.ok (.ret (.ref hd))) { s with heap := h', toks := tk }) :
    codeAny (model prog w) A (.call (.ref 214) ⟨[.ref sa], []⟩) R s := by
  refine enterX (n := n + 1) (fun L => []) (fun L => [(L, nsP (up nil0 "script" (.ref sa)))]) W kb hr ?_
  intro L env h₁ tk EO hL S0 E'
  refine wpAny_execs_cons (wpAny_mono (Q := fun f s' => f = .next ∧ X4 fun (h' : Heap) (tk' : Nat) (D : Addr) (ys : List Value) => C5 (s' = { s with heap := h', toks := tk' }) (s.heap.get? D = none) (ys.length ≤ 40) ((∀ v ∈ ys, ∃ i t, v = Value.int i t)) (St B s.heap [] [(D, listP ys.toArray), (L, nsP (up (up nil0 "script" (.ref sa)) "cells" (.ref D)))] h')) ?_ ?_ (fun _ _ x => x))
  · refine compListUse B s.heap [] EO hr.hh (sub_upto_list (nameL EO (S0.ns 0 rfl) rfl ⟨sa, vs, rfl, let ⟨o, e, r⟩ := hl; ⟨o, S0.kpH _ _ e, r⟩, by exact Nat.le_trans hn (Nat.le_of_ble_eq_true rfl), fun h2 c2 tk2 (k2 : Kp h₁ h2) hcn hpl => ?_⟩))
    have S2 : St B s.heap [] [(c2, listP (List.toArray (vs.take 40))), (L, nsP (up nil0 "script" (.ref sa)))] h2 := S0.add hcn k2 (let ⟨n, e⟩ := hpl; ⟨_, e, ⟨n, rfl⟩, listP.nt ⟨n, rfl⟩⟩)
    have hl40 : (vs.take 40).length ≤ 40 := by rw [List.length_take]; lia
    refine ⟨c2, vs.take 40, _, fun i ys ow h => ow = [(c2, listP (List.toArray (vs.take 40))), (L, nsP (up nil0 "script" (.ref sa)))] ∧ ∀ v ∈ ys, ∃ i t, v = Value.int i t, rfl, hpl.isList, by exact Nat.le_trans hl40 (Nat.le_of_ble_eq_true rfl), S2, fun _ _ _ _ _ _ h => h, ⟨rfl, fun v hv => nomatch hv⟩, ?_, ?_, ?_⟩
    · intro i ys ow h C D it m p q im S hpz1; obtain ⟨rfl, _⟩ := hpz1
      exact S.list 3 rfl
    · intro i ys ow h tk C D it p m x hx im hC S hlit hpz2 EO'; (refine e02 hpz2 fun hq0 hys => ?_; subst hq0; clear hpz2)
      (refine e21 (hv x (List.mem_of_mem_take (List.mem_of_getElem? hx))) fun xi xt hq2 => ?_; subst hq2)
      refine wpAny_pure (wpAny_assign_Name (S.storeL 0 rfl EO' (fun h3 S3 im3 => ?_)))
      refine wpAny_tests_nil (ifT rfl ?_)
      refine callB W S3.kb EO' bn_int rfl (nameL EO' (S3.ns 0 rfl) rfl (call_int_int ?_))
      refine ⟨h3, _, _, _, rfl, im3, S3, rfl, fun v hv => ?_⟩
      rcases List.mem_append.mp hv with hv | hv
      · exact hys v hv
      · rw [List.mem_singleton.mp hv]; exact ⟨_, _, rfl⟩
    · intro ys ow h tk C D m hyl hDn im S hpz3; (refine e02 hpz3 fun hq0 hys => ?_; subst hq0; clear hpz3)
      refine S.storeL 3 rfl EO (fun h3 S3 im3 => ?_)
      refine ⟨m, S3.ns 0 rfl, fun h4 hs4 => ?_⟩
      refine e02 (S3.lose List.not_mem_nil hs4.extBut) fun S4 im4 => ?_
      refine ⟨rfl, h4, _, D, ys, rfl, ?_, by exact Nat.le_trans hyl hl40, hys, S4.sublist ((List.Sublist.cons _ (List.Sublist.refl _)).cons_cons _)⟩
      cases e : s.heap.get? D with
      | none => rfl
      | some o => have := S2.kpH _ _ e; rw [hDn] at this; cases this
  intro f s' hpz4; obtain ⟨rfl, h2, tk2, D, ys, rfl, hDn, hyl, hys, S2⟩ := hpz4
  refine wpAny_execs_cons (wpAny_Return_some (wpAny_Dict_walk (knd := strKind prog w) (by rfl) (by rfl) (by simp) (by decide) ?_))
  have k2 : Kp h2 (h2.push { cls := .type "dict", data := .dict #[] }) := Kp.push _ _
  have hnew : (h2.push { cls := .type "dict", data := .dict #[] }).DictOf (strKind prog w) h2.objs.size [] := Heap.DictOf.new h2
  have hdn : h2.get? h2.objs.size = none := Heap.get?_none_of_le (Nat.le_refl _)
  have S3 := S2.add (p := dictP (strKind prog w) []) hdn k2 (let ⟨o, e, r⟩ := dictP_of.mp hnew; ⟨o, e, r, r.nt⟩)
  dsimp only
  generalize h2.push { cls := .type "dict", data := .dict #[] } = h3 at *
  generalize (h2.objs.size : Addr) = hd at *
  have hsdn : s.heap.get? hd = none := by
    cases e : s.heap.get? hd with
    | none => rfl
    | some o => have := S2.kpH _ _ e; rw [hdn] at this; cases this
  refine pairTrees_cons_walk (Constant_str (nameL EO (S3.ns 2 rfl) rfl ?_))
  refine pairTrees_cons_walk (Constant_str (wpAny_Constant_int ?_))
  refine pairTrees_cons_walk (Constant_str (callB W S3.kb EO bn_sum rfl ?_))
  dsimp only
  refine compListE B s.heap [] EO hr.hh (nameL EO (S3.ns 2 rfl) rfl ⟨D, ys, _, fun i zs ow h => ow = [(hd, dictP (strKind prog w) []), (D, listP ys.toArray), (L, nsP (up (up nil0 "script" (.ref sa)) "cells" (.ref D)))] ∧ ∀ v ∈ zs, ∃ i t, v = Value.int i t ∧ 0 ≤ i ∧ i < 20000, rfl, S3.list 1 rfl, by exact Nat.le_trans hyl (Nat.le_of_ble_eq_true rfl), S3, fun _ _ _ _ _ _ h => h, ⟨rfl, fun v hv => nomatch hv⟩, ?_, ?_, ?_⟩)
  · intro i ys' ow h C D' it m p q im S hpz5; obtain ⟨rfl, _⟩ := hpz5
    exact S.list 4 rfl
  · intro i zs ow h tk C D' it p m x hx im hC S hlit hpz6 EO'; (refine e02 hpz6 fun hq0 hzs => ?_; subst hq0; clear hpz6)
    (refine e21 (hys x (List.mem_of_getElem? hx)) fun xi xt hq2 => ?_; subst hq2)
    refine wpAny_pure (wpAny_assign_Name (S.storeL 0 rfl EO' (fun h4 S4 im4 => ?_)))
    refine wpAny_tests_nil (ifT rfl ?_)
    refine wpAny_BinOp (nameL EO' (S4.ns 0 rfl) rfl (wpAny_Constant_int (PyProof.Rows.mod_int (by decide) ?_)))
    refine ⟨h4, _, _, _, rfl, im4, S4, rfl, fun v hv => ?_⟩
    rcases List.mem_append.mp hv with hv | hv
    · exact hzs v hv
    · rw [List.mem_singleton.mp hv]
      refine ⟨_, _, rfl, ?_, ?_⟩
      · rw [Int.fmod_eq_emod_of_nonneg _ (by simp)]; exact Int.emod_nonneg _ (by simp)
      · rw [Int.fmod_eq_emod_of_nonneg _ (by simp)]; have := Int.emod_lt_of_pos xi (show (0:Int) < 10007 by decide); lia
  · intro zs ow h tk D' hzl hD' im S hpz7; (refine e02 hpz7 fun hq0 hzs => ?_; subst hq0; clear hpz7)
    refine sum_small hr.hh (S.list 0 rfl) hzs (by exact Nat.le_trans (Nat.le_trans hzl hyl) (Nat.le_of_ble_eq_true rfl)) (fun h5 tk5 t5 mx (k5 : Kp h h5) hmx => ?_)
    have S5 := S.kp k5
    refine pairTrees_nil_walk ?_
    dsimp only
    have car : ∀ {vs : List (Value × Value)} (ta tb tc td : Tok), vs = [(Value.str "cells" ta, Value.ref D), (Value.str "at" tb, Value.int 0 td), (Value.str "mix" tc, Value.int mx t5)] → ∃ td', Carries (strKind prog w) vs [("cells", .ref D), ("at", .int 0 td'), ("mix", .int mx t5)] :=
      fun ta tb tc td e => by subst e; exact ⟨td, strKey _ ta, rfl, strKey _ tb, rfl, strKey _ tc, rfl, trivial⟩
    obtain ⟨td, hcar⟩ := car _ _ _ _ rfl
    refine ⟨_, hcar, S5.dict 1 rfl, fun h6 hd6 hs6 => ?_⟩
    rw [merged_nil_of_nodup _ (by simp; decide)] at hd6
    refine e02 (S5.setDict 1 rfl hs6.extBut hd6) fun S6 im6 => ?_
    have S7 : St B s.heap [] [(hd, dictP (strKind prog w) (handKvs D (0 : Nat) _ mx t5)), (D, listP ys.toArray), (L, nsP (up (up nil0 "script" (.ref sa)) "cells" (.ref D)))] h6 := S6.sublist (List.Sublist.cons _ (List.Sublist.refl _))
    obtain ⟨od, ed, pd, _⟩ := S7.get 0 rfl
    exact hR hd (D, ys, mx) h6 _ hsdn S7.kpH ⟨⟨od, ed, _, t5, pd⟩, S7.ne (i := 1) (j := 0) rfl rfl (by decide), S7.list 1 rfl, hys, hyl, hmx⟩
end
noncomputable def mixIs : Str ⊕ Int → Value → Bool
  | .inl x, v => Value.isStrOf x v
  | .inr i, v => Value.isInt i v
theorem mixIs_int {i : Int} {v : Value} (h : mixIs (.inr i) v = true) : ∃ t, v = .int i t := Value.isInt_shape h
theorem mixIs_str {x : Str} {v : Value} (h : mixIs (.inl x) v = true) : ∃ t, v = .str x t := Value.isStrOf_shape h
/-- keys that are texts or ints -/
noncomputable def mixKind (prog : Program) (w : World) : KeyKind prog w (Str ⊕ Int) where
  is := mixIs
  hash := fun k => match k with | .inl x => hashStr w x | .inr i => hashInt i
  inj := fun v a b ha hb => by
    cases a <;> cases b
    · rw [Value.isStrOf_inj v _ _ ha hb]
    · (refine e11 (mixIs_str ha) fun t hq1 => ?_; subst hq1); refine e11 (mixIs_int hb) fun u e => ?_; cases e
    · (refine e11 (mixIs_int ha) fun t hq1 => ?_; subst hq1); refine e11 (mixIs_str hb) fun u e => ?_; cases e
    · rw [Value.isInt_inj v _ _ ha hb]
  byValue := fun k v h => by
    cases k
    · (refine e11 (mixIs_str h) fun t hq1 => ?_; subst hq1); rfl
    · (refine e11 (mixIs_int h) fun t hq1 => ?_; subst hq1); rfl
  pyHash := fun {A E s k v Q} hv h => by
    cases k
    · (refine e11 (mixIs_str hv) fun t hq1 => ?_; subst hq1); exact wpAny_pyHash_str h
    · (refine e11 (mixIs_int hv) fun t hq1 => ?_; subst hq1); exact wpAny_pyHash_int h
  eqBool := fun {A E s a b u v Q} hu hv h => by
    cases a <;> cases b
    · (refine e11 (mixIs_str hu) fun t hq1 => ?_; subst hq1); (refine e11 (mixIs_str hv) fun t' hq1 => ?_; subst hq1)
      rename_i x y
      have e : decide ((Sum.inl x : Str ⊕ Int) = .inl y) = decide (x = y) := by simp
      rw [e] at h; exact wpAny_eqBool_str h
    · (refine e11 (mixIs_str hu) fun t hq1 => ?_; subst hq1); (refine e11 (mixIs_int hv) fun t' hq1 => ?_; subst hq1)
      rename_i x y
      unfold eqBool
      show wpAny _ _ (richCompare .Eq (Value.str x t) (Value.int y t') >>= _) Q E s
      refine wpAny_bind (EqMixed.eq_str_int (wpAny_truthy_bool (by simpa using h)))
    · (refine e11 (mixIs_int hu) fun t hq1 => ?_; subst hq1); (refine e11 (mixIs_str hv) fun t' hq1 => ?_; subst hq1)
      rename_i x y
      unfold eqBool
      show wpAny _ _ (richCompare .Eq (Value.int x t) (Value.str y t') >>= _) Q E s
      refine wpAny_bind (EqMixed.eq_int_str (wpAny_truthy_bool (by simpa using h)))
    · (refine e11 (mixIs_int hu) fun t hq1 => ?_; subst hq1); (refine e11 (mixIs_int hv) fun t' hq1 => ?_; subst hq1)
      rename_i x y
      have e : decide ((Sum.inr x : Str ⊕ Int) = .inr y) = decide (x = y) := by simp
      rw [e] at h; exact wpAny_eqBool_int h
  «strs» := fun k x t v h => by
    cases k with
    | inl y => exact (strKind prog w).«strs» y x t v h
    | inr i => refine e11 (mixIs_int h) fun u e => ?_; cases e
theorem ns_some_of {K : Frag} {h : Heap} {N : Addr} {mg : Str → Option Value} {n : Str} {v : Value} (X : K.In h) (G : h.Ns N mg) (e : nsIn K N n = some (some v)) : mg n = some v := by
  obtain ⟨o, es, ep, ho, hd, _, hf⟩ := G
  unfold nsIn at e
  split at e
  · rename_i c d es' n' sl q
    have := X _ _ q
    rw [ho] at this
    cases this
    cases hd
    split at e
    · rename_i en he
      cases e
      rw [← hf]
      unfold nsFind findBy
      rw [← Array.find?_toList, he]
      rfl
    · split at e <;> cases e
  · cases e
theorem bank_cls (w : World) : X12 fun nm q bs sn sub col dd k0 k1 k2 k3 k5 => (KK w).lookup 198 = some (excClassObj nm q 198 197 bs [.type "object"] true sn sub false col dd k0 k1 k2 k3 k5 "object.__new__") :=
  ⟨_, _, _, _, _, _, _, _, _, _, _, _, rfl⟩
theorem bank_nsOk (w : World) : nsOkIn (KK w) 197 = true := by kernel_rfl
/-- what stands in the class -/
structure BankNs (mN : Str → Option Value) : Prop where
  init : mN "__init__" = some (.ref 110)
  take : mN "take" = some (.ref 122)
  require : mN "require" = some (.ref 129)
  put : mN "put" = some (.ref 136)
  put_all : mN "put_all" = some (.ref 141)
  op : mN "op" = some (.ref 155)
  kids : mN "kids" = some (.ref 162)
  term : mN "term" = some (.ref 174)
  ga : mN "__getattribute__" = none
  gt : mN "__getattr__" = none
  sa : mN "__setattr__" = none
  nodes : mN "nodes" = none
  numbers : mN "numbers" = none
  weights : mN "weights" = none
  depths : mN "depths" = none
theorem bank_ns {w : World} {B h : Heap} (W : Wd w B) (kb : Kp B h) : ∃ mN, h.Ns 197 mN ∧ BankNs mN := by
  have X : (KK w).In h := W.kin.keeps kb
  have G : h.Ns 197 (h.nsMap 197) := .of_isNs (isNs_of_in X (bank_nsOk w))
  exact ⟨_, G, ⟨ns_some_of X G (by kernel_rfl), ns_some_of X G (by kernel_rfl), ns_some_of X G (by kernel_rfl), ns_some_of X G (by kernel_rfl), ns_some_of X G (by kernel_rfl), ns_some_of X G (by kernel_rfl), ns_some_of X G (by kernel_rfl), ns_some_of X G (by kernel_rfl),
    ns_none_of X G (by kernel_rfl), ns_none_of X G (by kernel_rfl), ns_none_of X G (by kernel_rfl), ns_none_of X G (by kernel_rfl), ns_none_of X G (by kernel_rfl), ns_none_of X G (by kernel_rfl), ns_none_of X G (by kernel_rfl)⟩⟩
theorem bank_at {w : World} {B h : Heap} (W : Wd w B) (kb : Kp B h) : X12 fun nm q bs sn sub col dd k0 k1 k2 k3 k5 => h.get? 198 = some (excClassObj nm q 198 197 bs [.type "object"] true sn sub false col dd k0 k1 k2 k3 k5 "object.__new__") := by
  refine x12c1 (bank_cls w) fun nm q bs sn sub col dd k0 k1 k2 k3 k5 e => ?_
  exact ⟨nm, q, bs, sn, sub, col, dd, k0, k1, k2, k3, k5, kb _ _ (W.kin _ _ e)⟩

/-- the addresses of a Bank -/
structure BK where
  b : Addr
  db : Addr
  nl : Addr
  nd : Addr
  wl : Addr
  dl : Addr
noncomputable abbrev BK.map (k : BK) : Str → Option Value := up (up (up (up nil0 "nodes" (.ref k.nl)) "numbers" (.ref k.nd)) "weights" (.ref k.wl)) "depths" (.ref k.dl)
/-- the object and its row of attributes -/
noncomputable def BankObj (h : Heap) (k : BK) : Prop := ∃ o, C6 (h.get? k.b = some o) (o.cls = .ref 198) ((∀ c, o.data ≠ .cls c)) (o.dict = some k.db) (k.db ≠ k.b) (h.Ns1 k.db k.map)
theorem BankObj.of {h h' : Heap} {k : BK} (x : BankObj h k) (h1 : ∀ o, h.get? k.b = some o → h'.get? k.b = some o) (h2 : ∀ o, h.get? k.db = some o → h'.get? k.db = some o) : BankObj h' k :=
  let ⟨o, e, a, b, c, d, n⟩ := x; ⟨o, h1 o e, a, b, c, d, n.at h2⟩
theorem BankObj.inst {h : Heap} {k : BK} (x : BankObj h k) : h.Inst k.b 198 k.map := let ⟨o, e, a, b, c, d, n⟩ := x; ⟨o, e, a, b, .inr ⟨_, c, d, n⟩⟩

section
variable {prog : Program} {w : World} {B : Heap} {A : Around} {E : Value → Shared → Prop} {s : Shared} {env : Env}
theorem noB {name : Str} (h : fastLookup "object" name = some none) : typeLookup (.type "object") name = pure none := by rw [typeLookup_type, builtinLookup_eq_fast, h]
theorem bank_attr (W : Wd w B) {k : BK} {name : Str} {v : Value} {expr : Bool} {Q : Value → Shared → Prop} (kb : Kp B s.heap) (I : BankObj s.heap k) (hn : ∀ mN, BankNs mN → mN name = none) (hv : k.map name = some v) (hq : Q v { s with toks := s.toks + 1 })
    (hB : autoParam (fastLookup "object" name = some none) aKr) (hh : autoParam (handedOut v = pure v) aRfl) :
    wpAny (model prog w) A (getAttr (.ref k.b) name expr) Q E s := by
  refine e12 (bank_ns W kb) fun mN G N => ?_
  refine x12c1 (bank_at W kb) fun nm q bs sn sub col dd k0 k1 k2 k3 k5 hC => ?_
  obtain ⟨hh', g, d, t, os⟩ := s
  exact load_attr hC G N.ga (hn _ N) (noB hB) I.inst hv hh hq
/-- self.name, self a local -/
theorem attrB {x name : Str} {xp pos : Pos} {k : BK} {m : Str → Option Value} {v : Value} {Q : Value → Shared → Prop} (W : Wd w B) (kb : Kp B s.heap) (EO : EnvOk env) (hns : s.heap.Ns env.locals m) (hm : m x = some (.ref k.b)) (I : BankObj s.heap k) (hn : ∀ mN, BankNs mN → mN name = none) (hv : k.map name = some v)
    (hq : Q v { s with toks := s.toks + 1 }) (hB : autoParam (fastLookup "object" name = some none) aKr) (hh : autoParam (handedOut v = pure v) aRfl)
    (hx : autoParam (env.kindOf x = some .local) aRfl) (hd : autoParam ((x == ("__debug__" : Str)) = false) aDec)
    (he : autoParam (eval (.Attribute (.Name x xp) name pos) env = (do
      let o ← eval (.Name x xp) env
      standAt pos.atName
      let r ← holding [o] (getAttr o name true)
      letTemporaryGo (.Name x xp) o r
      pure r)) aWu) :
    wpAny (model prog w) A (eval (.Attribute (.Name x xp) name pos) env) Q E s :=
  Attribute_Name_ (nameL EO hns hm (bank_attr W kb I hn hv hq hB hh) hx hd) he
theorem attrBC {x name : Str} {xp pos : Pos} {k : BK} {c : Addr} {v : Value} {Q : Value → Shared → Prop} (W : Wd w B) (kb : Kp B s.heap) (EO : EnvOk env) (hcell : s.heap.IsCell c (some (.ref k.b))) (I : BankObj s.heap k) (hn : ∀ mN, BankNs mN → mN name = none) (hv : k.map name = some v)
    (hq : Q v { s with toks := s.toks + 1 }) (hB : autoParam (fastLookup "object" name = some none) aKr) (hh : autoParam (handedOut v = pure v) aRfl)
    (hc : autoParam (env.cells.lookup x = some c) aRfl) (hx : autoParam (env.kindOf x = some .cell) aRfl) (hd : autoParam ((x == ("__debug__" : Str)) = false) aDec)
    (he : autoParam (eval (.Attribute (.Name x xp) name pos) env = (do
      let o ← eval (.Name x xp) env
      standAt pos.atName
      let r ← holding [o] (getAttr o name true)
      letTemporaryGo (.Name x xp) o r
      pure r)) aWu) :
    wpAny (model prog w) A (eval (.Attribute (.Name x xp) name pos) env) Q E s :=
  Attribute_Name_ (nameC EO hcell (bank_attr W kb I hn hv hq hB hh) hc hx hd) he
/-- o.name(args) with o a Bank -/
theorem methB {o : Expr} {name : Str} {apos pos : Pos} {args : List Expr} {pl : Sem Bool} {f : Addr} {k : BK} {Q : Value → Shared → Prop} (W : Wd w B) (hf : ∀ mN, BankNs mN → mN name = some (.ref f)) (hk : ∀ w, keepIn (KK w) (.ref f) = true)
    (h : wpAny (model prog w) A (eval o env) (fun ov s₁ => ov = .ref k.b ∧ Kp B s₁.heap ∧ BankObj s₁.heap k ∧
      argsWp (model prog w) A E env args (fun vs s₂ => Kp B s₂.heap ∧ codeAny (model prog w) A (.call (.ref f) ⟨.ref k.b :: vs, []⟩) (wants Q E) s₂) s₁) E s)
    (hsh : k.map name = none) (hfo : ∀ w, ∃ of, (KK w).lookup f = some of ∧ of.cls = .type "function")
    (hB : autoParam (fastLookup "object" name = some none) aKr)
    (he : autoParam (eval (.Call (.Attribute o name apos) args [] pos) env = (do
      let ov ← eval o env
      standAt apos.atName
      let (f, first) ← holding [ov] (getMethod ov name pl)
      callWith pos f first (backTo pos (starEach args env)) [])) aRfl) (hp : autoParam (args.all plainE = true) aRfl) :
    wpAny (model prog w) A (eval (.Call (.Attribute o name apos) args [] pos) env) Q E s := by
  refine MethodCall_ (pl := pl) (wpAny_mono h (fun ov s₁ h₁ => ?_) fun _ _ e => e) he
  (refine e04 h₁ fun hq0 kb I h₁ => ?_; subst hq0; clear h₁)
  refine e12 (bank_ns W kb) fun mN G N => ?_
  refine x12c1 (bank_at W kb) fun nm q bs sn sub col dd k0 k1 k2 k3 k5 hC => ?_
  refine e12 (hfo w) fun of eo hfc => ?_
  have hfo' := kb _ _ (W.kin _ _ eo)
  obtain ⟨hh', g, d, t, os⟩ := s₁
  refine method_of hC G N.ga N.gt (hf _ N) hfo' hfc (noB hB) I.inst hsh ?_
  refine callWithP (P := fun h => Kp B h) (fun h hk' => keeps_K (hk w) h (W.kin.keeps hk')) ?_ hp
  have key : ∀ {args : List Expr} {Q₁ Q₂ : List Value → Shared → Prop} {s : Shared}, (∀ vs s, Q₁ vs s → Q₂ vs s) → argsWp (model prog w) A E env args Q₁ s → argsWp (model prog w) A E env args Q₂ s := by
    intro args
    induction args with
    | nil => intro Q₁ Q₂ s i h; exact i _ _ h
    | cons e r ih => intro Q₁ Q₂ s i h; exact wpAny_mono h (fun v s₁ h₁ => ih (fun vs s => i _ s) h₁) fun _ _ x => x
  exact key (fun vs s h => ⟨h.1, wpAny_call h.2⟩) h₁
end
/-- numbers as values -/
noncomputable def IntsL : List Nat → List Value → Prop
  | [], vs => vs = []
  | n :: ns, vs => ∃ t r, vs = Value.int (n : Nat) t :: r ∧ IntsL ns r
theorem IntsL.length : ∀ {ns : List Nat} {vs : List Value}, IntsL ns vs → vs.length = ns.length
  | [], _, e => by rw [show _ = [] from e]; rfl
  | _ :: _, _, ⟨t, r, e, x⟩ => by rw [e, List.length_cons, List.length_cons, x.length]
theorem IntsL.at : ∀ {ns : List Nat} {vs : List Value} {i : Nat} {v : Value}, IntsL ns vs → vs[i]? = some v → ∃ n t, ns[i]? = some n ∧ v = Value.int (n : Nat) t
  | [], _, i, v, x, e => by rw [show _ = [] from x] at e; simp at e
  | n :: ns, _, i, v, ⟨t, r, e', x⟩, e => by
    subst e'
    cases i with
    | zero => cases e; exact ⟨n, t, rfl, rfl⟩
    | succ i => exact x.at (i := i) e
theorem IntsL.snoc : ∀ {ns : List Nat} {vs : List Value} {n : Nat} {t : Tok}, IntsL ns vs → IntsL (ns ++ [n]) (vs ++ [Value.int (n : Nat) t])
  | [], _, n, t, e => by rw [show _ = [] from e]; exact ⟨t, [], rfl, rfl⟩
  | _ :: _, _, n, t, ⟨t', r, e, x⟩ => by rw [e]; exact ⟨t', r ++ [Value.int (n : Nat) t], rfl, x.snoc⟩
/-- the numbers ns stand for the trees ks -/
noncomputable def Idx (ts : List T) : List T → List Nat → Prop
  | [], ns => ns = []
  | k :: ks, ns => ∃ n r, ns = n :: r ∧ ts[n]? = some k ∧ Idx ts ks r
theorem Idx.length {ts : List T} : ∀ {ks : List T} {ns : List Nat}, Idx ts ks ns → ns.length = ks.length
  | [], _, e => by rw [show _ = [] from e]; rfl
  | _ :: _, _, ⟨n, r, e, _, x⟩ => by rw [e, List.length_cons, List.length_cons, x.length]
theorem Idx.at {ts : List T} : ∀ {ks : List T} {ns : List Nat} {i : Nat} {n : Nat}, Idx ts ks ns → ns[i]? = some n → ∃ k, ks[i]? = some k ∧ ts[n]? = some k
  | [], _, i, n, x, e => by rw [show _ = [] from x] at e; simp at e
  | k :: ks, _, i, n, ⟨m, r, e', a, x⟩, e => by
    subst e'
    cases i with
    | zero => cases e; exact ⟨k, rfl, a⟩
    | succ i => exact x.at (i := i) e
theorem Idx.more {ts us : List T} : ∀ {ks : List T} {ns : List Nat}, Idx ts ks ns → Idx (ts ++ us) ks ns
  | [], _, e => e
  | _ :: _, _, ⟨n, r, e, a, x⟩ => ⟨n, r, e, by rw [List.getElem?_append_left (List.getElem?_eq_some_iff.mp a).1]; exact a, x.more⟩
theorem Idx.snoc {ts : List T} {k : T} {n : Nat} (h : ts[n]? = some k) : ∀ {ks : List T} {ns : List Nat}, Idx ts ks ns → Idx ts (ks ++ [k]) (ns ++ [n])
  | [], _, e => by rw [show _ = [] from e]; exact ⟨n, [], rfl, h, rfl⟩
  | _ :: _, _, ⟨m, r, e, a, x⟩ => by rw [e]; exact ⟨m, r ++ [n], rfl, a, x.snoc h⟩
/-- in a list that has each tree once, the numbers are told by the trees and the other way round -/
theorem Idx.inj {ts : List T} (nd : ts.Nodup) : ∀ {ks ls : List T} {ns : List Nat}, Idx ts ks ns → Idx ts ls ns → ks = ls
  | [], ls, ns, e, y => by
    rw [show ns = [] from e] at y
    cases ls with
    | nil => rfl
    | cons _ _ => obtain ⟨_, _, e', _⟩ := y; cases e'
  | k :: ks, ls, ns, ⟨n, r, e, a, x⟩, y => by
    subst e
    cases ls with
    | nil => cases (show _ = [] from y)
    | cons l ls =>
      obtain ⟨n', r', e', a', y⟩ := y
      cases e'
      rw [a] at a'; cases a'
      rw [Idx.inj nd x y]
theorem Idx.uniq {ts : List T} (nd : ts.Nodup) : ∀ {ks : List T} {ns ms : List Nat}, Idx ts ks ns → Idx ts ks ms → ns = ms
  | [], ns, ms, e, f => by rw [show ns = [] from e, show ms = [] from f]
  | k :: ks, ns, ms, ⟨n, r, e, a, x⟩, ⟨n', r', e', a', y⟩ => by
    rw [e, e', nodup_at nd a a', Idx.uniq nd x y]

/-- a Bank's trees: each once, the kids ahead -/
structure BankOk (ts : List T) : Prop where
  nd : ts.Nodup
  kids : ∀ (i : Nat) o ks, ts[i]? = some (T.nd o ks) → ks.length ≤ 9 ∧ ∀ k ∈ ks, ∃ j, j < i ∧ ts[j]? = some k
  size : ∀ t ∈ ts, t.size ≤ 1000
noncomputable def keyN (o : Op) (ns : List Nat) : List (Str ⊕ Int) := .inl o.s :: ns.map fun (n : Nat) => .inr (n : Int)
theorem keyN_inj {o p : Op} {ns ms : List Nat} (h : keyN o ns = keyN p ms) : o = p ∧ ns = ms := by
  unfold keyN at h
  injection h with h1 h2
  injection h1 with h1
  refine ⟨Op.s_inj h1, ?_⟩
  have : ∀ {as bs : List Nat}, (as.map fun (n : Nat) => (.inr (n : Int) : Str ⊕ Int)) = bs.map (fun (n : Nat) => .inr (n : Int)) → as = bs := by
    intro as
    induction as with
    | nil => intro bs h; cases bs with | nil => rfl | cons _ _ => cases h
    | cons a as ih =>
      intro bs h
      cases bs with
      | nil => cases h
      | cons b bs =>
        injection h with h1 h2
        injection h1 with h1
        rw [ih h2]; congr 1; lia
  exact this h2
/-- the node of a tree -/
noncomputable def NodeAt (h : Heap) (ts : List T) (t : T) (c : Addr) : Prop := X5 fun o ks tk vs ns => C4 (t = T.nd o ks) (IsTup h c (List.toArray (.str o.s tk :: vs))) (IntsL ns vs) (Idx ts ks ns)
theorem NodeAt.imm {h h' : Heap} (k : Imm h h') {ts : List T} {t : T} {c : Addr} (x : NodeAt h ts t c) : NodeAt h' ts t c := let ⟨o, ks, tk, vs, ns, e, a, b, d⟩ := x; ⟨o, ks, tk, vs, ns, e, k _ _ a, b, d⟩
theorem NodeAt.more {h : Heap} {ts us : List T} {t : T} {c : Addr} (x : NodeAt h ts t c) : NodeAt h (ts ++ us) t c := let ⟨o, ks, tk, vs, ns, e, a, b, d⟩ := x; ⟨o, ks, tk, vs, ns, e, a, b, d.more⟩
noncomputable def XS (ts : List T) (cs : List Addr) (xs : List (List (Str ⊕ Int) × Addr × Value)) : Prop := xs.length = ts.length ∧ ∀ (i : Nat) x, xs[i]? = some x → X5 fun o ks ns c t => C4 (ts[i]? = some (T.nd o ks)) (Idx ts ks ns) (cs[i]? = some c) (x = (keyN o ns, c, Value.int (i : Nat) t))
noncomputable def numP (prog : Program) (w : World) (xs : List (List (Str ⊕ Int) × Addr × Value)) : OP := fun o => ∃ es ep, o.ExactDict ∧ o.data = .dict es ep ∧ es.toList = xs.map (entryOfKey (tupleKind (mixKind prog w)))
theorem numP.nt {prog : Program} {w : World} {xs} {o : Obj} (x : numP prog w xs o) : NT o := by obtain ⟨es, ep, _, e, _⟩ := x; exact nt_data fun _ _ q => by rw [e] at q; cases q
structure BankInv (h : Heap) (ts : List T) (cs : List Addr) (wv dv : List Value) (xs : List (List (Str ⊕ Int) × Addr × Value)) : Prop where
  ok : BankOk ts
  cl : cs.length = ts.length
  node : ∀ (i : Nat) t c, ts[i]? = some t → cs[i]? = some c → NodeAt h ts t c
  xs : XS ts cs xs
  wl : wv.length = ts.length
  wt : ∀ (i : Nat) t v, ts[i]? = some t → wv[i]? = some v → ∃ (m : Nat) (tk : Tok), v = Value.int (m : Nat) tk ∧ m ≤ t.size
  dl : dv.length = ts.length
  dt : ∀ (i : Nat) t v, ts[i]? = some t → dv[i]? = some v → ∃ (d : Nat) (tk : Tok), v = Value.int (d : Nat) tk ∧ d ≤ t.size
theorem BankInv.imm {h h' : Heap} (k : Imm h h') {ts cs wv dv xs} (x : BankInv h ts cs wv dv xs) : BankInv h' ts cs wv dv xs :=
  ⟨x.ok, x.cl, fun i t c a b => (x.node i t c a b).imm k, x.xs, x.wl, x.wt, x.dl, x.dt⟩
noncomputable abbrev bankOw (prog : Program) (w : World) (k : BK) (cs : List Addr) (wv dv : List Value) (xs : List (List (Str ⊕ Int) × Addr × Value)) (ow : List (Addr × OP)) : List (Addr × OP) :=
  (k.nl, listP (List.toArray (cs.map Value.ref))) :: (k.nd, numP prog w xs) :: (k.wl, listP wv.toArray) :: (k.dl, listP dv.toArray) :: ow
theorem ints_key {prog : Program} {w : World} : ∀ {ns : List Nat} {vs : List Value}, IntsL ns vs → ItemsAre (mixKind prog w) (ns.map fun (n : Nat) => .inr (n : Int)) vs
  | [], _, e => by rw [show _ = [] from e]; exact .nil
  | n :: ns, _, ⟨t, r, e, x⟩ => by
    rw [e]
    exact .cons (show mixIs (.inr (n : Int)) (.int (n : Nat) t) = true by simp [mixIs, Value.isInt]) (ints_key x)
theorem key_is {prog : Program} {w : World} {h : Heap} {o : Op} {ns : List Nat} {vs : List Value} {tk : Tok} {c : Addr} (ht : IsTup h c (List.toArray (.str o.s tk :: vs))) (hi : IntsL ns vs) : (tupleKind (mixKind prog w)).is h (keyN o ns) c := by
  obtain ⟨ob, e, hc, n, hd⟩ := ht
  exact ⟨ob, _, n, e, hc, hd, .cons (strKey o.s tk) (ints_key hi)⟩
theorem St.numbers {prog : Program} {w : World} {B H h : Heap} {S : List Addr} {ow : List (Addr × OP)} {k : BK} {ts cs wv dv xs} (x : St B H S ow h) (i : Nat) (hi : ow[i]? = some (k.nd, numP prog w xs)) (I : BankInv h ts cs wv dv xs) :
    h.DictOfH (tupleKind (mixKind prog w)) k.nd xs := by
  obtain ⟨o, e, ⟨es, ep, hex, hd, hes⟩, _⟩ := x.get i hi
  refine ⟨o, es, ep, e, hex, hd, hes, fun y hy => ?_, ?_⟩
  · refine e11 (List.getElem?_of_mem hy) fun j hj => ?_
    (refine x5c4 (I.xs.2 j y hj) fun o' ks ns c t h1 h2 h3 hq8 => ?_; subst hq8)
    refine x5c4 (I.node j _ c h1 h3) fun o2 ks2 tk vs ns2 e2 ht hints hidx => ?_
    cases e2
    have : ns = ns2 := Idx.uniq I.ok.nd h2 hidx
    subst this
    exact key_is ht hints
  · refine List.pairwise_iff_getElem.mpr fun a b ha hb hab q0 => ?_
    rw [List.length_map] at ha hb
    have q1 : (xs.map (·.1))[a]? = (xs.map (·.1))[b]? := by rw [List.getElem?_eq_getElem (by rw [List.length_map]; exact ha), List.getElem?_eq_getElem (by rw [List.length_map]; exact hb), q0]
    rw [List.getElem?_map, List.getElem?_map] at q1
    revert q1
    obtain ⟨ya, hya⟩ : ∃ y, xs[a]? = some y := ⟨_, List.getElem?_eq_getElem (by simp [*])⟩
    obtain ⟨yb, hyb⟩ : ∃ y, xs[b]? = some y := ⟨_, List.getElem?_eq_getElem (by simp [*])⟩
    (refine x5c4 (I.xs.2 a ya hya) fun o1 ks1 ns1 c1 t1 h1 h2 h3 hq8 => ?_; subst hq8)
    (refine x5c4 (I.xs.2 b yb hyb) fun o2 ks2 ns2 c2 t2 g1 g2 g3 hq8 => ?_; subst hq8)
    rw [hya, hyb]
    intro q
    have q' : keyN o1 ns1 = keyN o2 ns2 := Option.some.inj q
    refine e02 (keyN_inj q') fun e1 e2 => ?_
    subst e1; subst e2
    have : ks1 = ks2 := Idx.inj I.ok.nd h2 g2
    subst this
    exact absurd (nodup_at I.ok.nd h1 g1) (Nat.ne_of_lt hab)
section
variable {prog : Program} {w : World} {B : Heap}
theorem node_of {h : Heap} {k : BK} {ts : List T} {cs : List Addr} {wv dv : List Value} {xs} {i : Nat} {t : T} (inv : BankInv h ts cs wv dv xs) (hi : ts[i]? = some t) : X6 fun c o ks tk vs ns => C7 (cs[i]? = some c) ((cs.map Value.ref)[i]? = some (Value.ref c)) (t = T.nd o ks) (IsTup h c (List.toArray (.str o.s tk :: vs))) (IntsL ns vs) (Idx ts ks ns) (ks.length ≤ 9) := by
  obtain ⟨c, hc⟩ : ∃ c, cs[i]? = some c := ⟨_, List.getElem?_eq_getElem (by rw [inv.cl]; exact (List.getElem?_eq_some_iff.mp hi).1)⟩
  (refine x5c4 (inv.node i t c hi hc) fun o ks tk vs ns hq5 ht hn hx => ?_; subst hq5)
  exact ⟨c, o, ks, tk, vs, ns, hc, by rw [List.getElem?_map, hc]; rfl, rfl, ht, hn, hx, (inv.ok.kids i o ks hi).1⟩
theorem op_spec (W : Wd w B) {A : Around} {s : Shared} {R : Result → Shared → Prop} {k : BK} {ts : List T} {cs : List Addr} {wv dv : List Value} {xs} {i n : Nat} {ti : Tok} {o : Op} {ks : List T} (kb : Kp B s.heap) (hr : Room A (n + 1)) (I : BankObj s.heap k) (hl : s.heap.IsList k.nl (List.toArray (cs.map Value.ref))) (inv : BankInv s.heap ts cs wv dv xs) (hlen : ts.length ≤ 10000) (hi : ts[i]? = some (T.nd o ks))
    (hR : ∀ h' tk t, Kp s.heap h' → R (.ok (.ret (.str o.s t))) { s with heap := h', toks := tk }) : codeAny (model prog w) A (.call (.ref 155) ⟨[.ref k.b, .int (i : Nat) ti], []⟩) R s := by
  refine enterX (n := n) (fun L => []) (fun L => [(L, nsP (up (up nil0 "self" (.ref k.b)) "n" (.int (i : Nat) ti)))]) W kb hr ?_
  intro L env h₁ tk EO hL S E'
  have I1 := I.of (fun o e => S.kpH _ _ e) (fun o e => S.kpH _ _ e)
  have hl1 : h₁.IsList k.nl (List.toArray (cs.map Value.ref)) := let ⟨o, e, r⟩ := hl; ⟨o, S.kpH _ _ e, r⟩
  obtain ⟨c, o', ks', tk0, vs, ns, hc, hc', e, ht, _⟩ := node_of (k := k) (inv.imm (Imm.kp S.kpH)) hi
  cases e
  have hil := (List.getElem?_eq_some_iff.mp hi).1
  refine wpAny_execs_cons (wpAny_Return_some (sub_tup (Subscript_ (attrB W S.kb EO (S.ns 0 rfl) rfl I1 (fun _ N => N.nodes) rfl (nameL EO (S.ns 0 rfl) rfl (item_list (k := i) hl1 rfl hc' (by exact Nat.lt_of_lt_of_le (Nat.lt_of_lt_of_le hil hlen) (Nat.le_of_ble_eq_true rfl)) ?_))))))
  exact ⟨c, _, 0, _, rfl, ht, seq0 _, rfl, hR _ _ _ S.kpH⟩
theorem kids_spec (W : Wd w B) {A : Around} {s : Shared} {R : Result → Shared → Prop} {k : BK} {ts : List T} {cs : List Addr} {wv dv : List Value} {xs} {i n : Nat} {ti : Tok} {o : Op} {ks : List T} (kb : Kp B s.heap) (hr : Room A (n + 1)) (I : BankObj s.heap k) (hl : s.heap.IsList k.nl (List.toArray (cs.map Value.ref))) (inv : BankInv s.heap ts cs wv dv xs) (hlen : ts.length ≤ 10000) (hi : ts[i]? = some (T.nd o ks))
    (hR : ∀ h' tk c vs ns, Kp s.heap h' → s.heap.get? c = none → IsTup h' c (List.toArray vs) → IntsL ns vs → Idx ts ks ns → R (.ok (.ret (.ref c))) { s with heap := h', toks := tk }) : codeAny (model prog w) A (.call (.ref 162) ⟨[.ref k.b, .int (i : Nat) ti], []⟩) R s := by
  refine enterX (n := n) (fun L => []) (fun L => [(L, nsP (up (up nil0 "self" (.ref k.b)) "n" (.int (i : Nat) ti)))]) W kb hr ?_
  intro L env h₁ tk EO hL S E'
  have I1 := I.of (fun o e => S.kpH _ _ e) (fun o e => S.kpH _ _ e)
  have hl1 : h₁.IsList k.nl (List.toArray (cs.map Value.ref)) := let ⟨o, e, r⟩ := hl; ⟨o, S.kpH _ _ e, r⟩
  refine x6c7 (node_of (k := k) (inv.imm (Imm.kp S.kpH)) hi) fun c o' ks' tk0 vs ns hc hc' e ht hints hidx hk9 => ?_
  cases e
  have hil := (List.getElem?_eq_some_iff.mp hi).1
  have hvl : vs.length ≤ 9 := by rw [hints.length, hidx.length]; exact hk9
  refine wpAny_execs_cons (wpAny_Return_some (sub_tup_from (Subscript_ (attrB W S.kb EO (S.ns 0 rfl) rfl I1 (fun _ N => N.nodes) rfl (nameL EO (S.ns 0 rfl) rfl (item_list (k := i) hl1 rfl hc' (by exact Nat.lt_of_lt_of_le (Nat.lt_of_lt_of_le hil hlen) (Nat.le_of_ble_eq_true rfl)) ?_))))))
  refine ⟨c, _, rfl, ht, by simp, by simp; have := sizeLine_big; exact Nat.lt_of_le_of_lt (by assumption) (Nat.le_of_ble_eq_true rfl), fun h2 c2 tk2 (k2 : Kp h₁ h2) hcn hc2 => ?_⟩
  refine hR _ _ c2 vs ns (S.kpH.tr k2) ?_ (by simpa using hc2) hints hidx
  cases e : s.heap.get? c2 with
  | none => rfl
  | some o => have h3 : h₁.get? c2 = some o := S.kpH _ _ e; have h4 : h₁.get? c2 = none := hcn; rw [h4] at h3; cases h3
end
noncomputable def sitP (x : Str) (t : Tok) (i : Nat) : OP := fun o => o.cls = .type "str_ascii_iterator" ∧ o.data = .fields #[.str x t, .int i 0]
section
variable {prog : Program} {w : World} {A : Around}
theorem itr_str (hh : A.handled = none) (it : Addr) (x : Str) (t : Tok) : Itr prog w A it (sitP x t) (fun _ => True) x.cps.size (fun i v => ∃ c tk, x.cps[i]? = some c ∧ v = Value.str ⟨#[c]⟩ tk) where
  nt := fun i o h => nt_cls (by rw [h.1]; decide)
  item := fun i s Q E hi ho _ hq => by
    (refine e13 ho fun o e c d => ?_; clear ho)
    refine wpAny_pyNext_ascii_item (c := x.cps[i]) ⟨o, e, c, d⟩ (by simp [hi]) (fun h' hit hs => hq _ h' _ ⟨_, _, Array.getElem?_eq_getElem hi, rfl⟩ (let ⟨o, e, r⟩ := hit; ⟨o, e, r⟩) hs.extBut)
  stop := fun s Q E ho _ hq => by
    (refine e13 ho fun o e c d => ?_; clear ho)
    exact wpAny_pyNext_ascii_end hh ⟨o, e, c, d⟩ (by simp) fun h' hs => hq h' s.toks hs
  again := fun s Q E ho hq => by
    (refine e13 ho fun o e c d => ?_; clear ho)
    exact wpAny_pyIter_striter_ascii (i := 0) ⟨o, e, c, d⟩ hq

variable {B : Heap} {s : Shared}
set_option maxHeartbeats 4000000 in
theorem is_op_spec (W : Wd w B) {R : Result → Shared → Prop} {o : Op} {t : Tok} {n : Nat} (kb : Kp B s.heap) (hr : Room A (n + 2)) (ho : o.isQ = false)
    (hR : ∀ h' tk, Kp s.heap h' → R (.ok (.ret (.bool true))) { s with heap := h', toks := tk }) :
    codeAny (model prog w) A (.call (.ref 67) ⟨[.str o.s t], []⟩) R s := by
  refine enterX (n := n + 1) (fun L => []) (fun L => [(L, nsP (up nil0 "text" (.str o.s t)))]) W kb hr ?_
  intro L env h₁ tk EO hL S E'
  have hu9 : (A.deeper (envX (Str.ofString "is_op") default L 67 (Value.ref 66) [])).units + 64 < cLine := (hr.deeper (env := (envX (Str.ofString "is_op") default L 67 (Value.ref 66) []))).units64
  refine wpAny_execs_cons (wpAny_Return_some (wpAny_And2 ?_))
  refine wpAny_Compare1 (nameL EO (S.ns 0 rfl) rfl (Constant_str (PyProof.Rows.ne_str (wpAny_truthy_bool ?_))))
  refine ifT (by cases o <;> first | decide +kernel | (cases ho)) ?_
  dsimp only
  have hasc : o.s.cps.all (· < 128) = true := by cases o <;> decide +kernel
  have hsz : o.s.cps.size ≤ 1000 := by cases o <;> decide +kernel
  refine wpAny_Compare1 ?_
  dsimp only [eval_ListComp]
  refine wpAny_comprehension_free (use := none) rfl (by intro _; rfl) (cl := []) (by rfl) (by rfl) (by decide) (nameL EO (S.ns 0 rfl) rfl (wpAny_pyIter_ascii hasc ?_))
  have hin : h₁.get? h₁.objs.size = none := Heap.get?_none_of_le (Nat.le_refl _)
  have S1 := S.addPush (o := { cls := .type "str_ascii_iterator", data := .fields #[.str o.s t, .int 0 0] }) (p := sitP o.s t 0) rfl ⟨rfl, rfl⟩ (nt_cls (show (Value.type "str_ascii_iterator") ≠ Value.type "tuple" by decide))
  dsimp only
  generalize h₁.push { cls := .type "str_ascii_iterator", data := .fields #[.str o.s t, .int 0 0] } = h2 at *
  generalize (h₁.objs.size : Addr) = it at *
  refine comp_core (s := { s with heap := h2, toks := _ }) noE (fun i ys ow h => ys = [] ∧ ow = [(L, nsP (up nil0 "text" (.str o.s t)))]) EO (itr_str (A := A.deeper _) hr.hh it o.s t) S1 hsz
    (fun _ b hb => nomatch hb) (by decide) (by rfl) (fun _ _ _ _ _ _ h => h) ⟨rfl, rfl⟩ (fun _ _ _ _ _ _ _ _ _ _ _ => trivial) ?_ ?_ (fun _ _ _ _ x => x.elim)
  · intro i ys ow h tk2 C D m x hi hpz1 im hC S2 hpz2; (refine e22 hpz1 fun c tc hc hq3 => ?_; subst hq3; clear hpz1); (refine e02 hpz2 fun hq0 hq1 => ?_; subst hq0; subst hq1; clear hpz2)
    have EO' : EnvOk (compEnvC { kind := ScopeKind.function, names := [(Str.ofString ".0", NameKind.local), (Str.ofString "sign", NameKind.local)], isGenerator := false, isCoroutine := false } [] C (envX (Str.ofString "is_op") { kind := ScopeKind.function, names := [(Str.ofString "text", NameKind.local)], isGenerator := false, isCoroutine := false } L 67 (Value.ref 66) [])) := ⟨rfl, rfl, rfl⟩
    refine wpAny_pure (wpAny_assign_Name (S2.storeL 0 rfl EO' (fun h3 S3 im3 => ?_)))
    have hi0 : i = 0 := by
      have : o.s.cps.size ≤ 1 := by cases o <;> first | decide +kernel | (cases ho)
      lia
    subst hi0
    have hsp : Txt.isspace ⟨#[c]⟩ = false := by
      have : ∀ c, o.s.cps[0]? = some c → Txt.isspace ⟨#[c]⟩ = false := by cases o <;> (intro c hc; cases hc; decide +kernel)
      exact this c hc
    have hns : (!(Builtin.Str.occurrences (Str.ofString "()[]{},:") ⟨#[c]⟩ 0 (Str.ofString "()[]{},:").length 1).isEmpty) = false := by
      have : ∀ c, o.s.cps[0]? = some c → (!(Builtin.Str.occurrences (Str.ofString "()[]{},:") ⟨#[c]⟩ 0 (Str.ofString "()[]{},:").length 1).isEmpty) = false := by cases o <;> (intro c hc; cases hc; first | decide +kernel | cases ho)
      exact this c hc
    refine wpAny_tests_one (wpAny_isTrue_BoolOp (wpAny_allTrue_Or_cons (wpAny_isTrue_value ?_)))
    refine methT PySem.F.plainAttrs_str PySem.F.slot_str_isspace PySem.F.type_str_isspace (nameL EO' (S3.ns 0 rfl) rfl ⟨typeIs_str _ _ _, fun _ e => (by cases e), ?_⟩)
    refine PySem.SC.isspace ?_
    rw [hsp]
    refine wpAny_truthy_bool (ifF rfl (wpAny_allTrue_Or_cons (wpAny_isTrue_Compare1 (nameL EO' (S3.ns 0 rfl) rfl (Constant_str (PyProof.Rows.in_str ?_))))))
    rw [hns]
    refine wpAny_truthy_bool (ifF rfl (wpAny_allTrue_Or_nil (ifF rfl ⟨h3, _, _, _, rfl, im3, S3, rfl, rfl⟩)))
  · intro ys ow h tk2 D hyl hDn im S2 hpz3; obtain ⟨rfl, rfl⟩ := hpz3
    refine list0 ?_
    have S3 := S2.kp (Kp.push h { cls := .type "list", data := .seq (List.toArray []) })
    have kL : (h.push { cls := .type "list", data := .seq (List.toArray []) }).get? h.objs.size = some { cls := .type "list", data := .seq (List.toArray []) } := Heap.get?_push_size _ rfl
    dsimp only
    refine e11 (S3.plain 0 rfl) fun nn e => ?_
    have r1 : Reads (h.push { cls := .type "list", data := .seq (List.toArray []) }) (.ref D) (.list []) _ := .list e rfl rfl .nil
    have r2 : Reads (h.push { cls := .type "list", data := .seq (List.toArray []) }) (.ref h.objs.size) (.list []) _ := .list kL rfl rfl .nil
    refine eq_dataH r1 r2 (by decide) (by decide) hu9 ?_
    exact hR _ _ S3.kpH
end
section
variable {prog : Program} {w : World} {A : Around} {B : Heap} {s : Shared}
theorem require_spec (W : Wd w B) {R : Result → Shared → Prop} {o : Op} {t : Tok} {n : Nat} {b : Value} (kb : Kp B s.heap) (hr : Room A (n + 3)) (ho : o.isQ = false)
    (hR : ∀ h' tk, Kp s.heap h' → R (.ok (.ret .none)) { s with heap := h', toks := tk }) :
    codeAny (model prog w) A (.call (.ref 129) ⟨[b, .str o.s t], []⟩) R s := by
  refine enterX (n := n + 2) (fun L => []) (fun L => [(L, nsP (up (up nil0 "self" b) "op" (.str o.s t)))]) W kb hr ?_
  intro L env h₁ tk EO hL S E'
  refine wpAny_execs_cons (wpAny_If (wpAny_isTrue_BoolOp (wpAny_allTrue_Or_cons (wpAny_isTrue_Not (wpAny_isTrue_value (callF W S.kb EO gn_is_op kf_is_op (nameL EO (S.ns 0 rfl) rfl ⟨S.kb, is_op_spec W (n := n) S.kb (hr.deeper.mono (by simp)) ho (fun h2 tk2 (k2 : Kp h₁ h2) => ?_)⟩)))))))
  have S2 := S.kp k2
  refine wpAny_truthy_bool (ifF rfl (wpAny_allTrue_Or_cons (wpAny_isTrue_Compare1 (Subscript_ (nameL EO (S2.ns 0 rfl) rfl (wpAny_Constant_int ?_))))))
  dsimp only
  obtain ⟨c, hc, hq⟩ : ∃ c, (seqIndex? 0 o.s.length).bind (o.s.cps[·]?) = some c ∧ (Str.mk #[c] == Str.ofString "?") = false := by
    refine ⟨(o.s.cps[0]?).getD 0, ?_, ?_⟩
    · cases o <;> decide +kernel
    · cases o <;> first | decide +kernel | cases ho
  refine tail_any (typeIs_str _ _ _) slot_str_getitem.lookup (P.getItem_str (by decide) hc ?_) (by with_unfolding_all rfl)
  refine Constant_str (eq_str ?_)
  rw [hq]
  refine wpAny_truthy_bool (ifF rfl (wpAny_allTrue_Or_nil (ifF rfl (wpAny_execs_nil (wpAny_execs_nil ?_)))))
  exact hR _ _ S2.kpH
end
/-- naturals as values, each at most its bound -/
noncomputable def NatsLe : List Nat → List Value → Prop
  | [], vs => vs = []
  | b :: bs, vs => X3 fun (m : Nat) (t : Tok) (r : List Value) => vs = Value.int (m : Nat) t :: r ∧ m ≤ b ∧ NatsLe bs r
theorem NatsLe.length : ∀ {bs : List Nat} {vs : List Value}, NatsLe bs vs → vs.length = bs.length
  | [], _, e => by rw [show _ = [] from e]; rfl
  | _ :: _, _, ⟨m, t, r, e, _, x⟩ => by rw [e, List.length_cons, List.length_cons, x.length]
theorem NatsLe.snoc {b m : Nat} {t : Tok} (h : m ≤ b) : ∀ {bs : List Nat} {vs : List Value}, NatsLe bs vs → NatsLe (bs ++ [b]) (vs ++ [Value.int (m : Nat) t])
  | [], _, e => by rw [show _ = [] from e]; exact ⟨m, t, [], rfl, h, rfl⟩
  | _ :: _, _, ⟨m', t', r, e, a, x⟩ => by rw [e]; exact ⟨m', t', r ++ [Value.int (m : Nat) t], rfl, a, x.snoc h⟩
theorem NatsLe.pairs : ∀ {bs : List Nat} {vs : List Value}, NatsLe bs vs → ∃ ps : List (Nat × Tok), vs = ps.map (fun p => Value.int (p.1 : Nat) p.2) ∧ (ps.map (·.1)).sum ≤ bs.sum ∧ ∀ p ∈ ps, ∃ b ∈ bs, p.1 ≤ b
  | [], _, e => ⟨[], by rw [show _ = [] from e]; rfl, Nat.le_refl _, fun p hp => nomatch hp⟩
  | b :: bs, _, ⟨m, t, r, e, a, x⟩ => by
    (refine e13 x.pairs fun ps hq1 h2 h3 => ?_; subst hq1)
    refine ⟨(m, t) :: ps, e, by simp; lia, fun p hp => ?_⟩
    rcases List.mem_cons.mp hp with rfl | hp
    · exact ⟨b, .head _, a⟩
    · refine e12 (h3 p hp) fun b' hb' h => ?_; exact ⟨b', .tail _ hb', h⟩
theorem NatsLe.of : ∀ {bs : List Nat} {vs : List Value}, vs.length = bs.length → (∀ (i : Nat) b v, bs[i]? = some b → vs[i]? = some v → ∃ (m : Nat) (t : Tok), v = Value.int (m : Nat) t ∧ m ≤ b) → NatsLe bs vs
  | [], [], _, _ => rfl
  | [], _ :: _, e, _ => by simp at e
  | _ :: _, [], e, _ => by simp at e
  | b :: bs, v :: vs, e, k => by
    (refine e22 (k 0 b v rfl rfl) fun m t hq2 h => ?_; subst hq2)
    exact ⟨m, t, vs, rfl, h, NatsLe.of (by simpa using e) fun i b' v' h1 h2 => k (i + 1) b' v' h1 h2⟩
section
variable {prog : Program} {w : World} {A : Around} {E : Value → Shared → Prop} {s : Shared}
theorem nat_items (ps : List (Nat × Tok)) : (ps.map (fun p => Value.int (p.1 : Nat) p.2)).toArray = intItems (ps.map fun p => ((p.1 : Int), p.2)).toArray := by
  simp [intItems]
theorem numAt_nat (ps : List (Nat × Tok)) (i : Nat) : numAt (ps.map fun p => ((p.1 : Int), p.2)).toArray i = (((ps[i]?).map (·.1)).getD 0 : Nat) := by
  unfold numAt
  rw [List.getElem?_toArray, List.getElem?_map]
  cases ps[i]? <;> rfl
theorem preSum_nat (ps : List (Nat × Tok)) : ∀ n, n ≤ ps.length → preSum (numAt (ps.map fun p => ((p.1 : Int), p.2)).toArray) n = (((ps.take n).map (·.1)).sum : Nat)
  | 0, _ => rfl
  | n + 1, h => by
    unfold preSum
    rw [preSum_nat ps n (by exact Nat.le_of_lt (by assumption)), numAt_nat]
    obtain ⟨p, hp⟩ : ∃ p, ps[n]? = some p := ⟨_, List.getElem?_eq_getElem (by assumption)⟩
    rw [List.take_add_one, hp]
    simp
theorem sum_nats {l : Addr} {bs : List Nat} {vs : List Value} {Q : Value → Shared → Prop} (hh : A.handled = none) (hl : s.heap.IsList l vs.toArray) (hv : NatsLe bs vs) (hb : bs.sum ≤ 1000000)
    (h : ∀ h' tk t' (m : Nat), Kp s.heap h' → m ≤ bs.sum → Q (.int (m : Nat) t') { s with heap := h', toks := tk }) : wpAny (model prog w) A (call (.builtin "sum") [.ref l]) Q E s := by
  (refine e13 hv.pairs fun ps hq1 h2 h3 => ?_; subst hq1)
  rw [nat_items] at hl
  have part : ∀ n, ((ps.take n).map (·.1)).sum ≤ (ps.map (·.1)).sum := by
    intro n
    have e : ps.map (·.1) = (ps.take n).map (·.1) ++ (ps.drop n).map (·.1) := by rw [← List.map_append, List.take_append_drop]
    rw [e, List.sum_append]; simp
  refine sum_intList hh hl (fun j hj => ?_) (fun h' tk t' k => ?_)
  · have hj' : j < ps.length := by simpa using hj
    have h1 := preSum_nat ps (j + 1) (by exact hj')
    have h4 := preSum_nat ps j (by exact Nat.le_of_lt hj')
    have h5 := part (j + 1)
    have h6 := part j
    have h7 : preSum (numAt (ps.map fun p => ((p.1 : Int), p.2)).toArray) (j + 1) = preSum (numAt (ps.map fun p => ((p.1 : Int), p.2)).toArray) j + numAt (ps.map fun p => ((p.1 : Int), p.2)).toArray j := rfl
    have h8 := numAt_nat ps j
    unfold InLong
    rw [h1] at h7 ⊢
    rw [h4] at h7
    refine ⟨⟨by simp [*], by lia⟩, by simp, by lia⟩
  · have e := preSum_nat ps ps.length (Nat.le_refl _)
    have hs : (ps.map fun p => ((p.1 : Int), p.2)).toArray.size = ps.length := by simp
    rw [hs, e]
    rw [List.take_length]
    exact h h' tk t' _ k h2
theorem max_nats {l : Addr} {bs : List Nat} {vs : List Value} {M : Nat} {Q : Value → Shared → Prop} (hh : A.handled = none) (hl : s.heap.IsList l vs.toArray) (hv : NatsLe bs vs) (hne : bs ≠ []) (hM : ∀ b ∈ bs, b ≤ M)
    (h : ∀ h' tk t' (m : Nat), Kp s.heap h' → m ≤ M → Q (.int (m : Nat) t') { s with heap := h', toks := tk }) : wpAny (model prog w) A (call (.builtin "max") [.ref l]) Q E s := by
  have hlen := hv.length
  (refine e13 hv.pairs fun ps hq1 h2 h3 => ?_; subst hq1)
  rw [nat_items] at hl
  refine max_intList hh hl ?_ (fun v h' tk hv' k => ?_)
  · have : bs.length ≠ 0 := fun q => hne (List.length_eq_zero_iff.mp q)
    simp at hlen ⊢; lia
  · rw [← nat_items] at hv'
    rw [List.getElem?_toArray, List.getElem?_map] at hv'
    (refine e12 (Option.map_eq_some_iff.mp hv') fun p hp hq2 => ?_; subst hq2)
    refine e12 (h3 p (List.mem_of_getElem? hp)) fun b hb hle => ?_
    exact h h' tk p.2 p.1 k (Nat.le_trans hle (hM b hb))
end
/-- what may be changed of a Bank -/
noncomputable abbrev BK.four (k : BK) : List Addr := [k.nl, k.nd, k.wl, k.dl]
structure BankOff (B : Heap) (k : BK) : Prop where
  nl : B.get? k.nl = none
  nd : B.get? k.nd = none
  wl : B.get? k.wl = none
  dl : B.get? k.dl = none
  dist : k.four.Nodup
  b : k.b ∉ k.four
  db : k.db ∉ k.four
  mods : (k.nd == sysModules) = false
structure BankAt (prog : Program) (w : World) (h : Heap) (k : BK) (ts : List T) : Prop where
  obj : BankObj h k
  st : X4 fun cs wv dv xs => C5 (BankInv h ts cs wv dv xs) ((∃ o, h.get? k.nl = some o ∧ listP (List.toArray (cs.map Value.ref)) o)) ((∃ o, h.get? k.nd = some o ∧ numP prog w xs o)) ((∃ o, h.get? k.wl = some o ∧ listP wv.toArray o)) ((∃ o, h.get? k.dl = some o ∧ listP dv.toArray o))
noncomputable def Chg (S : List Addr) (h h' : Heap) : Prop := ∀ b o, b ∉ S → h.get? b = some o → h'.get? b = some o
theorem Chg.rfl' {S : List Addr} {h : Heap} : Chg S h h := fun _ _ _ e => e
theorem Chg.tr {S : List Addr} {h h' h'' : Heap} (a : Chg S h h') (b : Chg S h' h'') : Chg S h h'' := fun x o hx e => b x o hx (a x o hx e)
theorem Chg.kp {S : List Addr} {h h' : Heap} (k : Kp h h') : Chg S h h' := fun x o _ e => k x o e
theorem St.chg {B H h : Heap} {S : List Addr} {ow : List (Addr × OP)} (x : St B H S ow h) : Chg S H h := fun b o hb e => x.base b o hb e
section
variable {prog : Program} {w : World}
theorem BankAt.kp {h h' : Heap} {k : BK} {ts : List T} (x : BankAt prog w h k ts) (kk : Kp h h') : BankAt prog w h' k ts := by
  obtain ⟨o, cs, wv, dv, xs, inv, hpz1, hpz2, hpz3, hpz4⟩ := x; (refine e12 hpz1 fun o1 e1 p1 => ?_; clear hpz1); (refine e12 hpz2 fun o2 e2 p2 => ?_; clear hpz2); (refine e12 hpz3 fun o3 e3 p3 => ?_; clear hpz3); (refine e12 hpz4 fun o4 e4 p4 => ?_; clear hpz4)
  exact ⟨o.of (fun _ e => kk _ _ e) (fun _ e => kk _ _ e), cs, wv, dv, xs, inv.imm (Imm.kp kk), ⟨o1, kk _ _ e1, p1⟩, ⟨o2, kk _ _ e2, p2⟩, ⟨o3, kk _ _ e3, p3⟩, ⟨o4, kk _ _ e4, p4⟩⟩
/-- a method of a Bank begins: its four objects may be changed from now on -/
theorem St.bank {B H h : Heap} {ow : List (Addr × OP)} {k : BK} {ts : List T} (x : St B H [] ow h) (off : BankOff B k) (bk : BankAt prog w H k ts) :
    X4 fun cs wv dv xs => BankInv h ts cs wv dv xs ∧ BankObj h k ∧ St B H k.four (bankOw prog w k cs wv dv xs ow) h := by
  obtain ⟨o, cs, wv, dv, xs, inv, hpz5, hpz6, hpz7, hpz8⟩ := bk; (refine e12 hpz5 fun o1 e1 p1 => ?_; clear hpz5); (refine e12 hpz6 fun o2 e2 p2 => ?_; clear hpz6); (refine e12 hpz7 fun o3 e3 p3 => ?_; clear hpz7); (refine e12 hpz8 fun o4 e4 p4 => ?_; clear hpz8)
  have kk := x.kpH
  have d := off.dist
  simp only [BK.four, List.nodup_cons, List.mem_cons, not_or, List.not_mem_nil, or_false, not_false_eq_true] at d
  have n1 := x.notown e1
  have n2 := x.notown e2
  have n3 := x.notown e3
  have n4 := x.notown e4
  have y4 := x.claim off.dl n4 (kk _ _ e4) p4 p4.nt
  have y3 := y4.claim (a := k.wl) off.wl (by simp only [List.map_cons, List.mem_cons, not_or]; exact ⟨d.2.2.1, n3⟩) (kk _ _ e3) p3 p3.nt
  have y2 := y3.claim (a := k.nd) off.nd (by simp only [List.map_cons, List.mem_cons, not_or]; exact ⟨d.2.1.1, d.2.1.2, n2⟩) (kk _ _ e2) p2 p2.nt
  have y1 := y2.claim (a := k.nl) off.nl (by simp only [List.map_cons, List.mem_cons, not_or]; exact ⟨d.1.1, d.1.2.1, d.1.2.2, n1⟩) (kk _ _ e1) p1 p1.nt
  exact ⟨cs, wv, dv, xs, inv.imm (Imm.kp kk), o.of (fun _ e => kk _ _ e) (fun _ e => kk _ _ e), y1⟩
theorem St.bankObj {B H h : Heap} {ow : List (Addr × OP)} {k : BK} (x : St B H k.four ow h) (off : BankOff B k) (o : BankObj H k) : BankObj h k :=
  o.of (fun _ e => x.base _ _ off.b e) (fun _ e => x.base _ _ off.db e)
theorem St.bankAt {B H h : Heap} {ow : List (Addr × OP)} {k : BK} {ts cs wv dv xs} (x : St B H k.four (bankOw prog w k cs wv dv xs ow) h) (off : BankOff B k) (o : BankObj H k) (inv : BankInv h ts cs wv dv xs) : BankAt prog w h k ts :=
  ⟨x.bankObj off o, cs, wv, dv, xs, inv, let ⟨o, e, p, _⟩ := x.get 0 rfl; ⟨o, e, p⟩, let ⟨o, e, p, _⟩ := x.get 1 rfl; ⟨o, e, p⟩, let ⟨o, e, p, _⟩ := x.get 2 rfl; ⟨o, e, p⟩, let ⟨o, e, p, _⟩ := x.get 3 rfl; ⟨o, e, p⟩⟩
end
/-- the kids given to take: a tuple or a list -/
noncomputable def KidsArg (h : Heap) (kv : Value) (vs : List Value) : Prop := ∃ l, kv = Value.ref l ∧ (IsTup h l vs.toArray ∨ h.IsList l vs.toArray)
theorem KidsArg.kp {h h' : Heap} (k : Kp h h') {kv : Value} {vs : List Value} (x : KidsArg h kv vs) : KidsArg h' kv vs := by
  obtain ⟨l, e, x | x⟩ := x
  · exact ⟨l, e, .inl (x.keeps k)⟩
  · exact ⟨l, e, .inr (let ⟨o, e, r⟩ := x; ⟨o, k _ _ e, r⟩)⟩
/-- the number of a tree, if it has one -/
theorem atKey_some {ts : List T} {cs : List Addr} {xs} {o : Op} {ks : List T} {ns : List Nat} {h : Heap} {wv dv} (inv : BankInv h ts cs wv dv xs) (hidx : Idx ts ks ns) {p : Addr × Value} (hp : atKey xs (keyN o ns) = some p) : ∃ (i : Nat) (t : Tok), p.2 = Value.int (i : Nat) t ∧ ts[i]? = some (T.nd o ks) := by
  unfold atKey at hp
  (refine e12 (Option.map_eq_some_iff.mp hp) fun x hx hq2 => ?_; subst hq2)
  have hk := List.find?_some hx
  refine e11 (List.getElem?_of_mem (List.mem_of_find?_eq_some hx)) fun i hi => ?_
  (refine x5c4 (inv.xs.2 i x hi) fun o' ks' ns' c t h1 h2 h3 hq8 => ?_; subst hq8)
  simp only [decide_eq_true_eq] at hk
  (refine e02 (keyN_inj hk) fun hq0 hq1 => ?_; subst hq0; subst hq1)
  have := Idx.inj inv.ok.nd hidx h2
  subst this
  exact ⟨i, t, rfl, h1⟩
theorem atKey_none {ts : List T} {cs : List Addr} {xs} {o : Op} {ks : List T} {ns : List Nat} {h : Heap} {wv dv} (inv : BankInv h ts cs wv dv xs) (hidx : Idx ts ks ns) (hp : atKey xs (keyN o ns) = none) : T.nd o ks ∉ ts := by
  intro hm
  refine e11 (List.getElem?_of_mem hm) fun i hi => ?_
  obtain ⟨x, hx⟩ : ∃ x, xs[i]? = some x := ⟨_, List.getElem?_eq_getElem (by rw [inv.xs.1]; exact (List.getElem?_eq_some_iff.mp hi).1)⟩
  (refine x5c4 (inv.xs.2 i x hx) fun o' ks' ns' c t h1 h2 h3 hq8 => ?_; subst hq8)
  rw [hi] at h1; cases h1
  have := Idx.uniq inv.ok.nd hidx h2
  subst this
  unfold atKey at hp
  rw [Option.map_eq_none_iff, List.find?_eq_none] at hp
  exact hp _ (List.mem_of_getElem? hx) (by simp)
theorem le_sum : ∀ {l : List Nat} {b : Nat}, b ∈ l → b ≤ l.sum
  | [], _, h => nomatch h
  | a :: l, b, h => by
    dsimp only [List.sum_cons]
    rcases List.mem_cons.mp h with rfl | h
    · simp
    · have := le_sum h; lia
theorem list1K {prog : Program} {w : World} {A : Around} {E : Value → Shared → Prop} {s : Shared} {env : Env} {e : Expr} {pos : Pos} {Q : Value → Shared → Prop} (h : wpAny (model prog w) A (eval e env) (fun v s₁ => ∀ h' l, Kp s₁.heap h' → s₁.heap.get? l = none → h'.PlainList l (List.toArray [v]) → Q (.ref l) { s₁ with heap := h' }) E s) (he : autoParam (([e] : List Expr).all plainE = true) aRfl) :
    wpAny (model prog w) A (eval (.List [e] pos) env) Q E s :=
  list1 (wpAny_mono h (fun v s₁ h₁ => h₁ _ _ (Kp.push _ _) (Heap.get?_none_of_le (Nat.le_refl _)) ⟨0, Heap.get?_push_size _ rfl⟩) fun _ _ e => e) he
theorem kf_require (w : World) : keepIn (KK w) (.ref 129) = true := by kernel_rfl
theorem kf_take (w : World) : keepIn (KK w) (.ref 122) = true := by kernel_rfl
theorem bankInv_snoc {h : Heap} {ts : List T} {cs : List Addr} {wv dv : List Value} {xs} {o : Op} {ks : List T} {ns : List Nat} {vs : List Value} {c : Addr} {t tk tw td : Tok} {mw md : Nat} (inv : BankInv h ts cs wv dv xs) (hidx : Idx ts ks ns) (hints : IntsL ns vs) (hc : IsTup h c (List.toArray (Value.str o.s t :: vs)))
    (hnot : T.nd o ks ∉ ts) (hk9 : ks.length ≤ 9) (hsz : (T.nd o ks).size ≤ 1000) (hw : mw ≤ (T.nd o ks).size) (hd : md ≤ (T.nd o ks).size) :
    BankInv h (ts ++ [T.nd o ks]) (cs ++ [c]) (wv ++ [Value.int (mw : Nat) tw]) (dv ++ [Value.int (md : Nat) td]) (xs ++ [(keyN o ns, c, Value.int (ts.length : Nat) tk)]) := by
  have at1 : ∀ {α β : Type} {as : List α} {bs : List β} {a : α} {b : β} {i : Nat} {x : α} {y : β}, as.length = bs.length → (as ++ [a])[i]? = some x → (bs ++ [b])[i]? = some y → (as[i]? = some x ∧ bs[i]? = some y) ∨ (i = as.length ∧ x = a ∧ y = b) := by
    intro α β as bs a b i x y hl e1 e2
    have hi := (List.getElem?_eq_some_iff.mp e1).1
    rw [List.length_append] at hi
    by_cases h : i < as.length
    · rw [List.getElem?_append_left h] at e1
      rw [List.getElem?_append_left (by exact Nat.lt_of_lt_of_le h (Nat.le_of_eq hl))] at e2
      exact .inl ⟨e1, e2⟩
    · have hi' : i = as.length := by simp at hi; lia
      subst hi'
      rw [List.getElem?_append_right (Nat.le_refl _)] at e1
      rw [hl, List.getElem?_append_right (Nat.le_refl _)] at e2
      simp at e1 e2
      exact .inr ⟨rfl, e1.symm, e2.symm⟩
  have idxLt : ∀ {ks : List T} {ns : List Nat}, Idx ts ks ns → ∀ k ∈ ks, ∃ j, j < ts.length ∧ ts[j]? = some k := by
    intro ks
    induction ks with
    | nil => intro ns _ k hk; nomatch hk
    | cons a r ih =>
      intro ns hpz1 k hk; (refine e23 hpz1 fun n r' e ha x => ?_; clear hpz1)
      rcases List.mem_cons.mp hk with rfl | hk
      · exact ⟨n, (List.getElem?_eq_some_iff.mp ha).1, ha⟩
      · exact ih x k hk
  refine ⟨⟨?_, ?_, ?_⟩, by simp [inv.cl], ?_, ⟨by simp [inv.xs.1], ?_⟩, by simp [inv.wl], ?_, by simp [inv.dl], ?_⟩
  try dsimp only
  · rw [List.nodup_append]
    exact ⟨inv.ok.nd, by simp, fun a ha b hb => by simp at hb; subst hb; rintro rfl; exact hnot ha⟩
  · intro i o' ks' hi
    have hlt := (List.getElem?_eq_some_iff.mp hi).1
    rw [List.length_append] at hlt
    by_cases h : i < ts.length
    · rw [List.getElem?_append_left h] at hi
      refine e02 (inv.ok.kids i o' ks' hi) fun h1 h2 => ?_
      refine ⟨h1, fun k hk => ?_⟩
      try dsimp only
      refine e12 (h2 k hk) fun j hj hj2 => ?_
      exact ⟨j, hj, by rw [List.getElem?_append_left (by exact Nat.lt_trans hj h)]; exact hj2⟩
    · have hi' : i = ts.length := by simp at hlt; lia
      subst hi'
      rw [List.getElem?_append_right (Nat.le_refl _)] at hi
      simp at hi
      obtain ⟨rfl, rfl⟩ := hi
      refine ⟨hk9, fun k hk => ?_⟩
      try dsimp only
      refine e12 (idxLt hidx k hk) fun j hj hj2 => ?_
      exact ⟨j, hj, by rw [List.getElem?_append_left hj]; exact hj2⟩
  · intro u hu
    rcases List.mem_append.mp hu with hu | hu
    · exact inv.ok.size u hu
    · rw [List.mem_singleton.mp hu]; exact hsz
  · intro i u c' h1 h2
    rcases at1 inv.cl.symm h1 h2 with ⟨h1, h2⟩ | ⟨_, rfl, rfl⟩
    · exact (inv.node i u c' h1 h2).more
    · exact ⟨o, ks, t, vs, ns, rfl, hc, hints, hidx.more⟩
  · intro i x hx
    have hlt := (List.getElem?_eq_some_iff.mp hx).1
    rw [List.length_append] at hlt
    by_cases h : i < xs.length
    · rw [List.getElem?_append_left h] at hx
      refine x5c4 (inv.xs.2 i x hx) fun o' ks' ns' c' t' h1 h2 h3 h4 => ?_
      have hx1 := inv.xs.1
      exact ⟨o', ks', ns', c', t', by rw [List.getElem?_append_left (by exact Nat.lt_of_lt_of_le h (Nat.le_of_eq hx1))]; exact h1, h2.more, by rw [List.getElem?_append_left (by have := inv.cl; exact Nat.lt_of_lt_of_le (Nat.lt_of_lt_of_le h (Nat.le_of_eq hx1)) (Nat.le_of_eq this.symm))]; exact h3, h4⟩
    · have hi' : i = xs.length := by simp at hlt; lia
      have hx1 := inv.xs.1
      have hcl := inv.cl
      subst hi'
      rw [List.getElem?_append_right (Nat.le_refl _)] at hx
      simp at hx
      refine ⟨o, ks, ns, c, tk, ?_, hidx.more, ?_, ?_⟩
      try dsimp only
      · rw [hx1, List.getElem?_append_right (Nat.le_refl _)]; simp
      · rw [hx1, ← hcl, List.getElem?_append_right (Nat.le_refl _)]; simp
      · rw [← hx, hx1]
  · intro i u v h1 h2
    rcases at1 inv.wl.symm h1 h2 with ⟨h1, h2⟩ | ⟨_, rfl, rfl⟩
    · exact inv.wt i u v h1 h2
    · exact ⟨mw, tw, rfl, hw⟩
  · intro i u v h1 h2
    rcases at1 inv.dl.symm h1 h2 with ⟨h1, h2⟩ | ⟨_, rfl, rfl⟩
    · exact inv.dt i u v h1 h2
    · exact ⟨md, td, rfl, hd⟩

section
variable {prog : Program} {w : World} {A : Around} {B : Heap} {s : Shared}
set_option maxHeartbeats 8000000 in
theorem take_spec (W : Wd w B) {R : Result → Shared → Prop} {k : BK} {ts : List T} {o : Op} {t : Tok} {kv : Value} {vs : List Value} {ns : List Nat} {ks : List T} {n : Nat} (kb : Kp B s.heap) (hr : Room A (n + 4)) (off : BankOff B k) (bk : BankAt prog w s.heap k ts) (hlen : ts.length ≤ 5000) (ho : o.isQ = false)
    (hkv : KidsArg s.heap kv vs) (hints : IntsL ns vs) (hidx : Idx ts ks ns) (hk9 : ks.length ≤ 9) (hsz : (T.nd o ks).size ≤ 1000)
    (hR : ∀ h' tk (i : Nat) ti us, Chg k.four s.heap h' → Imm s.heap h' → BankAt prog w h' k (ts ++ us) → us.length ≤ 1 → (ts ++ us)[i]? = some (T.nd o ks) → R (.ok (.ret (.int (i : Nat) ti))) { s with heap := h', toks := tk }) :
    codeAny (model prog w) A (.call (.ref 122) ⟨[.ref k.b, .str o.s t, kv], []⟩) R s := by
  refine enterX (n := n + 3) (fun L => [("self", L + 1)]) (fun L => [(L, nsP (up (up nil0 "op" (.str o.s t)) "kids" kv)), (L + 1, cellP (some (.ref k.b)))]) W kb hr ?_
  intro L env h₁ tk EO hL S0 E'
  try dsimp only
  refine x4c3 (S0.bank off bk) fun cs wv dv xs inv I S => ?_
  have hkv1 := hkv.kp S0.kpH
  have im0 : Imm s.heap h₁ := Imm.kp S0.kpH
  have hvl : vs.length ≤ 9 := by rw [hints.length, hidx.length]; exact hk9
  have hu2 : (A.deeper (envX (Str.ofString "Bank.take") default L 122 (Value.ref 121) [("self", L + 1)])).in1.units < cLine := by
    have := (hr.deeper (env := (envX (Str.ofString "Bank.take") default L 122 (Value.ref 121) [("self", L + 1)]))).2.2
    show _ + 1 < _
    lia
  clear S0
  -- node
  refine wpAny_execs_cons (cps (P := fun Q' => ∀ (h' : Heap) (tk' : Nat) (c : Addr), (IsTup h' c (List.toArray (Value.str o.s t :: vs))) → (Imm h₁ h') → (St B s.heap k.four (bankOw prog w k cs wv dv xs [(L, nsP (up (up (up nil0 "op" (.str o.s t)) "kids" kv) "node" (.ref c))), (L + 1, cellP (some (.ref k.b)))]) h') → Q' .next { s with heap := h', toks := tk' }) ?_ ?_)
  · intro K0 hK0
    refine wpAny_Assign_Name (wpAny_BinOp (tup1 (nameL EO (S.ns 4 rfl) rfl (fun h2 c2 (k2 : Kp h₁ h2) hc2 => ?_))))
    try dsimp only
    have S2 := S.kp k2
    refine callB W S2.kb EO bn_tuple rfl (nameL EO (S2.ns 4 rfl) rfl ?_)
    try dsimp only
    obtain ⟨l, rfl, hl | hl⟩ := hkv1.kp k2
    · refine call_tuple_tup hl ?_
      try dsimp only
      refine add_tup (vs := [Value.str o.s t]) (ws := vs) hc2 hl (fun h4 c4 (k4 : Kp h2 h4) hc4 => ?_) (by simp; have := sizeLine_big; lia)
      have S4 := S2.kp k4
      refine S4.storeL 4 rfl EO (fun h5 S5 im5 => ?_)
      try dsimp only
      exact (hK0 h5 _ c4 (im5 _ _ hc4) ((Imm.kp (k2.tr k4)).tr im5) S5)
    · refine tuple_of_list hl (by exact Nat.le_trans hvl (Nat.le_of_ble_eq_true rfl)) (fun h3 c3 (k3 : Kp h2 h3) hc3 => ?_)
      try dsimp only
      refine add_tup (vs := [Value.str o.s t]) (ws := vs) (hc2.keeps k3) hc3 (fun h4 c4 (k4 : Kp h3 h4) hc4 => ?_) (by simp; have := sizeLine_big; omega)
      have S4 := (S2.kp k3).kp k4
      refine S4.storeL 4 rfl EO (fun h5 S5 im5 => ?_)
      try dsimp only
      exact (hK0 h5 _ c4 (im5 _ _ hc4) ((Imm.kp ((k2.tr k3).tr k4)).tr im5) S5)
  intro h2 tk2 c hc im2 S2
  have inv2 := inv.imm im2
  have I2 := S2.bankObj off bk.obj
  have hnum := S2.numbers 1 rfl inv2
  have hkey : (tupleKind (mixKind prog w)).is h2 (keyN o ns) c := key_is hc hints
  dsimp only
  refine wpAny_execs_cons (wpAny_If (wpAny_isTrue_Compare1 (nameL EO (S2.ns 4 rfl) rfl (attrBC W S2.kb EO (S2.cell 5 rfl) I2 (fun _ N => N.numbers) rfl ?_))))
  try dsimp only
  refine wpAny_in_heap (s := { s with heap := h2, toks := _ }) hu2 hkey off.mods hnum (wpAny_truthy_bool ?_)
  dsimp only
  cases hat : atKey xs (keyN o ns) with
  | some p =>
    refine e22 (atKey_some inv2 hidx hat) fun i ti hp2 hi => ?_
    refine ifT rfl (wpAny_execs_cons (wpAny_Return_some (Subscript_ (attrBC W S2.kb EO (S2.cell 5 rfl) I2 (fun _ N => N.numbers) rfl (nameL EO (S2.ns 4 rfl) rfl ?_)))))
    try dsimp only
    refine tail_any (T := "dict") hnum.typeIs slot_dict_getitem.lookup (wpAny_getItem_heap (s := { s with heap := h2, toks := _ }) hu2 hkey hnum hat ?_) (by with_unfolding_all rfl)
    rw [hp2]
    exact hR h2 _ i ti [] S2.chg (im0.tr im2) (by rw [List.append_nil]; exact S2.bankAt off bk.obj inv2) (Nat.zero_le _) (by rw [List.append_nil]; exact hi)
  | none =>
    have hnot := atKey_none inv2 hidx hat
    refine ifF rfl (wpAny_execs_nil ?_)
    try dsimp only
    refine wpAny_execs_cons (wpAny_Expr_any (methB W (fun _ N => N.require) kf_require (nameC EO (S2.cell 5 rfl) ⟨rfl, S2.kb, I2, nameL EO (S2.ns 4 rfl) rfl ⟨S2.kb, require_spec W (n := n) S2.kb (hr.deeper.mono (by simp)) ho (fun h3 tk3 (k3 : Kp h2 h3) => ?_)⟩⟩) rfl (fun w => ⟨_, rfl, rfl⟩)))
    have S3 := S2.kp k3
    have hc3 := hc.keeps k3
    have inv3 := inv2.imm (Imm.kp k3)
    clear S2 hnum I2 inv2 hkey
    dsimp only
    have im3 : Imm s.heap h3 := (im0.tr im2).tr (Imm.kp k3)
    have hnl := hints.length
    have hcl := inv3.cl
    have hcsz : (Value.str o.s t :: vs).length ≤ sizeLine := by have := sizeLine_big; simp; exact Nat.lt_of_le_of_lt (by assumption) (Nat.le_of_ble_eq_true rfl)
    -- for kid in node[1:]
    refine wpAny_execs_cons (forTup B s.heap k.four hr.hh (hide fun K1 hK1 => sub_tup_from (nameL EO (S3.ns 4 rfl) rfl ⟨c, _, rfl, hc3, by simp, hcsz, fun h4 d tk4 (k4 : Kp h3 h4) hdn hd => ?_⟩)))
    have S4 := S3.kp k4
    refine hK1 _ _ ⟨d, vs, _, fun i ow h => ∃ m, ow = bankOw prog w k cs wv dv xs [(L, nsP m), (L + 1, cellP (some (.ref k.b)))] ∧ m "node" = some (.ref c), rfl, by simpa using hd, S4, fun _ _ _ _ _ h => h, ⟨_, rfl, rfl⟩, ?_, ?_⟩
    · intro i ow h tk5 it p x hx im S5 hpz2; (refine e12 hpz2 fun m hq1 hmn => ?_; subst hq1; clear hpz2)
      (refine e22 (hints.at hx) fun ni ti hni hq3 => ?_; subst hq3)
      refine e12 (hidx.at hni) fun ki hki hti => ?_
      have hnlt : ni < ts.length := (List.getElem?_eq_some_iff.mp hti).1
      refine wpAny_pure (wpAny_assign_Name (S5.storeL 5 rfl EO (fun h6 S6 im6 => ?_)))
      refine hide (fun K2 hK2 => ?_)
      try dsimp only [List.set_cons_zero, List.set_cons_succ] at S6
      have I6 : BankObj h6 k := bk.obj.of (fun _ e => S6.base _ _ off.b e) (fun _ e => S6.base _ _ off.db e)
      refine wpAny_execs_cons (wpAny_If (wpAny_isTrue_Not (isTrue_chain (wpAny_Constant_int (test_link (nameL EO (S6.ns 5 rfl) rfl (PyProof.Rows.le_int (wpAny_truthy_bool (ifT (decide_eq_true (by simp)) (test_last ?_))))))))))
      refine callB W S6.kb EO bn_len rfl (attrBC W S6.kb EO (S6.cell 6 rfl) I6 (fun _ N => N.nodes) rfl (len_listL (S6.list 1 rfl) (by rw [List.length_map]; exact Nat.le_trans (Nat.le_trans (Nat.le_of_eq hcl) hlen) (Nat.le_of_ble_eq_true rfl)) (PyProof.Rows.lt_int (wpAny_truthy_bool ?_))))
      refine ifF (by rw [List.length_map, hcl]; simp; simp [*]) (wpAny_execs_nil (wpAny_execs_nil ?_))
      exact hK2 _ _ ⟨h6, _, _, rfl, im6, S6, up m "kid" (.int ni ti), rfl, hmn⟩
    intro ow h5 tk5 im5 S5 hpz3; (refine e12 hpz3 fun m hq1 hmn => ?_; subst hq1; clear hpz3)
    have inv5 := inv3.imm ((Imm.kp k4).tr im5)
    have hc5 : IsTup h5 c (List.toArray (Value.str o.s t :: vs)) := im5 _ _ (hc3.keeps k4)
    have I5 := S5.bankObj off bk.obj
    dsimp only
    -- self.numbers[node] = len(self.nodes)
    refine wpAny_execs_cons (wpAny_Assign_Subscript (callB W S5.kb EO bn_len rfl (attrBC W S5.kb EO (S5.cell 5 rfl) I5 (fun _ N => N.nodes) rfl (len_listL (S5.list 0 rfl) (by rw [List.length_map]; exact Nat.le_trans (Nat.le_trans (Nat.le_of_eq hcl) hlen) (Nat.le_of_ble_eq_true rfl)) ?_))))
    try dsimp only
    refine attrBC W S5.kb EO (S5.cell 5 rfl) I5 (fun _ N => N.numbers) rfl (nameL EO (S5.ns 4 rfl) hmn ?_)
    try dsimp only
    refine wpAny_setItem_heap (s := { s with heap := h5, toks := _ }) hu2 (key_is hc5 hints) (S5.numbers 1 rfl inv5) (fun h6 hd6 hs6 => ?_) (by rw [inv5.xs.1]; have := sizeLine_big; exact Nat.le_trans hlen (Nat.le_of_ble_eq_true rfl))
    rw [storedH_new hat] at hd6
    rw [List.length_map, hcl] at hd6
    refine e02 (S5.upd (h' := h6) (p' := numP prog w (xs ++ [(keyN o ns, c, Value.int (ts.length : Nat) _)])) 1 rfl hs6.extBut (by
      obtain ⟨od, es, ep, e, hex, hd, hes, _⟩ := hd6
      exact ⟨od, e, ⟨es, ep, hex, hd, hes⟩, numP.nt ⟨es, ep, hex, hd, hes⟩⟩)) fun S6 im6 => ?_
    try dsimp only [List.set_cons_zero, List.set_cons_succ] at S6
    generalize hxs : xs ++ [(keyN o ns, c, Value.int (ts.length : Nat) _)] = xs' at S6
    have im06 : Imm s.heap h6 := ((im3.tr (Imm.kp k4)).tr im5).tr im6
    have I6 : BankObj h6 k := bk.obj.of (fun _ e => S6.base _ _ off.b e) (fun _ e => S6.base _ _ off.db e)
    have hc6 := im6 _ _ hc5
    have inv6 := inv5.imm im6
    clear S5 inv5 I5
    dsimp only
    -- self.nodes.append(node)
    refine wpAny_execs_cons (wpAny_Expr_any (methT PySem.F.plainAttrs_list PySem.F.slot_list_append PySem.F.type_list_append (attrBC W S6.kb EO (S6.cell 5 rfl) I6 (fun _ N => N.nodes) rfl ⟨plain_typeIs (S6.plain 0 rfl), nd_list (S6.plain 0 rfl), nameL EO (S6.ns 4 rfl) hmn ?_⟩)))
    try dsimp only
    refine wpAny_list_append_plain (S6.plain 0 rfl) (fun h7 hpl7 hs7 => ?_) (by rw [List.size_toArray, List.length_map]; have := sizeLine_big; exact Nat.le_trans (Nat.le_trans (Nat.le_of_eq hcl) hlen) (Nat.le_of_ble_eq_true rfl))
    have e7 : (List.toArray (cs.map Value.ref)).push (Value.ref c) = List.toArray ((cs ++ [c]).map Value.ref) := by simp
    rw [e7] at hpl7
    refine e02 (S6.setList 0 rfl hs7 hpl7) fun S7 im7 => ?_
    try dsimp only [List.set_cons_zero, List.set_cons_succ] at S7
    have I7 : BankObj h7 k := bk.obj.of (fun _ e => S7.base _ _ off.b e) (fun _ e => S7.base _ _ off.db e)
    have hc7 := im7 _ _ hc6
    have inv7 := inv6.imm im7
    clear S6 inv6 I6
    dsimp only
    -- self.weights.append(1 + sum(..))
    have hsum : (ks.map T.size).sum + 1 = (T.nd o ks).size := by rw [size_nd]; lia
    refine wpAny_execs_cons (wpAny_Expr_any (methT PySem.F.plainAttrs_list PySem.F.slot_list_append PySem.F.type_list_append (attrBC W S7.kb EO (S7.cell 5 rfl) I7 (fun _ N => N.weights) rfl ⟨plain_typeIs (S7.plain 2 rfl), nd_list (S7.plain 2 rfl), wpAny_BinOp (wpAny_Constant_int (callB W S7.kb EO bn_sum rfl ?_))⟩)))
    try dsimp only
    refine compTupMap B s.heap k.four EO hr.hh (hide fun K3 hK3 => sub_tup_from (nameL EO (S7.ns 4 rfl) hmn ⟨c, _, rfl, hc7, by simp, hcsz, fun h8 d8 tk8 (k8 : Kp h7 h8) hdn8 hd8 => ?_⟩))
    try dsimp only
    have S8 := S7.kp k8
    refine hK3 _ _ ⟨d8, vs, _, fun i y h => ∃ kk, ks[i]? = some kk ∧ ∃ (mm : Nat) (tt : Tok), y = Value.int (mm : Nat) tt ∧ mm ≤ kk.size, rfl, by simpa using hd8, by exact Nat.le_trans hvl (Nat.le_of_ble_eq_true rfl), S8, fun _ _ _ _ _ h => h, ?_, ?_⟩
    try dsimp only
    · intro i h tkk C mC ow' x hx imx S9 hin EO'
      (refine e22 (hints.at hx) fun ni ti hni hq3 => ?_; subst hq3)
      refine e12 (hidx.at hni) fun ki hki hti => ?_
      have hnlt : ni < ts.length := (List.getElem?_eq_some_iff.mp hti).1
      obtain ⟨v, hv⟩ : ∃ v, wv[ni]? = some v := ⟨_, List.getElem?_eq_getElem (by rw [inv7.wl]; exact hnlt)⟩
      (refine e22 (inv7.wt ni ki v hti hv) fun mv tv hq2 hle => ?_; subst hq2)
      have I9 : BankObj h k := bk.obj.of (fun _ e => S9.base _ _ off.b e) (fun _ e => S9.base _ _ off.db e)
      refine Subscript_ (attrBC W S9.kb EO' (S9.cellM (a := L + 1) (v := some (.ref k.b)) (.tail _ (hin _ (.tail _ (.tail _ (.tail _ (.tail _ (.tail _ (.head _))))))))) I9 (fun _ N => N.weights) rfl (nameL EO' (S9.ns 0 rfl) rfl (item_list (k := ni) (S9.plainM (a := k.wl) (v := wv.toArray) (.tail _ (hin _ (.tail _ (.tail _ (.head _)))))).isList rfl hv (by exact Nat.lt_of_lt_of_le (Nat.lt_of_lt_of_le hnlt hlen) (Nat.le_of_ble_eq_true rfl)) ?_)))
      try dsimp only
      exact ⟨h, _, rfl, fun _ _ e => e, ki, hki, mv, tv, rfl, hle⟩
    intro ys h9 tk9 D hyl hF hDn9 im9 S9
    refine sum_nats hr.hh (S9.list 0 rfl) (NatsLe.of (bs := ks.map T.size) (by rw [List.length_map, hyl, hnl, hidx.length]) (fun i b v h1 h2 => ?_)) (by lia) (fun h10 tk10 t10 mm (k10 : Kp h9 h10) hmm => ?_)
    try dsimp only
    · obtain ⟨kk, hkk, mm, tt, rfl, hle⟩ := hF i v h2
      rw [List.getElem?_map, hkk] at h1
      cases h1
      exact ⟨mm, tt, rfl, hle⟩
    have S10 := (S9.tail (ext_notin S8 hDn9)).kp k10
    have I10 := S10.bankObj off bk.obj
    refine PyProof.Rows.add_int ?_
    have e10 : (1 + (mm : Int)) = ((1 + mm : Nat) : Int) := by rfl
    (refine Eq.symm (e10 ..) ▸ ?_)
    dsimp only
    refine wpAny_list_append_plain (S10.plain 2 rfl) (fun h11 hpl11 hs11 => ?_) (by rw [List.size_toArray, inv7.wl]; have := sizeLine_big; exact Nat.le_trans hlen (Nat.le_of_ble_eq_true rfl))
    rw [List.push_toArray] at hpl11
    refine e02 (S10.setList 2 rfl hs11 hpl11) fun S11 im11 => ?_
    try dsimp only [List.set_cons_zero, List.set_cons_succ] at S11
    have I11 : BankObj h11 k := bk.obj.of (fun _ e => S11.base _ _ off.b e) (fun _ e => S11.base _ _ off.db e)
    have im711 : Imm h7 h11 := (((Imm.kp k8).tr im9).tr (Imm.kp k10)).tr im11
    have hc11 := im711 _ _ hc7
    have inv11 := inv7.imm im711
    clear S7 S8 S9 S10 I10 I7 inv7
    dsimp only
    -- self.depths.append(1 + max(.. + [0]))
    refine wpAny_execs_cons (wpAny_Expr_any (methT PySem.F.plainAttrs_list PySem.F.slot_list_append PySem.F.type_list_append (attrBC W S11.kb EO (S11.cell 5 rfl) I11 (fun _ N => N.depths) rfl ⟨plain_typeIs (S11.plain 3 rfl), nd_list (S11.plain 3 rfl), wpAny_BinOp (wpAny_Constant_int (callB W S11.kb EO bn_max rfl (wpAny_BinOp ?_)))⟩)))
    try dsimp only
    refine compTupMap B s.heap k.four EO hr.hh (hide fun K4 hK4 => sub_tup_from (nameL EO (S11.ns 4 rfl) hmn ⟨c, _, rfl, hc11, by simp, hcsz, fun h12 d12 tk12 (k12 : Kp h11 h12) hdn12 hd12 => ?_⟩))
    try dsimp only
    have S12 := S11.kp k12
    refine hK4 _ _ ⟨d12, vs, _, fun i y h => ∃ kk, ks[i]? = some kk ∧ ∃ (mm : Nat) (tt : Tok), y = Value.int (mm : Nat) tt ∧ mm ≤ kk.size, rfl, by simpa using hd12, by exact Nat.le_trans hvl (Nat.le_of_ble_eq_true rfl), S12, fun _ _ _ _ _ h => h, ?_, ?_⟩
    try dsimp only
    · intro i h tkk C mC ow' x hx imx S13 hin EO'
      (refine e22 (hints.at hx) fun ni ti hni hq3 => ?_; subst hq3)
      refine e12 (hidx.at hni) fun ki hki hti => ?_
      have hnlt : ni < ts.length := (List.getElem?_eq_some_iff.mp hti).1
      obtain ⟨v, hv⟩ : ∃ v, dv[ni]? = some v := ⟨_, List.getElem?_eq_getElem (by rw [inv11.dl]; exact hnlt)⟩
      (refine e22 (inv11.dt ni ki v hti hv) fun mv tv hq2 hle => ?_; subst hq2)
      have I13 : BankObj h k := bk.obj.of (fun _ e => S13.base _ _ off.b e) (fun _ e => S13.base _ _ off.db e)
      refine Subscript_ (attrBC W S13.kb EO' (S13.cellM (a := L + 1) (v := some (.ref k.b)) (.tail _ (hin _ (.tail _ (.tail _ (.tail _ (.tail _ (.tail _ (.head _))))))))) I13 (fun _ N => N.depths) rfl (nameL EO' (S13.ns 0 rfl) rfl (item_list (k := ni) (S13.plainM (a := k.dl) (v := dv.toArray) (.tail _ (hin _ (.tail _ (.tail _ (.tail _ (.head _))))))).isList rfl hv (by exact Nat.lt_of_lt_of_le (Nat.lt_of_lt_of_le hnlt hlen) (Nat.le_of_ble_eq_true rfl)) ?_)))
      try dsimp only
      exact ⟨h, _, rfl, fun _ _ e => e, ki, hki, mv, tv, rfl, hle⟩
    intro zs h13 tk13 D2 hzl hG hDn13 im13 S13
    have hlez : NatsLe (ks.map T.size) zs := NatsLe.of (by rw [List.length_map, hzl, hnl, hidx.length]) (fun i b v h1 h2 => by
      obtain ⟨kk, hkk, mm, tt, rfl, hle⟩ := hG i v h2
      rw [List.getElem?_map, hkk] at h1
      cases h1
      exact ⟨mm, tt, rfl, hle⟩)
    refine list1K (wpAny_Constant_int (fun h14 l14 (k14 : Kp h13 h14) hln14 hp14 => ?_))
    have S14 := S13.kp k14
    dsimp only
    refine add_lists (S14.plain 0 rfl) hp14 (by simp; exact Nat.le_trans (Nat.le_trans (Nat.le_of_eq hzl) hvl) (Nat.le_of_ble_eq_true rfl)) (fun h15 c15 (k15 : Kp h14 h15) hcn15 hpl15 => ?_)
    try dsimp only
    have S15 := S14.kp k15
    refine max_nats (bs := ks.map T.size ++ [0]) (M := (ks.map T.size).sum) hr.hh hpl15.isList (hlez.snoc (Nat.le_refl _)) (by simp) (fun b hb => ?_) (fun h16 tk16 t16 md (k16 : Kp h15 h16) hmd => ?_)
    try dsimp only
    · rcases List.mem_append.mp hb with hb | hb
      · exact le_sum hb
      · rw [List.mem_singleton.mp hb]; exact Nat.zero_le _
    have S16 := (S15.tail (ext_notin S12 hDn13)).kp k16
    refine PyProof.Rows.add_int ?_
    have e16 : (1 + (md : Int)) = ((1 + md : Nat) : Int) := by rfl
    (refine Eq.symm (e16 ..) ▸ ?_)
    dsimp only
    refine wpAny_list_append_plain (S16.plain 3 rfl) (fun h17 hpl17 hs17 => ?_) (by rw [List.size_toArray, inv11.dl]; have := sizeLine_big; exact Nat.le_trans hlen (Nat.le_of_ble_eq_true rfl))
    rw [List.push_toArray] at hpl17
    refine e02 (S16.setList 3 rfl hs17 hpl17) fun S17 im17 => ?_
    try dsimp only [List.set_cons_zero, List.set_cons_succ] at S17
    have I17 : BankObj h17 k := bk.obj.of (fun _ e => S17.base _ _ off.b e) (fun _ e => S17.base _ _ off.db e)
    have im1117 : Imm h11 h17 := ((((Imm.kp k12).tr im13).tr (Imm.kp (k14.tr k15))).tr (Imm.kp k16)).tr im17
    have hc17 := im1117 _ _ hc11
    have inv17 := inv11.imm im1117
    clear S11 S12 S13 S14 S15 S16 I11 inv11
    dsimp only
    -- return len(self.nodes) - 1
    refine wpAny_execs_cons (wpAny_Return_some (wpAny_BinOp (callB W S17.kb EO bn_len rfl (attrBC W S17.kb EO (S17.cell 5 rfl) I17 (fun _ N => N.nodes) rfl (len_listL (S17.list 0 rfl) (by rw [List.length_map, List.length_append, hcl]; simp; exact Nat.le_trans hlen (Nat.le_of_ble_eq_true rfl)) ?_)))))
    try dsimp only
    refine wpAny_Constant_int (PyProof.Rows.sub_int ?_)
    try dsimp only
    have e18 : (((List.map Value.ref (cs ++ [c])).length : Nat) : Int) - 1 = ((ts.length : Nat) : Int) := by rw [List.length_map, List.length_append, hcl]; simp
    rw [e18]
    have invE := fun (tka twa tda : Tok) => bankInv_snoc (tk := tka) inv17 hidx hints hc17 hnot hk9 hsz (mw := 1 + mm) (md := 1 + md) (tw := twa) (td := tda) (by lia) (by lia)
    refine hR h17 _ ts.length _ [T.nd o ks] S17.chg ((im06.tr im7).tr (im711.tr im1117)) (S17.bankAt off bk.obj (by rw [← hxs]; exact invE _ _ _)) (by simp) (by rw [List.getElem?_append_right (Nat.le_refl _)]; simp)
end
section
variable {prog : Program} {w : World}
/-- a call has changed the Bank's four objects -/
theorem St.bankUpd {B H h h' : Heap} {pre ow : List (Addr × OP)} {k : BK} {ts' : List T} {cs : List Addr} {wv dv : List Value} {xs} (x : St B H k.four (pre ++ bankOw prog w k cs wv dv xs ow) h) (off : BankOff B k) (hc : Chg k.four h h') (bk : BankAt prog w h' k ts') :
    X4 fun cs' wv' dv' xs' => BankInv h' ts' cs' wv' dv' xs' ∧ St B H k.four (pre ++ bankOw prog w k cs' wv' dv' xs' ow) h' := by
  obtain ⟨o, cs', wv', dv', xs', inv, e1, e2, e3, e4⟩ := bk
  refine ⟨cs', wv', dv', xs', inv, ?_⟩
  try dsimp only
  have keys : ∀ (cs : List Addr) (wv dv : List Value) (xs), (pre ++ bankOw prog w k cs wv dv xs ow).map (·.1) = pre.map (·.1) ++ k.nl :: k.nd :: k.wl :: k.dl :: ow.map (·.1) := fun cs wv dv xs => by simp
  have nd := x.nd
  rw [keys] at nd
  rw [List.nodup_append] at nd
  obtain ⟨_, nd2, nd3⟩ := nd
  simp only [List.nodup_cons, List.mem_cons, not_or] at nd2
  have hpre : ∀ p ∈ pre, p.1 ∉ k.four := fun p hp q => by
    have h1 : p.1 ∈ pre.map (·.1) := List.mem_map.mpr ⟨p, hp, rfl⟩
    simp only [BK.four, List.mem_cons, List.not_mem_nil, or_false] at q
    exact nd3 _ h1 _ (by simp only [List.mem_cons]; rcases q with q | q | q | q <;> simp [q]) rfl
  have how : ∀ p ∈ ow, p.1 ∉ k.four := fun p hp q => by
    have h1 : p.1 ∈ ow.map (·.1) := List.mem_map.mpr ⟨p, hp, rfl⟩
    simp only [BK.four, List.mem_cons, List.not_mem_nil, or_false] at q
    rcases q with q | q | q | q
    · exact nd2.1.2.2.2 (q ▸ h1)
    · exact nd2.2.1.2.2 (q ▸ h1)
    · exact nd2.2.2.1.2 (q ▸ h1)
    · exact nd2.2.2.2.1 (q ▸ h1)
  have hB : ∀ b o, B.get? b = some o → b ∉ k.four := fun b o e q => by
    simp only [BK.four, List.mem_cons, List.not_mem_nil, or_false] at q
    rcases q with q | q | q | q
    · rw [q, off.nl] at e; cases e
    · rw [q, off.nd] at e; cases e
    · rw [q, off.wl] at e; cases e
    · rw [q, off.dl] at e; cases e
  have cases' : ∀ {cs : List Addr} {wv dv : List Value} {xs} {P : Addr × OP → Prop}, (∀ p ∈ pre, P p) → (∀ p ∈ ow, P p) → P (k.nl, listP (List.toArray (cs.map Value.ref))) → P (k.nd, numP prog w xs) → P (k.wl, listP wv.toArray) → P (k.dl, listP dv.toArray) → ∀ p ∈ pre ++ bankOw prog w k cs wv dv xs ow, P p := by
    intro cs wv dv xs P a b c d e f p hp
    rcases List.mem_append.mp hp with hp | hp
    · exact a p hp
    rcases List.mem_cons.mp hp with rfl | hp
    · exact c
    rcases List.mem_cons.mp hp with rfl | hp
    · exact d
    rcases List.mem_cons.mp hp with rfl | hp
    · exact e
    rcases List.mem_cons.mp hp with rfl | hp
    · exact f
    exact b p hp
  have get : ∀ p ∈ pre ++ bankOw prog w k cs wv dv xs ow, B.get? p.1 = none ∧ (H.get? p.1 = none ∨ p.1 ∈ k.four) := x.new
  refine ⟨fun b o e => hc b o (hB b o e) (x.kb b o e), fun b o hb e => hc b o hb (x.base b o hb e), cases' (fun p hp => ?_) (fun p hp => ?_) (let ⟨o, e, p⟩ := e1; ⟨o, e, p, p.nt⟩) (let ⟨o, e, p⟩ := e2; ⟨o, e, p, p.nt⟩) (let ⟨o, e, p⟩ := e3; ⟨o, e, p, p.nt⟩) (let ⟨o, e, p⟩ := e4; ⟨o, e, p, p.nt⟩),
    cases' (fun p hp => get p (List.mem_append_left _ hp)) (fun p hp => get p (List.mem_append_right _ (.tail _ (.tail _ (.tail _ (.tail _ hp)))))) ⟨off.nl, .inr (by simp)⟩ ⟨off.nd, .inr (by simp)⟩ ⟨off.wl, .inr (by simp)⟩ ⟨off.dl, .inr (by simp)⟩, ?_, ?_⟩
  · refine e12 (x.own p (List.mem_append_left _ hp)) fun o e r => ?_
    exact ⟨o, hc _ _ (hpre p hp) e, r⟩
  · refine e12 (x.own p (List.mem_append_right _ (.tail _ (.tail _ (.tail _ (.tail _ hp)))))) fun o e r => ?_
    exact ⟨o, hc _ _ (how p hp) e, r⟩
  · have := x.nd
    rw [keys] at this ⊢; exact this
  · have := x.sub
    rw [keys] at this ⊢; exact this
end
theorem kf_put_all (w : World) : keepIn (KK w) (.ref 141) = true := by kernel_rfl
/-- every op stands for itself: no variable -/
noncomputable def Ground : T → Prop := fun t => ∀ u ∈ subs t, u.op.isQ = false
section
variable {prog : Program} {w : World} {B : Heap}
set_option maxHeartbeats 8000000 in
theorem put_all_spec (W : Wd w B) {k : BK} (off : BankOff B k) : ∀ (n : Nat) (t : T) (A : Around) (s : Shared) (R : Result → Shared → Prop) (v : Value) (ts : List T), Wf n t → Ground t → t.size ≤ 900 → Kp B s.heap → Room A (n + 5) → BankAt prog w s.heap k ts → ts.length + t.size ≤ 5000 → Rep s.heap t v →
    (∀ h' tk (i : Nat) ti us, Chg k.four s.heap h' → Imm s.heap h' → BankAt prog w h' k (ts ++ us) → us.length ≤ t.size → (ts ++ us)[i]? = some t → R (.ok (.ret (.int (i : Nat) ti))) { s with heap := h', toks := tk }) →
    codeAny (model prog w) A (.call (.ref 141) ⟨[.ref k.b, v], []⟩) R s := by
  intro n
  induction n with
  | zero => intro t A s R v ts hw; exact hw.elim
  | succ n ih =>
    intro t A s R v ts hw hg hsz kb hr bk hlen hp hR
    refine enterX (n := n + 5) (fun L => [("self", L + 1)]) (fun L => [(L, nsP (up nil0 "t" v)), (L + 1, cellP (some (.ref k.b)))]) W kb hr ?_
    intro L env h₁ tk EO hL S0 E'
    try dsimp only
    have hp1 := hp.imm (Imm.kp S0.kpH)
    have im0 : Imm s.heap h₁ := Imm.kp S0.kpH
    have bk1 := bk.kp S0.kpH
    refine x4c3 (S0.bank off bk) fun cs wv dv xs inv I S => ?_
    clear S0
    obtain ⟨op, ks⟩ := t
    (refine x3c3 (Rep.iff.mp hp1) fun ad tk0 vs hq3 ht hks => ?_; subst hq3)
    have hvl : vs.length = ks.length := hks.length
    have hk9 : ks.length ≤ 9 := hw.1
    have hLs : (Value.str op.s tk0 :: vs).length ≤ sizeLine := by have := sizeLine_big; simp; lia
    have hop : op.isQ = false := hg _ (subs_self _)
    refine wpAny_execs_cons (wpAny_Return_some (methB W (fun _ N => N.take) kf_take (nameC EO (S.cell 5 rfl) ⟨rfl, S.kb, I, sub_tup (nameL EO (S.ns 4 rfl) rfl ⟨_, _, 0, _, rfl, ht, seq0 _, rfl, ?_⟩)⟩) rfl (fun w => ⟨_, rfl, rfl⟩)))
    refine callB W S.kb EO bn_tuple rfl ?_
    try dsimp only
    refine compTupE B s.heap k.four EO hr.hh (hide fun K1 hK1 => sub_tup_from (nameL EO (S.ns 4 rfl) rfl ⟨ad, _, rfl, ht, by simp, hLs, fun h2 d tk2 (k2 : Kp h₁ h2) hdn hd => ?_⟩))
    try dsimp only
    have S2 := S.kp k2
    have hks2 := hks.imm (Imm.kp k2)
    refine hK1 _ _ ⟨d, vs, _, fun i ys ow h => X6 fun us cs wv dv xs ns => C5 (ow = bankOw prog w k cs wv dv xs [(L, nsP (up nil0 "t" (.ref ad))), (L + 1, cellP (some (.ref k.b)))]) (BankInv h (ts ++ us) cs wv dv xs) (us.length ≤ ((ks.take i).map T.size).sum) (IntsL ns ys) (Idx (ts ++ us) (ks.take i) ns), rfl, by simpa using hd, by exact Nat.le_trans (Nat.le_trans (Nat.le_of_eq hvl) hk9) (Nat.le_of_ble_eq_true rfl), S2, ?_, ?_, ?_, ?_⟩
    · intro i ys ow h h' im hpz1; (refine x6c5 hpz1 fun us cs wv dv xs ns e inv r1 r2 r3 => ?_; clear hpz1)
      exact ⟨us, cs, wv, dv, xs, ns, e, inv.imm im, r1, r2, r3⟩
    · exact ⟨[], cs, wv, dv, xs, [], rfl, by rw [List.append_nil]; exact inv.imm (Imm.kp k2), Nat.zero_le _, rfl, rfl⟩
    · intro i ys ow h tk C D it p m x hx im hC S3 hpz2; (refine x6c5 hpz2 fun us cs wv dv xs ns hq6 inv hul hints hidx => ?_; subst hq6; clear hpz2)
      refine e12 (hks2.at hx) fun kk hkk hxk => ?_
      have hkm : kk ∈ ks := List.mem_of_getElem? hkk
      have hkz := size_kid (o := op) hkm
      have hsum : ((ks.take (i + 1)).map T.size).sum = ((ks.take i).map T.size).sum + kk.size := by
        rw [List.take_add_one, hkk]; simp
      have htot : (T.nd op ks).size = 1 + (ks.map T.size).sum := size_nd op ks
      have hle : ((ks.take (i + 1)).map T.size).sum ≤ (ks.map T.size).sum := by
        have e : ks.map T.size = (ks.take (i + 1)).map T.size ++ (ks.drop (i + 1)).map T.size := by rw [← List.map_append, List.take_append_drop]
        rw [e, List.sum_append]; simp
      refine wpAny_pure (wpAny_assign_Name (storeL ⟨EO.gl, EO.bi, rfl⟩ (S3.ns 0 rfl) (fun h4 hn4 hs4 => ?_)))
      refine e02 (S3.setNs 0 rfl hs4 hn4) fun S4 im4 => ?_
      try dsimp only [List.set_cons_zero, List.set_cons_succ] at S4
      have I4 : BankObj h4 k := bk.obj.of (fun _ e => S4.base _ _ off.b e) (fun _ e => S4.base _ _ off.db e)
      have bk4 : BankAt prog w h4 k (ts ++ us) := ⟨I4, cs, wv, dv, xs, inv.imm im4, let ⟨o, e, p, _⟩ := S4.get 3 rfl; ⟨o, e, p⟩, let ⟨o, e, p, _⟩ := S4.get 4 rfl; ⟨o, e, p⟩, let ⟨o, e, p, _⟩ := S4.get 5 rfl; ⟨o, e, p⟩, let ⟨o, e, p, _⟩ := S4.get 6 rfl; ⟨o, e, p⟩⟩
      refine wpAny_tests_nil (ifT rfl ?_)
      try dsimp only
      refine hide (fun K2 hK2 => ?_)
      refine methB W (fun _ N => N.put_all) kf_put_all (nameC ⟨EO.gl, EO.bi, rfl⟩ (S4.cell 8 rfl) ⟨rfl, S4.kb, I4, nameL ⟨EO.gl, EO.bi, rfl⟩ (S4.ns 0 rfl) rfl ⟨S4.kb, ih kk _ _ _ _ (ts ++ us) (hw.2 kk hkm) (fun u hu => hg u (subs_nd.mpr (.inr ⟨kk, hkm, hu⟩))) (by lia) S4.kb hr.deeper bk4 (by rw [List.length_append]; lia) (hxk.imm (im.tr im4)) (fun h5 tk5 j tj us2 hch im5 bk5 hul2 hj => ?_)⟩⟩) rfl (fun w => ⟨_, rfl, rfl⟩)
      refine x4c2 (St.bankUpd (pre := [_, _, _]) S4 off hch bk5) fun cs' wv' dv' xs' inv' S5 => ?_
      have htk : ks.take (i + 1) = ks.take i ++ [kk] := by rw [List.take_add_one, hkk]; rfl
      refine hK2 _ _ ⟨h5, tk5, _, _, rfl, im4.tr im5, S5, us ++ us2, cs', wv', dv', xs', ns ++ [j], rfl, by rw [← List.append_assoc]; exact inv', by rw [List.length_append]; lia, hints.snoc, ?_⟩
      try dsimp only
      rw [htk, ← List.append_assoc]
      exact (hidx.more (us := us2)).snoc hj
    · intro ys ow h tk D hyl hDn im S3 hpz3; (refine x6c5 hpz3 fun us cs wv dv xs ns hq6 inv hul hints hidx => ?_; subst hq6; clear hpz3)
      have hfull : ks.take vs.length = ks := by rw [hvl]; exact List.take_length
      rw [hfull] at hul hidx
      have htot : (T.nd op ks).size = 1 + (ks.map T.size).sum := size_nd op ks
      have S4 := S3.tail (ext_notin S2 hDn)
      refine tuple_of_list (S3.list 0 rfl) (by exact Nat.le_trans (Nat.le_trans (Nat.le_trans hyl (Nat.le_of_eq hvl)) hk9) (Nat.le_of_ble_eq_true rfl)) (fun h5 c5 (k5 : Kp h h5) hc5 => ?_)
      have S5 := S4.kp k5
      refine ⟨S5.kb, take_spec W (n := n + 1) S5.kb (hr.deeper.mono (by simp)) off (S5.bankAt off bk.obj (inv.imm (Imm.kp k5))) (by rw [List.length_append]; lia) hop ⟨c5, rfl, .inl hc5⟩ hints hidx hk9 (by exact Nat.le_trans hsz (Nat.le_of_ble_eq_true rfl)) (fun h6 tk6 i ti us2 hch im6 bk6 hul2 hi => ?_)⟩
      refine hR h6 tk6 i ti (us ++ us2) (S5.chg.tr hch) ((((im0.tr (Imm.kp k2)).tr im).tr (Imm.kp k5)).tr im6) (by rw [← List.append_assoc]; exact bk6) (by rw [List.length_append]; lia) (by rw [← List.append_assoc]; exact hi)
end
theorem kf_put2 (w : World) : keepIn (KK w) (.ref 136) = true := by kernel_rfl
section
variable {prog : Program} {w : World} {B : Heap}
set_option maxHeartbeats 8000000 in
theorem bput_spec (W : Wd w B) {k : BK} (off : BankOff B k) {n : Nat} {t : T} {A : Around} {s : Shared} {R : Result → Shared → Prop} {v : Value} {ts : List T} (hw : Wf n t) (hn : n ≤ 50) (hg : Ground t) (hsz : t.size ≤ 900) (kb : Kp B s.heap) (hr : Room A (n + 6)) (bk : BankAt prog w s.heap k ts) (hlen : ts.length + t.size ≤ 5000) (hp : Rep s.heap t v)
    (hR : ∀ h' tk (i : Nat) ti us, Chg k.four s.heap h' → Imm s.heap h' → BankAt prog w h' k (ts ++ us) → us.length ≤ t.size → (ts ++ us)[i]? = some t → R (.ok (.ret (.int (i : Nat) ti))) { s with heap := h', toks := tk }) :
    codeAny (model prog w) A (.call (.ref 136) ⟨[.ref k.b, v], []⟩) R s := by
  refine enterX (n := n + 5) (fun L => []) (fun L => [(L, nsP (up (up nil0 "self" (.ref k.b)) "t" v))]) W kb hr ?_
  intro L env h₁ tk EO hL S E'
  have hp1 := hp.imm (Imm.kp S.kpH)
  refine wpAny_execs_cons (forList B s.heap [] hr.hh (callF W S.kb EO gn_parts kf_parts (nameL EO (S.ns 0 rfl) rfl ⟨S.kb, parts_spec W n t _ _ _ v hw hn hsz S.kb (hr.deeper.mono (by simp)) hp1 (fun D ps h2 tk2 hDn (k2 : Kp h₁ h2) hD hps => ?_)⟩)))
  have S2 : St B s.heap [] [(D, listP ps.toArray), (L, nsP (up (up nil0 "self" (.ref k.b)) "t" v))] h2 := S.add hDn k2 (let ⟨nn, e⟩ := hD; ⟨_, e, ⟨nn, rfl⟩, listP.nt ⟨nn, rfl⟩⟩)
  refine ⟨D, ps, _, fun i ow h => ∃ m, ow = [(D, listP ps.toArray), (L, nsP m)] ∧ m "self" = some (.ref k.b) ∧ m "t" = some v, rfl, hD.isList, S2, fun _ _ _ _ _ h => h, ⟨_, rfl, rfl, rfl⟩, ?_, ?_, ?_⟩
  · intro i ow h it p im S3 hpz1; obtain ⟨m, rfl, _⟩ := hpz1
    exact S3.list 1 rfl
  · intro i ow h tk it p x hx im S3 hlit hpz2; (refine e13 hpz2 fun m hq1 hms hmt => ?_; subst hq1; clear hpz2)
    obtain ⟨u, hu, c, qq, vv, xs, rfl, hc, hq, hxl, hvv⟩ := hps.at hx
    have hum : u ∈ subs t := List.mem_of_getElem? hu
    have I3 : BankObj h k := bk.obj.of (fun _ e => S3.kpH _ _ e) (fun _ e => S3.kpH _ _ e)
    refine wpAny_letOwnedTupleGo_listiter hlit ?_
    refine assign_Tuple_tuple (items := #[.ref qq, vv]) hr.hh (im _ _ hc) rfl rfl (fun h4 hx4 => ?_)
    have k4 : Kp h h4 := fun b o eo => hx4 b o (Nat.ne_of_lt (Heap.lt_size eo)) eo
    have S4 := S3.kp k4
    refine assignInOrder_cons (wpAny_assign_Name (S4.storeL 2 rfl EO (fun h5 S5 im5 => ?_)))
    refine assignInOrder_cons (wpAny_assign_Name (S5.storeL 2 rfl EO (fun h6 S6 im6 => ?_)))
    try dsimp only [List.set_cons_zero, List.set_cons_succ] at S6
    refine assignInOrder_nil ?_
    have imx : Imm h h6 := ((Imm.kp k4).tr im5).tr im6
    have I6 : BankObj h6 k := bk.obj.of (fun _ e => S6.kpH _ _ e) (fun _ e => S6.kpH _ _ e)
    have hv6 : Rep h6 u vv := (hvv.imm im).imm imx
    obtain ⟨o, ks⟩ := u
    (refine x3c3 (Rep.iff.mp hv6) fun ad tk0 vs hq3 ht hks => ?_; subst hq3)
    refine wpAny_execs_cons (wpAny_Expr_any (methB W (fun _ N => N.require) kf_require (nameL EO (S6.ns 2 rfl) hms ⟨rfl, S6.kb, I6, sub_tup (nameL EO (S6.ns 2 rfl) rfl ⟨_, _, 0, _, rfl, ht, seq0 _, rfl, S6.kb, require_spec W (n := n + 2) S6.kb (hr.deeper.mono (by simp)) (hg _ hum) (fun h7 tk7 (k7 : Kp h6 h7) => ?_)⟩)⟩) rfl (fun w => ⟨_, rfl, rfl⟩)))
    refine wpAny_execs_nil ⟨h7, _, _, rfl, imx.tr (Imm.kp k7), S6.kp k7, _, rfl, hms, hmt⟩
  · intro ow h tk im S3 hpz3; (refine e13 hpz3 fun m hq1 hms hmt => ?_; subst hq1; clear hpz3)
    have I3 : BankObj h k := bk.obj.of (fun _ e => S3.kpH _ _ e) (fun _ e => S3.kpH _ _ e)
    refine wpAny_execs_cons (wpAny_Return_some (methB W (fun _ N => N.put_all) kf_put_all (nameL EO (S3.ns 1 rfl) hms ⟨rfl, S3.kb, I3, nameL EO (S3.ns 1 rfl) hmt ⟨S3.kb, put_all_spec W off n t _ _ _ _ ts hw hg hsz S3.kb hr.deeper (bk.kp S3.kpH) hlen (hp.imm (Imm.kp S3.kpH)) (fun h4 tk4 i ti us hch im4 bk4 hul hi => ?_)⟩⟩) rfl (fun w => ⟨_, rfl, rfl⟩)))
    exact hR h4 tk4 i ti us ((Chg.kp S3.kpH).tr hch) ((Imm.kp S3.kpH).tr im4) bk4 hul hi
end
/-- numbers by names: the name's number is that of its term -/
noncomputable def NRows (ts : List T) : Tab → List (Str × Value) → Prop
  | [], [] => True
  | (o, t) :: r, (x, v) :: r' => x = o.s ∧ (∃ (i : Nat) (tk : Tok), v = Value.int (i : Nat) tk ∧ ts[i]? = some t) ∧ NRows ts r r'
  | _, _ => False
theorem NRows.more {ts us : List T} : ∀ {tab : Tab} {kvs : List (Str × Value)}, NRows ts tab kvs → NRows (ts ++ us) tab kvs
  | [], [], _ => trivial
  | _ :: _, _ :: _, ⟨a, ⟨i, tk, e, h⟩, c⟩ => ⟨a, ⟨i, tk, e, by rw [List.getElem?_append_left (List.getElem?_eq_some_iff.mp h).1]; exact h⟩, c.more⟩
  | [], _ :: _, x => x.elim
  | _ :: _, [], x => x.elim
theorem NRows.some {ts : List T} {o : Op} {t : T} : ∀ {tab : Tab} {kvs : List (Str × Value)}, NRows ts tab kvs → tab.lookup o = some t → ∃ (i : Nat) (tk : Tok), valueAt kvs o.s = some (Value.int (i : Nat) tk) ∧ ts[i]? = some t
  | [], _, _, e => by simp at e
  | (o', t') :: r, (x, v) :: r', ⟨a, ⟨i, tk, ev, h⟩, c⟩, e => by
    rw [List.lookup_cons] at e
    by_cases ho : o = o'
    · subst ho
      simp only [beq_self_eq_true] at e
      cases e
      refine ⟨i, tk, ?_, h⟩
      unfold valueAt
      (refine Eq.symm (List.find?_cons ..) ▸ ?_; refine Eq.symm (a ..) ▸ ?_); simp [ev]
    · have hb : (o == o') = false := by rw [beq_eq_false_iff_ne]; exact ho
      simp only [hb] at e
      refine e22 (c.some e) fun j u hu hr => ?_
      refine ⟨j, u, ?_, hr⟩
      unfold valueAt at hu ⊢
      (refine Eq.symm (List.find?_cons ..) ▸ ?_; refine Eq.symm (a ..) ▸ ?_)
      have : decide (o'.s = o.s) = false := by
        rw [decide_eq_false_iff_not]; exact fun q => ho (Op.s_inj q).symm
      simp only [this]; exact hu
  | _ :: _, [], x, _ => x.elim
theorem NRows.none {ts : List T} {o : Op} : ∀ {tab : Tab} {kvs : List (Str × Value)}, NRows ts tab kvs → tab.lookup o = none → valueAt kvs o.s = none
  | [], [], _, _ => rfl
  | (o', t') :: r, (x, v) :: r', ⟨a, b, c⟩, e => by
    rw [List.lookup_cons] at e
    by_cases ho : o = o'
    · subst ho; simp at e
    · have hb : (o == o') = false := by rw [beq_eq_false_iff_ne]; exact ho
      simp only [hb] at e
      have := c.none e
      unfold valueAt at this ⊢
      (refine Eq.symm (List.find?_cons ..) ▸ ?_; refine Eq.symm (a ..) ▸ ?_)
      have : decide (o'.s = o.s) = false := by
        rw [decide_eq_false_iff_not]; exact fun q => ho (Op.s_inj q).symm
      simp only [this]; assumption
  | [], _ :: _, x, _ => x.elim
  | _ :: _, [], x, _ => x.elim
structure NumAt (prog : Program) (w : World) (h : Heap) (k : BK) (ts : List T) (tab : Tab) (d : Addr) : Prop where
  off : d ∉ k.four
  mods : (d == sysModules) = false
  st : ∃ kvs, h.DictOf (strKind prog w) d kvs ∧ NRows ts tab kvs
theorem NumAt.chg {prog : Program} {w : World} {h h' : Heap} {k : BK} {ts us : List T} {tab : Tab} {d : Addr} (x : NumAt prog w h k ts tab d) (c : Chg k.four h h') : NumAt prog w h' k (ts ++ us) tab d :=
  ⟨x.off, x.mods, let ⟨kvs, hd, r⟩ := x.st; ⟨kvs, dictOf_kp hd (fun o => c d o x.off), r.more⟩⟩
section
variable {prog : Program} {w : World} {B : Heap}
set_option maxHeartbeats 8000000 in
theorem taken_spec (W : Wd w B) {k : BK} (off : BankOff B k) {tab : Tab} {d : Addr} : ∀ (n : Nat) (p : T) (A : Around) (s : Shared) (R : Result → Shared → Prop) (v : Value) (ts : List T), Wf n p → (∀ u ∈ subs p, tab.lookup u.op = none → u.op.isQ = false) → (lput tab p).size ≤ 900 → Kp B s.heap → Room A (n + 5) → BankAt prog w s.heap k ts → ts.length + (lput tab p).size ≤ 5000 → NumAt prog w s.heap k ts tab d → Rep s.heap p v →
    (∀ h' tk (i : Nat) ti us, Chg k.four s.heap h' → Imm s.heap h' → BankAt prog w h' k (ts ++ us) → us.length ≤ (lput tab p).size → (ts ++ us)[i]? = some (lput tab p) → R (.ok (.ret (.int (i : Nat) ti))) { s with heap := h', toks := tk }) →
    codeAny (model prog w) A (.call (.ref 260) ⟨[.ref k.b, v, .ref d], []⟩) R s := by
  intro n
  induction n with
  | zero => intro p A s R v ts hw; exact hw.elim
  | succ n ih =>
    intro p A s R v ts hw hg hsz kb hr bk hlen hnum hp hR
    refine enterX (n := n + 5) (fun L => [("numbers", L + 1 + 1), ("bank", L + 1)]) (fun L => [(L, nsP (up nil0 "pattern" v)), (L + 1 + 1, cellP (some (.ref d))), (L + 1, cellP (some (.ref k.b)))]) W kb hr ?_
    intro L env h₁ tk EO hL S0 E'
    have hp1 := hp.imm (Imm.kp S0.kpH)
    have im0 : Imm s.heap h₁ := Imm.kp S0.kpH
    refine x4c3 (S0.bank off bk) fun cs wv dv xs inv I S => ?_
    have hnum1 := hnum.chg (us := []) (Chg.kp S0.kpH)
    rw [List.append_nil] at hnum1
    clear S0
    obtain ⟨op, ks⟩ := p
    (refine x3c3 (Rep.iff.mp hp1) fun ad tk0 vs hq3 ht hks => ?_; subst hq3)
    have hvl : vs.length = ks.length := hks.length
    have hk9 : ks.length ≤ 9 := hw.1
    have hLs : (Value.str op.s tk0 :: vs).length ≤ sizeLine := by have := sizeLine_big; simp; lia
    obtain ⟨off', hmods, kvs, hdd, hrows⟩ := hnum1
    refine wpAny_execs_cons (wpAny_If (wpAny_isTrue_Compare1 (sub_tup (nameL EO (S.ns 4 rfl) rfl ⟨_, _, 0, _, rfl, ht, seq0 _, rfl, nameC EO (S.cell 5 rfl) ?_⟩))))
    refine wpAny_in_of (knd := strKind prog w) (k := op.s) (opKey op tk0) hmods hdd.mapOf (wpAny_truthy_bool ?_)
    dsimp only
    cases hl : tab.lookup op with
    | some u =>
      refine e22 (hrows.some hl) fun i ti hv hi => ?_
      have e : lput tab (.nd op ks) = u := by rw [lput, hl]
      rw [e] at hR
      refine ifT (by rw [hv]; rfl) (wpAny_execs_cons (wpAny_Return_some (Subscript_ (nameC EO (S.cell 5 rfl) (sub_tup (nameL EO (S.ns 4 rfl) rfl ⟨_, _, 0, _, rfl, ht, seq0 _, rfl, ?_⟩))))))
      refine item_str_dict hdd hv ?_
      exact hR h₁ _ i ti [] S.chg im0 (by rw [List.append_nil]; exact S.bankAt off bk.obj inv) (Nat.zero_le _) (by rw [List.append_nil]; exact hi)
    | none =>
      have e : lput tab (.nd op ks) = .nd op (ks.map (lput tab)) := by rw [lput, hl, lputs_map]
      rw [e] at hR hsz hlen
      have hop : op.isQ = false := hg _ (subs_self _) hl
      have htot : (T.nd op (ks.map (lput tab))).size = 1 + ((ks.map (lput tab)).map T.size).sum := size_nd op _
      refine ifF (by rw [hrows.none hl]; rfl) (wpAny_execs_nil ?_)
      try dsimp only
      refine wpAny_execs_cons (wpAny_Return_some (methB W (fun _ N => N.take) kf_take (nameC EO (S.cell 6 rfl) ⟨rfl, S.kb, I, sub_tup (nameL EO (S.ns 4 rfl) rfl ⟨_, _, 0, _, rfl, ht, seq0 _, rfl, ?_⟩)⟩) rfl (fun w => ⟨_, rfl, rfl⟩)))
      refine compTupE B s.heap k.four EO hr.hh (hide fun K1 hK1 => sub_tup_from (nameL EO (S.ns 4 rfl) rfl ⟨ad, _, rfl, ht, by simp, hLs, fun h2 dd tk2 (k2 : Kp h₁ h2) hdn hd => ?_⟩))
      try dsimp only
      have S2 := S.kp k2
      have hks2 := hks.imm (Imm.kp k2)
      refine hK1 _ _ ⟨dd, vs, _, fun i ys ow h => X6 fun us cs wv dv xs ns => C5 (ow = bankOw prog w k cs wv dv xs [(L, nsP (up nil0 "pattern" (.ref ad))), (L + 1 + 1, cellP (some (.ref d))), (L + 1, cellP (some (.ref k.b)))]) (BankInv h (ts ++ us) cs wv dv xs) (us.length ≤ (((ks.map (lput tab)).take i).map T.size).sum) (IntsL ns ys) (Idx (ts ++ us) ((ks.map (lput tab)).take i) ns), rfl, by simpa using hd, by exact Nat.le_trans (Nat.le_trans (Nat.le_of_eq hvl) hk9) (Nat.le_of_ble_eq_true rfl), S2, ?_, ?_, ?_, ?_⟩
      · intro i ys ow h h' im hpz1; (refine x6c5 hpz1 fun us cs wv dv xs ns e inv r1 r2 r3 => ?_; clear hpz1)
        exact ⟨us, cs, wv, dv, xs, ns, e, inv.imm im, r1, r2, r3⟩
      · exact ⟨[], cs, wv, dv, xs, [], rfl, by rw [List.append_nil]; exact inv.imm (Imm.kp k2), Nat.zero_le _, rfl, rfl⟩
      · intro i ys ow h tk C D it pp m x hx im hC S3 hpz2; (refine x6c5 hpz2 fun us cs wv dv xs ns hq6 inv hul hints hidx => ?_; subst hq6; clear hpz2)
        refine e12 (hks2.at hx) fun kk hkk hxk => ?_
        have hkm : kk ∈ ks := List.mem_of_getElem? hkk
        have hkk' : (ks.map (lput tab))[i]? = some (lput tab kk) := by rw [List.getElem?_map, hkk]; rfl
        have hsum : (((ks.map (lput tab)).take (i + 1)).map T.size).sum = (((ks.map (lput tab)).take i).map T.size).sum + (lput tab kk).size := by
          rw [List.take_add_one, hkk']; simp
        have hle : (((ks.map (lput tab)).take (i + 1)).map T.size).sum ≤ ((ks.map (lput tab)).map T.size).sum := by
          have e : (ks.map (lput tab)).map T.size = ((ks.map (lput tab)).take (i + 1)).map T.size ++ ((ks.map (lput tab)).drop (i + 1)).map T.size := by rw [← List.map_append, List.take_append_drop]
          rw [e, List.sum_append]; simp
        refine wpAny_pure (wpAny_assign_Name (storeL ⟨EO.gl, EO.bi, rfl⟩ (S3.ns 0 rfl) (fun h4 hn4 hs4 => ?_)))
        refine e02 (S3.setNs 0 rfl hs4 hn4) fun S4 im4 => ?_
        try dsimp only [List.set_cons_zero, List.set_cons_succ] at S4
        have I4 : BankObj h4 k := bk.obj.of (fun _ e => S4.base _ _ off.b e) (fun _ e => S4.base _ _ off.db e)
        have bk4 : BankAt prog w h4 k (ts ++ us) := ⟨I4, cs, wv, dv, xs, inv.imm im4, let ⟨o, e, p, _⟩ := S4.get 3 rfl; ⟨o, e, p⟩, let ⟨o, e, p, _⟩ := S4.get 4 rfl; ⟨o, e, p⟩, let ⟨o, e, p, _⟩ := S4.get 5 rfl; ⟨o, e, p⟩, let ⟨o, e, p, _⟩ := S4.get 6 rfl; ⟨o, e, p⟩⟩
        refine wpAny_tests_nil (ifT rfl ?_)
        refine hide (fun K2 hK2 => ?_)
        refine callF W S4.kb ⟨EO.gl, EO.bi, rfl⟩ gn_taken kf_taken (nameC ⟨EO.gl, EO.bi, rfl⟩ (S4.cell 9 rfl) (nameL ⟨EO.gl, EO.bi, rfl⟩ (S4.ns 0 rfl) rfl (nameC ⟨EO.gl, EO.bi, rfl⟩ (S4.cell 8 rfl) ⟨S4.kb, ?_⟩)))
        refine ih kk _ _ _ _ (ts ++ us) (hw.2 kk hkm) (fun u hu => hg u (subs_nd.mpr (.inr ⟨kk, hkm, hu⟩))) (by lia) S4.kb hr.deeper bk4 (by rw [List.length_append]; lia) (hnum.chg S4.chg) (hxk.imm (im.tr im4)) (fun h5 tk5 j tj us2 hch im5 bk5 hul2 hj => ?_)
        try dsimp only
        refine x4c2 (St.bankUpd (pre := [_, _, _]) S4 off hch bk5) fun cs' wv' dv' xs' inv' S5 => ?_
        have htk : (ks.map (lput tab)).take (i + 1) = (ks.map (lput tab)).take i ++ [lput tab kk] := by rw [List.take_add_one, hkk']; rfl
        refine hK2 _ _ ⟨h5, tk5, _, _, rfl, im4.tr im5, S5, us ++ us2, cs', wv', dv', xs', ns ++ [j], rfl, by rw [← List.append_assoc]; exact inv', by rw [List.length_append]; lia, hints.snoc, ?_⟩
        try dsimp only
        rw [htk, ← List.append_assoc]
        exact (hidx.more (us := us2)).snoc hj
      · intro ys ow h tk D hyl hDn im S3 hpz3; (refine x6c5 hpz3 fun us cs wv dv xs ns hq6 inv hul hints hidx => ?_; subst hq6; clear hpz3)
        have hfull : (ks.map (lput tab)).take vs.length = ks.map (lput tab) := List.take_of_length_le (by rw [List.length_map, hvl]; exact Nat.le_refl _)
        rw [hfull] at hul hidx
        have S4 := S3.tail (ext_notin S2 hDn)
        refine ⟨S4.kb, take_spec W (n := n + 1) S4.kb (hr.deeper.mono (by simp)) off (S4.bankAt off bk.obj inv) (by rw [List.length_append]; lia) hop ⟨D, rfl, .inr (S3.list 0 rfl)⟩ hints hidx (by rw [List.length_map]; exact hk9) (by exact Nat.lt_of_lt_of_le (by assumption) (Nat.le_of_ble_eq_true rfl)) (fun h6 tk6 i ti us2 hch im6 bk6 hul2 hi => ?_)⟩
        refine hR h6 tk6 i ti (us ++ us2) (S4.chg.tr hch) (((im0.tr (Imm.kp k2)).tr im).tr im6) (by rw [← List.append_assoc]; exact bk6) (by rw [List.length_append]; lia) (by rw [← List.append_assoc]; exact hi)
end
section
variable {prog : Program} {w : World} {A : Around} {E : Value → Shared → Prop} {s : Shared}
/-- the loop of extend over any iterator object -/
theorem extend_loop_itr {R : Result → Shared → Prop} {Dl it : Addr} {res : Value} {pr : Nat → OP} {src : Heap → Prop} {n : Nat} {P : Nat → Value → Prop} (I : Itr prog w A.in1 it pr src n P) (hne : Dl ≠ it) (hn : n ≤ 1000)
    (hsrc : ∀ h h' : Heap, (∀ b o, b ≠ Dl → b ≠ it → h.get? b = some o → h'.get? b = some o) → src h → src h') :
    ∀ (m k : Nat) (s : Shared) (acc : List Value), k + m = n → (∃ o, s.heap.get? it = some o ∧ pr k o) → src s.heap → s.heap.PlainList Dl acc.toArray → acc.length ≤ 1000000 - m →
    (∀ h' tk ps, ps.length = m → h'.PlainList Dl (acc ++ ps).toArray → (∀ (j : Nat) p, ps[j]? = some p → P (k + j) p) →
      (∀ b o, b ≠ it → b ≠ Dl → s.heap.get? b = some o → h'.get? b = some o) → R (.ok (.ret res)) { s with heap := h', toks := tk }) →
    codeAny (model prog w) A (.builtin "list.extend.loop" ⟨[.ref Dl, .ref it, res], []⟩) R s := by
  intro m
  induction m with
  | zero =>
    intro k s acc hk hit hs hD ha hR
    refine codeAny_builtin PySem.F.entry_extend_loop ?_
    rw [Around.under_plainId PySem.F.plain_extend_loop _]
    show wpAny _ A.in1 (pyNext (.ref it) >>= _) _ _ s
    have hkn : k = n := by assumption
    subst hkn
    refine wpAny_bind (I.stop _ _ _ hit hs (fun h' tk hx => ?_))
    refine wpAny_pure ?_
    (refine e11 hD fun c e => ?_; clear hD)
    exact hR h' tk [] rfl ⟨c, by rw [List.append_nil]; exact hx _ _ hne e⟩ (fun j p e => by simp at e) (fun b o hb _ e => hx b o hb e)
  | succ m ih =>
    intro k s acc hk hit hs hD ha hR
    refine codeAny_builtin PySem.F.entry_extend_loop ?_
    rw [Around.under_plainId PySem.F.plain_extend_loop _]
    show wpAny _ A.in1 (pyNext (.ref it) >>= _) _ _ s
    (refine e11 hD fun c eD => ?_; clear hD)
    refine wpAny_bind (I.item k _ _ _ (by lia) hit hs (fun x h' tk hx hit' hx' => ?_))
    have eD' := hx' _ _ hne eD
    show wpAny _ A.in1 (updateSeq Dl (·.push x) >>= _) _ _ _
    refine wpAny_bind ?_
    refine wpAny_updateSeq (s := { s with heap := h', toks := tk }) eD' rfl ?_ (by rw [List.size_toArray]; have := sizeLine_big; lia) (by show (acc.toArray.push _).size ≤ sizeLine + 1; rw [Array.size_push, List.size_toArray]; have := sizeLine_big; lia)
    refine wpAny_pure ⟨plainId_quiet PySem.F.plain_extend_loop _, ?_⟩
    have hsb : Heap.SameBut Dl h' (h'.update Dl (Obj.mapSeq (·.push x))) := Heap.SameBut.update ..
    have eD2 := Heap.get?_update_self (Obj.mapSeq (·.push x)) eD' rfl
    have gt : ∀ b o, b ≠ Dl → h'.get? b = some o → (h'.update Dl (Obj.mapSeq (·.push x))).get? b = some o := fun b o hb e => hsb.extBut b o hb e
    have hpl : (h'.update Dl (Obj.mapSeq (·.push x))).PlainList Dl (acc ++ [x]).toArray := ⟨if (acc.toArray.push x).size == acc.toArray.size then c else c + 1, by
      (refine Eq.symm (eD2 ..) ▸ ?_; refine (List.push_toArray ..) ▸ ?_); rfl⟩
    refine ih (k + 1) _ (acc ++ [x]) (by lia) (let ⟨o, e, r⟩ := hit'; ⟨o, gt _ _ hne.symm e, r⟩) (hsrc _ _ (fun b o h1 h2 e => gt _ _ h1 (hx' _ _ h2 e)) hs) hpl (by simp; lia) (fun h2 tk2 ps hps hpl2 hps2 hk2 => ?_)
    refine hR h2 tk2 (x :: ps) (by simp [hps]) (by simpa using hpl2) ?_ (fun b o h1 h2' e => hk2 b o h1 h2' (gt _ _ h2' (hx' _ _ h1 e)))
    intro j p hp
    cases j with
    | zero => cases hp; exact hx
    | succ j => have := hps2 j p hp; rw [show k + (j + 1) = k + 1 + j by lia]; exact this
end
section
variable {prog : Program} {w : World} {A : Around} {E : Value → Shared → Prop} {s : Shared}
theorem sorted_ints_any {x : Value} {Q : Value → Shared → Prop}
    (hc : wpAny (model prog w) A.in1 (collect x) (fun vs s₁ => ∃ ns, IntsAre vs ns ∧ vs.length < 64 ∧ ∀ h' l out ns', Kp s₁.heap h' → s₁.heap.get? l = none → h'.PlainList l (List.toArray out) → IntsAre out ns' → ns'.Perm ns → ns'.Pairwise (· ≤ ·) → Q (.ref l) { s₁ with heap := h' }) E s) :
    wpAny (model prog w) A (call (.builtin "sorted") [x]) Q E s := by
  refine Calls.call_function_entry kind_sorted plain_sorted entry_sorted (args_sorted1 _) ?_
  unfold Builtin.«sorted»
  refine wpAny_bind (m := checkCount "sorted" 1 1 _) (wpAny_pure ?_)
  refine wpAny_bind (wpAny_mono hc (fun vs s₁ h₁ => ?_) fun _ _ e => e)
  (refine e13 h₁ fun ns hI h64 h => ?_; clear h₁)
  refine wpAny_bind (wpAny_newList ?_ (by have := sizeLine_big; exact Nat.le_of_lt (Nat.lt_of_lt_of_le h64 (Nat.le_of_ble_eq_true rfl))))
  have hoL : (s₁.heap.push (seqObj "list" vs.toArray 0)).get? s₁.heap.objs.size = some (seqObj "list" vs.toArray 0) := Heap.get?_push_size _ rfl
  show wpAny _ _ _ _ _ { s₁ with heap := s₁.heap.push (seqObj "list" vs.toArray 0) }
  refine wpAny_bind (wpAny_holding (wpAny_call_entry slot_list_sort ⟨_, hoL, rfl⟩ entry_list_sort (list_sort_tree hoL hI h64 fun out ns' a1 a2 a3 => ⟨_, rfl, ?_⟩) (args_list_sort _)))
  refine e11 (sortedHeap_at (h := s₁.heap.push (seqObj "list" vs.toArray 0)) (a := s₁.heap.objs.size) (vs := vs) (out := out) hoL) fun e he => ?_
  have k : Kp s₁.heap (sortedHeap (s₁.heap.push (seqObj "list" vs.toArray 0)) s₁.heap.objs.size vs out) := fun b o eb => by
    have hlt := Heap.lt_size eb
    rw [sortedHeap_old (Nat.ne_of_lt hlt) (by rw [Heap.size_push]; exact Nat.lt_succ_of_lt hlt)]
    exact Heap.get?_push_of_some _ eb
  refine wpAny_pure ⟨_, rfl, h _ s₁.heap.objs.size out.toList ns' k (Heap.get?_none_of_le (Nat.le_refl _)) ⟨e, ?_⟩ a1 a2 a3⟩
  rw [he]
theorem sorted_strs_any {x : Value} {Q : Value → Shared → Prop}
    (hc : wpAny (model prog w) A.in1 (collect x) (fun vs s₁ => ∃ ss, StrsAre vs ss ∧ vs.length < 64 ∧ ∀ h' l out ss', Kp s₁.heap h' → s₁.heap.get? l = none → h'.PlainList l (List.toArray out) → StrsAre out ss' → ss'.Perm ss → sortedS ss' = true → Q (.ref l) { s₁ with heap := h' }) E s) :
    wpAny (model prog w) A (call (.builtin "sorted") [x]) Q E s := by
  refine Calls.call_function_entry kind_sorted plain_sorted entry_sorted (args_sorted1 _) ?_
  unfold Builtin.«sorted»
  refine wpAny_bind (m := checkCount "sorted" 1 1 _) (wpAny_pure ?_)
  refine wpAny_bind (wpAny_mono hc (fun vs s₁ h₁ => ?_) fun _ _ e => e)
  (refine e13 h₁ fun ss hS h64 h => ?_; clear h₁)
  refine wpAny_bind (wpAny_newList ?_ (by have := sizeLine_big; omega))
  have hoL : (s₁.heap.push (seqObj "list" vs.toArray 0)).get? s₁.heap.objs.size = some (seqObj "list" vs.toArray 0) := Heap.get?_push_size _ rfl
  show wpAny _ _ _ _ _ { s₁ with heap := s₁.heap.push (seqObj "list" vs.toArray 0) }
  refine wpAny_bind (wpAny_holding (wpAny_call_entry slot_list_sort ⟨_, hoL, rfl⟩ entry_list_sort (list_sort_treeK strKind_oneLt hoL hS.keysOf (fun v₁ v₂ rest e => keyKind_strs (by rw [← e]; exact hS)) h64 fun st' hp hs => ⟨_, rfl, ?_⟩) (args_list_sort _)))
  refine e13 (sorted_out_str hS hp hs) fun ss' a1 a2 a3 => ?_
  refine e11 (sortedHeap_at (h := s₁.heap.push (seqObj "list" vs.toArray 0)) (a := s₁.heap.objs.size) (vs := vs) (out := (arrOf st').map (·.2)) hoL) fun e he => ?_
  have k : Kp s₁.heap (sortedHeap (s₁.heap.push (seqObj "list" vs.toArray 0)) s₁.heap.objs.size vs ((arrOf st').map (·.2))) := fun b o eb => by
    have hlt := Heap.lt_size eb
    rw [sortedHeap_old (Nat.ne_of_lt hlt) (by rw [Heap.size_push]; exact Nat.lt_succ_of_lt hlt)]
    exact Heap.get?_push_of_some _ eb
  refine wpAny_pure ⟨_, rfl, h _ s₁.heap.objs.size _ ss' k (Heap.get?_none_of_le (Nat.le_refl _)) ⟨e, ?_⟩ a1 a2 a3⟩
  rw [he]

/-- collect over an iterator whose source r is no list and no tuple -/
theorem collect_itr {T : String} {r : Addr} {pr : Nat → OP} {src : Heap → Prop} {n : Nat} {P : Nat → Value → Prop} {Q : List Value → Shared → Prop} (hT1 : (Value.type T == Value.type "list") = false) (hT2 : (Value.type T == Value.type "tuple") = false) (hT : s.TypeIs (.ref r) T) (hn : n ≤ 1000)
    (I : ∀ it, Itr prog w A.in1 it pr src n P)
    (hsrc : ∀ D it (h h' : Heap), D ≠ r → it ≠ r → (∀ b o, b ≠ D → b ≠ it → h.get? b = some o → h'.get? b = some o) → src h → src h')
    (hiter : ∀ (s₁ : Shared) (E : Value → Shared → Prop) (K : Value → Shared → Prop), Kp s.heap s₁.heap → s₁.gens = s.gens → (∀ h' tk it, Kp s₁.heap h' → s₁.heap.get? it = none → (∃ o, h'.get? it = some o ∧ pr 0 o) → src h' → K (.ref it) { s₁ with heap := h', toks := tk }) → wpAny (model prog w) A.in1 (pyIter (.ref r)) K E s₁)
    (hhint : ∀ (s₁ : Shared) (E : Value → Shared → Prop) (K : Bool → Shared → Prop), s₁.TypeIs (.ref r) T → K false s₁ → wpAny (model prog w) A.in1 (Builtin.List.listLengthHint (.ref r)) K E s₁)
    (h : ∀ h' tk vs, Kp s.heap h' → vs.length = n → (∀ (i : Nat) v, vs[i]? = some v → P i v) → Q vs { s with heap := h', toks := tk }) :
    wpAny (model prog w) A (collect (.ref r)) Q E s := by
  have hr : r < s.heap.objs.size := let ⟨_, ho, _⟩ := hT; Heap.lt_size ho
  unfold collect
  refine wpAny_bind (wpAny_runValue (codeAny_builtin entry_proto_collect' ?_))
  rw [Around.under_plainId PySem.F.plain_proto_collect _]
  show wpAny _ A.in1 (newList [] >>= fun l => again (.builtin "list.__iadd__" ⟨[l, .ref r], []⟩)) _ _ s
  refine wpAny_bind (wpAny_newObj_type ?_)
  refine wpAny_pure ⟨plainId_quiet PySem.F.plain_list_iadd _, codeAny_builtin entry_list_iadd' ?_⟩
  rw [Around.under_plainId PySem.F.plain_list_iadd _]
  have hS₁ : (s.heap.push { cls := .type "list", data := .seq ([] : List Value).toArray }).get? s.heap.objs.size = some { cls := .type "list", data := .seq #[] } := Heap.get?_push_size _ rfl
  have kS : Kp s.heap (s.heap.push { cls := .type "list", data := .seq ([] : List Value).toArray }) := Kp.push _ _
  have hrD : (s.heap.objs.size : Addr) ≠ r := Nat.ne_of_gt hr
  have hDn : s.heap.get? s.heap.objs.size = none := Heap.get?_none_of_le (Nat.le_refl _)
  show wpAny _ A.in1 (Builtin.List.listExtendWith (.ref s.heap.objs.size) (.ref r) (.ref s.heap.objs.size)) _ _ _
  dsimp only
  generalize s.heap.push { cls := .type "list", data := .seq ([] : List Value).toArray } = h1 at *
  generalize (s.heap.objs.size : Addr) = D at *
  have hT' : Shared.TypeIs { s with heap := h1 } (.ref r) T := let ⟨o, e, c⟩ := hT; ⟨o, kS _ _ e, c⟩
  unfold Builtin.List.listExtendWith
  refine wpAny_bind (wpAny_typeOf hT' ?_)
  have e1 : Builtin.List.listSameRef (.ref D) (.ref r) = false := by simp [Builtin.List.listSameRef, hrD]
  simp only [e1, hT1, hT2, Bool.or_false, Bool.false_eq_true, if_false]
  refine wpAny_bind (hiter _ _ _ kS rfl (fun h2 tk2 it k2 hitn hit hs2 => ?_))
  have hitr : it ≠ r := fun q => by obtain ⟨o, e, _⟩ := hT'; have e' : h1.get? r = some o := e; rw [q] at hitn; have hn' : h1.get? r = none := hitn; rw [hn'] at e'; cases e'
  have hDit : D ≠ it := fun q => by have hn' : h1.get? it = none := hitn; rw [← q, hS₁] at hn'; cases hn'
  refine wpAny_bind (wpAny_holding (hhint _ _ _ (let ⟨o, e, c⟩ := hT'; ⟨o, k2 _ _ e, c⟩) ?_))
  have hS2 := k2 _ _ hS₁
  have fin : ∀ (h3 : Heap) (c : Nat), (∀ b o, b ≠ D → h2.get? b = some o → h3.get? b = some o) → h3.get? D = some { cls := .type "list", data := .seq #[] c } →
      codeAny (model prog w) A (.builtin "list.extend.loop" ⟨[.ref D, .ref it, .ref D], []⟩) (fun q s' => X3 fun h' tk vs => C6 (q = .ok (.ret (.ref D))) (s' = { s with heap := h', toks := tk }) (Kp s.heap h') (h'.PlainList D (List.toArray vs)) (vs.length = n) (∀ (i : Nat) v, vs[i]? = some v → P i v)) { s with heap := h3, toks := tk2 } := by
    intro h3 c k3 e3
    refine extend_loop_itr (A := A) (I it) hDit hn (fun h h' k hs => hsrc D it h h' hrD hitr k hs) n 0 _ [] (by simp) (let ⟨o, e, p⟩ := hit; ⟨o, k3 _ _ hDit.symm e, p⟩) (hsrc D it h2 h3 hrD hitr (fun b o hb _ e => k3 b o hb e) hs2) ⟨c, e3⟩ (by simp) (fun h' tk ps hps hpl hP hk => ?_)
    refine ⟨h', tk, ps, rfl, rfl, fun b o e => ?_, by simpa using hpl, hps, fun i v e => by have := hP i v e; rwa [Nat.zero_add] at this⟩
    have hbD : b ≠ D := fun q => by rw [q, hDn] at e; cases e
    have hbi : b ≠ it := fun q => by have hn' : h1.get? it = none := hitn; have := kS _ _ e; rw [q, hn'] at this; cases this
    exact hk b o hbi hbD (k3 b o hbD (k2 _ _ (kS _ _ e)))
  have last : ∀ (h3 : Heap) (c : Nat), (∀ b o, b ≠ D → h2.get? b = some o → h3.get? b = some o) → h3.get? D = some { cls := .type "list", data := .seq #[] c } →
      ∀ (q : Result) (s' : Shared), (X3 fun h' tk vs => C6 (q = .ok (.ret (.ref D))) (s' = { s with heap := h', toks := tk }) (Kp s.heap h') (h'.PlainList D (List.toArray vs)) (vs.length = n) (∀ (i : Nat) v, vs[i]? = some v → P i v)) → X3 fun h' tk vs => C4 (q = .ok (.ret (.ref D))) (s' = { s with heap := h', toks := tk }) (h'.PlainList D (List.toArray vs)) (Q vs { s with heap := h', toks := tk }) := by
    intro h3 c _ _ q s' hpz1; (refine x3c6 hpz1 fun h' tk vs e1 e2 k hp hl hP => ?_; clear hpz1)
    exact ⟨h', tk, vs, e1, e2, hp, h h' tk vs k hl hP⟩
  refine wpAny_ite_split (fun _ => ?_) (fun _ => wpAny_pure ⟨plainId_quiet PySem.F.plain_extend_loop _, codeAny_mono (fin h2 _ (fun b o _ e => e) hS2) fun q s' x => ?_⟩)
  · refine wpAny_bind (wpAny_rule ?_)
    refine wpAny_bind ?_
    show wpAny _ _ (updateSeq D (·.push .none) >>= fun _ => updateSeq D (·.pop)) _ _ _
    refine wpAny_bind (wpAny_updateSeq hS2 rfl ?_)
    have eD2 := Heap.get?_update_self (Obj.mapSeq (·.push Value.none)) hS2 rfl
    refine wpAny_updateSeq (hz := by seq_fits) eD2 rfl ?_
    have eD3 := Heap.get?_update_self (Obj.mapSeq (·.pop)) eD2 rfl
    have oth : ∀ b o, b ≠ D → h2.get? b = some o → ((h2.update D (Obj.mapSeq (·.push Value.none))).update D (Obj.mapSeq (·.pop))).get? b = some o :=
      fun b o hb e => (Heap.get?_update_other _ _ (Ne.symm hb)).trans ((Heap.get?_update_other _ _ (Ne.symm hb)).trans e)
    refine wpAny_pure ⟨plainId_quiet PySem.F.plain_extend_loop _, codeAny_mono (fin _ _ oth eD3) fun q s' x => ?_⟩
    (refine x3c4 (last _ _ oth eD3 q s' x) fun h' tk vs hq3 hq4 hpz2 hQ => ?_; subst hq3; subst hq4); (refine e11 hpz2 fun c hp => ?_; clear hpz2)
    show wpAny _ A (load D >>= _) _ _ _
    refine wpAny_bind (wpAny_load hp ?_)
    exact wpAny_pure hQ
  · (refine x3c4 (last h2 _ (fun b o _ e => e) hS2 q s' x) fun h' tk vs hq3 hq4 hpz3 hQ => ?_; subst hq3; subst hq4); (refine e11 hpz3 fun c hp => ?_; clear hpz3)
    show wpAny _ A (load D >>= _) _ _ _
    refine wpAny_bind (wpAny_load hp ?_)
    exact wpAny_pure hQ
end
noncomputable def kitP (d : Addr) (n ep : Nat) (i : Nat) : OP := fun o => o.cls = .type "dict_keyiterator" ∧ o.data = .fields #[.ref d, .int i 0, .int n 0, .int ep 0]
section
variable {prog : Program} {w : World} {A : Around} {E : Value → Shared → Prop} {s : Shared}
theorem keyiter_again {it d : Addr} {i n ep : Nat} {Q : Value → Shared → Prop} (hit : s.heap.IsKeyIter it d i n ep) (h : Q (.ref it) s) : wpAny (model prog w) A (pyIter (.ref it)) Q E s := by
  refine wpAny_pyIter_slot hit.typeIs PySem.F.slot_dict_keyiterator_iter (wpAny_call_entry PySem.F.slot_dict_keyiterator_iter hit.typeIs PySem.F.entry_dict_keyiterator_iter ?_ (PySem.F.args_dict_keyiterator_iter_1 _))
  show wpAny _ _ (ret (.ref it)) _ _ s
  exact wpAny_pure ⟨_, rfl, "dict_keyiterator", _, hit.typeIs, PySem.F.slot_dict_keyiterator_next.lookup, h⟩
theorem itr_dict {K : Type} [DecidableEq K] {knd : KeyKind prog w K} (hh : A.handled = none) (it d : Addr) (kvs : List (K × Value)) (ep : Nat) : Itr prog w A it (kitP d kvs.length ep) (fun h => h.DictAt knd d kvs ep) kvs.length (fun i x => ∃ k v, kvs[i]? = some (k, v) ∧ knd.is k x = true) where
  nt := fun i o h => nt_cls (by rw [h.1]; decide)
  item := fun i s Q E hi ho hl hq => by
    (refine e13 ho fun o e c dd => ?_; clear ho)
    obtain ⟨⟨k, v⟩, hkv⟩ : ∃ kv, kvs[i]? = some kv := ⟨_, List.getElem?_eq_getElem hi⟩
    refine wpAny_pyNext_dict_item (k := k) (v := v) ⟨o, e, c, dd⟩ hl hkv (fun key h' hk hit hs => hq _ h' _ ⟨k, v, hkv, hk⟩ (let ⟨o, e, r⟩ := hit; ⟨o, e, r⟩) hs.extBut)
  stop := fun s Q E ho hl hq => by
    (refine e13 ho fun o e c dd => ?_; clear ho)
    exact wpAny_pyNext_dict_end hh ⟨o, e, c, dd⟩ hl (by simp) fun h' hs => hq h' s.toks hs
  again := fun s Q E ho hq => by
    (refine e13 ho fun o e c dd => ?_; clear ho)
    exact keyiter_again ⟨o, e, c, dd⟩ hq
theorem dict_hint {r : Addr} {K' : Bool → Shared → Prop} (hT : s.TypeIs (.ref r) "dict") (h : K' false s) : wpAny (model prog w) A (Builtin.List.listLengthHint (.ref r)) K' E s := by
  unfold Builtin.List.listLengthHint
  refine wpAny_bind (wpAny_specialOf hT PySem.F.slot_dict_len.lookup ?_)
  generalize hid : ("dict.__len__" : String) = id0
  wp_delta
  rw [show splitId id0 = some ("dict", "__len__") from by subst hid; decide +kernel]
  subst hid
  refine wpAny_bind (wpAny_isInstance (T := "dict") (b := true) hT isSubtype_dict_dict ?_)
  refine wpAny_ite_split (fun hab => absurd hab (by decide)) (fun _ => ?_)
  refine wpAny_ite_split (fun _ => ?_) (fun hab => absurd (by decide +kernel) hab)
  refine wpAny_bind (wpAny_typeOf hT ?_)
  exact wpAny_pure h
/-- the keys of a dict, collected -/
theorem collect_dict {K : Type} [DecidableEq K] {knd : KeyKind prog w K} {d : Addr} {kvs : List (K × Value)} {Q : List Value → Shared → Prop} (hh : A.handled = none) (hm : (d == sysModules) = false) (hd : s.heap.DictOf knd d kvs) (hn : kvs.length ≤ 1000)
    (h : ∀ h' tk vs, Kp s.heap h' → vs.length = kvs.length → (∀ (i : Nat) v, vs[i]? = some v → ∃ k x, kvs[i]? = some (k, x) ∧ knd.is k v = true) → Q vs { s with heap := h', toks := tk }) :
    wpAny (model prog w) A (collect (.ref d)) Q E s := by
  refine e11 hd.dictAt fun ep hat => ?_
  refine collect_itr (T := "dict") (by decide) (by decide) hd.typeIs hn (fun it => itr_dict (knd := knd) (A := A.in1) hh it d kvs ep) (fun D it h h' h1 h2 k x => ?_) (fun s₁ E K k hg hq => ?_) (fun s₁ E K hT hk => dict_hint hT hk) h
  · (refine e22 x fun o es e r => ?_; clear x)
    exact ⟨o, es, k _ _ h1.symm h2.symm e, r⟩
  · have hat1 : s₁.heap.DictAt knd d kvs ep := hat.keep k
    refine wpAny_pyIter_dict hm hat1 ?_
    exact hq _ _ _ (Kp.push _ _) (Heap.get?_none_of_le (Nat.le_refl _)) ⟨_, Heap.get?_push_size _ rfl, rfl, rfl⟩ (hat1.push _)
end
noncomputable def InstAt (h : Heap) (x dx : Addr) (mA : Str → Option Value) : Prop := ∃ o, C6 (h.get? x = some o) (o.cls = .ref 198) ((∀ c, o.data ≠ .cls c)) (o.dict = some dx) (dx ≠ x) (h.Ns1 dx mA)
theorem InstAt.kp {h h' : Heap} {x dx : Addr} {mA : Str → Option Value} (I : InstAt h x dx mA) (k : Kp h h') : InstAt h' x dx mA :=
  let ⟨o, e, a, b, c, d, n⟩ := I; ⟨o, k _ _ e, a, b, c, d, n.at fun o e => k _ _ e⟩
theorem InstAt.inst {h : Heap} {x dx : Addr} {mA : Str → Option Value} (I : InstAt h x dx mA) : h.Inst x 198 mA := let ⟨o, e, a, b, c, d, n⟩ := I; ⟨o, e, a, b, .inr ⟨_, c, d, n⟩⟩
section
variable {prog : Program} {w : World} {B : Heap} {A : Around} {E : Value → Shared → Prop} {s : Shared} {env : Env}
theorem setB (W : Wd w B) {x dx : Addr} {mA : Str → Option Value} {name : Str} {v : Value} {ns : List Str} {Q : Unit → Shared → Prop} (kb : Kp B s.heap) (I : InstAt s.heap x dx mA) (hn : ∀ mN, BankNs mN → mN name = none)
    (hq : ∀ h' tk, InstAt h' x dx (up mA name v) → (∀ b o, b ≠ x → b ≠ dx → s.heap.get? b = some o → h'.get? b = some o) → Q () { s with heap := h', toks := tk })
    (hw : Within mA ns) (hsz : ns.length ≤ 100) (hB : autoParam (fastLookup "object" name = some none) aKr) :
    wpAny (model prog w) A (setAttr (.ref x) name v) Q E s := by
  refine e12 (bank_ns W kb) fun mN G N => ?_
  refine x12c1 (bank_at W kb) fun nm q bs sn sub col dd k0 k1 k2 k3 k5 hC => ?_
  obtain ⟨hh, g, d, t, os⟩ := s
  obtain ⟨o, e, a, b, c, hne, n⟩ := id I
  have hxC : x ≠ 198 := by
    rintro rfl
    have h2 : hh.get? 198 = _ := hC
    have h1 : hh.get? 198 = some o := e
    rw [h1] at h2
    cases h2
    exact absurd a (by simp [excClassObj])
  refine store_attr PySem.F.store_object hC G N.sa (hn _ N) (noB hB) hxC I.inst (fun h' tk' I' hk hsame => ?_) hw (by have := sizeLine_big; exact Nat.le_trans hsz (Nat.le_of_ble_eq_true rfl))
  refine hq h' tk' ?_ (fun b' o' h1 h2 e' => hk b' o' h1 (fun o₀ d' e₀ ed => by
    have h3 : hh.get? x = some o := e
    rw [h3] at e₀; cases e₀
    rw [c] at ed; cases ed; exact h2) e')
  obtain ⟨o₁, e₁, c₁, dt₁, _, dk₁⟩ := hsame o e
  obtain ⟨o', e', _, hnc', hd'⟩ := I'
  rw [e₁] at e'; cases e'
  rcases hd' with ⟨hn0, _⟩ | ⟨d', hd', hne', hns'⟩
  · rw [dk₁ _ c] at hn0; cases hn0
  · rw [dk₁ _ c] at hd'; cases hd'
    exact ⟨o₁, e₁, c₁.trans a, hnc', dk₁ _ c, hne, hns'⟩
end
section
variable {prog : Program} {w : World} {B : Heap} {A : Around} {s : Shared}
set_option maxHeartbeats 4000000 in
theorem init_spec (W : Wd w B) {R : Result → Shared → Prop} {x dx : Addr} {n : Nat} (kb : Kp B s.heap) (hr : Room A (n + 1)) (hBx : B.get? x = none) (hBd : B.get? dx = none) (I : InstAt s.heap x dx (fun _ => none))
    (hR : ∀ h' tk (k : BK), k.b = x → k.db = dx → Chg [dx, x] s.heap h' → BankOff B k → (∀ a ∈ k.four, s.heap.get? a = none) → BankAt prog w h' k [] → R (.ok (.ret .none)) { s with heap := h', toks := tk }) :
    codeAny (model prog w) A (.call (.ref 110) ⟨[.ref x], []⟩) R s := by
  refine enterX (n := n) (fun L => []) (fun L => [(L, nsP (up nil0 "self" (.ref x)))]) W kb hr ?_
  intro L env h₁ tk EO hL S0 E'
  obtain ⟨ox, ex, cx, ncx, dox, hne, nsx⟩ := id I
  obtain ⟨od, es, ep, ed, dd, _⟩ := id nsx
  have I0 := I.kp S0.kpH
  have Sx := S0.claim (p := anyP) hBx (S0.notown ex) (S0.kpH _ _ ex) trivial (nt_cls (by rw [cx]; exact fun q => by cases q))
  have S := Sx.claim (a := dx) (p := anyP) hBd (by simp only [List.map_cons, List.mem_cons, not_or]; have := S0.notown ed; simp only [List.map_cons, List.mem_cons, not_or] at this; exact ⟨hne, this⟩) (S0.kpH _ _ ed) trivial (nt_data fun _ _ q => by rw [dd] at q; cases q)
  clear Sx S0
  have nx : ∀ {h : Heap} {mA : Str → Option Value}, InstAt h x dx mA → (∃ o, h.get? dx = some o ∧ anyP o ∧ NT o) ∧ (∃ o, h.get? x = some o ∧ anyP o ∧ NT o) := fun I =>
    let ⟨o, e, c, _, _, _, ⟨o2, es, ep, e2, d2, _⟩⟩ := I
    ⟨⟨o2, e2, trivial, nt_data fun _ _ q => by rw [d2] at q; cases q⟩, ⟨o, e, trivial, nt_cls (by rw [c]; exact fun q => by cases q)⟩⟩
  -- self.nodes
  refine wpAny_execs_cons (plainObj_wpAny_Assign_Attribute (list0 ?_))
  have P1 := S.addPush (o := { cls := .type "list", data := .seq (List.toArray []) }) (p := listP (List.toArray [])) rfl ⟨0, rfl⟩ (listP.nt ⟨0, rfl⟩)
  have q1 : Kp h₁ (h₁.push { cls := .type "list", data := .seq (List.toArray []) }) := Kp.push _ _
  have f1 : s.heap.get? h₁.objs.size = none := by
    cases e : s.heap.get? h₁.objs.size with
    | none => rfl
    | some o =>
      exfalso
      by_cases hq : h₁.objs.size ∈ [dx, x]
      · rcases List.mem_cons.mp hq with hq | hq
        · have := Heap.lt_size (nx I0).1.choose_spec.1; rw [← hq] at this; exact Nat.lt_irrefl _ this
        · have hq := List.mem_singleton.mp hq; have := Heap.lt_size (nx I0).2.choose_spec.1; rw [← hq] at this; exact Nat.lt_irrefl _ this
      · exact Nat.lt_irrefl _ (Heap.lt_size (S.base _ _ hq e))
  have I1a := I0.kp q1
  dsimp only
  generalize h₁.push { cls := .type "list", data := .seq (List.toArray []) } = g1 at *
  generalize (h₁.objs.size : Addr) = a1 at *
  have R1 := P1.perm (List.perm_middle (l₁ := [(dx, anyP), (x, anyP), (L, nsP (up nil0 "self" (.ref x)))]) (l₂ := [])).symm
  refine nameL EO (R1.ns 2 rfl) rfl ?_
  refine setB W R1.kb I1a (fun _ N => N.nodes) (fun h1 t1 I1 k1 => ?_) Within.nil (by simp)
  obtain ⟨S1, im1⟩ := R1.upd2 (fun c o h1 h2 e => k1 c o h2 h1 e) (nx I1).1 (nx I1).2
  -- self.numbers
  refine wpAny_execs_cons (plainObj_wpAny_Assign_Attribute (wpAny_Dict_empty ?_))
  have P2 := S1.addPush (o := { cls := .type "dict", data := .dict #[] }) (p := numP prog w []) rfl ⟨#[], 0, ⟨rfl, rfl, rfl⟩, rfl, rfl⟩ (nt_data fun _ _ q => by cases q)
  have q2 : Kp h1 (h1.push { cls := .type "dict", data := .dict #[] }) := Kp.push _ _
  have hmods := notMods W S1.kb
  have f2 : s.heap.get? h1.objs.size = none := by
    cases e : s.heap.get? h1.objs.size with
    | none => rfl
    | some o =>
      exfalso
      by_cases hq : h1.objs.size ∈ [dx, x]
      · rcases List.mem_cons.mp hq with hq | hq
        · have := Heap.lt_size (nx I1).1.choose_spec.1; rw [← hq] at this; exact Nat.lt_irrefl _ this
        · have hq := List.mem_singleton.mp hq; have := Heap.lt_size (nx I1).2.choose_spec.1; rw [← hq] at this; exact Nat.lt_irrefl _ this
      · exact Nat.lt_irrefl _ (Heap.lt_size (S1.base _ _ hq e))
  have I2a := I1.kp q2
  dsimp only
  generalize h1.push { cls := .type "dict", data := .dict #[] } = g2 at *
  generalize (h1.objs.size : Addr) = a2 at *
  have R2 := P2.perm (List.perm_middle (l₁ := [(dx, anyP), (x, anyP), (L, nsP (up nil0 "self" (.ref x)))]) (l₂ := [(a1, listP (List.toArray []))])).symm
  refine nameL EO (R2.ns 2 rfl) rfl ?_
  refine setB W R2.kb I2a (fun _ N => N.numbers) (fun h2 t2 I2 k2 => ?_) (Within.nil |>.cons "nodes" _) (by simp)
  obtain ⟨S2, im2⟩ := R2.upd2 (fun c o h1 h2 e => k2 c o h2 h1 e) (nx I2).1 (nx I2).2
  -- self.weights
  refine wpAny_execs_cons (plainObj_wpAny_Assign_Attribute (list0 ?_))
  have P3 := S2.addPush (o := { cls := .type "list", data := .seq (List.toArray []) }) (p := listP (List.toArray [])) rfl ⟨0, rfl⟩ (listP.nt ⟨0, rfl⟩)
  have q3 : Kp h2 (h2.push { cls := .type "list", data := .seq (List.toArray []) }) := Kp.push _ _
  have f3 : s.heap.get? h2.objs.size = none := by
    cases e : s.heap.get? h2.objs.size with
    | none => rfl
    | some o =>
      exfalso
      by_cases hq : h2.objs.size ∈ [dx, x]
      · rcases List.mem_cons.mp hq with hq | hq
        · have := Heap.lt_size (nx I2).1.choose_spec.1; rw [← hq] at this; exact Nat.lt_irrefl _ this
        · have hq := List.mem_singleton.mp hq; have := Heap.lt_size (nx I2).2.choose_spec.1; rw [← hq] at this; exact Nat.lt_irrefl _ this
      · exact Nat.lt_irrefl _ (Heap.lt_size (S2.base _ _ hq e))
  have I3a := I2.kp q3
  dsimp only
  generalize h2.push { cls := .type "list", data := .seq (List.toArray []) } = g3 at *
  generalize (h2.objs.size : Addr) = a3 at *
  have R3 := P3.perm (List.perm_middle (l₁ := [(dx, anyP), (x, anyP), (L, nsP (up nil0 "self" (.ref x)))]) (l₂ := [(a2, numP prog w []), (a1, listP (List.toArray []))])).symm
  refine nameL EO (R3.ns 2 rfl) rfl ?_
  refine setB W R3.kb I3a (fun _ N => N.weights) (fun h3 t3 I3 k3 => ?_) ((Within.nil |>.cons "nodes" _) |>.cons "numbers" _) (by simp)
  obtain ⟨S3, im3⟩ := R3.upd2 (fun c o h1 h2 e => k3 c o h2 h1 e) (nx I3).1 (nx I3).2
  -- self.depths
  refine wpAny_execs_cons (plainObj_wpAny_Assign_Attribute (list0 ?_))
  have P4 := S3.addPush (o := { cls := .type "list", data := .seq (List.toArray []) }) (p := listP (List.toArray [])) rfl ⟨0, rfl⟩ (listP.nt ⟨0, rfl⟩)
  have q4 : Kp h3 (h3.push { cls := .type "list", data := .seq (List.toArray []) }) := Kp.push _ _
  have f4 : s.heap.get? h3.objs.size = none := by
    cases e : s.heap.get? h3.objs.size with
    | none => rfl
    | some o =>
      exfalso
      by_cases hq : h3.objs.size ∈ [dx, x]
      · rcases List.mem_cons.mp hq with hq | hq
        · have := Heap.lt_size (nx I3).1.choose_spec.1; rw [← hq] at this; exact Nat.lt_irrefl _ this
        · have hq := List.mem_singleton.mp hq; have := Heap.lt_size (nx I3).2.choose_spec.1; rw [← hq] at this; exact Nat.lt_irrefl _ this
      · exact Nat.lt_irrefl _ (Heap.lt_size (S3.base _ _ hq e))
  have I4a := I3.kp q4
  dsimp only
  generalize h3.push { cls := .type "list", data := .seq (List.toArray []) } = g4 at *
  generalize (h3.objs.size : Addr) = a4 at *
  have R4 := P4.perm (List.perm_middle (l₁ := [(dx, anyP), (x, anyP), (L, nsP (up nil0 "self" (.ref x)))]) (l₂ := [(a3, listP (List.toArray [])), (a2, numP prog w []), (a1, listP (List.toArray []))])).symm
  refine nameL EO (R4.ns 2 rfl) rfl ?_
  refine setB W R4.kb I4a (fun _ N => N.depths) (fun h4 t4 I4 k4 => ?_) (((Within.nil |>.cons "nodes" _) |>.cons "numbers" _) |>.cons "weights" _) (by simp)
  refine e02 (R4.upd2 (fun c o h1 h2 e => k4 c o h2 h1 e) (nx I4).1 (nx I4).2) fun S4 im4 => ?_
  refine wpAny_execs_nil ?_
  have nd : ([dx, x, L, a4, a3, a2, a1] : List Addr).Nodup := S4.nd
  simp only [List.nodup_cons, List.mem_cons, List.not_mem_nil, or_false, not_or, not_false_eq_true, List.nodup_nil, and_true] at nd
  (refine e06 nd fun hpz1 hpz2 hpz3 hpz4 hpz5 m10 => ?_; clear nd); (refine e06 hpz1 fun n1 n2 n3 n4 n5 n6 => ?_; clear hpz1); (refine e05 hpz2 fun n7 n8 n9 n10 n11 => ?_; clear hpz2); (refine e04 hpz3 fun m1 m2 m3 m4 => ?_; clear hpz3); (refine e03 hpz4 fun m5 m6 m7 => ?_; clear hpz4); (refine e02 hpz5 fun m8 m9 => ?_; clear hpz5)
  refine hR _ _ ⟨x, dx, a1, a2, a3, a4⟩ rfl rfl S4.chg ⟨S4.off 6 rfl, S4.off 5 rfl, S4.off 4 rfl, S4.off 3 rfl, ?_, ?_, ?_, hmods⟩ ?_ ⟨?_, [], [], [], [], ⟨⟨List.nodup_nil, fun i o ks e => by simp at e, fun t h => nomatch h⟩, rfl, fun i t c e => by simp at e, ⟨rfl, fun i x e => by simp at e⟩, rfl, fun i t v e => by simp at e, rfl, fun i t v e => by simp at e⟩, let ⟨o, e, p, _⟩ := S4.get 6 rfl; ⟨o, e, p⟩, let ⟨o, e, p, _⟩ := S4.get 5 rfl; ⟨o, e, p⟩, let ⟨o, e, p, _⟩ := S4.get 4 rfl; ⟨o, e, p⟩, let ⟨o, e, p, _⟩ := S4.get 3 rfl; ⟨o, e, p⟩⟩
  · simp only [BK.four, List.nodup_cons, List.mem_cons, List.not_mem_nil, or_false, not_or, not_false_eq_true, List.nodup_nil, and_true]
    grind
  · simp only [BK.four, List.mem_cons, List.not_mem_nil, or_false, not_or]
    grind
  · simp only [BK.four, List.mem_cons, List.not_mem_nil, or_false, not_or]
    grind
  · simp only [BK.four, List.mem_cons, List.not_mem_nil, or_false]
    intro a h
    rcases h with h | h | h | h <;> subst h <;> assumption
  · obtain ⟨o, e, a, b, c, d, n⟩ := I4
    exact ⟨o, e, a, b, c, d, n⟩
end
section
variable {prog : Program} {w : World} {B : Heap} {A : Around} {s : Shared} {E : Value → Shared → Prop} {env : Env} {pos : Pos}
set_option maxHeartbeats 4000000 in
/-- `Bank()` -/
theorem newBank (W : Wd w B) {Q : Value → Shared → Prop} {n : Nat} (kb : Kp B s.heap) (hr : Room A (n + 2))
    (hQ : ∀ h' tk (k : BK), Kp s.heap h' → BankOff B k → (∀ a ∈ k.four, s.heap.get? a = none) → s.heap.get? k.b = none → s.heap.get? k.db = none → BankAt prog w h' k [] → Q (.ref k.b) { s with heap := h', toks := tk }) :
    wpAny (model prog w) A (call (.ref 198) []) Q E s := by
  refine e12 (bank_ns W kb) fun mN G N => ?_
  refine x12c1 (bank_at W kb) fun nm q bs sn sub col dd k0 k1 k2 k3 k5 hC => ?_
  obtain ⟨hh, g, d, t, os⟩ := s
  have kf := fun o => kb 110 o
  obtain ⟨oF, eF, cF⟩ : ∃ o, (KK w).lookup 110 = some o ∧ o.cls = .type "function" := ⟨_, rfl, rfl⟩
  refine wpAny_call_obj_init PySem.F.objNew hC G N.init (kb _ _ (W.kin _ _ eF)) cF fun h' x dx M => ?_
  refine e14 M.inst fun o e c nc hi => ?_
  have hdx := M.dict o e
  have I : InstAt h' x dx fun _ => none := by
    rcases hi with ⟨z, _⟩ | ⟨d', e1, e2, e3⟩
    · rw [hdx] at z; cases z
    · rw [hdx] at e1; cases e1; exact ⟨o, e, c, nc, hdx, e2, e3⟩
  have kk : Kp hh h' := M.keeps
  refine wpAny_call ?_
  have hBx : B.get? x = none := by
    cases e : B.get? x with
    | none => rfl
    | some o => have := M.newX; rw [kb _ _ e] at this; cases this
  have hBd : B.get? dx = none := by
    cases e : B.get? dx with
    | none => rfl
    | some o => have := M.newD; rw [kb _ _ e] at this; cases this
  have hr' : Room (A.under (.builtin "type.__call__" ⟨[.ref 198], []⟩)) (n + 1) := by
    (refine e03 hr fun a b c => ?_; clear hr)
    have e1 : (Code.builtin "type.__call__" ⟨[.ref 198], []⟩).weight = 1 := by kernel_rfl
    have e2 : (Code.builtin "type.__call__" ⟨[.ref 198], []⟩).cUnits = 1 := by kernel_rfl
    refine ⟨a, ?_, ?_⟩
    · show A.depth + (Code.builtin "type.__call__" ⟨[.ref 198], []⟩).weight + (n + 1) < _
      rw [e1]; lia
    · show A.units + (Code.builtin "type.__call__" ⟨[.ref 198], []⟩).cUnits + 8 * (n + 1) + 100 < _
      rw [e2]; lia
  refine init_spec W (fun b o e => kk b o (kb b o e)) hr' hBx hBd I fun h2 tk k hb hd ch off fr at2 => ?_
  refine ⟨rfl, ?_⟩
  subst hb hd
  refine hQ _ _ k (fun b o e => ?_) off (fun a ha => ?_) M.newX M.newD at2
  · by_cases hm : b ∈ [k.db, k.b]
    · rcases List.mem_cons.mp hm with hm | hm
      · rw [hm] at e; have := M.newD; rw [e] at this; cases this
      · rw [List.mem_singleton.mp hm] at e; have := M.newX; rw [e] at this; cases this
    · exact ch b o hm (kk _ _ e)
  · cases e : hh.get? a with
    | none => rfl
    | some o => have := fr a ha; rw [kk _ _ e] at this; cases this
end
theorem IntsL.unsnoc : ∀ {sl : List Nat} {ps : List Value}, IntsL sl ps → sl ≠ [] → X4 fun sl' b ps' t => sl = sl' ++ [b] ∧ ps = ps' ++ [Value.int (b : Nat) t] ∧ IntsL sl' ps'
  | [], _, _, h => absurd rfl h
  | [b], _, ⟨t, r, e, x⟩, _ => by
    rw [show r = [] from x] at e
    exact ⟨[], b, [], t, rfl, e, rfl⟩
  | a :: c :: sl, _, ⟨t, r, e, x⟩, _ => by
    refine x4c3 (IntsL.unsnoc x (by simp)) fun sl' b ps' t' e1 e2 e3 => ?_
    exact ⟨a :: sl', b, Value.int (a : Nat) t :: ps', t', by rw [e1]; rfl, by rw [e, e2]; rfl, t, ps', rfl, e3⟩
theorem kf_kids (w : World) : keepIn (KK w) (.ref 162) = true := by kernel_rfl
theorem kf_op (w : World) : keepIn (KK w) (.ref 155) = true := by kernel_rfl
theorem nodup_bound : ∀ {n : Nat} {bs : List Nat}, bs.Nodup → (∀ b ∈ bs, b < n) → bs.length ≤ n
  | 0, bs, _, h => by
    cases bs with
    | nil => exact Nat.le_refl _
    | cons b _ => exact absurd (h b (.head _)) (Nat.not_lt_zero _)
  | n + 1, bs, nd, h => by
    have h1 : (bs.erase n).length ≤ n := nodup_bound (nd.erase n) (fun b hb => by
      have h2 := (nd.mem_erase_iff).mp hb
      have := h b h2.2
      lia)
    have := List.length_erase (a := n) (l := bs)
    split at this <;> lia
theorem intsAre_of {prog : Program} {w : World} : ∀ {vs : List Value} {kvs : List (Int × Value)}, vs.length = kvs.length → (∀ (i : Nat) v, vs[i]? = some v → ∃ k x, kvs[i]? = some (k, x) ∧ (intKind prog w).is k v = true) → IntsAre vs (kvs.map (·.1))
  | [], [], _, _ => .nil
  | [], _ :: _, e, _ => by simp at e
  | _ :: _, [], e, _ => by simp at e
  | v :: vs, kv :: kvs, e, h => by
    refine e22 (h 0 v rfl) fun k x h1 h2 => ?_
    cases h1
    (refine e11 (Value.isInt_shape h2) fun t hq1 => ?_; subst hq1)
    exact .cons k t (intsAre_of (by simpa using e) fun i v' hv => h (i + 1) v' hv)
theorem sorted_nats {ns : List Int} {bs : List Nat} (p : ns.Perm (bs.map (fun (b : Nat) => (b : Int)))) (o : ns.Pairwise (· ≤ ·)) (nd : bs.Nodup) : ∃ zs : List Nat, ns = zs.map (fun (b : Nat) => (b : Int)) ∧ zs.Perm bs ∧ zs.Pairwise (· < ·) := by
  have h1 : ns = (ns.map Int.toNat).map (fun (b : Nat) => (b : Int)) := by
    rw [List.map_map]
    refine (List.map_id' ns).symm.trans (List.map_congr_left fun n hn => ?_)
    try dsimp only
    (refine e12 (List.mem_map.mp (p.mem_iff.mp hn)) fun b hb hq2 => ?_; subst hq2)
    rfl
  have h2 : (ns.map Int.toNat).Perm bs := by
    have := p.map Int.toNat
    rw [List.map_map] at this
    have e : bs.map (Int.toNat ∘ fun (b : Nat) => (b : Int)) = bs := by
      refine (List.map_congr_left fun n hn => ?_).trans (List.map_id' bs)
      rfl
    rwa [e] at this
  refine ⟨ns.map Int.toNat, h1, h2, ?_⟩
  try dsimp only
  have nd2 : (ns.map Int.toNat).Nodup := h2.nodup_iff.mpr nd
  have o2 : (ns.map Int.toNat).Pairwise (· ≤ ·) := List.pairwise_map.mpr (o.imp fun h => by lia)
  exact (List.pairwise_and_iff.mpr ⟨o2, nd2⟩).imp fun ⟨h, h'⟩ => by lia
theorem below_at {zs : List Nat} (o : zs.Pairwise (· < ·)) {i : Nat} {z y : Nat} (hz : zs[i]? = some z) (hy : y ∈ zs) (hlt : y < z) : ∃ p, p < i ∧ zs[p]? = some y := by
  refine e11 (List.getElem?_of_mem hy) fun p hp => ?_
  refine ⟨p, ?_, hp⟩
  obtain ⟨h1, e1⟩ := List.getElem?_eq_some_iff.mp hz
  obtain ⟨h2, e2⟩ := List.getElem?_eq_some_iff.mp hp
  rcases Nat.lt_trichotomy p i with h | h | h
  · exact h
  · subst h; rw [e1] at e2; lia
  · have := List.pairwise_iff_getElem.mp o i p h1 h2 h
    lia
theorem intsAre_at {vs : List Value} {zs : List Nat} (h : IntsAre vs (zs.map (fun (b : Nat) => (b : Int)))) {i : Nat} {v : Value} (e : vs[i]? = some v) : ∃ (z : Nat) (t : Tok), zs[i]? = some z ∧ v = Value.int (z : Nat) t := by
  (refine e22 (h.at i v e) fun n t hq2 hn => ?_; subst hq2)
  rw [List.getElem?_map] at hn
  cases hz : zs[i]? with
  | none => rw [hz] at hn; cases hn
  | some z => rw [hz] at hn; cases hn; exact ⟨z, t, rfl, rfl⟩
section
variable {prog : Program} {w : World}
theorem item_int_dict {A : Around} {E : Value → Shared → Prop} {s : Shared} {Q : Value → Shared → Prop} {value slice : Expr} {d : Addr} {kvs : List (Int × Value)} {x : Int} {t : Tok} {v : Value} (hd : s.heap.DictOf (intKind prog w) d kvs) (hv : valueAt kvs x = some v)
    (h : Q v { s with toks := s.toks + 1 }) (hs : autoParam (subscripted slice false (.ref d) (.int x t) = operate [.ref d, .int x t] (getItem (.ref d) (.int x t))) aWu) :
    wpAny (model prog w) A (subscriptTail value slice (.ref d) (.int x t)) Q E s :=
  tail_any hd.typeIs slot_dict_getitem.lookup (wpAny_getItem_of (knd := intKind prog w) (k := x) (intKind_is prog w x t) hd.mapOf hv h) hs
end
section
variable {prog : Program} {w : World} {B : Heap} {A : Around} {s : Shared}
set_option maxHeartbeats 8000000 in
theorem term_spec (W : Wd w B) {R : Result → Shared → Prop} {k : BK} {ts : List T} {i n : Nat} {ti : Tok} {t : T} (kb : Kp B s.heap) (hr : Room A (n + 3)) (off : BankOff B k) (bk : BankAt prog w s.heap k ts) (h64 : ts.length < 64) (hi : ts[i]? = some t)
    (hR : ∀ r h' tk, Kp s.heap h' → Rep h' t r → R (.ok (.ret r)) { s with heap := h', toks := tk }) :
    codeAny (model prog w) A (.call (.ref 174) ⟨[.ref k.b, .int (i : Nat) ti], []⟩) R s := by
  refine enterX (n := n + 2) (fun L => [("made", L + 1)]) (fun L => [(L, nsP (up (up nil0 "self" (.ref k.b)) "n" (.int (i : Nat) ti))), (L + 1, cellP none)]) W kb hr ?_
  intro L env h₁ tk EO hL S0 E'
  try dsimp only
  have hil : i < ts.length := (List.getElem?_eq_some_iff.mp hi).1
  -- below, stack = ({n: True}, [n])
  refine wpAny_execs_cons (cps (P := fun Q' => ∀ (h' : Heap) (tk' : Nat) (D Wl : Addr) (m : Str → Option Value) (v0 : Value) (ps : List Value), ((D == sysModules) = false) → (m "below" = some (.ref D)) → (m "stack" = some (.ref Wl)) → (m "self" = some (.ref k.b)) → (m "n" = some (.int (i : Nat) ti)) → (IntsL [i] ps) → (St B s.heap [] [(Wl, listP ps.toArray), (D, dictP (intKind prog w) [((i : Int), v0)]), (L, nsP m), (L + 1, cellP none)] h') → Q' .next { s with heap := h', toks := tk' }) ?_ ?_)
  · intro K0 hK0
    refine pairSwapped hr.hh (wpAny_Dict_walk (knd := intKind prog w) (by rfl) (by rfl) (by simp) (by decide) ?_)
    have k2 : Kp h₁ (h₁.push { cls := .type "dict", data := .dict #[] }) := Kp.push _ _
    have hnew : (h₁.push { cls := .type "dict", data := .dict #[] }).DictOf (intKind prog w) h₁.objs.size [] := Heap.DictOf.new h₁
    have hdn : h₁.get? h₁.objs.size = none := Heap.get?_none_of_le (Nat.le_refl _)
    have S3 := S0.add (p := dictP (intKind prog w) []) hdn k2 (let ⟨o, e, r⟩ := dictP_of.mp hnew; ⟨o, e, r, r.nt⟩)
    have hm := notMods W S0.kb
    dsimp only
    generalize h₁.push { cls := .type "dict", data := .dict #[] } = h3 at *
    generalize (h₁.objs.size : Addr) = D at *
    refine pairTrees_cons_walk (nameL EO (S3.ns 1 rfl) rfl (wpAny_Constant_bool (pairTrees_nil_walk ?_)))
    refine ⟨[((i : Int), _)], ⟨intKind_is prog w _ ti, rfl, trivial⟩, S3.dict 0 rfl, fun h6 hd6 hs6 => ?_⟩
    rw [merged_nil_of_nodup _ (by simp)] at hd6
    refine e02 (S3.setDict 0 rfl hs6.extBut hd6) fun S6 im6 => ?_
    dsimp only
    refine list1 (nameL EO (S6.ns 1 rfl) rfl ?_)
    have S7 := S6.addPush (o := { cls := .type "list", data := .seq (List.toArray [Value.int (i : Nat) ti]) }) (p := listP (List.toArray [Value.int (i : Nat) ti])) rfl ⟨0, rfl⟩ (listP.nt ⟨0, rfl⟩)
    dsimp only
    generalize h6.push { cls := .type "list", data := .seq (List.toArray [Value.int (i : Nat) ti]) } = h7 at *
    generalize (h6.objs.size : Addr) = Wl at *
    intro h8 tk8 (k8 : Kp h7 h8)
    have S8 := S7.kp k8
    refine S8.storeL 2 rfl EO (fun h9 S9 im9 => ?_)
    try dsimp only
    refine S9.storeL 2 rfl EO (fun h10 S10 im10 => ?_)
    try dsimp only
    exact hK0 h10 _ D Wl _ _ [Value.int (i : Nat) ti] hm rfl rfl rfl rfl ⟨ti, [], rfl, rfl⟩ S10
  intro h2 tk2 D Wl m v0 ps hmod hmD hmW hmS hmN hps S2
  dsimp only
  let Clo : List Nat → Nat → Prop := fun bs b => ∀ o ks ns, ts[b]? = some (T.nd o ks) → Idx ts ks ns → ∀ c ∈ ns, c ∈ bs
  let Good : List Nat → List (Int × Value) → Prop := fun bs kvs => kvs.map (·.1) = bs.map (fun (b : Nat) => (b : Int)) ∧ bs.Nodup ∧ (∀ b ∈ bs, b < ts.length) ∧ i ∈ bs
  let I : Nat → Shared → Prop := fun j s' => X7 fun (bs sl : List Nat) (kvs : List (Int × Value)) (ps : List Value) (m : Str → Option Value) (h : Heap) (tk : Nat) => C12 (s' = { s with heap := h, toks := tk }) (Good bs kvs) (IntsL sl ps) ((∀ b ∈ sl, b < ts.length)) ((∀ b ∈ bs, b ∈ sl ∨ Clo bs b)) (sl.length + 2 * (ts.length - bs.length) ≤ j) (j ≤ 200) (m "below" = some (.ref D)) (m "stack" = some (.ref Wl)) (m "self" = some (.ref k.b)) (m "n" = some (.int (i : Nat) ti)) (St B s.heap [] [(Wl, listP ps.toArray), (D, dictP (intKind prog w) kvs), (L, nsP m), (L + 1, cellP none)] h)
  refine wpAny_execs_cons (wpAny_While (codeAny_whileLoop I ?_ 200 ?_))
  try dsimp only
  · intro j s' hpz1; (refine x7c12 hpz1 fun bs sl kvs ps m h tk hq7 hg hsl hslt hclo hj hj2 hmD hmW hmS hmN S => ?_; refine wpS hq7 ?_; clear hq7)
    have hpsl := hsl.length
    have hbl := nodup_bound hg.2.1 hg.2.2.1
    refine wpAny_isTrue_Compare1 (callB W S.kb EO bn_len rfl (nameL EO (S.ns 2 rfl) hmW ?_))
    refine len_listL (S.list 0 rfl) (by lia) ?_
    refine wpAny_Constant_int (PyProof.Rows.gt_int (wpAny_truthy_bool ?_))
    dsimp only
    by_cases hnil : sl = []
    · refine ifF (by rw [hpsl, hnil]; rfl) ?_
      subst hnil
      have hclo' : ∀ b ∈ bs, Clo bs b := fun b hb => (hclo b hb).elim (fun h => nomatch h) id
      clear hclo hslt hj hpsl hsl
      refine wpAny_execs_nil ?_
      dsimp only
      obtain ⟨cs, wv, dv, xs, inv0, hpz8, _⟩ := bk.st; (refine e12 hpz8 fun o1 e1 p1 => ?_; clear hpz8)
      have invOf : ∀ {g : Heap}, Kp s.heap g → BankInv g ts cs wv dv xs ∧ g.IsList k.nl (List.toArray (cs.map Value.ref)) ∧ BankObj g k := fun kk => ⟨inv0.imm (Imm.kp kk), by obtain ⟨n1, rfl⟩ := p1; exact (show Heap.PlainList _ k.nl _ from ⟨n1, kk _ _ e1⟩).isList, bk.obj.of (fun _ e => kk _ _ e) (fun _ e => kk _ _ e)⟩
      -- made = {}
      refine wpAny_execs_cons (wpAny_Assign_Name (wpAny_Dict_empty ?_))
      have S1 := S.addPush (o := { cls := .type "dict", data := .dict #[] }) (p := dictP (intKind prog w) []) rfl dictP_new (nt_data fun _ _ q => by cases q)
      have hmM := notMods W S.kb
      dsimp only
      generalize h.push { cls := .type "dict", data := .dict #[] } = h2 at *
      generalize (h.objs.size : Addr) = M at *
      refine S1.storeC 4 rfl EO (fun h3 S3 im3 => ?_)
      try dsimp only [List.set_cons_zero, List.set_cons_succ] at S3
      clear S1 im3 S
      dsimp only
      have hkl : kvs.length = bs.length := by have := congrArg List.length hg.1; simpa using this
      refine wpAny_execs_cons (forList B s.heap [] hr.hh (hide fun K1 hK1 => callB W S3.kb EO bn_sorted rfl (nameL EO (S3.ns 3 rfl) hmD (sorted_ints_any (collect_dict hr.hh hmod (S3.dict 2 rfl) (by exact Nat.le_of_lt (Nat.lt_of_lt_of_le (Nat.lt_of_le_of_lt (Nat.le_trans (Nat.le_of_eq hkl) hbl) h64) (Nat.le_of_ble_eq_true rfl))) (fun h4 tk4 vs k4 hvl hvs => ⟨kvs.map (·.1), intsAre_of hvl hvs, by lia, fun h5 l out ns' k5 hln hpl hI hperm hpw => ?_⟩))))))
      rw [hg.1] at hperm
      (refine e13 (sorted_nats hperm hpw hg.2.1) fun zs hq1 hzp hzlt => ?_; subst hq1)
      have S4 := S3.kp k4
      have S5 := (S4.add (p := listP out.toArray) hln k5 (let ⟨n, e⟩ := hpl; ⟨_, e, ⟨n, rfl⟩, listP.nt ⟨n, rfl⟩⟩)).sublist (ow' := [(l, listP out.toArray), (M, dictP (intKind prog w) []), (L, nsP m), (L + 1, cellP (some (.ref M)))]) (by
        refine List.Sublist.cons_cons _ (List.Sublist.cons_cons _ (List.Sublist.cons _ (List.Sublist.cons _ (List.Sublist.refl _)))))
      have hol : out.length = zs.length := by have := hI.length; simpa using this
      have hznd : zs.Nodup := hzp.nodup_iff.mpr hg.2.1
      dsimp only
      refine hK1 _ _ ⟨l, out, _, fun i2 ow g => ∃ (mk : List (Int × Value)) (m2 : Str → Option Value), C5 (ow = [(l, listP out.toArray), (M, dictP (intKind prog w) mk), (L, nsP m2), (L + 1, cellP (some (.ref M)))]) (m2 "self" = some (.ref k.b)) (m2 "n" = some (.int (i : Nat) ti)) (mk.map (·.1) = (zs.take i2).map (fun (b : Nat) => (b : Int))) ((∀ (j : Nat) z r, zs[j]? = some z → mk[j]? = some ((z : Int), r) → ∃ u, ts[z]? = some u ∧ Rep g u r)), rfl, hpl.isList, S5, ?_, ⟨[], m, rfl, hmS, hmN, by simp, by simp⟩, ?_, ?_, ?_⟩
      · intro i2 ow g g' im hpz2; obtain ⟨mk, m2, e, a1, a2, a3, a4⟩ := hpz2
        exact ⟨mk, m2, e, a1, a2, a3, fun j z r h1 h2 => let ⟨u, hu, hr⟩ := a4 j z r h1 h2; ⟨u, hu, hr.imm im⟩⟩
      · intro i2 ow g it p im S hpz3; obtain ⟨mk, m2, rfl, _⟩ := hpz3
        exact S.list 1 rfl
      · intro i2 ow g tk5 it p x hx im5 S6 hlit hpz4; obtain ⟨mk, m2, rfl, hmS2, hmN2, hmk, hrep⟩ := hpz4
        (refine e22 (intsAre_at hI hx) fun z tz hz hq3 => ?_; subst hq3)
        have hzm : z ∈ zs := List.mem_of_getElem? hz
        have hzb : z ∈ bs := hzp.mem_iff.mp hzm
        have hzl : z < ts.length := hg.2.2.1 z hzb
        obtain ⟨⟨o, ks⟩, htz⟩ : ∃ u, ts[z]? = some u := ⟨_, List.getElem?_eq_getElem hzl⟩
        refine wpAny_pure (wpAny_assign_Name (S6.storeL 3 rfl EO (fun g7 S7 im7 => ?_)))
        refine hide (fun K2 hK2 => ?_)
        try dsimp only [List.set_cons_zero, List.set_cons_succ] at S7
        have S7' : ∃ m', C4 (m' "self" = some (.ref k.b)) (m' "n" = some (.int (i : Nat) ti)) (m' "k" = some (.int (z : Nat) tz)) (St B s.heap [] [(it, p), (l, listP out.toArray), (M, dictP (intKind prog w) mk), (L, nsP m'), (L + 1, cellP (some (.ref M)))] g7) := ⟨up m2 "k" (.int (z : Nat) tz), hmS2, hmN2, rfl, S7⟩
        clear S7 S6 hmS2 hmN2
        obtain ⟨m', hmS2, hmN2, hmK, S7⟩ := S7'
        dsimp only
        have hrep7 : ∀ (j : Nat) z r, zs[j]? = some z → mk[j]? = some ((z : Int), r) → ∃ u, ts[z]? = some u ∧ Rep g7 u r := fun j z r h1 h2 => let ⟨u, hu, hr⟩ := hrep j z r h1 h2; ⟨u, hu, hr.imm im7⟩
        have hmkl : mk.length = i2 := by
          have h1 := congrArg List.length hmk
          rw [List.length_map, List.length_map, List.length_take] at h1
          have := (List.getElem?_eq_some_iff.mp hz).1
          lia
        have hmknd : (mk.map (·.1)).Nodup := by
          rw [hmk]
          exact List.pairwise_map.mpr ((hznd.sublist (List.take_sublist _ _)).imp fun h e => h (by lia))
        have hmat : ∀ (j : Nat) y, j < i2 → zs[j]? = some y → ∃ r, mk[j]? = some ((y : Int), r) := by
          intro j y hj hy
          obtain ⟨q, hq⟩ : ∃ q, mk[j]? = some q := ⟨_, List.getElem?_eq_getElem (by exact Nat.lt_of_lt_of_le hj (Nat.le_of_eq hmkl.symm))⟩
          have h1 : (mk.map (·.1))[j]? = some q.1 := by rw [List.getElem?_map, hq]; rfl
          rw [hmk, List.getElem?_map, List.getElem?_take_of_lt hj, hy] at h1
          exact ⟨q.2, by rw [hq]; cases q; cases h1; rfl⟩
        refine e03 (invOf S7.kpH) fun inv7 hl7 I7 => ?_
        refine wpAny_execs_cons (wpAny_Assign_Subscript (wpAny_BinOp (tup1 (methB W (fun _ N => N.op) kf_op (nameL EO (S7.ns 3 rfl) hmS2 ⟨rfl, S7.kb, I7, nameL EO (S7.ns 3 rfl) hmK ⟨S7.kb, op_spec W (n := n) S7.kb (hr.deeper.mono (by simp)) I7 hl7 inv7 (by exact Nat.le_of_lt (Nat.lt_of_lt_of_le h64 (Nat.le_of_ble_eq_true rfl))) htz (fun g8 tk8 t8 (k8 : Kp g7 g8) => ?_)⟩⟩) rfl (fun w => ⟨_, rfl, rfl⟩)))))
        intro g9 c9 (k9 : Kp g8 g9) hc9
        have S9 := (S7.kp k8).kp k9
        refine e03 (invOf S9.kpH) fun inv9 hl9 I9 => ?_
        dsimp only
        refine callB W S9.kb EO bn_tuple rfl (compTupMap B s.heap [] EO hr.hh (hide fun K3 hK3 => methB W (fun _ N => N.kids) kf_kids (nameL EO (S9.ns 3 rfl) hmS2 ⟨rfl, S9.kb, I9, nameL EO (S9.ns 3 rfl) hmK ⟨S9.kb, kids_spec W (n := n) S9.kb (hr.deeper.mono (by simp)) I9 hl9 inv9 (by exact Nat.le_of_lt (Nat.lt_of_lt_of_le h64 (Nat.le_of_ble_eq_true rfl))) htz (fun g10 tk10 c vs10 ns (k10 : Kp g9 g10) hcn hc hints hidx => ?_)⟩⟩) rfl (fun w => ⟨_, rfl, rfl⟩)))
        have S10 := S9.kp k10
        have hnl9 : ns.length ≤ 9 := by rw [hidx.length]; exact (inv9.ok.kids z o ks htz).1
        have hvl10 := hints.length
        dsimp only
        refine hK3 _ _ ⟨c, vs10, _, fun i3 y g => ∃ u, ks[i3]? = some u ∧ Rep g u y, rfl, hc, by exact Nat.le_trans (Nat.le_trans (Nat.le_of_eq hvl10) hnl9) (Nat.le_of_ble_eq_true rfl), S10, fun i3 y g g' im ⟨u, hu, hr⟩ => ⟨u, hu, hr.imm im⟩, ?_, ?_⟩
        try dsimp only
        · intro i3 g tkk C mC ow' x hx imx S13 hin EO'
          (refine e22 (hints.at hx) fun ni tn hni hq3 => ?_; subst hq3)
          refine e12 (hidx.at hni) fun ki hki hti => ?_
          have hnb : ni ∈ bs := hclo' z hzb o ks ns htz hidx ni (List.mem_of_getElem? hni)
          have hnz : ni < z := by
            refine e12 ((inv9.ok.kids z o ks htz).2 ki (List.mem_of_getElem? hki)) fun j hj hj2 => ?_
            rw [nodup_at inv9.ok.nd hti hj2]; exact hj
          refine e12 (below_at hzlt hz (hzp.mem_iff.mpr hnb) hnz) fun p hp hzp2 => ?_
          refine e11 (hmat p ni hp hzp2) fun r hr => ?_
          refine e12 (hrep7 p ni r hzp2 hr) fun u hu hrp => ?_
          rw [hti] at hu; cases hu
          refine Subscript_ (nameC EO' (S13.cellM (a := L + 1) (v := some (.ref M)) (.tail _ (hin _ (.tail _ (.tail _ (.tail _ (.tail _ (.head _)))))))) (nameL EO' (S13.ns 0 rfl) rfl (item_int_dict (S13.dictM (.tail _ (hin _ (.tail _ (.tail _ (.head _)))))) (valueAt_of_get hmknd hr) ?_)))
          try dsimp only
          exact ⟨g, _, rfl, fun _ _ e => e, ki, hki, hrp.imm ((((Imm.kp k8).tr (Imm.kp k9)).tr (Imm.kp k10)).tr imx)⟩
        intro ys g11 tk11 D2 hyl hG hDn11 im11 S11
        have hRL : RepL g11 ks ys := RepL.of (by rw [hyl, hvl10, hidx.length]) (fun i3 t3 v3 h1 h2 => by
          refine e12 (hG i3 v3 h2) fun u hu hr => ?_
          rw [h1] at hu; cases hu; exact hr)
        refine tuple_of_list (S11.list 0 rfl) (by exact Nat.le_trans (Nat.le_trans (Nat.le_trans (Nat.le_of_eq hyl) (Nat.le_of_eq hvl10)) hnl9) (Nat.le_of_ble_eq_true rfl)) (fun g12 c12 (k12 : Kp g11 g12) hc12 => ?_)
        dsimp only
        refine add_tup (vs := [Value.str o.s t8]) (ws := ys) ((im11 _ _ (hc9.keeps k10)).keeps k12) hc12 (fun g13 c13 (k13 : Kp g12 g13) hc13 => ?_) (by simp; have := sizeLine_big; lia)
        have S13 := ((S11.tail (ext_notin S10 hDn11)).kp k12).kp k13
        dsimp only
        have hnone : valueAt mk (z : Int) = none := valueAt_none_of_not_mem (by
          rw [hmk]; intro q
          refine e12 (List.mem_map.mp q) fun y hy e => ?_
          have e2 : y = z := by have e' : (y : Int) = (z : Int) := e; lia
          refine e11 (List.getElem?_of_mem hy) fun j hj => ?_
          rw [List.getElem?_take] at hj
          split at hj
          · rename_i hji
            rw [e2] at hj
            have := nodup_at hznd hj hz; lia
          · cases hj)
        refine nameC EO (S13.cell 4 rfl) (nameL EO (S13.ns 3 rfl) hmK ?_)
        try dsimp only
        refine wpAny_setItem_pairs (knd := intKind prog w) (k := (z : Int)) (intKind_is prog w _ tz) (S13.dict 2 rfl) (fun g14 hd14 hs14 => ?_) (by have := sizeLine_big; have := (List.getElem?_eq_some_iff.mp hz).1; have := hzp.length_eq; lia)
        rw [stored_absent hnone] at hd14
        refine e02 (S13.setDict 2 rfl hs14.extBut hd14) fun S14 im14 => ?_
        try dsimp only [List.set_cons_zero, List.set_cons_succ] at S14
        have imAll : Imm g7 g14 := (((((Imm.kp k8).tr (Imm.kp k9)).tr (Imm.kp k10)).tr im11).tr ((Imm.kp k12).tr (Imm.kp k13))).tr im14
        refine wpAny_execs_nil (hK2 _ _ ⟨g14, _, _, rfl, im7.tr imAll, S14, mk ++ [((z : Int), .ref c13)], m', rfl, hmS2, hmN2, ?_, ?_⟩)
        · rw [List.map_append, hmk, List.take_add_one, hz, List.map_append]; rfl
        · intro j y r hy hr
          by_cases hj : j < i2
          · rw [List.getElem?_append_left (by exact Nat.lt_of_lt_of_le hj (Nat.le_of_eq hmkl.symm))] at hr
            refine e12 (hrep7 j y r hy hr) fun u hu hrp => ?_
            exact ⟨u, hu, hrp.imm imAll⟩
          · rw [List.getElem?_append_right (by lia)] at hr
            have hj0 : j - mk.length = 0 := by
              have := (List.getElem?_eq_some_iff.mp hr).1
              simp at this; assumption
            rw [hj0] at hr
            cases hr
            refine ⟨_, htz, Rep.iff.mpr ⟨c13, t8, ys, rfl, (im14 _ _ hc13), hRL.imm (((Imm.kp k12).tr (Imm.kp k13)).tr im14)⟩⟩
      · intro ow g tk5 im5 S6 hpz5; obtain ⟨mk, m2, rfl, hmS2, hmN2, hmk, hrep⟩ := hpz5
        have hfull : zs.take out.length = zs := List.take_of_length_le (by exact Nat.le_of_eq hol.symm)
        rw [hfull] at hmk
        refine e11 (List.getElem?_of_mem (hzp.mem_iff.mpr hg.2.2.2)) fun p hp => ?_
        have hmknd : (mk.map (·.1)).Nodup := by
          rw [hmk]
          exact List.pairwise_map.mpr (hznd.imp fun h e => h (by lia))
        obtain ⟨q, hq⟩ : ∃ q, mk[p]? = some q := ⟨_, List.getElem?_eq_getElem (by
          have h1 := congrArg List.length hmk
          rw [List.length_map, List.length_map] at h1
          have := (List.getElem?_eq_some_iff.mp hp).1
          exact Nat.lt_of_lt_of_le this (Nat.le_of_eq h1.symm))⟩
        have h1 : (mk.map (·.1))[p]? = some q.1 := by rw [List.getElem?_map, hq]; rfl
        rw [hmk, List.getElem?_map, hp] at h1
        obtain ⟨q1, q2⟩ := q
        cases h1
        refine e12 (hrep p i q2 hp hq) fun u hu hrp => ?_
        rw [hi] at hu; cases hu
        refine wpAny_execs_cons (wpAny_Return_some (Subscript_ (nameC EO (S6.cell 3 rfl) (nameL EO (S6.ns 2 rfl) hmN2 (item_int_dict (S6.dict 1 rfl) (valueAt_of_get hmknd hq) ?_)))))
        exact hR _ _ _ S6.kpH hrp
    · refine ifT (by rw [hpsl]; have := List.length_pos_iff.mpr hnil; simp; simp [*]) ?_
      refine hideE (fun K4 hK4 E9 => ?_)
      (refine x4c3 (hsl.unsnoc hnil) fun sl' b ps' tb hq4 hq5 hsl' => ?_; subst hq4; subst hq5)
      have hb := hslt b (by simp)
      have I1 : BankObj h k := bk.obj.of (fun _ e => S.kpH _ _ e) (fun _ e => S.kpH _ _ e)
      obtain ⟨⟨o, ks⟩, htb⟩ : ∃ u, ts[b]? = some u := ⟨_, List.getElem?_eq_getElem hb⟩
      have hpb : ps'.length ≤ 100000 := by
        have h1 := hsl'.length
        have h2 : (sl' ++ [b]).length = sl'.length + 1 := by simp
        lia
      refine wpAny_execs_cons (forTup B s.heap [] hr.hh (hide fun K5 hK5 => methB W (fun _ N => N.kids) kf_kids (nameL EO (S.ns 2 rfl) hmS ⟨rfl, S.kb, I1, ?_⟩) rfl (fun w => ⟨_, rfl, rfl⟩)))
      refine methT PySem.F.plainAttrs_list PySem.F.slot_list_pop PySem.F.type_list_pop (nameL EO (S.ns 2 rfl) hmW ⟨plain_typeIs (S.plain 0 rfl), nd_list (S.plain 0 rfl), ?_⟩)
      refine pop_plain (S.plain 0 rfl) hpb (fun h2 hpl2 hs2 => ?_)
      refine e02 (S.setList 0 rfl hs2 hpl2) fun S2 im2 => ?_
      try dsimp only [List.set_cons_zero, List.set_cons_succ] at S2
      obtain ⟨cs, wv, dv, xs, inv, hpz9, _⟩ := bk.st; (refine e12 hpz9 fun o1 e1 p1 => ?_; clear hpz9)
      have inv2 := inv.imm (Imm.kp S2.kpH)
      have hl2 : h2.IsList k.nl (List.toArray (cs.map Value.ref)) := by obtain ⟨n1, rfl⟩ := p1; exact (show h2.PlainList k.nl _ from ⟨n1, S2.kpH _ _ e1⟩).isList
      have I2 : BankObj h2 k := bk.obj.of (fun _ e => S2.kpH _ _ e) (fun _ e => S2.kpH _ _ e)
      refine ⟨S2.kb, kids_spec W (n := n) S2.kb (hr.deeper.mono (by simp)) I2 hl2 inv2 (by exact Nat.le_of_lt (Nat.lt_of_lt_of_le h64 (Nat.le_of_ble_eq_true rfl))) htb (fun h3 tk3 c vs ns k3 hcn hc hints hidx => ?_)⟩
      have S3 := S2.kp k3
      have hnl9 : ns.length ≤ 9 := by rw [hidx.length]; exact (inv.ok.kids b o ks htb).1
      have hbclo : ∀ bs, (∀ c ∈ ns, c ∈ bs) → Clo bs b := fun bs hall o' ks' ns' ht' hi' => by
        rw [htb] at ht'; cases ht'
        rw [Idx.uniq inv.ok.nd hi' hidx]; exact hall
      dsimp only
      refine hK5 _ _ ⟨c, vs, _, fun i2 ow h => X5 fun (bs2 sl2 : List Nat) (kvs2 : List (Int × Value)) (ps2 : List Value) (m2 : Str → Option Value) => C11 (ow = [(Wl, listP ps2.toArray), (D, dictP (intKind prog w) kvs2), (L, nsP m2), (L + 1, cellP none)]) (Good bs2 kvs2) (IntsL sl2 ps2) ((∀ x ∈ sl2, x < ts.length)) ((∀ x ∈ bs2, x = b ∨ x ∈ sl2 ∨ Clo bs2 x)) ((∀ x ∈ ns.take i2, x ∈ bs2)) (sl2.length + 2 * (ts.length - bs2.length) + 1 ≤ j) (m2 "below" = some (.ref D)) (m2 "stack" = some (.ref Wl)) (m2 "self" = some (.ref k.b)) (m2 "n" = some (.int (i : Nat) ti)), rfl, hc, S3, fun _ _ _ _ _ h => h,
        ⟨bs, sl', kvs, ps', m, rfl, hg, hsl', fun x hx => hslt x (by simp [hx]), fun x hx => ?_, by simp, by simp at hj; lia, hmD, hmW, hmS, hmN⟩, ?_, ?_⟩
      · rcases hclo x hx with h | h
        · rcases List.mem_append.mp h with h | h
          · exact .inr (.inl h)
          · exact .inl (List.mem_singleton.mp h)
        · exact .inr (.inr h)
      · intro i2 ow h tk5 it p x hx im5 S5 hpz6; (refine x5c11 hpz6 fun bs2 sl2 kvs2 ps2 m2 hq5 hg2 hsl2 hslt2 hclo2 htk2 hj5 hmD2 hmW2 hmS2 hmN2 => ?_; subst hq5; clear hpz6)
        (refine e22 (hints.at hx) fun ni tn hni hq3 => ?_; subst hq3)
        refine e12 (hidx.at hni) fun ki hki hti => ?_
        have hnlt : ni < ts.length := (List.getElem?_eq_some_iff.mp hti).1
        have hbl2 := nodup_bound hg2.2.1 hg2.2.2.1
        have hkl2 : kvs2.length = bs2.length := by have := congrArg List.length hg2.1; simpa using this
        have htake : ∀ x, x ∈ ns.take (i2 + 1) ↔ x ∈ ns.take i2 ∨ x = ni := fun x => take_succ_mem hni
        refine wpAny_pure (wpAny_assign_Name (S5.storeL 3 rfl EO (fun h6 S6 im6 => ?_)))
        refine hide (fun K6 hK6 => ?_)
        try dsimp only [List.set_cons_zero, List.set_cons_succ] at S6
        have S6' : ∃ m', C6 (m' "below" = some (.ref D)) (m' "stack" = some (.ref Wl)) (m' "self" = some (.ref k.b)) (m' "n" = some (.int (i : Nat) ti)) (m' "kid" = some (.int (ni : Nat) tn)) (St B s.heap [] [(it, p), (Wl, listP ps2.toArray), (D, dictP (intKind prog w) kvs2), (L, nsP m'), (L + 1, cellP none)] h6) := ⟨up m2 "kid" (.int (ni : Nat) tn), hmD2, hmW2, hmS2, hmN2, rfl, S6⟩
        clear S6 S5 hmD2 hmW2 hmS2 hmN2
        obtain ⟨m', hmD2, hmW2, hmS2, hmN2, hmK, S6⟩ := S6'
        dsimp only
        refine wpAny_execs_cons (wpAny_If (wpAny_isTrue_Compare1 (nameL EO (S6.ns 3 rfl) hmK (nameL EO (S6.ns 3 rfl) hmD2 ?_))))
        refine wpAny_notIn_of (knd := intKind prog w) (k := (ni : Int)) (intKind_is prog w _ tn) hmod (S6.dict 2 rfl).mapOf (wpAny_truthy_bool ?_)
        dsimp only
        by_cases hin : ni ∈ bs2
        · refine ifF ?_ (wpAny_execs_nil (wpAny_execs_nil (hK6 _ _ ⟨h6, _, _, rfl, im6, S6, bs2, sl2, kvs2, ps2, m', rfl, hg2, hsl2, hslt2, hclo2, fun x hx' => ?_, hj5, hmD2, hmW2, hmS2, hmN2⟩)))
          · have : valueAt kvs2 (ni : Int) ≠ none := fun e => by
              have h1 := valueAt_isSome_eq_any kvs2 (ni : Int)
              rw [e] at h1
              have h2 : (ni : Int) ∈ kvs2.map (·.1) := by rw [hg2.1]; exact List.mem_map.mpr ⟨ni, hin, rfl⟩
              refine e12 (List.mem_map.mp h2) fun kv hkv e2 => ?_
              have h3 : (kvs2.any fun kv => decide (kv.1 = (ni : Int))) = true := List.any_eq_true.mpr ⟨kv, hkv, by simpa using e2⟩
              rw [h3] at h1; cases h1
            cases hv : valueAt kvs2 (ni : Int) with
            | none => exact absurd hv this
            | some _ => rfl
          · rcases (htake x).mp hx' with h | rfl
            · exact htk2 x h
            · exact hin
        · have hnone : valueAt kvs2 (ni : Int) = none := valueAt_none_of_not_mem (by
            rw [hg2.1]; intro q
            refine e12 (List.mem_map.mp q) fun y hy e => ?_
            have : y = ni := by have e' : (y : Int) = (ni : Int) := e; lia
            exact hin (this ▸ hy))
          refine ifT (by rw [hnone]; rfl) ?_
          refine wpAny_execs_cons (wpAny_Assign_Subscript (wpAny_Constant_bool (nameL EO (S6.ns 3 rfl) hmD2 (nameL EO (S6.ns 3 rfl) hmK ?_))))
          refine wpAny_setItem_pairs (knd := intKind prog w) (k := (ni : Int)) (intKind_is prog w _ tn) (S6.dict 2 rfl) (fun h7 hd7 hs7 => ?_) (by have := sizeLine_big; exact Nat.le_of_lt (Nat.lt_of_lt_of_le (Nat.lt_of_le_of_lt (Nat.le_trans (Nat.le_of_eq hkl2) hbl2) h64) (Nat.le_of_ble_eq_true rfl)))
          rw [stored_absent hnone] at hd7
          refine e02 (S6.setDict 2 rfl hs7.extBut hd7) fun S7 im7 => ?_
          try dsimp only [List.set_cons_zero, List.set_cons_succ] at S7
          dsimp only
          refine wpAny_execs_cons (wpAny_Expr_any (methT PySem.F.plainAttrs_list PySem.F.slot_list_append PySem.F.type_list_append (nameL EO (S7.ns 3 rfl) hmW2 ⟨plain_typeIs (S7.plain 1 rfl), nd_list (S7.plain 1 rfl), nameL EO (S7.ns 3 rfl) hmK ?_⟩)))
          refine wpAny_list_append_plain (S7.plain 1 rfl) (fun h8 hpl8 hs8 => ?_) (by rw [List.size_toArray, hsl2.length]; have := sizeLine_big; lia)
          rw [List.push_toArray] at hpl8
          refine e02 (S7.setList 1 rfl hs8 hpl8) fun S8 im8 => ?_
          try dsimp only [List.set_cons_zero, List.set_cons_succ] at S8
          have hnd2 : (bs2 ++ [ni]).Nodup := List.nodup_append.mpr ⟨hg2.2.1, by simp, fun a ha b hb => by simp at hb; subst hb; rintro rfl; exact hin ha⟩
          have hlt2 : ∀ x ∈ bs2 ++ [ni], x < ts.length := fun x hx' => by
            rcases List.mem_append.mp hx' with h | h
            · exact hg2.2.2.1 x h
            · rw [List.mem_singleton.mp h]; exact hnlt
          have hbl3 := nodup_bound hnd2 hlt2
          have hmore : ∀ x, Clo bs2 x → Clo (bs2 ++ [ni]) x := fun x hx o ks ns h1 h2 c hc => List.mem_append_left _ (hx o ks ns h1 h2 c hc)
          refine wpAny_execs_nil (wpAny_execs_nil (hK6 _ _ ⟨h8, _, _, rfl, (im6.tr im7).tr im8, S8, bs2 ++ [ni], sl2 ++ [ni], _, _, m', rfl, ⟨by rw [List.map_append, List.map_append, hg2.1]; rfl, hnd2, hlt2, List.mem_append_left _ hg2.2.2.2⟩, hsl2.snoc, fun x hx' => ?_, fun x hx' => ?_, fun x hx' => ?_, ?_, hmD2, hmW2, hmS2, hmN2⟩))
          · rcases List.mem_append.mp hx' with h | h
            · exact hslt2 x h
            · rw [List.mem_singleton.mp h]; exact hnlt
          · rcases List.mem_append.mp hx' with h | h
            · rcases hclo2 x h with h | h | h
              · exact .inl h
              · exact .inr (.inl (List.mem_append_left _ h))
              · exact .inr (.inr (hmore x h))
            · exact .inr (.inl (List.mem_append_right _ h))
          · rcases (htake x).mp hx' with h | rfl
            · exact List.mem_append_left _ (htk2 x h)
            · exact List.mem_append_right _ (.head _)
          · rw [List.length_append] at hbl3 ⊢
            rw [List.length_append]
            simp only [List.length_singleton] at hbl3 ⊢
            lia
      · intro ow h tk5 im5 S5 hpz7; obtain ⟨bs2, sl2, kvs2, ps2, m2, rfl, hg2, hsl2, hslt2, hclo2, htk2, hj5, hmD2, hmW2, hmS2, hmN2⟩ := hpz7
        have hfull : ns.take vs.length = ns := List.take_of_length_le (by rw [hints.length]; exact Nat.le_refl _)
        rw [hfull] at htk2
        refine wpAny_execs_nil (hK4 _ _ ⟨sl2.length + 2 * (ts.length - bs2.length), by assumption, bs2, sl2, kvs2, ps2, m2, h, tk5, rfl, hg2, hsl2, hslt2, fun x hx => ?_, Nat.le_refl _, by lia, hmD2, hmW2, hmS2, hmN2, S5⟩)
        rcases hclo2 x hx with rfl | h | h
        · exact .inr (hbclo _ htk2)
        · exact .inl h
        · exact .inr h
  · refine ⟨[i], [i], _, ps, m, h2, tk2, rfl, ⟨rfl, by simp, by simpa using hil, by simp⟩, hps, by simpa using hil, fun b hb => .inl hb, ?_, Nat.le_refl _, hmD, hmW, hmS, hmN, S2⟩
    simp; lia
end
theorem laid_flags {mask finger moves : Nat} {led plain : Bool} {hs : Array Int} {t' : SetTable} {o : Array Nat} (h : SetTable.laid mask finger moves led plain hs = some (t', o)) : t'.led = led ∧ t'.plain = plain := by
  unfold SetTable.laid at h
  cases hc : SetTable.layClean mask hs with
  | none => rw [hc] at h; cases h
  | some owner =>
    rw [hc] at h
    simp only [Option.bind_eq_bind, Option.bind_some, Option.pure_def, Option.some.injEq, Prod.mk.injEq] at h
    obtain ⟨rfl, rfl⟩ := h
    exact ⟨rfl, rfl⟩
theorem relayAll_flags (t : SetTable) (es : Array (Int × Value)) (n : Nat) : (relayAll t es n).2.1.led = t.led ∧ (t.plain = false → (relayAll t es n).2.1.plain = false) := by
  unfold relayAll
  cases hr : t.relaid (es.map (·.1)) n with
  | none => exact ⟨rfl, fun _ => rfl⟩
  | some p =>
    obtain ⟨t', o⟩ := p
    refine e02 (laid_flags hr) fun h1 h2 => ?_
    dsimp only
    split
    · exact ⟨h1, fun h => h2.trans h⟩
    · exact ⟨rfl, fun _ => rfl⟩
theorem orStandIn_flags (t : SetTable) (n : Nat) : (t.orStandIn n).led = t.led ∧ (t.plain = false → (t.orStandIn n).plain = false) := by
  unfold SetTable.orStandIn
  split
  · exact ⟨rfl, fun h => h⟩
  · exact ⟨rfl, fun _ => rfl⟩
theorem layNew_flags (t : SetTable) (es : Array (Int × Value)) (h : Int) (x : Value) : (layNew t es h x).2.1.led = t.led ∧ (t.plain = false → (layNew t es h x).2.1.plain = false) := by
  unfold layNew
  cases hf : t.freeSlot h with
  | none => exact ⟨rfl, fun _ => rfl⟩
  | some p =>
    obtain ⟨slot, wd⟩ := p
    have := orStandIn_flags (t.put slot).1 (SetTable.insertAt es (t.put slot).2 (h, x)).size
    exact ⟨this.1, fun hp => this.2 hp⟩

section
variable {prog : Program} {w : World} {K : Type} [DecidableEq K] {knd : KeyKind prog w K} {A : Around} {E : Value → Shared → Prop} {s : Shared}
/-- a set, with what is known of its table's flags -/
noncomputable def SetL (knd : KeyKind prog w K) (h : Heap) (a : Addr) (S : K → Bool) (n : Nat) (led : Bool) : Prop :=
  X4 fun o es ep t => h.get? a = some o ∧ o.ExactSet ∧ o.data = .set es ep t ∧ ElemsOf knd es.toList ∧ (∀ k, S k = true ↔ ∃ e ∈ es.toList, knd.is k e.2 = true)
    ∧ es.size < scanBound ∧ t.fits es.size = true ∧ es.size = n ∧ t.led = led ∧ (es.size ≠ 0 → t.plain = false)
theorem SetL.of {h h' : Heap} {a : Addr} {S : K → Bool} {n : Nat} {led : Bool} (x : SetL knd h a S n led) (k : ∀ o, h.get? a = some o → h'.get? a = some o) : SetL knd h' a S n led :=
  let ⟨o, es, ep, t, ho, r⟩ := x; ⟨o, es, ep, t, k o ho, r⟩
theorem SetL_congr {h : Heap} {a : Addr} {S S' : K → Bool} {n n' : Nat} {led : Bool} (x : SetL knd h a S n led) (e : ∀ k, S k = S' k) (en : n = n') : SetL knd h a S' n' led := by
  have : S = S' := funext e
  subst this; subst en; exact x
theorem setL_store {h : Heap} {a : Addr} {o : Obj} {es : Array (Int × Value)} {ep : Nat} {t : SetTable} (ho : h.get? a = some o) (hex : o.ExactSet) (hd : o.data = .set es ep t)
    {es' : Array (Int × Value)} {t' : SetTable} {S' : K → Bool} {led : Bool} (hel : ElemsOf knd es'.toList) (hmem : ∀ k, S' k = true ↔ ∃ e ∈ es'.toList, knd.is k e.2 = true) (hb : es'.size < scanBound) (hf : t'.fits es'.size = true) (hl : t'.led = led) (hp : t'.plain = false) :
    (h.update a (Obj.putSet es' t')).get? a = some { o with data := .set es' (ep + 1) t' } ∧ SetL knd (h.update a (Obj.putSet es' t')) a S' es'.size led := by
  have hg : (h.update a (Obj.putSet es' t')).get? a = some { o with data := .set es' (ep + 1) t' } := by
    have := Heap.get?_update_self (Obj.putSet es' t') ho (by rw [putSet_of es' t' hd]; rfl)
    rw [putSet_of es' t' hd] at this; exact this
  exact ⟨hg, _, es', ep + 1, t', hg, hex, rfl, hel, hmem, hb, hf, rfl, hl, fun _ => hp⟩
theorem addTailL {g : Bool → Sem Unit} (hg : ∀ (b : Bool) (s₁ : Shared) (Q' : Unit → Shared → Prop), Q' () s₁ → wpAny (model prog w) A (g b) Q' E s₁)
    {a : Addr} {o : Obj} {es : Array (Int × Value)} {ep : Nat} {t : SetTable} (ho : s.heap.get? a = some o) (hex : o.ExactSet) (hd : o.data = .set es ep t)
    {es1 : Array (Int × Value)} {t2 : SetTable} {S' : K → Bool} {led : Bool} (hel1 : ElemsOf knd es1.toList) (hmem1 : ∀ k', S' k' = true ↔ ∃ e ∈ es1.toList, knd.is k' e.2 = true)
    (hb1 : es1.size < scanBound) (hf2 : t2.fits es1.size = true) (hl : t2.led = led) (hpl : t2.plain = false) {wasDummy : Bool} {R : Option Bool → Shared → Prop}
    (h : ∀ h', Heap.SameBut a s.heap h' → SetL knd h' a S' es1.size led → R (some true) { s with heap := h' }) :
    wpAny (model prog w) A (do
        storeSet a es1 t2
        if (!wasDummy && t2.tooFull) = true then do
            g (relayAll t2 es1 (SetTable.grown es1.size)).2.2
            storeSet a (relayAll t2 es1 (SetTable.grown es1.size)).1 (relayAll t2 es1 (SetTable.grown es1.size)).2.1
            pure (some true)
          else pure (some true)) R E s := by
  refine wpAny_bind (wpAny_storeSet_of ho hd ?_ (fits_of_scanBound hb1))
  refine e02 (setL_store (knd := knd) ho hex hd hel1 hmem1 hb1 hf2 hl hpl) fun ho1 hS1 => ?_
  have hsb1 := Heap.SameBut.update s.heap a (Obj.putSet es1 t2)
  split
  · have hp := relayAll_perm t2 es1 (SetTable.grown es1.size)
    have hfr := relayAll_fits t2 es1 (SetTable.grown es1.size)
    have hfl := relayAll_flags t2 es1 (SetTable.grown es1.size)
    generalize hRl : relayAll t2 es1 (SetTable.grown es1.size) = Rl at hp hfr hfl ⊢
    obtain ⟨es2, t3, gave2⟩ := Rl
    dsimp only at hp hfr hfl ⊢
    have hel2 : ElemsOf knd es2.toList := hel1.perm hp
    have hmem2 : ∀ k', S' k' = true ↔ ∃ e ∈ es2.toList, knd.is k' e.2 = true := fun k' => (hmem1 k').trans ⟨fun ⟨e, he, q⟩ => ⟨e, hp.mem_iff.mpr he, q⟩, fun ⟨e, he, q⟩ => ⟨e, hp.mem_iff.mp he, q⟩⟩
    have hsz : es2.size = es1.size := by rw [← Array.length_toList, hp.length_eq, Array.length_toList]
    have hb2 : es2.size < scanBound := by rw [hsz]; exact hb1
    refine wpAny_bind (hg _ _ _ ?_)
    refine wpAny_bind (wpAny_storeSet_of ho1 rfl ?_ (fits_of_scanBound hb2))
    obtain ⟨_, hS2⟩ := setL_store (knd := knd) ho1 hex rfl hel2 hmem2 hb2 hfr (hfl.1.trans hl) (hfl.2 hpl)
    rw [hsz] at hS2
    exact wpAny_pure (h _ (hsb1.trans (Heap.SameBut.update _ a _)) hS2)
  · exact wpAny_pure (h _ hsb1 hS1)
theorem setAddL {a : Addr} {S : K → Bool} {n : Nat} {led : Bool} {k : K} {x : Value} {Q : Bool → Shared → Prop} (hkey : knd.is k x = true) (hsc : x.scannable = true) (hnp : plainKind x = false) (hS : SetL knd s.heap a S n led)
    (hroom : n + 1 < scanBound)
    (h : ∀ h', Heap.SameBut a s.heap h' → SetL knd h' a (fun k' => S k' || decide (k' = k)) (if S k then n else n + 1) led → Q (!S k) { s with heap := h' }) :
    wpAny (model prog w) A (setAddHashed a x (knd.hash k)) Q E s := by
  obtain ⟨o, es, ep, t, ho, hex, hd, hel, hmem, hb, hf, hn, hled, hpl⟩ := hS
  have hb1 : es.size + 1 < scanBound := by rw [hn]; exact hroom
  unfold setAddHashed setAddHashedIn
  refine wpAny_holding (wpAny_bind (wpAny_setState_of ho hd hf ?_))
  dsimp only
  rw [byScan_of hsc hb hel]
  rw [if_pos rfl]
  unfold setAddByScan
  refine wpAny_bind ?_
  refine wpAny_bind (wpAny_rule ?_)
  refine wpAny_bind (wpAny_setScan_of hkey ho hd hf hel ?_)
  cases hr : List.findIdx? (fun e => knd.is k e.2) es.toList with
  | some j =>
    dsimp only
    obtain ⟨hj, hpj, _⟩ := List.findIdx?_eq_some_iff_getElem.mp hr
    have hSk : S k = true := (hmem k).mpr ⟨es.toList[j], List.getElem_mem hj, hpj⟩
    refine wpAny_pure (wpAny_pure ?_)
    have e : s = { s with heap := s.heap } := by cases s; rfl
    have := h s.heap (Heap.SameBut.refl a s.heap) ⟨o, es, ep, t, ho, hex, hd, hel, fun k' => by
      rw [Bool.or_eq_true, decide_eq_true_eq, ← hmem k']
      exact ⟨fun hk => hk.elim id (fun e => e ▸ hSk), .inl⟩, hb, hf, by rw [hSk]; exact hn, hled, hpl⟩
    rw [hSk] at this; rw [e]; exact this
  | none =>
    dsimp only
    have hSk : S k = false := by
      cases hk : S k with
      | false => rfl
      | true => refine e12 ((hmem k).mp hk) fun e he hp => ?_; have := List.findIdx?_eq_none_iff.mp hr e he; rw [hp] at this; exact Bool.noConfusion this
    have hgw : ∀ (b : Bool) {s₁ : Shared} {Q' : Unit → Shared → Prop}, Q' () s₁ → wpAny (model prog w) A (match b with | true => rule "set.scan.the-table-gave-way" | false => pure ()) Q' E s₁ :=
      fun b s₁ Q' hq => by cases b <;> first | exact wpAny_pure hq | exact wpAny_rule hq
    have hperm := layNew_perm t es (knd.hash k) x
    have hfits := layNew_fits t es (knd.hash k) x
    have hfl := layNew_flags t es (knd.hash k) x
    generalize hL : layNew t es (knd.hash k) x = L at hperm hfits hfl ⊢
    obtain ⟨es1, t1, wasDummy, gave⟩ := L
    dsimp only at hperm hfits hfl ⊢
    rw [Array.toList_push] at hperm
    have hel1 : ElemsOf knd es1.toList := (hel.push hkey hsc).perm hperm
    have hmem1 : ∀ k', (S k' || decide (k' = k)) = true ↔ ∃ e ∈ es1.toList, knd.is k' e.2 = true := mem_push_iff hkey hmem hperm
    have hb1' : es1.size < scanBound := by rw [← Array.length_toList, hperm.length_eq, List.length_append, Array.length_toList]; simpa using hb1
    refine wpAny_bind (hgw _ ?_)
    have hsz1 : es1.size = n + 1 := by (refine (Array.length_toList ..) ▸ ?_; refine Eq.symm (hperm.length_eq ..) ▸ ?_; refine Eq.symm (List.length_append ..) ▸ ?_; refine Eq.symm (Array.length_toList ..) ▸ ?_; refine Eq.symm (hn ..) ▸ ?_); rfl
    have hend : ∀ h', Heap.SameBut a s.heap h' → SetL knd h' a (fun k' => S k' || decide (k' = k)) es1.size led → Q true { s with heap := h' } := by
      intro h' hsb hS'; have := h h' hsb; rw [hSk] at this; rw [hsz1] at hS'; exact this hS'
    split
    · refine wpAny_bind ?_
      rw [hashByValue_scannable 8 hsc, hnp]
      refine wpAny_pure ?_
      simp only [Bool.false_eq_true, ↓reduceIte]
      refine addTailL ?_ ho hex hd hel1 hmem1 hb1' (SetTable.fits_plain_off hfits) (hfl.1.trans hled) rfl ?_
      · intro b s₁ Q' hq; cases b <;> first | exact wpAny_pure hq | exact wpAny_rule hq
      · intro h' hsb hS'; dsimp only; exact wpAny_pure (hend h' hsb hS')
    · rename_i hnpl
      refine wpAny_bind (wpAny_pure ?_)
      simp only [↓reduceIte]
      refine addTailL ?_ ho hex hd hel1 hmem1 hb1' hfits (hfl.1.trans hled) (by cases h1 : t1.plain with | false => rfl | true => exact absurd h1 hnpl) ?_
      · intro b s₁ Q' hq; cases b <;> first | exact wpAny_pure hq | exact wpAny_rule hq
      · intro h' hsb hS'; dsimp only; exact wpAny_pure (hend h' hsb hS')
end
/-- each once, as first met -/
noncomputable def dd1 (acc : List Str) (x : Str) : List Str := if x ∈ acc then acc else acc ++ [x]
noncomputable def dd (l : List Str) : List Str := l.foldl dd1 []
theorem dd_snoc (l : List Str) (x : Str) : dd (l ++ [x]) = dd1 (dd l) x := by unfold dd; rw [List.foldl_append]; rfl
theorem dd_len : ∀ l : List Str, (dd l).length ≤ l.length := by
  intro l
  have : ∀ (l acc : List Str), (l.foldl dd1 acc).length ≤ acc.length + l.length := by
    intro l
    induction l with
    | nil => intro acc; exact Nat.le_refl _
    | cons x l ih =>
      intro acc
      have h1 := ih (dd1 acc x)
      have h2 : (dd1 acc x).length ≤ acc.length + 1 := by unfold dd1; split <;> simp
      show (l.foldl dd1 (dd1 acc x)).length ≤ _
      dsimp only [List.length_cons]; lia
  simpa [dd] using this l []
theorem dd_mem_nodup : ∀ l : List Str, (dd l).Nodup ∧ ∀ x, x ∈ dd l ↔ x ∈ l := by
  intro l
  have : ∀ (l acc : List Str), acc.Nodup → (l.foldl dd1 acc).Nodup ∧ ∀ x, x ∈ l.foldl dd1 acc ↔ x ∈ acc ∨ x ∈ l := by
    intro l
    induction l with
    | nil => intro acc h; exact ⟨h, fun x => by simp⟩
    | cons y l ih =>
      intro acc h
      have h1 : (dd1 acc y).Nodup ∧ ∀ x, x ∈ dd1 acc y ↔ x ∈ acc ∨ x = y := by
        unfold dd1
        split
        · rename_i hy; exact ⟨h, fun x => ⟨.inl, fun q => q.elim id fun e => e ▸ hy⟩⟩
        · rename_i hy
          exact ⟨List.nodup_append.mpr ⟨h, by simp, fun a ha b hb => by simp at hb; subst hb; rintro rfl; exact hy ha⟩, fun x => by simp⟩
      refine e02 (ih (dd1 acc y) h1.1) fun h2 h3 => ?_
      refine ⟨h2, fun x => (h3 x).trans ?_⟩
      rw [h1.2 x, List.mem_cons]
      constructor
      · rintro ((a | b) | c)
        · exact .inl a
        · exact .inr (.inl b)
        · exact .inr (.inr c)
      · rintro (a | b | c)
        · exact .inl (.inl a)
        · exact .inl (.inr b)
        · exact .inr c
  have := this l [] (by simp)
  exact ⟨this.1, fun x => (this.2 x).trans (by simp)⟩
section
variable {prog : Program} {w : World} {A : Around} {R : Result → Shared → Prop} {s : Shared}
theorem strs_at : ∀ {vs : List Value} {ss : List Str}, StrsAre vs ss → ∀ (i : Nat) (v : Value), vs[i]? = some v → ∃ x t, ss[i]? = some x ∧ v = Value.str x t := fun h i v e => let ⟨y, t, a, b⟩ := h.item i v e; ⟨y, t, b, a⟩
theorem set_update_strs {S it l : Addr} {vs : List Value} {ss : List Str} {led : Bool} (hh : A.handled = none) (hSi : S ≠ it) (hSl : S ≠ l) (hil : it ≠ l) (hS : StrsAre vs ss) (hb : ss.length + 1 < scanBound) :
    ∀ (k i : Nat) (s : Shared), vs.length - i = k → i ≤ vs.length → s.heap.IsListIter it l i → s.heap.IsList l vs.toArray → SetL (strKind prog w) s.heap S (fun k' => decide (k' ∈ dd (ss.take i))) (dd (ss.take i)).length led →
    (∀ h' tk, (∀ b o, b ≠ S → b ≠ it → s.heap.get? b = some o → h'.get? b = some o) → SetL (strKind prog w) h' S (fun k' => decide (k' ∈ dd ss)) (dd ss).length led → R (.ok (.ret .none)) { s with heap := h', toks := tk }) →
    codeAny (model prog w) A (.builtin "set.update.loop" ⟨[.ref S, .ref it], []⟩) R s := by
  have hln : vs.length = ss.length := hS.length
  have I := itr_list (prog := prog) (w := w) (A := A.in1) hh it l vs
  intro k
  induction k with
  | zero =>
    intro i s hk hi hit hl hset hR
    have hin : i = vs.length := by lia
    subst hin
    refine codeAny_builtin F.entry_set_update_loop ?_
    rw [Around.under_plainId F.plain_set_update_loop _]
    show wpAny _ A.in1 (pyNext (.ref it) >>= _) _ _ s
    refine wpAny_bind (I.stop _ _ _ (let ⟨o, e, r⟩ := hit; ⟨o, e, r⟩) hl (fun h' tk hs => ?_))
    show wpAny _ A.in1 (ret Value.none) _ _ _
    have e : ss.take vs.length = ss := List.take_of_length_le (by exact Nat.le_of_eq hln.symm)
    rw [e] at hset
    exact wpAny_pure (hR h' tk (fun b o _ h2 e => hs b o h2 e) (hset.of fun o e => hs S o hSi e))
  | succ k ih =>
    intro i s hk hi hit hl hset hR
    have hlt : i < vs.length := by omega
    refine codeAny_builtin F.entry_set_update_loop ?_
    rw [Around.under_plainId F.plain_set_update_loop _]
    show wpAny _ A.in1 (pyNext (.ref it) >>= _) _ _ s
    refine wpAny_bind (I.item i _ _ _ hlt (let ⟨o, e, r⟩ := hit; ⟨o, e, r⟩) hl (fun v h' tk hv hit' hs => ?_))
    (refine e22 (strs_at hS i v hv) fun x t hx hq3 => ?_; subst hq3)
    have hset' := hset.of fun o e => hs S o hSi e
    have hl' : h'.IsList l vs.toArray := let ⟨o, e, r⟩ := hl; ⟨o, hs l o hil.symm e, r⟩
    dsimp only
    refine wpAny_bind (wpAny_holding ?_)
    unfold setAdd
    refine wpAny_holding ?_
    refine wpAny_bind ((strKind prog w).pyHash (k := x) (strKind_is _ _ _ _) ?_)
    have htk : ss.take (i + 1) = ss.take i ++ [x] := by rw [List.take_add_one, hx]; rfl
    have hroom : (dd (ss.take i)).length + 1 < scanBound := by have := dd_len (ss.take i); have h2 : (ss.take i).length ≤ ss.length := by rw [List.length_take]; lia
                                                               lia
    refine setAddL (knd := strKind prog w) (s := { s with heap := h', toks := _ }) (strKind_is _ _ _ _) rfl rfl hset' hroom (fun h2 hsb hS2 => ?_)
    have hSi2 : SetL (strKind prog w) h2 S (fun k' => decide (k' ∈ dd (ss.take (i + 1)))) (dd (ss.take (i + 1))).length led := by
      refine SetL_congr hS2 (fun k' => ?_) ?_
      · rw [htk, dd_snoc]
        unfold dd1
        split
        · rename_i hm
          by_cases e : k' = x
          · subst e; simp [hm]
          · simp [e]
        · simp
      · rw [htk, dd_snoc]
        unfold dd1
        by_cases hm : x ∈ dd (ss.take i)
        · simp [hm]
        · simp [hm]
    refine wpAny_pure ⟨plainId_quiet F.plain_set_update_loop _, ih (i + 1) _ (by omega) hlt (let ⟨o, e, r⟩ := hit'; ⟨o, hsb.extBut it o hSi.symm e, r⟩) (let ⟨o, e, r⟩ := hl'; ⟨o, hsb.extBut l o hSl.symm e, r⟩) hSi2 (fun h3 tk3 k3 hS3 => ?_)⟩
    exact hR h3 tk3 (fun b o h1 h2 e => k3 b o h1 h2 (hsb.extBut b o h1 (hs b o h2 e))) hS3
end
/-- the settings of the world ask for the order of sets by the text -/
noncomputable abbrev ledOf (w : World) : Bool := !w.params.followText "set-order"
section
variable {prog : Program} {w : World} {A : Around} {E : Value → Shared → Prop} {s : Shared}
theorem code_set_newL (a : Value) {Q₁ : Value → Shared → Prop}
    (h : Q₁ (.ref s.heap.objs.size) { s with heap := s.heap.push { cls := .type "set", dict := none, data := .set #[] 0 (.fresh 0 0 (ledOf w)) } }) :
    codeAny (model prog w) A (.call (.builtin "set.__new__") ⟨[.type "set", a], []⟩) (wants Q₁ E) s := by
  refine codeAny_of_tree ?_
  show wpAny _ A.in1 (do checkBuiltinCall "set.__new__" ⟨[.type "set", a], []⟩; again (.builtin "set.__new__" ⟨[.type "set", a], []⟩)) _ _ s
  refine wpAny_bind (wpAny_of_eq (PySem.F.newCall_set_1 a) (wpAny_pure ⟨plainId_quiet PySem.F.plain_set_new _, codeAny_builtin PySem.F.entry_set_new ?_⟩))
  rw [Around.under_plainId PySem.F.plain_set_new _]
  unfold Builtin.«set.__new__» Builtin.Frozenset.newClass
  have hsub := sub_set_self
  obtain ⟨hp, g, d, tk, os⟩ := s
  dsimp only
  wp_walk
  refine wpAny_askSetting (wpAny_pure ?_)
  dsimp only
  dsimp only [newObj]
  refine wpAny_bind (wpAny_alloc (wpAny_pure ?_))
  exact wpAny_pure h

theorem fresh_setL {K : Type} [DecidableEq K] {knd : KeyKind prog w K} {h : Heap} {a : Addr} {led : Bool} (e : h.get? a = some { cls := .type "set", dict := none, data := .set #[] 0 (.fresh 0 0 led) }) : SetL knd h a (fun _ => false) 0 led :=
  ⟨_, #[], 0, .fresh 0 0 led, e, ⟨rfl, rfl, rfl⟩, rfl, fun e he => by simp at he, fun k => by simp, by unfold scanBound; simp, rfl, rfl, rfl, fun q => absurd rfl q⟩

set_option maxHeartbeats 3200000 in
theorem call_set_strs {l : Addr} {vs : List Value} {ss : List Str} {Q : Value → Shared → Prop}
    (hh : A.handled = none) (hl : s.heap.IsList l vs.toArray) (hi : StrsAre vs ss) (hb : ss.length + 1 < scanBound)
    (h : ∀ (h' : Heap) (tk : Nat) (S : Addr), s.heap.get? S = none → Kp s.heap h' → SetL (strKind prog w) h' S (fun k' => decide (k' ∈ dd ss)) (dd ss).length (ledOf w) → Q (.ref S) { s with heap := h', toks := tk }) :
    wpAny (model prog w) A (call (.type "set") [.ref l]) Q E s := by
  refine e21 PySem.F.called_set.mro fun c tl hmro => ?_
  have hmade := PySem.F.called_set.made
  have hsub := PySem.F.called_set.sub
  refine wpAny_call (codeAny_of_tree ?_)
  show wpAny _ _ (callAny (.type "set") _) _ _ _
  refine wpAny_pure ⟨Code.quiet_builtin _ (by decide +kernel), codeAny_builtin PySem.F.entry_type_call ?_⟩
  rw [Around.under_plain (weight_type_call_type "set" [.ref l] []) rfl]
  have h1 := PySem.F.called_set.notType
  have h2 := PySem.F.called_set.canCreate
  have hct := PySem.F.typeCall_set_1 (.ref l)
  repeat (any_goals (first | assumption | wp_step))
  refine codeAny_mono (code_set_newL (.ref l) (E := E) (Q₁ := fun obj s₁ => obj = .ref s.heap.objs.size ∧ s₁ = { s with heap := s.heap.push { cls := .type "set", dict := none, data := .set #[] 0 (.fresh 0 0 (ledOf w)) } }) ⟨rfl, rfl⟩) fun r s₁ hr => ?_
  cases r with
  | error e => exact hr
  | ok fl =>
    cases fl with
    | ret obj =>
      obtain ⟨rfl, rfl⟩ := hr
      generalize hledv : ledOf w = led
      have hS : (s.heap.push { cls := .type "set", dict := none, data := .set #[] 0 (.fresh 0 0 led) }).get? s.heap.objs.size = some { cls := .type "set", dict := none, data := .set #[] 0 (.fresh 0 0 led) } := Heap.get?_push_size _ rfl
      have hT : Shared.TypeIs { s with heap := s.heap.push { cls := .type "set", dict := none, data := .set #[] 0 (.fresh 0 0 led) } } (.ref s.heap.objs.size) "set" := ⟨_, hS, rfl⟩
      have hli := PySem.F.called_set.init.lookup
      have hbi := PySem.F.called_set.init.bind (.ref s.heap.objs.size)
      repeat (any_goals (first | assumption | wp_step))
      refine codeAny_mono (codeAny_call_builtin (R := wants (fun r s₂ => r = .none ∧ ∃ h' tk, s₂ = { s with heap := h', toks := tk } ∧
          SetL (strKind prog w) h' s.heap.objs.size (fun k' => decide (k' ∈ dd ss)) (dd ss).length led ∧ Kp s.heap h') E) PySem.F.called_set.init.plain PySem.F.entry_set_init (PySem.check_set_init_1 hT ?_)) fun r₂ s₂ hr₂ => ?_
      · obtain ⟨ol, hol, hcl, nl, hdl⟩ := hl
        obtain ⟨ocls, odict, odata, oslots⟩ := ol
        simp only at hcl hdl
        subst hcl; subst hdl
        have hol' : (s.heap.push { cls := .type "set", dict := none, data := .set #[] 0 (.fresh 0 0 led) }).get? l = some { cls := .type "list", dict := odict, data := .seq vs.toArray nl, slots := oslots } := Heap.get?_push_of_some _ hol
        have hsls := PySem.F.sub_list_set
        have hslf := PySem.F.sub_list_frozenset
        have hne : (Value.type "list" == Value.type "dict") = false := by decide
        have hl1 : (s.heap.push { cls := .type "set", dict := none, data := .set #[] 0 (.fresh 0 0 led) }).IsList l vs.toArray := ⟨_, hol', rfl, nl, rfl⟩
        unfold Builtin.«set.__init__» noKeywords Builtin.Frozenset.updateFrom
        generalize hPI : pyIter = PI
        wp_walk
        subst hPI
        refine wpAny_pyIter_list hl1 ?_
        refine wpAny_bind (wpAny_runValue ?_)
        have hlS : l < s.heap.objs.size := Heap.lt_size hol
        have hh3 : A.in1.in1.handled = none := by simp [hh]
        have hneI : (s.heap.push { cls := .type "set", dict := none, data := .set #[] 0 (.fresh 0 0 led) }).objs.size ≠ l := by
          rw [Heap.size_push]; exact Nat.ne_of_gt (Nat.lt_succ_of_lt hlS)
        have hSI : s.heap.objs.size ≠ (s.heap.push { cls := .type "set", dict := none, data := .set #[] 0 (.fresh 0 0 led) }).objs.size := by
          rw [Heap.size_push]; exact Nat.ne_of_lt (Nat.lt_succ_self _)
        refine set_update_strs (w := w) (led := led) hh3 (S := s.heap.objs.size) (l := l) (vs := vs) (ss := ss) hSI (Nat.ne_of_gt hlS) hneI hi hb _ 0 _ rfl (Nat.zero_le _) ?hit ?hl ?hS0 ?hR
        case hit => exact ⟨_, Heap.get?_push_size _ rfl, rfl, rfl⟩
        case hl => exact hl1.push _
        case hS0 =>
          exact SetL_congr (fresh_setL (Heap.get?_push_of_some _ hS)) (fun _ => by simp [dd]) (by simp [dd])
        case hR =>
          intro h' tk' hm hS'
          show wpAny _ _ _ _ _ _
          refine wpAny_pure ?_
          show wpAny _ _ (ret Value.none) _ _ _
          refine wpAny_pure ⟨rfl, h', tk', rfl, hS', fun b o e => ?_⟩
          have hb := Heap.lt_size e
          have hb2 : b ≠ (s.heap.push { cls := .type "set", dict := none, data := .set #[] 0 (.fresh 0 0 led) }).objs.size := by
            rw [Heap.size_push]; exact Nat.ne_of_lt (Nat.lt_succ_of_lt hb)
          exact hm b o (Nat.ne_of_lt hb) hb2 (Heap.get?_push_of_some _ (Heap.get?_push_of_some _ e))
      · cases r₂ with
        | error e => exact hr₂
        | ok fl₂ =>
          cases fl₂ with
          | ret r =>
            obtain ⟨rfl, h', tk, rfl, hS', hk'⟩ := hr₂
            repeat (any_goals (first | assumption | wp_step))
            exact h _ _ _ (Heap.get?_none_of_le (Nat.le_refl _)) hk' (by rw [hledv]; exact hS')
          | _ => exact hr₂.elim
    | _ => exact hr.elim
end
theorem owner_setit : Manifest.owners.lookup (String.ofList ['r', 'o', 't', 'a', 'r', 'e', 't', 'i', '_', 't', 'e', 's'].reverse) = some Manifest.sig_set_iterator := by kernel_rfl
theorem slot_setit_next : Slot "set_iterator" "__next__" "set_iterator.__next__" :=
  .of (owner := "set_iterator") (n := "__next__") (by rw [typeLookup_type, builtinLookup_eq_fast]; kernel_rfl) (by decide +kernel) (by decide +kernel) (by decide +kernel)
    (by first | exact .inl (by decide +kernel) | exact .inr (by decide +kernel)) (by rw [isSubtype_type]; kernel_rfl)
theorem entry_setit_next : entryFor table "set_iterator.__next__" = some Builtin.«set_iterator.__next__» := entryFor_of_tree (by kernel_rfl)
theorem args_setit_next (a : Value) : argsOk "set_iterator.__next__" ⟨[a], []⟩ := by
  unfold argsOk; rw [signature?_of (id := "set_iterator.__next__") (n := ['_', '_', 't', 'x', 'e', 'n', '_', '_']) (o := ['r', 'o', 't', 'a', 'r', 'e', 't', 'i', '_', 't', 'e', 's']) (by kernel_rfl) owner_setit]; kernel_rfl
theorem entry_set_iter : entryFor table "set.__iter__" = some Builtin.«frozenset.__iter__» :=
  entryFor_alias (id' := "frozenset.__iter__") (by kernel_rfl) rfl (by decide +kernel) (by kernel_rfl)
theorem slot_setit_iter : ∃ id, Slot "set_iterator" "__iter__" id := ⟨"set_iterator.__iter__",
  .of (owner := "set_iterator") (n := "__iter__") (by rw [typeLookup_type, builtinLookup_eq_fast]; kernel_rfl) (by decide +kernel) (by decide +kernel) (by decide +kernel)
    (by first | exact .inl (by decide +kernel) | exact .inr (by decide +kernel)) (by rw [isSubtype_type]; kernel_rfl)⟩

theorem perm_erase {α : Type} : ∀ (l : List α) (i : Nat) (x : α), l[i]? = some x → (x :: l.eraseIdx i).Perm l
  | [], _, _, h => by simp at h
  | a :: l, 0, x, h => by cases h; exact List.Perm.refl _
  | a :: l, i + 1, x, h => by
    dsimp only [List.eraseIdx_cons_succ]
    exact (List.Perm.swap a x _).trans ((perm_erase l i x h).cons a)
theorem pick_go {α : Type} {next : Nat → Nat} : ∀ (fuel k : Nat) (left : List α) (out : Array α), fuel = left.length → (pickOrder.go next fuel k left out).toList.Perm (out.toList ++ left)
  | 0, k, left, out, h => by
    have : left = [] := List.eq_nil_of_length_eq_zero h.symm
    subst this
    unfold pickOrder.go; simp
  | fuel + 1, k, left, out, h => by
    unfold pickOrder.go
    have hlt : next k % left.length < left.length := Nat.mod_lt _ (by lia)
    obtain ⟨x, hx⟩ : ∃ x, left[next k % left.length]? = some x := ⟨_, List.getElem?_eq_getElem hlt⟩
    rw [hx]
    dsimp only
    refine (pick_go fuel (k + 1) (left.eraseIdx (next k % left.length)) (out.push x) (by rw [List.length_eraseIdx_of_lt hlt]; lia)).trans ?_
    rw [Array.toList_push, List.append_assoc]
    exact List.Perm.append_left _ (perm_erase _ _ _ hx)
theorem pick_perm {α : Type} (next : Nat → Nat) (xs : Array α) : (pickOrder next xs).toList.Perm xs.toList := by
  unfold pickOrder
  simpa using pick_go (next := next) xs.size 0 xs.toList #[] (by simp)
section
variable {prog : Program} {w : World} {A : Around} {E : Value → Shared → Prop} {s : Shared}
theorem wpAny_choose' {src : Source} {n : Nat} {Q : Nat → Shared → Prop} (hn : n ≠ 0) (h : ∀ i dr, i < n → Q i { s with drawn := dr }) : wpAny (model prog w) A (choose src n) Q E s :=
  fun _ _ _ => by
    unfold choose
    rw [Sem.wp_choose]
    exact ⟨hn, h _ _ (Nat.mod_lt _ (Nat.pos_of_ne_zero hn))⟩
theorem drawOrder_perm {α : Type} : ∀ (n : Nat) (xs : List α) (s : Shared) (Q : List α → Shared → Prop), n = xs.length → (∀ ys dr, ys.Perm xs → Q ys { s with drawn := dr }) → wpAny (model prog w) A (drawOrder n xs) Q E s
  | 0, xs, s, Q, h, hq => by
    have : xs = [] := List.eq_nil_of_length_eq_zero h.symm
    subst this
    show wpAny _ _ (pure []) _ _ _
    exact wpAny_pure (hq [] s.drawn (List.Perm.refl _))
  | n + 1, [], s, Q, h, hq => by simp at h
  | n + 1, x :: xs, s, Q, h, hq => by
    show wpAny _ _ (choose _ _ >>= _) _ _ _
    refine wpAny_bind (wpAny_choose' (by simp) (fun i dr hi => ?_))
    obtain ⟨y, hy⟩ : ∃ y, (x :: xs)[i]? = some y := ⟨_, List.getElem?_eq_getElem hi⟩
    rw [hy]
    dsimp only
    refine wpAny_bind (drawOrder_perm n ((x :: xs).eraseIdx i) _ _ (by rw [List.length_eraseIdx_of_lt hi]; lia) (fun ys dr2 hp => wpAny_pure ?_))
    exact hq (y :: ys) dr2 ((hp.cons y).trans (perm_erase _ _ _ hy))
end
noncomputable def sitF (a : Addr) (n ep : Nat) (first : Value) (i : Nat) : OP := fun o => o.cls = .type "set_iterator" ∧ o.data = .fields #[first, .int i 0, .ref a, .int n 0, .int ep 0]
noncomputable def SetAt (h : Heap) (a : Addr) (es : Array (Int × Value)) (ep : Nat) (t : SetTable) : Prop := ∃ o, h.get? a = some o ∧ o.ExactSet ∧ o.data = .set es ep t
section
variable {prog : Program} {w : World} {A : Around} {E : Value → Shared → Prop} {s : Shared}
theorem setit_next_int {it a : Addr} {slot i ep : Nat} {es : Array (Int × Value)} {t : SetTable} {r : Option (Value × Nat)} {Q : Option Value → Shared → Prop} (hh : A.handled = none)
    (hit : ∃ o, s.heap.get? it = some o ∧ sitF a es.size ep (.int slot 0) i o) (hS : SetAt s.heap a es ep t) (hf : t.fits es.size = true)
    (hN : ∀ (A : Around) (E : Value → Shared → Prop) (K : Option (Value × Nat) → Shared → Prop), K r s → wpAny (model prog w) A (setNext a slot i ep) K E s)
    (hsome : ∀ x nx h', r = some (x, nx) → (∃ o, h'.get? it = some o ∧ sitF a es.size ep (.int nx 0) (i + 1) o) → Heap.ExtBut it s.heap h' → Q (some x) { s with heap := h' })
    (hnone : ∀ h', r = none → Heap.ExtBut it s.heap h' → Q none { s with heap := h' }) :
    wpAny (model prog w) A (pyNext (.ref it)) Q E s := by
  (refine e13 hit fun o ho hc hd => ?_; clear hit)
  (refine e13 hS fun os hos hex hds => ?_; clear hS)
  have hT : s.TypeIs (.ref it) "set_iterator" := ⟨o, ho, hc⟩
  unfold pyNext
  refine wpAny_bind (wpAny_attempt (wpAny_callSpecial?_slot (name := Str.ofString "__next__") hT slot_setit_next
    (wpAny_call_entry slot_setit_next hT entry_setit_next ?_ (args_setit_next _))))
  unfold Builtin.«set_iterator.__next__»
  refine wpAny_bind (wpAny_pure ?_)
  dsimp only
  refine wpAny_bind (wpAny_fieldsOf ho hd ?_)
  dsimp only
  refine wpAny_bind (wpAny_setEntries_of hos hds hf ?_)
  rw [if_neg (by simp)]
  simp only [Int.toNat_natCast]
  refine wpAny_bind (hN _ _ _ ?_)
  cases r with
  | none =>
    dsimp only
    refine wpAny_bind (wpAny_setField ho hd (by simp) ?_)
    show wpAny _ _ (newExc (.type "StopIteration") [] >>= _) _ _ _
    refine wpAny_bind ?_
    simp only [newExc, newTuple]
    refine wpAny_bind (wpAny_newObj_type ?_ (by size_fits))
    refine wpAny_bind (m := firstArgMember _ _) (wpAny_of_eq (a := Value.none) (by first | rfl | (simp only [firstArgMember]; rfl)) ?_)
    refine wpAny_newObj_type ?_ (by size_fits)
    dsimp only [raiseNew]
    refine wpAny_bind (wpAny_handled ?_)
    rw [show A.in1.handled = none from hh]
    refine wpAny_bind (wpAny_pure (wpAny_throw ?_))
    refine wpAny_bind (wpAny_isInstance (T := "StopIteration") (b := true) ⟨_, Heap.get?_push_size _ rfl, rfl⟩ isSubtype_stop ?_)
    exact wpAny_pure (hnone _ rfl (((Heap.SameBut.update ..).extBut.push _).push _))
  | some p =>
    obtain ⟨x, nx⟩ := p
    dsimp only
    refine wpAny_bind (wpAny_setField ho hd (by simp) ?_)
    have ho2 := Heap.get?_update_self (Obj.mapFields (·.setIfInBounds 0 (rawInt (nx : Nat)))) ho (Obj.isFreed_of_fields (Obj.data_mapFields hd _))
    have hd2 := Obj.data_mapFields hd (·.setIfInBounds 0 (rawInt (nx : Nat)))
    refine wpAny_bind (wpAny_setField ho2 hd2 (by simp) ?_)
    have ho3 := Heap.get?_update_self (Obj.mapFields (·.setIfInBounds 1 (rawInt ((i : Int) + 1)))) ho2 (Obj.isFreed_of_fields (Obj.data_mapFields hd2 _))
    refine wpAny_pure ⟨_, rfl, wpAny_pure (hsome x nx _ rfl ⟨_, ho3, (Obj.cls_mapFields ..).trans ((Obj.cls_mapFields ..).trans hc), ?_⟩ ?_)⟩
    · rw [Obj.data_mapFields hd2]; simp [rawInt]
    · exact fun b o hb e => (Heap.SameBut.update ..).extBut b o hb ((Heap.SameBut.update ..).extBut b o hb e)
theorem setit_next_drawn {it a tup : Addr} {i ep : Nat} {es : Array (Int × Value)} {t : SetTable} {pl : List Nat} {Q : Option Value → Shared → Prop} (hh : A.handled = none)
    (hit : ∃ o, s.heap.get? it = some o ∧ sitF a es.size ep (.ref tup) i o) (hS : SetAt s.heap a es ep t) (hf : t.fits es.size = true) (ht : IsTup s.heap tup (List.toArray (pl.map fun (p : Nat) => rawInt p)))
    (hsome : ∀ p e h', pl[i]? = some p → es[p]? = some e → (∃ o, h'.get? it = some o ∧ sitF a es.size ep (.ref tup) (i + 1) o) → Heap.ExtBut it s.heap h' → Q (some e.2) { s with heap := h' })
    (hnone : ∀ h', pl[i]? = none → Heap.ExtBut it s.heap h' → Q none { s with heap := h' }) (hpl : ∀ p ∈ pl, p < es.size) :
    wpAny (model prog w) A (pyNext (.ref it)) Q E s := by
  (refine e13 hit fun o ho hc hd => ?_; clear hit)
  (refine e13 hS fun os hos hex hds => ?_; clear hS)
  have hT : s.TypeIs (.ref it) "set_iterator" := ⟨o, ho, hc⟩
  unfold pyNext
  refine wpAny_bind (wpAny_attempt (wpAny_callSpecial?_slot (name := Str.ofString "__next__") hT slot_setit_next
    (wpAny_call_entry slot_setit_next hT entry_setit_next ?_ (args_setit_next _))))
  unfold Builtin.«set_iterator.__next__»
  refine wpAny_bind (wpAny_pure ?_)
  dsimp only
  refine wpAny_bind (wpAny_fieldsOf ho hd ?_)
  dsimp only
  refine wpAny_bind (wpAny_setEntries_of hos hds hf ?_)
  rw [if_neg (by simp)]
  obtain ⟨ot, hot, hct, nt, hdt⟩ := ht
  refine wpAny_bind (wpAny_seqItems hot hdt ?_)
  dsimp only
  simp only [Int.toNat_natCast]
  have hat : (List.toArray (pl.map fun (p : Nat) => rawInt p))[i]? = (pl[i]?).map fun (p : Nat) => rawInt p := by rw [List.getElem?_toArray, List.getElem?_map]
  rw [hat]
  cases hp : pl[i]? with
  | none =>
    dsimp only [Option.map_none]
    refine wpAny_bind (wpAny_setField ho hd (by simp) ?_)
    have ho2 := Heap.get?_update_self (Obj.mapFields (·.setIfInBounds 0 (rawInt 0))) ho (Obj.isFreed_of_fields (Obj.data_mapFields hd _))
    have hd2 := Obj.data_mapFields hd (·.setIfInBounds 0 (rawInt 0))
    refine wpAny_bind (wpAny_setField ho2 hd2 (by simp) ?_)
    show wpAny _ _ (newExc (.type "StopIteration") [] >>= _) _ _ _
    refine wpAny_bind ?_
    simp only [newExc, newTuple]
    refine wpAny_bind (wpAny_newObj_type ?_ (by size_fits))
    refine wpAny_bind (m := firstArgMember _ _) (wpAny_of_eq (a := Value.none) (by first | rfl | (simp only [firstArgMember]; rfl)) ?_)
    refine wpAny_newObj_type ?_ (by size_fits)
    dsimp only [raiseNew]
    refine wpAny_bind (wpAny_handled ?_)
    rw [show A.in1.handled = none from hh]
    refine wpAny_bind (wpAny_pure (wpAny_throw ?_))
    refine wpAny_bind (wpAny_isInstance (T := "StopIteration") (b := true) ⟨_, Heap.get?_push_size _ rfl, rfl⟩ isSubtype_stop ?_)
    refine wpAny_pure (hnone _ hp (Heap.ExtBut.push (Heap.ExtBut.push (fun b o hb e => (Heap.SameBut.update ..).extBut b o hb ((Heap.SameBut.update ..).extBut b o hb e)) _) _))
  | some p =>
    have hlt := hpl p (List.mem_of_getElem? hp)
    obtain ⟨e, he⟩ : ∃ e, es[p]? = some e := ⟨_, Array.getElem?_eq_getElem hlt⟩
    dsimp only [Option.map_some, rawInt]
    simp only [Int.toNat_natCast]
    refine wpAny_bind (m := setNextDrawn a p ep) ?_
    unfold setNextDrawn
    refine wpAny_bind (wpAny_setState_of hos hds hf ?_)
    dsimp only
    rw [if_neg (by simp)]
    rw [he]
    dsimp only
    refine wpAny_pure ?_
    refine wpAny_bind (wpAny_setField ho hd (by simp) ?_)
    have ho3 := Heap.get?_update_self (Obj.mapFields (·.setIfInBounds 1 (rawInt ((i : Int) + 1)))) ho (Obj.isFreed_of_fields (Obj.data_mapFields hd _))
    refine wpAny_pure ⟨_, rfl, wpAny_pure (hsome p e _ hp he ⟨_, ho3, (Obj.cls_mapFields ..).trans hc, ?_⟩ (Heap.SameBut.update ..).extBut)⟩
    rw [Obj.data_mapFields hd]; simp [rawInt]
end
theorem SetAt.of {h h' : Heap} {a : Addr} {es : Array (Int × Value)} {ep : Nat} {t : SetTable} (x : SetAt h a es ep t) (k : ∀ o, h.get? a = some o → h'.get? a = some o) : SetAt h' a es ep t := let ⟨o, e, r⟩ := x; ⟨o, k o e, r⟩
theorem below0 (j : Nat) : SetTable.below #[] j = 0 := rfl
theorem below1 (p j : Nat) : SetTable.below #[p] j = if p < j then 1 else 0 := by
  have e : SetTable.below #[p] j = SetTable.below.go #[p] j 1 0 1 := rfl
  rw [e]
  unfold SetTable.below.go
  simp [SetTable.below.go]
section
variable {prog : Program} {w : World} {A : Around} {E : Value → Shared → Prop} {s : Shared}
theorem setsByText_of {Q : Bool → Shared → Prop} (h : Q (w.params.followText "set-order") s) : wpAny (model prog w) A setsByText Q E s := by
  unfold setsByText
  exact wpAny_bind (wpAny_askSetting (wpAny_pure h))
noncomputable abbrev ordT (w : World) (a : Addr) (ep : Nat) (es : Array (Int × Value)) : Array (Int × Value) := pickOrder (w.params.setOrder a ep) es
theorem setNext_text {a : Addr} {es : Array (Int × Value)} {ep slot i : Nat} {t : SetTable} {K : Option (Value × Nat) → Shared → Prop} (hS : SetAt s.heap a es ep t) (hf : t.fits es.size = true) (hw : w.params.followText "set-order" = true)
    (h : K (((ordT w a ep es)[i]?).map fun e => (e.2, slot)) s) : wpAny (model prog w) A (setNext a slot i ep) K E s := by
  (refine e13 hS fun os hos hex hds => ?_; clear hS)
  unfold setNext
  refine wpAny_bind (wpAny_setState_of hos hds hf ?_)
  dsimp only
  refine wpAny_bind (setsByText_of ?_)
  rw [hw]
  rw [if_pos rfl]
  rw [if_neg (by simp)]
  unfold setWalk
  refine wpAny_bind (wpAny_bind (wpAny_setState_of hos hds hf ?_))
  dsimp only
  refine wpAny_bind (setsByText_of ?_)
  rw [hw]
  rw [if_pos rfl]
  refine wpAny_bind (wpAny_askSetting (wpAny_pure (wpAny_pure ?_)))
  exact h
theorem setNext_small {a : Addr} {es : Array (Int × Value)} {ep slot i : Nat} {t : SetTable} {K : Option (Value × Nat) → Shared → Prop} (hS : SetAt s.heap a es ep t) (hf : t.fits es.size = true) (hw : w.params.followText "set-order" = false) (hl : t.led = true) (hn : es.size ≤ 1)
    (h : K (match es[SetTable.below t.place slot]?, t.place[SetTable.below t.place slot]? with | some (_, x), some j => some (x, j + 1) | _, _ => none) s) : wpAny (model prog w) A (setNext a slot i ep) K E s := by
  (refine e13 hS fun os hos hex hds => ?_; clear hS)
  unfold setNext
  refine wpAny_bind (wpAny_setState_of hos hds hf ?_)
  dsimp only
  refine wpAny_bind (setsByText_of ?_)
  rw [hw]
  rw [if_neg Bool.false_ne_true]
  show wpAny _ _ (if (!t.plain && decide (es.size > 1)) = true then _ else _) _ _ _
  rw [if_neg (by simp; simp [*])]
  refine wpAny_bind (m := if (!t.led && !es.isEmpty) = true then unsupported "set:maker-not-led" else pure ()) ?_
  rw [if_neg (by simp [hl])]
  refine wpAny_pure (wpAny_pure ?_)
  exact h
end
theorem arr1 {α : Type} (xs : Array α) (h : xs.size = 1) : ∃ x, xs = #[x] := by
  obtain ⟨l⟩ := xs
  match l, h with
  | [x], _ => exact ⟨x, rfl⟩
theorem slot_setit_iter' : Slot "set_iterator" "__iter__" "set_iterator.__iter__" :=
  .of (owner := "set_iterator") (n := "__iter__") (by rw [typeLookup_type, builtinLookup_eq_fast]; kernel_rfl) (by decide +kernel) (by decide +kernel) (by decide +kernel)
    (by first | exact .inl (by decide +kernel) | exact .inr (by decide +kernel)) (by rw [isSubtype_type]; kernel_rfl)
theorem entry_setit_iter : entryFor table "set_iterator.__iter__" = some Builtin.«dict_keyiterator.__iter__» :=
  entryFor_alias (id' := "dict_keyiterator.__iter__") (by kernel_rfl) rfl (by decide +kernel) (by kernel_rfl)
theorem args_setit_iter (a : Value) : argsOk "set_iterator.__iter__" ⟨[a], []⟩ := by
  unfold argsOk; rw [signature?_of (id := "set_iterator.__iter__") (n := ['_', '_', 'r', 'e', 't', 'i', '_', '_']) (o := ['r', 'o', 't', 'a', 'r', 'e', 't', 'i', '_', 't', 'e', 's']) (by kernel_rfl) owner_setit]; kernel_rfl
section
variable {prog : Program} {w : World} {A : Around} {E : Value → Shared → Prop} {s : Shared}
theorem setit_again {it : Addr} {Q : Value → Shared → Prop} (hT : s.TypeIs (.ref it) "set_iterator") (h : Q (.ref it) s) : wpAny (model prog w) A (pyIter (.ref it)) Q E s := by
  refine wpAny_pyIter_slot hT slot_setit_iter' (wpAny_call_entry slot_setit_iter' hT entry_setit_iter ?_ (args_setit_iter _))
  show wpAny _ _ (ret (.ref it)) _ _ s
  exact wpAny_pure ⟨_, rfl, "set_iterator", _, hT, slot_setit_next.lookup, h⟩
theorem sitF.nt {a : Addr} {n ep : Nat} {first : Value} {i : Nat} {o : Obj} (h : sitF a n ep first i o) : NT o := nt_cls (by rw [h.1]; decide)
/-- what a set's iterator hands out, whatever the order -/
theorem itr_set_text (hh : A.handled = none) (it a : Addr) (es : Array (Int × Value)) (ep : Nat) (t : SetTable) (hf : t.fits es.size = true) (hw : w.params.followText "set-order" = true) :
    Itr prog w A it (sitF a es.size ep (.int 0 0)) (fun h => SetAt h a es ep t) es.size (fun i x => ((ordT w a ep es).toList.map (·.2))[i]? = some x) where
  nt := fun i o h => h.nt
  item := fun i s Q E hi ho hs hq => by
    refine setit_next_int (r := ((ordT w a ep es)[i]?).map fun e => (e.2, 0)) hh ho hs hf (fun A E K hK => setNext_text hs hf hw hK) (fun x nx h' hr hit hx => ?_) (fun h' hr hx => ?_)
    · cases he : (ordT w a ep es)[i]? with
      | none => rw [he] at hr; cases hr
      | some e =>
        rw [he] at hr; cases hr
        exact hq _ h' _ (by rw [List.getElem?_map, Array.getElem?_toList, he]; rfl) hit hx
    · cases he : (ordT w a ep es)[i]? with
      | none =>
        have h1 := (pick_perm (w.params.setOrder a ep) es).length_eq
        rw [Array.length_toList, Array.length_toList] at h1
        have h2 := Array.getElem?_eq_none_iff.mp he
        have : (ordT w a ep es).size = es.size := h1
        lia
      | some e => rw [he] at hr; cases hr
  stop := fun s Q E ho hs hq => by
    refine setit_next_int (r := ((ordT w a ep es)[es.size]?).map fun e => (e.2, 0)) hh ho hs hf (fun A E K hK => setNext_text hs hf hw hK) (fun x nx h' hr hit hx => ?_) (fun h' hr hx => hq h' _ hx)
    have h1 := (pick_perm (w.params.setOrder a ep) es).length_eq
    rw [Array.length_toList, Array.length_toList] at h1
    have h2 : (ordT w a ep es)[es.size]? = none := Array.getElem?_eq_none_iff.mpr (Nat.le_of_eq h1)
    rw [h2] at hr; cases hr
  again := fun s Q E ho hq => setit_again (let ⟨o, e, c, _⟩ := ho; ⟨o, e, c⟩) hq
theorem itr_set_drawn (hh : A.handled = none) (it a tup : Addr) (es : Array (Int × Value)) (ep : Nat) (t : SetTable) (pl : List Nat) (hf : t.fits es.size = true) (hp : pl.Perm (List.range es.size)) :
    Itr prog w A it (sitF a es.size ep (.ref tup)) (fun h => SetAt h a es ep t ∧ IsTup h tup (List.toArray (pl.map fun (p : Nat) => rawInt p))) es.size (fun i x => (pl.map fun p => (es.getD p default).2)[i]? = some x) where
  nt := fun i o h => h.nt
  item := fun i s Q E hi ho hs hq => by
    have hlen : pl.length = es.size := by rw [hp.length_eq, List.length_range]
    refine setit_next_drawn hh ho hs.1 hf hs.2 (fun p e h' h1 h2 hit hx => ?_) (fun h' h1 hx => ?_) (fun p hm => by simpa using hp.mem_iff.mp hm)
    · exact hq _ h' _ (by rw [List.getElem?_map, h1]; simp [Array.getD_eq_getD_getElem?, h2]) hit hx
    · have := List.getElem?_eq_none_iff.mp h1; lia
  stop := fun s Q E ho hs hq => by
    have hlen : pl.length = es.size := by rw [hp.length_eq, List.length_range]
    refine setit_next_drawn hh ho hs.1 hf hs.2 (fun p e h' h1 h2 hit hx => ?_) (fun h' h1 hx => hq h' _ hx) (fun p hm => by simpa using hp.mem_iff.mp hm)
    have := (List.getElem?_eq_some_iff.mp h1).1; lia
  again := fun s Q E ho hq => setit_again (let ⟨o, e, c, _⟩ := ho; ⟨o, e, c⟩) hq
theorem itr_set_small (hh : A.handled = none) (it a : Addr) (es : Array (Int × Value)) (ep : Nat) (t : SetTable) (hf : t.fits es.size = true) (hw : w.params.followText "set-order" = false) (hl : t.led = true) (hn : es.size ≤ 1) :
    Itr prog w A it (fun i => sitF a es.size ep (.int (if i = 0 then 0 else ((t.place.getD 0 0 + 1 : Nat) : Int)) 0) i) (fun h => SetAt h a es ep t) es.size (fun i x => (es.toList.map (·.2))[i]? = some x) where
  nt := fun i o h => h.nt
  item := fun i s Q E hi ho hs hq => by
    have hi0 : i = 0 := by lia
    subst hi0
    have h1 : es.size = 1 := by exact Nat.le_antisymm (by assumption) (by assumption)
    (refine e11 (arr1 es h1) fun e hq1 => ?_; subst hq1)
    have hps : t.place.size = 1 := by
      have := hf; simp only [SetTable.fits, Bool.and_eq_true, beq_iff_eq] at this; exact this.1
    refine e11 (arr1 _ hps) fun p hp => ?_
    refine setit_next_int (slot := 0) (r := some (e.2, p + 1)) hh ho hs hf (fun A E K hK => setNext_small hs hf hw hl hn ?_) (fun x nx h' hr hit hx => ?_) (fun h' hr hx => by cases hr)
    · rw [hp, below1]; simpa using hK
    · cases hr
      refine hq _ h' _ rfl ?_ hx
      simpa [hp] using hit
  stop := fun s Q E ho hs hq => by
    by_cases h0 : es.size = 0
    · obtain rfl := Array.eq_empty_of_size_eq_zero h0
      have hps : t.place = #[] := by
        have := hf; simp only [SetTable.fits, Bool.and_eq_true, beq_iff_eq] at this
        exact Array.eq_empty_of_size_eq_zero this.1
      refine setit_next_int (slot := 0) (r := none) hh ho hs hf (fun A E K hK => setNext_small hs hf hw hl hn ?_) (fun x nx h' hr hit hx => by cases hr) (fun h' hr hx => hq h' _ hx)
      rw [hps, below0]; simpa using hK
    · (refine e11 (arr1 es (by lia)) fun e hq1 => ?_; subst hq1)
      have hps : t.place.size = 1 := by
        have := hf; simp only [SetTable.fits, Bool.and_eq_true, beq_iff_eq] at this; exact this.1
      refine e11 (arr1 _ hps) fun p hp => ?_
      refine setit_next_int (slot := p + 1) (i := 1) (r := none) hh (by simpa [hp] using ho) hs hf (fun A E K hK => setNext_small hs hf hw hl hn ?_) (fun x nx h' hr hit hx => by cases hr) (fun h' hr hx => hq h' _ hx)
      rw [hp, below1]; simpa using hK
  again := fun s Q E ho hq => setit_again (let ⟨o, e, c, _⟩ := ho; ⟨o, e, c⟩) hq
end
section
variable {prog : Program} {w : World} {A : Around} {E : Value → Shared → Prop} {s : Shared}
theorem set_hint {r : Addr} {K' : Bool → Shared → Prop} (hT : s.TypeIs (.ref r) "set") (h : K' false s) : wpAny (model prog w) A (Builtin.List.listLengthHint (.ref r)) K' E s := by
  unfold Builtin.List.listLengthHint
  refine wpAny_bind (wpAny_specialOf hT PySem.F.slot_set_len.lookup ?_)
  generalize hid : ("set.__len__" : String) = id0
  wp_delta
  rw [show splitId id0 = some ("set", "__len__") from by subst hid; decide +kernel]
  subst hid
  refine wpAny_bind (wpAny_isInstance (T := "set") (b := true) hT sub_set_self ?_)
  refine wpAny_ite_split (fun hab => absurd hab (by decide)) (fun _ => ?_)
  refine wpAny_ite_split (fun _ => ?_) (fun hab => absurd (by decide +kernel) hab)
  refine wpAny_bind (wpAny_typeOf hT ?_)
  exact wpAny_pure h
/-- collect over an iterator whose source r is no list and no tuple; the order may be drawn -/
theorem collect_itr2 {T : String} {r : Addr} {n : Nat} {PS : (Nat → Value → Prop) → Prop} {Q : List Value → Shared → Prop} (hT1 : (Value.type T == Value.type "list") = false) (hT2 : (Value.type T == Value.type "tuple") = false) (hT : s.TypeIs (.ref r) T) (hn : n ≤ 1000)
    (hiter : ∀ (s₁ : Shared) (E : Value → Shared → Prop) (K : Value → Shared → Prop), Kp s.heap s₁.heap → (∀ h' tk dr it pr src P, Kp s₁.heap h' → s₁.heap.get? it = none → PS P → Itr prog w A.in1 it pr src n P →
        (∀ D (h h'' : Heap), (∃ o, s₁.heap.get? D = some o) → D ≠ r → (∀ b o, b ≠ D → b ≠ it → h.get? b = some o → h''.get? b = some o) → src h → src h'') → (∃ o, h'.get? it = some o ∧ pr 0 o) → src h' → K (.ref it) { s₁ with heap := h', toks := tk, drawn := dr }) → wpAny (model prog w) A.in1 (pyIter (.ref r)) K E s₁)
    (hhint : ∀ (s₁ : Shared) (E : Value → Shared → Prop) (K : Bool → Shared → Prop), s₁.TypeIs (.ref r) T → K false s₁ → wpAny (model prog w) A.in1 (Builtin.List.listLengthHint (.ref r)) K E s₁)
    (h : ∀ h' tk dr vs P, Kp s.heap h' → PS P → vs.length = n → (∀ (i : Nat) v, vs[i]? = some v → P i v) → Q vs { s with heap := h', toks := tk, drawn := dr }) :
    wpAny (model prog w) A (collect (.ref r)) Q E s := by
  have hr : r < s.heap.objs.size := let ⟨_, ho, _⟩ := hT; Heap.lt_size ho
  unfold collect
  refine wpAny_bind (wpAny_runValue (codeAny_builtin entry_proto_collect' ?_))
  rw [Around.under_plainId PySem.F.plain_proto_collect _]
  show wpAny _ A.in1 (newList [] >>= fun l => again (.builtin "list.__iadd__" ⟨[l, .ref r], []⟩)) _ _ s
  refine wpAny_bind (wpAny_newObj_type ?_)
  refine wpAny_pure ⟨plainId_quiet PySem.F.plain_list_iadd _, codeAny_builtin entry_list_iadd' ?_⟩
  rw [Around.under_plainId PySem.F.plain_list_iadd _]
  have hS₁ : (s.heap.push { cls := .type "list", data := .seq ([] : List Value).toArray }).get? s.heap.objs.size = some { cls := .type "list", data := .seq #[] } := Heap.get?_push_size _ rfl
  have kS : Kp s.heap (s.heap.push { cls := .type "list", data := .seq ([] : List Value).toArray }) := Kp.push _ _
  have hrD : (s.heap.objs.size : Addr) ≠ r := Nat.ne_of_gt hr
  have hDn : s.heap.get? s.heap.objs.size = none := Heap.get?_none_of_le (Nat.le_refl _)
  show wpAny _ A.in1 (Builtin.List.listExtendWith (.ref s.heap.objs.size) (.ref r) (.ref s.heap.objs.size)) _ _ _
  dsimp only
  generalize s.heap.push { cls := .type "list", data := .seq ([] : List Value).toArray } = h1 at *
  generalize (s.heap.objs.size : Addr) = D at *
  have hT' : Shared.TypeIs { s with heap := h1 } (.ref r) T := let ⟨o, e, c⟩ := hT; ⟨o, kS _ _ e, c⟩
  unfold Builtin.List.listExtendWith
  refine wpAny_bind (wpAny_typeOf hT' ?_)
  have e1 : Builtin.List.listSameRef (.ref D) (.ref r) = false := by simp [Builtin.List.listSameRef, hrD]
  simp only [e1, hT1, hT2, Bool.or_false, Bool.false_eq_true, if_false]
  refine wpAny_bind (hiter _ _ _ kS (fun h2 tk2 dr it pr src P k2 hitn hPS I hsrc hit hs2 => ?_))
  have hitr : it ≠ r := fun q => by obtain ⟨o, e, _⟩ := hT'; have e' : h1.get? r = some o := e; rw [q] at hitn; have hn' : h1.get? r = none := hitn; rw [hn'] at e'; cases e'
  have hDit : D ≠ it := fun q => by have hn' : h1.get? it = none := hitn; rw [← q, hS₁] at hn'; cases hn'
  refine wpAny_bind (wpAny_holding (hhint _ _ _ (let ⟨o, e, c⟩ := hT'; ⟨o, k2 _ _ e, c⟩) ?_))
  have hS2 := k2 _ _ hS₁
  have fin : ∀ (h3 : Heap) (c : Nat), (∀ b o, b ≠ D → h2.get? b = some o → h3.get? b = some o) → h3.get? D = some { cls := .type "list", data := .seq #[] c } →
      codeAny (model prog w) A (.builtin "list.extend.loop" ⟨[.ref D, .ref it, .ref D], []⟩) (fun q s' => X3 fun h' tk vs => C6 (q = .ok (.ret (.ref D))) (s' = { s with heap := h', toks := tk, drawn := dr }) (Kp s.heap h') (h'.PlainList D (List.toArray vs)) (vs.length = n) (∀ (i : Nat) v, vs[i]? = some v → P i v)) { s with heap := h3, toks := tk2, drawn := dr } := by
    intro h3 c k3 e3
    refine extend_loop_itr (A := A) I hDit hn (fun h h' k hs => hsrc D h h' ⟨_, hS₁⟩ hrD k hs) n 0 _ [] (by simp) (let ⟨o, e, p⟩ := hit; ⟨o, k3 _ _ hDit.symm e, p⟩) (hsrc D h2 h3 ⟨_, hS₁⟩ hrD (fun b o hb _ e => k3 b o hb e) hs2) ⟨c, e3⟩ (by simp) (fun h' tk ps hps hpl hP hk => ?_)
    refine ⟨h', tk, ps, rfl, rfl, fun b o e => ?_, by simpa using hpl, hps, fun i v e => by have := hP i v e; rwa [Nat.zero_add] at this⟩
    have hbD : b ≠ D := fun q => by rw [q, hDn] at e; cases e
    have hbi : b ≠ it := fun q => by have hn' : h1.get? it = none := hitn; have := kS _ _ e; rw [q, hn'] at this; cases this
    exact hk b o hbi hbD (k3 b o hbD (k2 _ _ (kS _ _ e)))
  have last : ∀ (q : Result) (s' : Shared), (X3 fun h' tk vs => C6 (q = .ok (.ret (.ref D))) (s' = { s with heap := h', toks := tk, drawn := dr }) (Kp s.heap h') (h'.PlainList D (List.toArray vs)) (vs.length = n) (∀ (i : Nat) v, vs[i]? = some v → P i v)) → X3 fun h' tk vs => C4 (q = .ok (.ret (.ref D))) (s' = { s with heap := h', toks := tk, drawn := dr }) (h'.PlainList D (List.toArray vs)) (Q vs { s with heap := h', toks := tk, drawn := dr }) := by
    intro q s' hpz1; (refine x3c6 hpz1 fun h' tk vs e1 e2 k hp hl hP => ?_; clear hpz1)
    exact ⟨h', tk, vs, e1, e2, hp, h h' tk dr vs P k hPS hl hP⟩
  refine wpAny_ite_split (fun _ => ?_) (fun _ => wpAny_pure ⟨plainId_quiet PySem.F.plain_extend_loop _, codeAny_mono (fin h2 _ (fun b o _ e => e) hS2) fun q s' x => ?_⟩)
  · refine wpAny_bind (wpAny_rule ?_)
    refine wpAny_bind ?_
    show wpAny _ _ (updateSeq D (·.push .none) >>= fun _ => updateSeq D (·.pop)) _ _ _
    refine wpAny_bind (wpAny_updateSeq hS2 rfl ?_)
    have eD2 := Heap.get?_update_self (Obj.mapSeq (·.push Value.none)) hS2 rfl
    refine wpAny_updateSeq (hz := by seq_fits) eD2 rfl ?_
    have eD3 := Heap.get?_update_self (Obj.mapSeq (·.pop)) eD2 rfl
    have oth : ∀ b o, b ≠ D → h2.get? b = some o → ((h2.update D (Obj.mapSeq (·.push Value.none))).update D (Obj.mapSeq (·.pop))).get? b = some o :=
      fun b o hb e => (Heap.get?_update_other _ _ (Ne.symm hb)).trans ((Heap.get?_update_other _ _ (Ne.symm hb)).trans e)
    refine wpAny_pure ⟨plainId_quiet PySem.F.plain_extend_loop _, codeAny_mono (fin _ _ oth eD3) fun q s' x => ?_⟩
    (refine x3c4 (last q s' x) fun h' tk vs hq3 hq4 hpz2 hQ => ?_; subst hq3; subst hq4); (refine e11 hpz2 fun c hp => ?_; clear hpz2)
    show wpAny _ A (load D >>= _) _ _ _
    refine wpAny_bind (wpAny_load hp ?_)
    exact wpAny_pure hQ
  · (refine x3c4 (last q s' x) fun h' tk vs hq3 hq4 hpz3 hQ => ?_; subst hq3; subst hq4); (refine e11 hpz3 fun c hp => ?_; clear hpz3)
    show wpAny _ A (load D >>= _) _ _ _
    refine wpAny_bind (wpAny_load hp ?_)
    exact wpAny_pure hQ
end
theorem perm_of_sub {α : Type} [DecidableEq α] : ∀ {fm ks : List α}, fm.Nodup → (∀ x ∈ fm, x ∈ ks) → ks.length ≤ fm.length → ks.Perm fm
  | [], ks, _, _, h => by
    have : ks = [] := List.eq_nil_of_length_eq_zero (by simpa using h)
    subst this; exact List.Perm.refl _
  | a :: fm, ks, nd, hs, h => by
    have ha : a ∈ ks := hs a (.head _)
    have h1 : ks.Perm (a :: ks.erase a) := List.perm_cons_erase ha
    refine h1.trans ((perm_of_sub (List.nodup_cons.mp nd).2 (fun x hx => ?_) ?_).cons a)
    · have hne : x ≠ a := fun e => (List.nodup_cons.mp nd).1 (e ▸ hx)
      exact (List.mem_erase_of_ne hne).mpr (hs x (.tail _ hx))
    · rw [List.length_erase_of_mem ha]; rw [List.length_cons] at h; simp [*]
theorem strsAre_strOf : ∀ {vs : List Value}, (∀ v ∈ vs, ∃ x t, v = Value.str x t) → StrsAre vs (vs.map strOf)
  | [], _ => .nil
  | v :: vs, h => by
    (refine e21 (h v (.head _)) fun x t hq2 => ?_; subst hq2)
    exact .cons x t (strsAre_strOf fun u hu => h u (.tail _ hu))
theorem isStr_shape {k : Str} {v : Value} (h : Value.isStrOf k v = true) : ∃ t, v = .str k t := by
  cases v with
  | str y t => simp [Value.isStrOf] at h; exact ⟨t, by rw [h]⟩
  | _ => cases h
section
variable {prog : Program} {w : World} {A : Around} {E : Value → Shared → Prop} {s : Shared}
theorem set_vals {es : Array (Int × Value)} {S : Str → Bool} {ss : List Str} (hel : ElemsOf (PySem.strKind prog w) es.toList) (hmem : ∀ k, decide (k ∈ dd ss) = true ↔ ∃ e ∈ es.toList, (PySem.strKind prog w).is k e.2 = true) (hn : es.size = (dd ss).length)
    {ord : List Value} (hp : ord.Perm (es.toList.map (·.2))) : StrsAre ord (ord.map strOf) ∧ (ord.map strOf).Perm (dd ss) := by
  have h1 : ∀ v ∈ ord, ∃ x t, v = Value.str x t := fun v hv => by
    (refine e12 (List.mem_map.mp (hp.mem_iff.mp hv)) fun e he hq2 => ?_; subst hq2)
    obtain ⟨hpz1, _⟩ := hel e he; obtain ⟨k, hk, _⟩ := hpz1
    refine e11 (isStr_shape hk) fun t ht => ?_
    exact ⟨k, t, ht⟩
  refine ⟨strsAre_strOf h1, (hp.map strOf).trans (perm_of_sub (dd_mem_nodup ss).1 (fun x hx => ?_) ?_)⟩
  · refine e12 ((hmem x).mp (decide_eq_true hx)) fun e he hk => ?_
    refine e11 (isStr_shape hk) fun t ht => ?_
    exact List.mem_map.mpr ⟨e.2, List.mem_map.mpr ⟨e, he, rfl⟩, by rw [ht]; rfl⟩
  · rw [List.length_map, List.length_map, Array.length_toList, hn]; exact Nat.le_refl _
theorem map_range_getD (es : Array (Int × Value)) : (List.range es.size).map (fun p => (es.getD p default).2) = es.toList.map (·.2) := by
  apply List.ext_getElem?
  intro i
  by_cases h : i < es.size
  · simp [Array.getD_eq_getD_getElem?, h]
  · rw [List.getElem?_eq_none (by simp; exact Nat.not_lt.mp (by assumption)), List.getElem?_eq_none (by simp; exact Nat.not_lt.mp (by assumption))]
noncomputable def OrdOf (ss : List Str) (P : Nat → Value → Prop) : Prop := ∃ ord, StrsAre ord (ord.map strOf) ∧ (ord.map strOf).Perm (dd ss) ∧ P = fun i x => ord[i]? = some x
theorem pyIter_set {r : Addr} {ss : List Str} {K : Value → Shared → Prop} (hh : A.handled = none) (hL : SetL (PySem.strKind prog w) s.heap r (fun k' => decide (k' ∈ dd ss)) (dd ss).length (ledOf w))
    (h : ∀ h' tk dr it pr src P, Kp s.heap h' → s.heap.get? it = none → OrdOf ss P → Itr prog w A it pr src (dd ss).length P →
        (∀ D (h h'' : Heap), (∃ o, s.heap.get? D = some o) → D ≠ r → (∀ b o, b ≠ D → b ≠ it → h.get? b = some o → h''.get? b = some o) → src h → src h'') → (∃ o, h'.get? it = some o ∧ pr 0 o) → src h' → K (.ref it) { s with heap := h', toks := tk, drawn := dr }) :
    wpAny (model prog w) A (pyIter (.ref r)) K E s := by
  obtain ⟨o, es, ep, t, ho, hex, hd, hel, hmem, hb, hf, hn, hled, hpl⟩ := hL
  have hT : s.TypeIs (.ref r) "set" := ⟨o, ho, hex.1⟩
  have hS : SetAt s.heap r es ep t := ⟨o, ho, hex, hd⟩
  refine wpAny_pyIter_slot hT PySem.F.slot_set_iter (wpAny_call_entry PySem.F.slot_set_iter hT entry_set_iter ?_ (PySem.F.args_set_iter_1 _))
  unfold Builtin.«frozenset.__iter__» Builtin.Frozenset.slot0 slotArgs
  simp only [List.isEmpty_nil, Bool.not_true, Bool.false_eq_true, ↓reduceIte, bind_assoc, List.length_nil, bne_self_eq_false]
  unfold Builtin.Frozenset.addrOf Builtin.Frozenset.sizeOf
  refine wpAny_bind (wpAny_pure ?_)
  dsimp only
  refine wpAny_bind (wpAny_pure ?_)
  refine wpAny_bind (wpAny_bind (wpAny_setEntries_of ho hd hf (wpAny_pure ?_)))
  unfold setDrawn
  refine wpAny_bind (wpAny_bind (wpAny_setState_of ho hd hf ?_))
  dsimp only
  refine wpAny_bind (setsByText_of (wpAny_pure ?_))
  show wpAny _ _ (if (!w.params.followText "set-order" && (!t.plain && decide (es.size > 1))) = true then _ else _) _ _ _
  have hrn : (s.heap.get? s.heap.objs.size) = none := Heap.get?_none_of_le (Nat.le_refl _)
  have hrlt := Heap.lt_size ho
  by_cases hw : w.params.followText "set-order" = true
  · -- by the text
    (refine Eq.symm (hw ..) ▸ ?_)
    simp only [Bool.not_true, Bool.false_and, Bool.false_eq_true, ↓reduceIte]
    refine wpAny_bind (wpAny_pure ?_)
    refine wpAny_bind (wpAny_setEpoch_of ho hd hf ?_)
    unfold newFields
    refine wpAny_bind (wpAny_newObj_type ?_ (by size_fits))
    have hv := set_vals (S := fun _ => true) hel hmem hn ((pick_perm (w.params.setOrder r ep) es).map (·.2))
    refine wpAny_pure ⟨_, rfl, "set_iterator", _, ⟨_, Heap.get?_push_size _ rfl, rfl⟩, slot_setit_next.lookup, ?_⟩
    rw [← hn] at h
    refine h _ _ s.drawn s.heap.objs.size _ _ _ (Kp.push _ _) hrn ⟨_, hv.1, hv.2, rfl⟩ (itr_set_text hh s.heap.objs.size r es ep t hf hw) (fun D h h'' _ hDr k x => x.of fun o e => k r o hDr.symm (Nat.ne_of_lt hrlt) e) ⟨_, Heap.get?_push_size _ rfl, rfl, rfl⟩ (hS.of fun o e => Heap.get?_push_of_some _ e)
  · have hw' : w.params.followText "set-order" = false := by simpa using hw
    have hl' : t.led = true := by rw [hled]; simp [hw']
    (refine Eq.symm (hw' ..) ▸ ?_)
    rw [Bool.not_false, Bool.true_and]
    by_cases hsz : es.size ≤ 1
    · rw [if_neg (by simp; intro _; exact hsz)]
      refine wpAny_bind (wpAny_pure ?_)
      refine wpAny_bind (wpAny_setEpoch_of ho hd hf ?_)
      unfold newFields
      refine wpAny_bind (wpAny_newObj_type ?_ (by size_fits))
      have hv := set_vals (S := fun _ => true) hel hmem hn (List.Perm.refl _)
      refine wpAny_pure ⟨_, rfl, "set_iterator", _, ⟨_, Heap.get?_push_size _ rfl, rfl⟩, slot_setit_next.lookup, ?_⟩
      rw [← hn] at h
      refine h _ _ s.drawn s.heap.objs.size _ _ _ (Kp.push _ _) hrn ⟨_, hv.1, hv.2, rfl⟩ (itr_set_small hh s.heap.objs.size r es ep t hf hw' hl' hsz) (fun D h h'' _ hDr k x => x.of fun o e => k r o hDr.symm (Nat.ne_of_lt hrlt) e) ⟨_, Heap.get?_push_size _ rfl, rfl, by simp [rawInt]⟩ (hS.of fun o e => Heap.get?_push_of_some _ e)
    · have hp : t.plain = false := hpl (by lia)
      rw [if_pos (by rw [hp]; simp; exact Nat.not_le.mp (by assumption))]
      refine wpAny_bind (drawOrder_perm es.size (List.range es.size) _ _ (by simp) (fun pl dr hpp => ?_))
      refine wpAny_bind (wpAny_newTuple ?_ (by rw [List.length_map, hpp.length_eq, List.length_range]; exact fits_of_scanBound hb))
      dsimp only
      have ho2 : (s.heap.push { cls := .type "tuple", data := .seq (List.toArray (pl.map fun (p : Nat) => rawInt p)) }).get? r = some o := Heap.get?_push_of_some _ ho
      refine wpAny_bind (wpAny_setEpoch_of ho2 hd hf ?_)
      unfold newFields
      refine wpAny_bind (wpAny_newObj_type ?_ (by size_fits))
      have hv := set_vals (S := fun _ => true) hel hmem hn (ord := pl.map fun p => (es.getD p default).2) (by
        have := hpp.map fun p => (es.getD p default).2
        rwa [map_range_getD] at this)
      refine wpAny_pure ⟨_, rfl, "set_iterator", _, ⟨_, Heap.get?_push_size _ rfl, rfl⟩, slot_setit_next.lookup, ?_⟩
      rw [← hn] at h
      refine h _ _ dr _ _ _ _ ((Kp.push _ _).tr (Kp.push _ _)) (Heap.get?_none_of_le (by rw [Heap.size_push]; exact Nat.le_succ _)) ⟨_, hv.1, hv.2, rfl⟩ (itr_set_drawn hh _ r s.heap.objs.size es ep t pl hf hpp) (fun D h h'' hD hDr k x => ⟨x.1.of fun o e => k r o hDr.symm ?_ e, ?_⟩) ⟨_, Heap.get?_push_size _ rfl, rfl, rfl⟩ ⟨hS.of fun o e => Heap.get?_push_of_some _ (Heap.get?_push_of_some _ e), (IsTup.new _ _).keeps (Kp.push _ _)⟩
      · rw [Heap.size_push]; exact Nat.ne_of_lt (Nat.lt_succ_of_lt hrlt)
      · (refine e11 hD fun oD eD => ?_; clear hD)
        refine e12 x.2 fun ot et rt => ?_
        refine ⟨ot, k _ _ (fun q => ?_) ?_ et, rt⟩
        · rw [← q, hrn] at eD; cases eD
        · rw [Heap.size_push]; exact Nat.ne_of_lt (Nat.lt_succ_self _)
theorem collect_set {r : Addr} {ss : List Str} {Q : List Value → Shared → Prop} (hh : A.handled = none) (hL : SetL (PySem.strKind prog w) s.heap r (fun k' => decide (k' ∈ dd ss)) (dd ss).length (ledOf w)) (hn : ss.length ≤ 1000)
    (h : ∀ h' tk dr vs ss', Kp s.heap h' → StrsAre vs ss' → ss'.Perm (dd ss) → Q vs { s with heap := h', toks := tk, drawn := dr }) :
    wpAny (model prog w) A (collect (.ref r)) Q E s := by
  have hT : s.TypeIs (.ref r) "set" := let ⟨o, es, ep, t, ho, hex, _⟩ := hL; ⟨o, ho, hex.1⟩
  refine collect_itr2 (T := "set") (PS := OrdOf ss) (n := (dd ss).length) (by decide) (by decide) hT (by have := dd_len ss; exact Nat.le_trans this hn) (fun s₁ E K k hK => pyIter_set (A := A.in1) hh (hL.of fun o e => k _ _ e) hK) (fun s₁ E K hT hk => set_hint hT hk) (fun h' tk dr vs P k hP hl hat => ?_)
  (refine e13 hP fun ord h1 h2 hq3 => ?_; subst hq3; clear hP)
  have hlo : ord.length = (dd ss).length := by have := h2.length_eq; simpa using this
  have e : vs = ord := by
    apply List.ext_getElem?
    intro i
    by_cases hi : i < vs.length
    · rw [List.getElem?_eq_getElem hi]; exact (hat i _ (List.getElem?_eq_getElem hi)).symm
    · rw [List.getElem?_eq_none (by exact Nat.not_lt.mp (by assumption)), List.getElem?_eq_none (by lia)]
  subst e
  exact h h' tk dr vs _ k h1 h2
end
/-- the names of the variables of a tree, as they are met -/
noncomputable def vnames (t : T) : List Str := ((subs t).filter T.isVar).map fun u => u.op.s
theorem strsAre_snoc {vs : List Value} {ss : List Str} (h : StrsAre vs ss) (x : Str) (t : Tok) : StrsAre (vs ++ [Value.str x t]) (ss ++ [x]) := h.append' (.cons x t .nil)
section
variable {prog : Program} {w : World} {B : Heap}
set_option maxHeartbeats 4000000 in
theorem variables_spec (W : Wd w B) {A : Around} {s : Shared} {R : Result → Shared → Prop} {t : T} {v : Value} {n k : Nat} (kb : Kp B s.heap) (hr : Room A (n + k + 4)) (hp : Rep s.heap t v) (hw : Wf k t) (hk : k ≤ 50) (hsz : t.size ≤ 60)
    (hR : ∀ h' tk dr l out ss', Kp s.heap h' → h'.PlainList l (List.toArray out) → StrsAre out ss' → ss'.Perm (dd (vnames t)) → sortedS ss' = true → R (.ok (.ret (.ref l))) { s with heap := h', toks := tk, drawn := dr }) :
    codeAny (model prog w) A (.call (.ref 79) ⟨[v], []⟩) R s := by
  refine enterX (n := n + k + 3) (fun L => []) (fun L => [(L, nsP (up nil0 "t" v))]) W kb hr ?_
  intro L env h₁ tk EO hL S E'
  try dsimp only
  have hp1 : Rep h₁ t v := hp.imm (Imm.kp S.kpH)
  refine wpAny_execs_cons (wpAny_Return_some (callB W S.kb EO bn_sorted rfl (callB W S.kb EO bn_set rfl ?_)))
  try dsimp only
  refine compListE B s.heap [] EO hr.hh (callF W S.kb EO gn_parts kf_parts (nameL EO (S.ns 0 rfl) rfl ⟨S.kb, parts_spec W k t _ _ _ _ hw hk (by exact Nat.le_trans hsz (Nat.le_of_ble_eq_true rfl)) S.kb (hr.deeper.mono (by lia)) hp1 (fun Z zs h2 tk2 hZn (k2 : Kp h₁ h2) hZ hzs => ?_)⟩))
  try dsimp only
  have S2 : St B s.heap [] [(Z, listP zs.toArray), (L, nsP (up nil0 "t" v))] h2 := S.add hZn k2 (let ⟨nn, e⟩ := hZ; ⟨_, e, ⟨nn, rfl⟩, listP.nt ⟨nn, rfl⟩⟩)
  have hzl : zs.length = t.size := hzs.length
  refine ⟨Z, zs, _, fun j rs ow h => ow = [(Z, listP zs.toArray), (L, nsP (up nil0 "t" v))] ∧ StrsAre rs ((((subs t).take j).filter T.isVar).map fun (u : T) => u.op.s), rfl, hZ.isList, by exact Nat.le_trans (Nat.le_trans (Nat.le_of_eq hzl) hsz) (Nat.le_of_ble_eq_true rfl), S2, fun j rs ow h h' im x => x, ⟨rfl, .nil⟩, ?_, ?_, ?_⟩
  try dsimp only
  · intro j rs ow h C D' it' m' p' q' im S9 hpz1; obtain ⟨rfl, _⟩ := hpz1
    exact S9.list 3 rfl
  · intro j rs ow h tk C D' it' p' m'' x' hx' im9 hC S9 hlit hpz2 EO'; (refine e02 hpz2 fun hq0 hrs => ?_; subst hq0; clear hpz2)
    obtain ⟨u, hu, c, qq, vv, xs, rfl, hc, hq, hxl, hvv⟩ := hzs.at hx'
    have hum : u ∈ subs t := List.mem_of_getElem? hu
    refine wpAny_letOwnedTupleGo_listiter hlit ?_
    refine assign_Tuple_tuple (items := #[.ref qq, vv]) hr.hh (im9 _ _ hc) rfl rfl (fun h10 hx10 => ?_)
    have k10 : Kp h h10 := fun b o eo => hx10 b o (Nat.ne_of_lt (Heap.lt_size eo)) eo
    have S10 := S9.kp k10
    refine assignInOrder_cons (wpAny_assign_Name (S10.storeL 0 rfl EO' (fun h11 S11 im11 => ?_)))
    try dsimp only
    refine assignInOrder_cons (wpAny_assign_Name (S11.storeL 0 rfl EO' (fun h12 S12 im12 => ?_)))
    try dsimp only
    refine assignInOrder_nil ?_
    try dsimp only
    have imx : Imm h h12 := ((Imm.kp k10).tr im11).tr im12
    have hv12 : Rep h12 u vv := (hvv.imm im9).imm imx
    refine wpAny_tests_one (wpAny_isTrue_value (callF W S12.kb EO' gn_is_variable kf_is_variable (nameL EO' (S12.ns 0 rfl) rfl ⟨S12.kb, is_variable_spec W (n := n) S12.kb (hr.deeper.mono (by lia)) hv12 (subs_wf hw hum) (fun h13 tk13 (k13 : Kp h12 h13) => ?_)⟩)))
    refine wpAny_truthy_bool ?_
    have S13 := S12.kp k13
    have htake : (subs t).take (j + 1) = (subs t).take j ++ [u] := by rw [List.take_add_one, hu]; rfl
    dsimp only
    by_cases hvar : u.isVar = true
    · rw [if_pos hvar]
      obtain ⟨op, ks⟩ := u
      (refine x3c3 (Rep.iff.mp (hv12.imm (Imm.kp k13))) fun a tk0 ws hq3 ht hks => ?_; subst hq3)
      refine sub_tup (nameL EO' (S13.ns 0 rfl) rfl ⟨a, _, 0, _, rfl, ht, seq0 _, rfl, ?_⟩)
      try dsimp only
      refine ⟨h13, _, _, _, rfl, imx.tr (Imm.kp k13), S13, rfl, ?_⟩
      try dsimp only
      rw [htake, List.filter_append, List.map_append]
      have e : ([T.nd op ks] : List T).filter T.isVar = [T.nd op ks] := by simp [hvar]
      rw [e]
      exact strsAre_snoc hrs _ _
    · rw [if_neg hvar]
      refine ⟨h13, _, _, _, rfl, imx.tr (Imm.kp k13), S13, rfl, ?_⟩
      try dsimp only
      rw [htake, List.filter_append, List.map_append]
      have e : ([u] : List T).filter T.isVar = [] := by simp [hvar]
      rw [e]
      simpa using hrs
  · intro rs ow h tk D' hrl hD' im9 S9 hpz3; (refine e02 hpz3 fun hq0 hrs => ?_; subst hq0; clear hpz3)
    have hfull : (subs t).take zs.length = subs t := by rw [hzl]; exact List.take_length
    rw [hfull] at hrs
    have hvn : (vnames t).length ≤ 60 := by have := hrs.length; unfold vnames; lia
    refine call_set_strs (ss := vnames t) hr.hh (S9.list 0 rfl) hrs (by unfold scanBound; lia) (fun h10 tk10 Sa hSn (k10 : Kp h h10) hset => ?_)
    try dsimp only
    refine sorted_strs_any (collect_set hr.hh hset (by exact Nat.le_trans hvn (Nat.le_of_ble_eq_true rfl)) (fun h11 tk11 dr vs ss' (k11 : Kp h10 h11) hvs hperm => ⟨ss', hvs, ?_, fun h12 l out ss2 (k12 : Kp h11 h12) hln hpl hout hperm2 hsorted => ?_⟩))
    try dsimp only
    · have h1 := hperm.length_eq
      have h2 := dd_len (vnames t)
      have h3 := hvs.length
      lia
    · exact hR h12 _ dr l out ss2 (((((S9.tail List.not_mem_nil).kp k10).kp k11).kp k12).kpH) hpl hout (hperm2.trans hperm) hsorted
end
noncomputable abbrev excMro : List Value := [.type "Exception", .type "BaseException", .type "object"]
noncomputable abbrev faultMro : List Value := .ref 47 :: excMro
section
variable {M : Model} {A : Around} {E : Value → Shared → Prop} {h : Heap} {g : Array GenState} {d : Drawn} {t : Nat} {os : OsState}
variable {nm q : Str} {N : Addr} {bs : List Value} {hdct : Bool} {sn : List Str} {sub : List Value} {ab : Bool} {col : Option Bool} {dd : Option Addr} {k0 k1 k2 k3 k5 : Option Value}
theorem flt_check_new {rest : List Value} {Q : Unit → Shared → Prop} (hC : h.get? 60 = some (excClassObj nm q 60 N bs faultMro hdct sn sub ab col dd k0 k1 k2 k3 k5 "Exception.__new__"))
    (hq : Q () ⟨h, g, d, t, os⟩) : wpAny M A (checkBuiltinCall "Exception.__new__" ⟨.ref 60 :: rest, []⟩) Q E ⟨h, g, d, t, os⟩ := by
  have Fn := PySem.F.excBase_Exception
  have hcont : (Value.ref 60 :: faultMro).contains (.type "Exception") = true := by decide
  have hstar := Fn.noStar
  unfold checkBuiltinCall
  (refine Eq.symm (Fn.newKind ..) ▸ ?_; refine Eq.symm (Fn.newSplit ..) ▸ ?_; refine Eq.symm (Fn.newRow ..) ▸ ?_)
  dsimp only
  repeat (first | refine wpAny_loadPart_at hC ?_ | (refine wpAny_isSubtype_exc hC ?_; rw [hcont]) | refine wpAny_staticBase_exc hC ?_ | refine wpAny_madeBy_exc hC ?_ | simp only [bne_self_eq_false, Bool.false_eq_true, if_false] | wp_step)
  exact hq
end
section
variable {prog : Program} {w : World} {A : Around} {R : Result → Shared → Prop} {E : Value → Shared → Prop} {h : Heap} {g : Array GenState} {d : Drawn} {t : Nat} {os : OsState}
variable {nm q : Str} {N : Addr} {bs : List Value} {hdct : Bool} {sn : List Str} {sub : List Value} {ab : Bool} {col : Option Bool} {dd : Option Addr} {k0 k1 k2 k3 k5 : Option Value}
theorem flt_new {rest : List Value} (hC : h.get? 60 = some (excClassObj nm q 60 N bs faultMro hdct sn sub ab col dd k0 k1 k2 k3 k5 "Exception.__new__"))
    (hq : R (.ok (.ret (.ref (h.objs.size + 1)))) ⟨(h.push { cls := .type "tuple", data := .seq rest.toArray }).push
      { cls := .ref 60, data := .fields #[.ref h.objs.size, .none, .none, .none, .bool false, .none] }, g, d, t, os⟩) (hrest : rest.length ≤ sizeLine) :
    codeAny (model prog w) A (.builtin "Exception.__new__" ⟨.ref 60 :: rest, []⟩) R ⟨h, g, d, t, os⟩ := by
  have Fn := PySem.F.excBase_Exception
  have hends := Fn.ends
  have hcB : (Value.ref 60 :: faultMro).contains (.type "Exception") = true := by decide
  have hcA : (Value.ref 60 :: faultMro).contains (.type "AttributeError") = false := by decide
  have hcN : (Value.ref 60 :: faultMro).contains (.type "NameError") = false := by decide
  refine codeAny_builtinAt Fn.entry ?_
  unfold Builtin.«BaseException.__new__»
  refine PySem.wpAt_bind ?_
  show PySem.wpAt _ _ _ (stack >>= _) _ _ _
  refine PySem.wpAt_bind (PySem.wpAt_stack fun p below => PySem.wpAt_of_wpAny ?_)
  wp_walk
  refine PySem.wpAt_of_wpAny ?_
  (refine Eq.symm (Fn.owner ..) ▸ ?_)
  repeat (first | with_reducible refine wpAny_madeHere_exc Fn.canon hC ?_ | with_reducible refine wpAny_loadPart_at hC ?_ | (with_reducible refine wpAny_isSubtype_exc hC ?_; first | rw [hcB] | rw [hcA] | rw [hcN]) | wp_step)
  show R _ _
  rw [Heap.size_push]
  exact hq
theorem flt_type_call {mN mD : Str → Option Value} {rest : List Value} {oI : Obj} {c0 : Value} {ddd : Option Addr} {cdd : ClassData} {sld : Array (Option Value)} {Q : Fin → Shared → Prop}
    (hC : h.get? 60 = some (excClassObj nm q 60 N bs faultMro hdct sn sub ab col dd k0 k1 k2 k3 k5 "Exception.__new__")) (hn : h.Ns N mN) (hi : mN "__init__" = none)
    (hD : h.get? 47 = some { cls := c0, dict := ddd, data := .cls cdd, slots := sld }) (hnD : h.Ns cdd.ns mD) (hiD : mD "__init__" = some (.ref 37))
    (hfI : h.get? 37 = some oI) (hfc : oI.cls = .type "function")
    (hq : ∀ h' e, Heap.MadeExcOf h h' e (.ref 60) rest →
      wpAny (model prog w) A (call (.ref 37) (.ref e :: rest)) (fun r s' => r = .none ∧ Q (.done (.ret (.ref e))) s') E ⟨h', g, d, t, os⟩) (hrest : rest.length ≤ sizeLine) :
    wpAny (model prog w) A (Builtin.«type.__call__» ⟨.ref 60 :: rest, []⟩) Q E ⟨h, g, d, t, os⟩ := by
  have Fn := PySem.F.excBase_Exception
  repeat (first | with_reducible refine wpAny_loadPart_at hC ?_ | with_reducible refine wpAny_madeBy_exc hC ?_ | wp_step)
  refine codeAny_call_builtin_code (Code.quiet_builtin _ Fn.quiet) (flt_check_new hC ?_)
  refine flt_new hC ?_ hrest
  show wpAny _ _ _ _ _ _
  have up : ∀ b o, h.get? b = some o → ((h.push { cls := .type "tuple", data := .seq rest.toArray }).push { cls := .ref 60, data := .fields #[.ref h.objs.size, .none, .none, .none, .bool false, .none] }).get? b = some o := fun b o e => Heap.get?_push_of_some _ (Heap.get?_push_of_some _ e)
  have hC₁ := up _ _ hC
  have hfI₁ := up _ _ hfI
  have hD₁ := up _ _ hD
  have hn₁ := hn.keeps up
  have hnD₁ := hnD.keeps up
  have hget : ((h.push { cls := .type "tuple", data := .seq rest.toArray }).push
      { cls := .ref 60, data := .fields #[.ref h.objs.size, .none, .none, .none, .bool false, .none] }).get? (h.objs.size + 1) = some
      { cls := .ref 60, data := .fields #[.ref h.objs.size, .none, .none, .none, .bool false, .none] } := by heap_get
  have hcC : (Value.ref 60 :: faultMro).contains (.ref 60) = true := by decide
  unfold isInstance
  repeat (first | with_reducible refine wpAny_loadPart_at hget ?_ | (with_reducible refine wpAny_isSubtype_exc hC₁ ?_; rw [hcC]) | wp_step)
  show wpAny _ _ (typeLookup (.ref 60) _) _ _ _
  rw [typeLookup_eq]
  refine wpAny_bind (wpAny_mroOf_exc hC₁ ?_)
  rw [lookupAlong_cons]
  refine wpAny_bind (wpAny_classOwn_exc hC₁ hn₁ ?_)
  rw [hi]
  dsimp only
  rw [lookupAlong_cons]
  refine wpAny_bind (wpAny_classOwn_cls hD₁ hnD₁ ?_)
  rw [hiD]
  refine wpAny_pure ?_
  refine wpAny_holding (wpAny_bind ?_)
  unfold bindSpecial
  refine wpAny_bind (wpAny_typeOf (T := "function") ⟨_, hfI₁, hfc⟩ ?_)
  rw [if_pos (by decide)]
  refine wpAny_pure (wpAny_bind (wpAny_mono (hq _ (h.objs.size + 1) ⟨up, Heap.get?_none_of_le (Nat.le_succ _), h.objs.size, hget, Heap.get?_none_of_le (Nat.le_refl _), ?_⟩) (fun r s' hr => ?_) fun _ _ x => x))
  · exact Heap.get?_push_of_some _ (Heap.get?_push_at rfl rfl)
  · (refine e02 hr fun hq0 hQ => ?_; subst hq0; clear hr)
    wp_walk
    exact hQ
theorem flt_call {mN mD : Str → Option Value} {rest : List Value} {oI : Obj} {c0 : Value} {ddd : Option Addr} {cdd : ClassData} {sld : Array (Option Value)} {Q : Value → Shared → Prop}
    (hC : h.get? 60 = some (excClassObj nm q 60 N bs faultMro hdct sn sub ab col dd k0 k1 k2 k3 k5 "Exception.__new__")) (hn : h.Ns N mN) (hi : mN "__init__" = none)
    (hD : h.get? 47 = some { cls := c0, dict := ddd, data := .cls cdd, slots := sld }) (hnD : h.Ns cdd.ns mD) (hiD : mD "__init__" = some (.ref 37))
    (hfI : h.get? 37 = some oI) (hfc : oI.cls = .type "function")
    (hq : ∀ h' e, Heap.MadeExcOf h h' e (.ref 60) rest →
      wpAny (model prog w) (A.under (.builtin "type.__call__" ⟨.ref 60 :: rest, []⟩)) (call (.ref 37) (.ref e :: rest)) (fun r s' => r = .none ∧ Q (.ref e) s') E ⟨h', g, d, t, os⟩) (hrest : rest.length ≤ sizeLine) :
    wpAny (model prog w) A (call (.ref 60) rest) Q E ⟨h, g, d, t, os⟩ := by
  have f1 := tc_lookup
  have f2 := tc_bind (.ref 60)
  have hT : (⟨h, g, d, t, os⟩ : Shared).TypeIs (.ref 60) "type" := ⟨_, hC, rfl⟩
  refine wpAny_call (codeAny_of_tree ?_)
  show wpAny _ _ (callAny (.ref 60) _) _ _ _
  repeat (any_goals (first | assumption | with_reducible refine wpAny_loadPart_at hC ?_ | wp_step))
  refine ⟨rfl, ?_⟩
  refine codeAny_call_builtin_at (Code.quiet_builtin _ (by decide +kernel)) entry_typeCall (wpAny_check_type_call_sub hC (flt_type_call (hrest := hrest) hC hn hi hD hnD hiD hfI hfc fun h' e hm => ?_))
  exact hq h' e hm
end
theorem slot_wd_get : Slot "wrapper_descriptor" "__get__" "wrapper_descriptor.__get__" := .of (owner := "wrapper_descriptor") (n := "__get__") (by rw [typeLookup_type, builtinLookup_eq_fast]; kernel_rfl) (by decide +kernel) (by decide +kernel) (by decide +kernel)
    (by first | exact .inl (by decide +kernel) | exact .inr (by decide +kernel)) (by rw [isSubtype_type]; kernel_rfl)
theorem entry_wd_get : entryFor table "wrapper_descriptor.__get__" = some Builtin.«wrapper_descriptor.__get__» := entryFor_of_tree (by kernel_rfl)
theorem args_wd_get (a b c : Value) : argsOk "wrapper_descriptor.__get__" ⟨[a, b, c], []⟩ := by unfold argsOk; kernel_rfl
theorem type_exc_init : typeOf (.builtin "Exception.__init__") = pure (.type "wrapper_descriptor") := by show builtinType _ = _; rw [builtinType_eq_fast]; kernel_rfl
theorem own_exc_init : classOwn (.type "Exception") "__init__" = pure (some (.builtin "Exception.__init__")) := by
  first | kernel_rfl | (unfold classOwn; kernel_rfl)
section
variable {prog : Program} {w : World} {M : Model} {A : Around} {E : Value → Shared → Prop} {h : Heap} {g : Array GenState} {d : Drawn} {t : Nat} {os : OsState}
variable {nm q : Str} {N : Addr} {bs : List Value} {hdct : Bool} {sn : List Str} {sub : List Value} {ab : Bool} {col : Option Bool} {dd : Option Addr} {k0 k1 k2 k3 k5 : Option Value}
theorem iteF {α : Type} {c : Prop} [Decidable c] {a b : Sem α} {Q : α → Shared → Prop} {s : Shared} (hc : ¬c) (hb : wpAny M A b Q E s) : wpAny M A (if c then a else b) Q E s := by rw [if_neg hc]; exact hb
theorem super_walk {β : Type} {init : β} {body : Value → β → Sem (ForInStep β)} {k : Option Value → Sem (ForInStep β)} {Q : β → Shared → Prop} 
    (hq : wpAny M A (k (some (.builtin "Exception.__init__"))) (fun st s' => match st with | .done b => Q b s' | .yield _ => False) E ⟨h, g, d, t, os⟩) (hb : autoParam (∀ c r, body c r = classOwn c "__init__" >>= k) aIIRfl) : wpAny M A (forIn excMro init body) Q E ⟨h, g, d, t, os⟩ := by
  rw [List.forIn_cons, hb]
  refine wpAny_bind (wpAny_bind (wpAny_of_eq own_exc_init ?_))
  refine wpAny_mono hq (fun st s' hs => ?_) fun _ _ z => z
  cases st with
  | done b => exact wpAny_pure hs
  | yield b => exact hs.elim
set_option maxHeartbeats 2000000 in
theorem flt_super_ga {so e : Addr} {oe : Obj} {tk : Tok} {Q : Fin → Shared → Prop}
    (hso : h.get? so = some { cls := .type "super", dict := none, data := .fields #[.ref 47, .ref e, .ref 60], slots := #[] }) (hno : Looks (model prog w) h (opaqueClassAbove (.ref 60)) none)
    (hC : h.get? 60 = some (excClassObj nm q 60 N bs faultMro hdct sn sub ab col dd k0 k1 k2 k3 k5 "Exception.__new__")) (he : h.get? e = some oe) (hc : oe.cls = .ref 60) (hxC : e ≠ 60)
    (hq : Q (.done (.ret (.ref h.objs.size))) ⟨h.push { cls := .type "method-wrapper", data := .fields #[.builtin "Exception.__init__", .ref e] }, g, d, t, os⟩) :
    wpAny (model prog w) A (Builtin.«super.__getattribute__» ⟨[.ref so, .str "__init__" tk], []⟩) Q E ⟨h, g, d, t, os⟩ := by
  have hlk := slot_wd_get.lookup
  have hne : (Value.ref e == Value.ref 60) = false := by simp [hxC]
  have hn : (Str.ofString "__init__" == ("__class__" : Str)) = false := by decide
  have hdt : ({ cls := .type "super", dict := none, data := .fields #[.ref 47, .ref e, .ref 60], slots := #[] } : Obj).data = .fields #[.ref 47, .ref e, .ref 60] := rfl
  have f0 : (#[.ref 47, .ref e, .ref 60] : Array Value)[0]? = some (.ref 47) := rfl
  have f1 : (#[.ref 47, .ref e, .ref 60] : Array Value)[1]? = some (.ref e) := rfl
  have f2 : (#[.ref 47, .ref e, .ref 60] : Array Value)[2]? = some (.ref 60) := rfl
  have hT : (⟨h, g, d, t, os⟩ : Shared).TypeIs (.builtin "Exception.__init__") "wrapper_descriptor" := by
    show typeOf _ = _
    exact type_exc_init
  have hcB : (Value.ref 60 :: faultMro).contains (.type "Exception") = true := by decide
  have hown : ".".intercalate ("Exception.__init__".cutAt '.').dropLast = "Exception" := by decide +kernel
  have hdrop : (((Value.ref 60 :: faultMro).dropWhile (· != Value.ref 47)).drop 1) = excMro := by decide
  unfold Builtin.«super.__getattribute__»
  repeat (first
    | (with_reducible refine wpAny_field hso hdt f0 ?_) | (with_reducible refine wpAny_field hso hdt f1 ?_) | (with_reducible refine wpAny_field hso hdt f2 ?_)
    | (with_reducible refine ks_wpAny_notOpaque hno ?_)
    | (with_reducible refine wpAny_mroOf_exc hC ?_; rw [hdrop])
    | (refine super_walk ?_)
    | (with_reducible refine wpAny_typeOf hT ?_)
    | (with_reducible refine wpAny_call_entry slot_wd_get hT entry_wd_get ?_ (args_wd_get _ _ _))
    | (with_reducible refine ⟨_, rfl, ?_⟩)
    | (with_reducible refine iteF (by (first | rw [hn] | rw [hne]); exact Bool.false_ne_true) ?_) | rw [hne, if_neg Bool.false_ne_true] | rw [hn, Bool.or_false, if_neg Bool.false_ne_true] 
    | wp_step
    | dsimp only)
  (refine Eq.symm (hc ..) ▸ ?_; refine Eq.symm (hown ..) ▸ ?_)
  refine wpAny_isSubtype_exc hC ?_
  rw [hcB, if_neg (by decide)]
  refine wpAny_pure ?_
  unfold newFields
  refine wpAny_bind (wpAny_newObj_type ?_ (by size_fits))
  refine wpAny_pure ⟨_, rfl, ?_⟩
  exact wpAny_bind (wpAny_pure (wpAny_pure (wpAny_pure hq)))
theorem flt_getMethod {so e : Addr} {oe : Obj} {pl : Sem Bool} {Q : Value × List Value → Shared → Prop}
    (hso : h.get? so = some { cls := .type "super", dict := none, data := .fields #[.ref 47, .ref e, .ref 60], slots := #[] }) (hno : Looks (model prog w) h (opaqueClassAbove (.ref 60)) none)
    (hC : h.get? 60 = some (excClassObj nm q 60 N bs faultMro hdct sn sub ab col dd k0 k1 k2 k3 k5 "Exception.__new__")) (he : h.get? e = some oe) (hc : oe.cls = .ref 60) (hxC : e ≠ 60)
    (hq : Q (.ref h.objs.size, []) ⟨h.push { cls := .type "method-wrapper", data := .fields #[.builtin "Exception.__init__", .ref e] }, g, d, t + 1, os⟩) :
    wpAny (model prog w) A (getMethod (.ref so) "__init__" pl) Q E ⟨h, g, d, t, os⟩ := by
  have hlk := PySem.F.ks_slot_super_ga.lookup
  have hcan := PySem.F.ks_canon_super_ga
  have hT : ∀ t', (⟨h, g, d, t', os⟩ : Shared).TypeIs (.ref so) "super" := fun _ => ⟨_, hso, rfl⟩
  unfold getMethod
  refine wpAny_bind (wpAny_specialOf (hT _) hlk ?_)
  show wpAny _ _ (if (Manifest.canonical "super.__getattribute__" != "object.__getattribute__") = true then _ else _) _ _ _
  rw [if_pos hcan]
  unfold getAttr getAttrBy
  refine wpAny_bind (wpAny_bind (wpAny_mkText (wpAny_holding (wpAny_bind (wpAny_typeOf (hT _) (wpAny_bind (wpAny_of_eq hlk ?_)))))))
  show wpAny _ _ (getAttrByItsOwn (.ref so) (.str "__init__" t) (.type "super") (.builtin "super.__getattribute__") true false) _ _ _
  unfold getAttrByItsOwn hookBefore callGetattribute boundAndCalled
  refine wpAny_bind (wpAny_of_eq (show (if onTheHeap (.type "super") then typeLookup (.type "super") "__getattr__" else pure none) = pure none from rfl) ?_)
  refine wpAny_bind (wpAny_attempt (wpAny_holding ?_))
  show wpAny _ _ (bindSpecial (.builtin "super.__getattribute__") (.ref so) >>= _) _ _ _
  refine wpAny_bind (wpAny_of_eq (PySem.F.ks_slot_super_ga.bind _) ?_)
  refine wpAny_mono (Q := fun v s' => v = .ref h.objs.size ∧ s' = ⟨h.push { cls := .type "method-wrapper", data := .fields #[.builtin "Exception.__init__", .ref e] }, g, d, t + 1, os⟩) (E := fun _ _ => False)
    (wpAny_call_entry PySem.F.ks_slot_super_ga (hT _) PySem.F.ks_entry_super_ga (flt_super_ga hso hno hC he hc hxC ⟨_, rfl, rfl, rfl⟩) (PySem.F.ks_gaArgs_super _ _)) (fun v s' hv => ?_) fun _ _ z => z.elim
  obtain ⟨rfl, rfl⟩ := hv
  exact wpAny_pure (wpAny_pure hq)
end
section
variable {prog : Program} {w : World} {A : Around} {E : Value → Shared → Prop} {h : Heap} {g : Array GenState} {d : Drawn} {t : Nat} {os : OsState}
variable {nm q : Str} {N : Addr} {bs : List Value} {hdct : Bool} {sn : List Str} {sub : List Value} {ab : Bool} {col : Option Bool} {dd : Option Addr} {k0 k1 k2 k3 k5 : Option Value}
noncomputable abbrev mwObj (e : Addr) : Obj := { cls := .type "method-wrapper", data := .fields #[.builtin "Exception.__init__", .ref e] }
theorem flt_bound {M : Model} {e : Addr} {oe : Obj} {v : Value} {Q : Unit → Shared → Prop}
    (hC : h.get? 60 = some (excClassObj nm q 60 N bs faultMro hdct sn sub ab col dd k0 k1 k2 k3 k5 "Exception.__new__")) (he : h.get? e = some oe) (hcls : oe.cls = .ref 60) (hq : Q () ⟨h, g, d, t, os⟩) :
    wpAny M A (checkBoundCall "Exception.__init__" ⟨[.ref e, v], []⟩) Q E ⟨h, g, d, t, os⟩ := by
  have F := PySem.F.excBase_Exception
  have hshort := F.noStar
  unfold checkBoundCall
  (rw [F.initKind, F.initRow]; dsimp only)
  repeat (first | (with_reducible refine wpAny_loadPart_at he ?_; rw [hcls]) | with_reducible refine wpAny_loadPart_at hC ?_ | wp_step)
  all_goals exact hq
/-- the bound `Exception.__init__` of e, called with one thing -/
theorem flt_call_bound {mw e : Addr} {x0 : Addr} {v : Value} {Q : Value → Shared → Prop} (hmw : h.get? mw = some (mwObj e))
    (hC : h.get? 60 = some (excClassObj nm q 60 N bs faultMro hdct sn sub ab col dd k0 k1 k2 k3 k5 "Exception.__new__")) (he : h.get? e = some { cls := .ref 60, data :=   .fields #[.ref x0, .none, .none, .none, .bool false, .none] })
    (hq : ∀ h' t0, h'.get? e = some { cls := .ref 60, data := .fields #[.ref t0, .none, .none, .none, .bool false, .none] } → Heap.ExtBut e h h' → Q .none ⟨h', g, d, t, os⟩) :
    wpAny (model prog w) A (call (.ref mw) [v]) Q E ⟨h, g, d, t, os⟩ := by
  have F := PySem.F.excBase_Exception
  refine wpAny_call (codeAny_of_tree ?_)
  show wpAny _ _ (callAny (.ref mw) _) _ _ _
  unfold callAny
  refine wpAny_bind (wpAny_load hmw ?_)
  dsimp only
  rw [if_pos (by decide)]
  simp only [show ((Value.type "method-wrapper" != Value.type "method") = true) by decide, if_true]
  refine wpAny_bind (flt_bound hC he rfl ?_)
  refine wpAny_pure ⟨plainId_quiet F.init.plain _, codeAny_builtin F.initEntry ?_⟩
  rw [Around.under_plainId F.init.plain _]
  unfold Builtin.«BaseException.__init__»
  have he1 := Heap.get?_push_of_some { cls := .type "tuple", data := .seq [v].toArray } he
  wp_walk
  refine hq _ h.objs.size ?_ (fun b o hb e => ?_)
  · rw [Heap.get?_update_self _ he1 rfl]
    rfl
  · rw [Heap.get?_update_other _ _ (Ne.symm hb)]
    exact Heap.get?_push_of_some _ e
end
section
variable {prog : Program} {w : World} {A : Around} {E : Value → Shared → Prop} {h : Heap} {g : Array GenState} {d : Drawn} {t : Nat} {os : OsState}
variable {nm q : Str} {N : Addr} {bs : List Value} {sn : List Str} {sub : List Value} {ab : Bool} {col : Option Bool} {dd : Option Addr} {k0 k1 k2 k3 k5 : Option Value}
  {mN mD : Str → Option Value} {c0 : Value} {ddd : Option Addr} {cdd : ClassData} {sld : Array (Option Value)}
theorem flt_lookup {M : Model} {name : Str} {y : Option Value} {Q : Option Value → Shared → Prop} (hC : h.get? 60 = some (excClassObj nm q 60 N bs faultMro true sn sub ab col dd k0 k1 k2 k3 k5 "Exception.__new__")) (hn : h.Ns N mN) (hi : mN name = none)
    (hD : h.get? 47 = some { cls := c0, dict := ddd, data := .cls cdd, slots := sld }) (hnD : h.Ns cdd.ns mD) (hiD : mD name = none) (hB : typeLookup (.type "Exception") name = pure y) (hq : Q y ⟨h, g, d, t, os⟩) :
    wpAny M A (typeLookup (.ref 60) name) Q E ⟨h, g, d, t, os⟩ := by
  have hrest : lookupAlong excMro name = pure y := by rw [typeLookup_eq, PySem.F.excBase_Exception.mroIs] at hB; exact hB
  dsimp only [typeLookup_eq]
  refine wpAny_bind (wpAny_mroOf_exc hC ?_)
  rw [lookupAlong_cons]
  refine wpAny_bind (wpAny_classOwn_exc hC hn ?_)
  rw [hi]
  dsimp only
  rw [lookupAlong_cons]
  refine wpAny_bind (wpAny_classOwn_cls hD hnD ?_)
  rw [hiD]
  dsimp only
  rw [hrest]
  exact wpAny_pure hq
theorem flt_check_sa {M : Model} {x : Addr} {v : Value} {o : Obj} {nameV : Value} {Q : Unit → Shared → Prop}
    (hC : h.get? 60 = some (excClassObj nm q 60 N bs faultMro true sn sub ab col dd k0 k1 k2 k3 k5 "Exception.__new__")) (hx : h.get? x = some o) (hc : o.cls = .ref 60) (hq : Q () ⟨h, g, d, t, os⟩) :
    wpAny M A (checkBuiltinCall "object.__setattr__" ⟨[.ref x, nameV, v], []⟩) Q E ⟨h, g, d, t, os⟩ := by
  have SF := PySem.F.store_Exception
  have hcB : (Value.ref 60 :: faultMro).contains (.type "object") = true := by decide
  (rw [checkBuiltinCall, SF.kind, SF.split]; dsimp only)
  refine wpAny_bind ?_
  · unfold isInstance
    repeat (first | (with_reducible refine wpAny_loadPart_at hx ?_; rw [hc]) | (with_reducible refine wpAny_isSubtype_exc hC ?_; rw [hcB]) | wp_step)
    exact hq
theorem flt_store_entry {x : Addr} {o : Obj} {name : Str} {v : Value} {tk : Tok} {Q : Fin → Shared → Prop}
    (hC : h.get? 60 = some (excClassObj nm q 60 N bs faultMro true sn sub ab col dd k0 k1 k2 k3 k5 "Exception.__new__")) (hn : h.Ns N mN) (hi : mN name = none)
    (hD : h.get? 47 = some { cls := c0, dict := ddd, data := .cls cdd, slots := sld }) (hnD : h.Ns cdd.ns mD) (hiD : mD name = none) (hB : typeLookup (.type "Exception") name = pure none)
    (hx : h.get? x = some o) (hc : o.cls = .ref 60) (hnc : ∀ c, o.data ≠ .cls c) (hdn : o.dict = none)
    (hq : ∀ h' tk' dx, h'.get? x = some { cls := o.cls, dict := some dx, data := o.data, slots := o.slots } → Heap.ExtBut x h h' → Q (.done (.ret .none)) ⟨h', g, d, tk', os⟩) :
    wpAny (model prog w) A (Builtin.«object.__setattr__» ⟨[.ref x, .str name tk, v], []⟩) Q E ⟨h, g, d, t, os⟩ := by
  have hpass : refuseLoop (.ref x) "__setattr__" faultMro = pure () := by unfold faultMro; rw [refuseLoop_ref]; exact PySem.F.store_Exception.passes (.ref x)
  unfold Builtin.«object.__setattr__»
  repeat (first | dsimp only [refuse_eq] | (rw [refuseLoop_ref, hpass]) | (with_reducible refine wpAny_loadPart_at hx ?_; (refine Eq.symm (hc ..) ▸ ?_)) | with_reducible refine wpAny_mroOf_exc hC ?_ | (with_reducible refine flt_lookup hC hn hi hD hnD hiD hB ?_) | wp_step)
  rw [hdn, if_neg (by simp [typeHasDict])]
  split
  · rename_i hcd
    cases hcd
  split
  · rename_i c hcd
    exact absurd hcd (hnc c)
  · have hx₁ : (h.push { cls := .type "dict", data := .dict #[] }).get? x = some o := Heap.get?_push_of_some _ hx
    have hxs : x ≠ h.objs.size := Nat.ne_of_lt (Heap.lt_size hx)
    refine wpAny_bind (wpAny_alloc' ?_)
    refine wpAny_bind (wpAny_update' hx₁ ?_)
    refine wpAny_pure ?_
    have hgd : ((h.push { cls := .type "dict", data := .dict #[] }).update x fun o => { cls := o.cls, dict := some h.objs.size, data := o.data, slots := o.slots }).get? h.objs.size
        = some { cls := .type "dict", data := .dict #[] } :=
      (Heap.get?_update_ne _ _ _ _ hxs.symm).trans (Heap.get?_push_at rfl rfl)
    have hnd : ((h.push { cls := .type "dict", data := .dict #[] }).update x fun o => { cls := o.cls, dict := some h.objs.size, data := o.data, slots := o.slots }).Ns h.objs.size (fun _ => none) :=
      ⟨_, #[], _, hgd, rfl, fun e he => absurd he (by simp), fun _ => rfl⟩
    show wpAny _ _ (Builtin.ObjectAttr.storeInDict h.objs.size (.str name tk) name v) _ _ _
    unfold Builtin.ObjectAttr.storeInDict Builtin.ObjectAttr.newKeyGuard
    refine wpAny_bind (wpAny_pure (wpAny_bind (wpAny_nsSet1 (Heap.Ns1.of_empty hnd) fun h' hn' hs => ?_)))
    refine e33 (hn'.count (Within.cons name v Within.nil)) fun oD esD epD hoD hdD hcD => ?_
    refine wpAny_bind (wpAny_lookBehind hoD (by rw [hdD]; exact pastItsLine_dict (Nat.le_trans hcD (by rw [List.length_cons, List.length_nil, sizeLine_eq]; exact Nat.le_add_left _ _))) ?_)
    wp_walk
    refine hq h' _ h.objs.size ?_ (fun b ob hbx hb => ?_)
    · refine (hs.2 x hxs).trans (Heap.get?_update_self _ hx₁ ?_)
      have hfr := (Heap.get?_some_iff.mp hx).2
      obtain ⟨oc, od, odt, osl⟩ := o
      cases odt <;> first | rfl | exact hfr
    · exact (hs.2 b (Nat.ne_of_lt (Heap.lt_size hb))).trans ((Heap.get?_update_ne _ _ _ _ hbx).trans (Heap.get?_push_of_some _ hb))
theorem flt_store {x : Addr} {o : Obj} {name : Str} {v : Value} {Q : Unit → Shared → Prop}
    (hC : h.get? 60 = some (excClassObj nm q 60 N bs faultMro true sn sub ab col dd k0 k1 k2 k3 k5 "Exception.__new__")) (hn : h.Ns N mN) (hi : mN name = none) (hsa : mN "__setattr__" = none)
    (hD : h.get? 47 = some { cls := c0, dict := ddd, data := .cls cdd, slots := sld }) (hnD : h.Ns cdd.ns mD) (hiD : mD name = none) (hsaD : mD "__setattr__" = none) (hB : typeLookup (.type "Exception") name = pure none)
    (hx : h.get? x = some o) (hc : o.cls = .ref 60) (hnc : ∀ c, o.data ≠ .cls c) (hdn : o.dict = none)
    (hq : ∀ h' tk' dx, h'.get? x = some { cls := o.cls, dict := some dx, data := o.data, slots := o.slots } → Heap.ExtBut x h h' → Q () ⟨h', g, d, tk', os⟩) :
    wpAny (model prog w) A (setAttr (.ref x) name v) Q E ⟨h, g, d, t, os⟩ := by
  have SF := PySem.F.store_Exception
  have f3 := SF.slot.bind (.ref x)
  have hlk := SF.slot.lookup
  unfold setAttr callSpecial? specialOf
  repeat (any_goals (first | assumption | (with_reducible refine wpAny_loadPart_at hx ?_; rw [hc]) | (with_reducible refine flt_lookup hC hn hsa hD hnD hsaD hlk ?_) | wp_step))
  refine codeAny_call_builtin SF.slot.plain SF.entry (flt_check_sa hC hx hc (flt_store_entry hC hn hi hD hnD hiD hB hx hc hnc hdn (fun h' tk' dx e1 e2 => ?_)))
  repeat (any_goals (first | assumption | wp_step))
  exact hq h' tk' dx e1 e2
end
/-- what super() asks of the program -/
structure ProgOk (prog : Program) : Prop where
  file : ((prog.main.file : Str) == ("/claim/cut.py" : Str)) = true
  top : (prog.main.scope.names.lookup ("super" : Str)).isSome = false
theorem bn_super : BuiltName "super" (.type "super") := ⟨fun _ => by kernel_rfl, by kernel_rfl, by decide⟩
theorem fault_cls (w : World) : X13 fun nm q bs sn sub ab col dd k0 k1 k2 k3 k5 => (KK w).lookup 60 = some (excClassObj nm q 60 59 bs faultMro true sn sub ab col dd k0 k1 k2 k3 k5 "Exception.__new__") :=
  ⟨_, _, _, _, _, _, _, _, _, _, _, _, _, rfl⟩
theorem heap_cls (w : World) : X4 fun c0 dd cd sl => (KK w).lookup 47 = some { cls := c0, dict := dd, data := .cls cd, slots := sl } ∧ cd.ns = 46 := ⟨_, _, _, _, rfl, rfl⟩
theorem fault_nsOk (w : World) : nsOkIn (KK w) 59 = true := by kernel_rfl
theorem heap_nsOk (w : World) : nsOkIn (KK w) 46 = true := by kernel_rfl
structure FaultNs (mN mD : Str → Option Value) : Prop where
  init : mN "__init__" = none
  initD : mD "__init__" = some (.ref 37)
  sa : mN "__setattr__" = none
  saD : mD "__setattr__" = none
  what : mN "what" = none
  whatD : mD "what" = none
theorem fault_ns {w : World} {B h : Heap} (W : Wd w B) (kb : Kp B h) : ∃ mN mD, h.Ns 59 mN ∧ h.Ns 46 mD ∧ FaultNs mN mD := by
  have X : (KK w).In h := W.kin.keeps kb
  have G : h.Ns 59 (h.nsMap 59) := .of_isNs (isNs_of_in X (fault_nsOk w))
  have G2 : h.Ns 46 (h.nsMap 46) := .of_isNs (isNs_of_in X (heap_nsOk w))
  exact ⟨_, _, G, G2, ⟨ns_none_of X G (by kernel_rfl), ns_some_of X G2 (by kernel_rfl), ns_none_of X G (by kernel_rfl), ns_none_of X G2 (by kernel_rfl), ns_none_of X G (by kernel_rfl), ns_none_of X G2 (by kernel_rfl)⟩⟩
theorem what_none : typeLookup (.type "Exception") "what" = pure none := by rw [typeLookup_type, builtinLookup_eq_fast]; kernel_rfl
theorem any_none (w : World) : nsIn (KK w) cStatics "thirdparty.any" = some none := by kernel_rfl
section
variable {prog : Program} {w : World} {B : Heap}
set_option maxHeartbeats 4000000 in
theorem init37 (W : Wd w B) (PF : ProgOk prog) {A : Around} {s : Shared} {R : Result → Shared → Prop} {e t0 : Addr} {x : Str} {t : Tok} (kb : Kp B s.heap) (hroom : A.depth < recursionLimit)
    (he : s.heap.get? e = some { cls := .ref 60, data := .fields #[.ref t0, .none, .none, .none, .bool false, .none] })
    (hR : ∀ h' tk dx t1, h'.get? e = some { cls := .ref 60, dict := some dx, data := .fields #[.ref t1, .none, .none, .none, .bool false, .none] } → Heap.ExtBut e s.heap h' → R (.ok (.ret .none)) { s with heap := h', toks := tk }) :
    codeAny (model prog w) A (.call (.ref 37) ⟨[.ref e, .str x t], []⟩) R s := by
  refine e21 W.top fun mg mb T => ?_
  refine ks_codeAny_call_defAt (binds := [("self", .ref e), ("what", .str x t)]) hroom (kb _ _ (W.kin 37 _ rfl)) rfl (T.nolimit.keeps kb) (codeRec_of (W.kin.keeps kb) (by kernel_rfl)) rfl (BindsTo.of_eq rfl) (by decide) (by intro y hy; simp only [List.mem_cons, List.not_mem_nil, or_false] at hy; rcases hy with rfl | rfl <;> rfl) (fun h₀ hns hk => ?_)
  have kb0 : Kp B h₀ := kb.tr hk
  refine x13c1 (fault_cls w) fun nm q bs sn sub ab col dd k0 k1 k2 k3 k5 hC0 => ?_
  refine x4c2 (heap_cls w) fun c0 ddd cdd sld hD0 hns0 => ?_
  have he0 := hk _ _ he
  have heC : e ≠ 60 := by
    rintro rfl
    have h1 := kb0 _ _ (W.kin _ _ hC0)
    rw [h1] at he0
    cases he0
  refine ks_wpAt_execs_cons (ks_wpAt_Expr_any (ks_wpAt_MethodCall ?_))
  refine ks_wpAt_super_base (f := 37) (cc := 36) rfl rfl (by decide) rfl (kb0 _ _ (W.kin 37 _ rfl)) rfl rfl rfl (kb0 _ _ (W.kin 36 _ rfl)) rfl rfl PF.file PF.top ?_
  refine ks_loadName_global rfl rfl (loadGlobal_builtin (mg := mg) (mb := mb) (T.g.keeps kb0) (mg_none_of W.kin T.g (bn_super.1 w)) (T.b.keeps kb0) ((T.builtins _ bn_super.2.2).trans bn_super.2.1) ⟨rfl, ?_⟩)
  refine wpAny_loadName_free rfl rfl rfl ⟨_, kb0 _ _ (W.kin 25 _ rfl), rfl⟩ ?_
  refine wpAny_loadName_local rfl rfl hns rfl ?_
  obtain ⟨hp, g, d, tk, os⟩ := s
  dsimp only at *
  refine ks_wpAny_isType_cls (D := 47) (kb0 _ _ (W.kin _ _ hD0)) rfl ⟨rfl, ?_⟩
  refine ks_wpAny_call_super (kb0 _ _ (W.kin _ _ hD0)) rfl he0 rfl (fun c q => by cases q) (looks_mroIn (W.kin.keeps kb0) (show mroIn (KK w) 60 (.ref 47) = some true by kernel_rfl)) (fun h1 hso k1 => ?_)
  have kb1 : Kp B h1 := kb0.tr k1
  refine flt_getMethod hso (looks_opaque (W.kin.keeps kb1) (any_none w)) (kb1 _ _ (W.kin _ _ hC0)) (k1 _ _ he0) rfl heC ?_
  have k2 : Kp h1 (h1.push (mwObj e)) := Kp.push _ _
  have hmw : (h1.push (mwObj e)).get? h1.objs.size = some (mwObj e) := Heap.get?_push_at rfl rfl
  have hns2 := (hns.keeps k1).keeps k2
  have kb2 : Kp B (h1.push (mwObj e)) := kb1.tr k2
  have he2 := k2 _ _ (k1 _ _ he0)
  generalize h1.push (mwObj e) = h2 at *
  generalize (h1.objs.size : Addr) = mw at *
  refine callWithP (P := fun h => h.get? mw = some (mwObj e)) (fun h hq => ⟨.machine, .inr (.inl rfl), ?_⟩) ?_
  · intro A' Q' E' s' kk hq'
    unfold keeperOf
    refine wpAny_bind (wpAny_load (kk _ _ hq) ?_)
    dsimp only
    rw [if_pos (by decide), if_pos (by decide)]
    exact wpAny_pure hq'
  refine nameL ⟨rfl, rfl, rfl⟩ hns2 rfl ⟨hmw, flt_call_bound hmw (kb2 _ _ (W.kin _ _ hC0)) he2 (fun h3 t1 he3 hx3 => ?_)⟩
  have ne : ∀ {b o}, hp.get? b = some o → hp.get? e = none → True := fun _ _ => trivial
  have hB0 : ∀ {b o}, (KK w).lookup b = some o → b ≠ e → h3.get? b = some o := fun hb hbe => hx3 _ _ hbe (kb2 _ _ (W.kin _ _ hb))
  have hLe : (hp.objs.size : Addr) ≠ e := Nat.ne_of_gt (Heap.lt_size he)
  have hns3 : h3.Ns hp.objs.size (fun y => ([("self", .ref e), ("what", .str x t)] : List (Str × Value)).reverse.lookup y) := let ⟨o, es, ep, eo, r⟩ := hns2; ⟨o, es, ep, hx3 _ _ hLe eo, r⟩
  refine e23 (fault_ns W kb2) fun mN mD G G2 FN => ?_
  have h59 : (59 : Addr) ≠ e := by
    rintro rfl
    obtain ⟨o, es, ep, eo, ed, _⟩ := G
    rw [he2] at eo; cases eo; cases ed
  have h46 : (46 : Addr) ≠ e := by
    rintro rfl
    obtain ⟨o, es, ep, eo, ed, _⟩ := G2
    rw [he2] at eo; cases eo; cases ed
  have h47 : (47 : Addr) ≠ e := by
    rintro rfl
    have h1 := kb2 _ _ (W.kin _ _ hD0)
    rw [h1] at he2
    cases he2
  have G' : h3.Ns 59 mN := let ⟨o, es, ep, eo, r⟩ := G; ⟨o, es, ep, hx3 _ _ h59 eo, r⟩
  have G2' : h3.Ns 46 mD := let ⟨o, es, ep, eo, r⟩ := G2; ⟨o, es, ep, hx3 _ _ h46 eo, r⟩
  refine ks_wpAt_execs_cons (ks_wpAt_Assign_Attr (PySem.wpAt_of_wpAny (nameL ⟨rfl, rfl, rfl⟩ hns3 rfl (nameL ⟨rfl, rfl, rfl⟩ hns3 rfl ?_))))
  refine flt_store (hB0 hC0 heC.symm) G' FN.what FN.sa (hB0 hD0 h47) (by rw [hns0]; exact G2') FN.whatD FN.saD what_none he3 rfl (fun c q => by cases q) rfl (fun h4 tk4 dx he4 hx4 => ?_)
  refine PySem.wpAt_of_wpAny (wpAny_execs_nil ?_)
  exact hR h4 tk4 dx t1 he4 (fun b o hb eo => hx4 b o hb (hx3 b o hb (k2 _ _ (k1 _ _ (hk _ _ eo)))))
end
noncomputable abbrev fltObj (dx t1 : Addr) : Obj := { cls := .ref 60, dict := some dx, data := .fields #[.ref t1, .none, .none, .none, .bool false, .none] }
section
variable {prog : Program} {w : World} {B : Heap} {A : Around} {E : Value → Shared → Prop} {s : Shared} {env : Env}
theorem call_fault (W : Wd w B) (PF : ProgOk prog) {x : Str} {t : Tok} {Q : Value → Shared → Prop} {n : Nat} (kb : Kp B s.heap) (hr : Room A (n + 1))
    (hq : ∀ h' tk e dx t1, Kp s.heap h' → s.heap.get? e = none → h'.get? e = some (fltObj dx t1) → Q (.ref e) { s with heap := h', toks := tk }) :
    wpAny (model prog w) A (call (.ref 60) [.str x t]) Q E s := by
  refine x13c1 (fault_cls w) fun nm q bs sn sub ab col dd k0 k1 k2 k3 k5 hC0 => ?_
  refine x4c2 (heap_cls w) fun c0 ddd cdd sld hD0 hns0 => ?_
  refine e23 (fault_ns W kb) fun mN mD G G2 FN => ?_
  obtain ⟨hp, g, d, tk, os⟩ := s
  have hu : (Code.builtin "type.__call__" ⟨[.ref 60, .str x t], []⟩).weight = 1 := by kernel_rfl
  refine flt_call (kb _ _ (W.kin _ _ hC0)) G FN.init (kb _ _ (W.kin _ _ hD0)) (by rw [hns0]; exact G2) FN.initD (kb _ _ (W.kin 37 _ rfl)) rfl (fun h' e hm => ?_) (by have := sizeLine_big; simp; exact Nat.le_add_left _ _)
  obtain ⟨t0, he, ht0, _⟩ := hm.there
  refine wpAny_call (init37 W PF (e := e) (t0 := t0) (kb.tr hm.keeps) ?_ he (fun h2 tk2 dx t1 he2 hx2 => ?_))
  · have := hr.2.1
    show A.depth + (Code.builtin "type.__call__" ⟨[.ref 60, .str x t], []⟩).weight < _
    rw [hu]; lia
  · exact ⟨rfl, hq h2 tk2 e dx t1 (fun b o eb => hx2 b o (fun q => by rw [q] at eb; have := hm.new; have e' : hp.get? e = some o := eb; rw [this] at e'; cases e') (hm.keeps _ _ eb)) hm.new he2⟩
theorem raise_fault (W : Wd w B) (PF : ProgOk prog) {arg : Expr} {np cpos pos : Pos} {Q : Flow → Shared → Prop} {n : Nat} (EO : EnvOk env) (kb : Kp B s.heap) (hr : Room A (n + 1))
    (h : wpAny (model prog w) A (eval arg env) (fun v s₁ => ∃ x t, v = .str x t ∧ Kp B s₁.heap ∧ ∀ h' tk e dx t1, Kp s₁.heap h' → s₁.heap.get? e = none → h'.get? e = some (fltObj dx t1) → E (.ref e) { s₁ with heap := h', toks := tk }) E s)
    (hx : autoParam (env.kindOf "TermFault" = some .globalImplicit) aRfl) (hp : autoParam (([arg] : List Expr).all plainE = true) aRfl) :
    wpAny (model prog w) A (exec (.Raise (some (.Call (.Name "TermFault" np) [arg] [] cpos)) none pos) env) Q E s := by
  dsimp only [arm_exec_Raise]
  refine wpAny_bind (wpAny_standAt ?_)
  dsimp only [arm_evalOpt_some, Option.map]
  unfold raiseStmt
  refine wpAny_bind ?_
  refine wpAny_bind (wpAny_mono (wpAny_Call_ofName (nameG W kb EO gn_TermFault (callWithP (P := fun h => Kp B h) (fun h hk => keeps_K (kf_TermFault w) h (W.kin.keeps hk)) (Q := fun v s₁ => X3 fun e dx t1 => C4 (v = .ref e) (Kp B s₁.heap) (s₁.heap.get? e = some (fltObj dx t1)) (E (.ref e) s₁)) ?_ hp) hx)) (fun v s₁ h₁ => wpAny_bind (wpAny_standAt (wpAny_pure ?_))) fun _ _ x => x)
  · refine wpAny_mono h (fun v s₁ h₁ => ?_) fun _ _ x => x
    (refine e23 h₁ fun x t hq2 kb1 h₁ => ?_; subst hq2; clear h₁)
    exact ⟨kb1, call_fault W PF kb1 hr (fun h' tk e dx t1 k hen he => ⟨e, dx, t1, rfl, kb1.tr k, he, h₁ h' tk e dx t1 k hen he⟩)⟩
  · (refine x3c4 h₁ fun e dx t1 hq3 kb1 he hE => ?_; subst hq3; clear h₁)
    refine x13c1 (fault_cls w) fun nm q bs sn sub ab col dd k0 k1 k2 k3 k5 hC0 => ?_
    have hC := kb1 _ _ (W.kin _ _ hC0)
    have hcB : (Value.ref 60 :: faultMro).contains (.type "BaseException") = true := by decide
    obtain ⟨hp, g, d, tk, os⟩ := s₁
    repeat (first | with_reducible refine wpAny_loadPart_at he ?_ | with_reducible refine wpAny_loadPart_at hC ?_ | (with_reducible refine wpAny_isSubtype_exc hC ?_; (refine Eq.symm (hcB ..) ▸ ?_)) | wp_step)
    exact wpAny_raiseNew_none hr.hh hE
end
/-- e, a TermFault, is in flight over the frames l -/
structure Fly (base : Heap) (l : List Env) (e : Addr) (h : Heap) : Prop where
  stays : base.StaysIn h
  off : base.get? e = none
  frames : h.FunFrames base l
  tr : ∃ a0 fl, h.TracedAtW base e (.ref 60) a0 fl
theorem Fly.pop {base : Heap} {env : Env} {l : List Env} {e : Addr} {h : Heap} (x : Fly base (env :: l) e h) : Fly base l e h := ⟨x.stays, x.off, x.frames.2.2, x.tr⟩
theorem Fly.there {base : Heap} {l : List Env} {e : Addr} {h : Heap} (x : Fly base l e h) : ∃ ob, h.get? e = some ob ∧ ob.cls = .ref 60 := let ⟨a0, fl, t⟩ := x.tr; t.there
section
variable {M : Model} {A : Around} {E : Value → Shared → Prop} {s : Shared}
theorem note_fly {base : Heap} {env : Env} {outer : List Env} {L e : Addr} {Q : Unit → Shared → Prop} (hfr : A.frames = some (env :: outer)) (hf : env.frame = some L) (F : Fly base (env :: outer) e s.heap)
    (hQ : ∀ h', Fly base (env :: outer) e h' → s.heap.UpToSlots h' → Q () { s with heap := h' }) : wpAny M A (noteFrame (.ref e) env) Q E s := by
  obtain ⟨hkb, hen, hl, a0, fl, ht⟩ := F
  obtain ⟨oe, vs, T, oT, ts, he, hpz1, hd, h1, hnT, hTe, hT, hdT, h3⟩ := id ht; (refine e02 hpz1 fun hcls h0 => ?_; clear hpz1)
  unfold noteFrame
  (rw [hf]; dsimp only)
  refine wpAny_bind (wpAny_field he hd h1 ?_)
  rw [if_pos (show (Value.ref T != Value.none) = true from by simp)]
  refine wpAny_bind (wpAny_field hT hdT h3 ?_)
  by_cases hb : (fl == rawInt L) = true
  · rw [if_pos hb]
    have e0 : s = { s with heap := s.heap } := by cases s; rfl
    refine wpAny_pure ?_
    rw [e0]
    exact hQ _ ⟨hkb, hen, hl, a0, fl, ht⟩ (Heap.UpToSlots.refl _)
  · rw [if_neg hb]
    refine wpAny_bind (wpAny_setField hT hdT (Array.getElem?_eq_some_iff.mp h3).1 ?_)
    have other : ∀ b, b ≠ T → (s.heap.update T (Obj.mapFields (·.setIfInBounds 3 Value.none))).get? b = s.heap.get? b := fun b hb => Heap.get?_update_other _ _ (Ne.symm hb)
    have noRecord : ∀ b o, s.heap.get? b = some o → (∀ vs, o.data ≠ .fields vs) → b ≠ T := fun b o hb hnf q => by
      rw [q, hT] at hb; injection hb with hb; subst hb; exact hnf ts hdT
    refine wpAny_entryW hfr (hl.of_keeps fun b o hb hnf => ⟨o, (other b (noRecord b o hb hnf)).trans hb, rfl⟩) hf ((other e (Ne.symm hTe)).trans he)
      (fun b o hbo => (other b fun q => by rw [q, hnT] at hbo; cases hbo).trans (hkb b o hbo)) hen hd (Array.getElem?_eq_some_iff.mp h1).1 h0
      fun h' ⟨x1, x2, x3, x4⟩ => hQ h' ⟨x1, hen, x2, a0, _, hcls ▸ x3⟩ fun b o hb hnf => x4 b o ((other b (noRecord b o hb hnf)).trans hb) hnf
theorem set_fly {base : Heap} {l : List Env} {e : Addr} {f : Option Addr} {Q : Unit → Shared → Prop} (F : Fly base l e s.heap)
    (hQ : ∀ h', Fly base l e h' → (∀ b o, s.heap.get? b = some o → (∀ vs, o.data ≠ .fields vs) → h'.get? b = some o) → Q () { s with heap := h' }) : wpAny M A (setFlight (.ref e) f) Q E s := by
  obtain ⟨hkb, hen, hl, a0, fl, ht⟩ := F
  obtain ⟨oe, vs, T, oT, ts, he, hcls, hd, h1, hnT, hTe, hT, hdT, h3⟩ := ht
  have hsz3 : 3 < ts.size := (Array.getElem?_eq_some_iff.mp h3).1
  have other : ∀ b, b ≠ T → (s.heap.update T (Obj.mapFields (·.setIfInBounds 3 (f.elim Value.none fun f => rawInt f)))).get? b = s.heap.get? b :=
    fun b hb => Heap.get?_update_other _ _ (Ne.symm hb)
  have noRecord : ∀ b o, s.heap.get? b = some o → (∀ vs, o.data ≠ .fields vs) → b ≠ T := fun b o hb hnf q => by
    rw [q, hT] at hb; injection hb with hb; subst hb; exact hnf ts hdT
  unfold setFlight
  refine wpAny_bind (wpAny_field he hd h1 ?_)
  rw [if_pos (show (Value.ref T != Value.none) = true from by simp)]
  refine wpAny_setField hT hdT hsz3 (hQ _ ⟨fun b o hbo => (other b fun q => by rw [q, hnT] at hbo; cases hbo).trans (hkb b o hbo), hen,
    hl.of_keeps fun b o hb hnf => ⟨o, (other b (noRecord b o hb hnf)).trans hb, rfl⟩, a0, (f.elim Value.none fun f => rawInt f), ?_⟩ fun b o hb hnf => (other b (noRecord b o hb hnf)).trans hb)
  exact ⟨oe, vs, T, _, _, (other e (Ne.symm hTe)).trans he, hcls, hd, h1, hnT, hTe, Heap.get?_update_self _ hT (Obj.isFreed_of_fields (Obj.data_mapFields hdT _)), Obj.data_mapFields hdT _, by simp [hsz3]⟩
theorem leave_fly {base : Heap} {env : Env} {outer : List Env} {L e : Addr} {Q : Unit → Shared → Prop} (hfr : A.frames = some (env :: outer)) (hf : env.frame = some L) (F : Fly base (env :: outer) e s.heap)
    (hQ : ∀ h', Fly base outer e h' → s.heap.UpToSlots h' → Q () { s with heap := h' }) : wpAny M A (leaving env (.ref e)) Q E s := by
  unfold leaving
  refine wpAny_bind (note_fly hfr hf F fun h1 F1 u1 => set_fly F1 fun h2 F2 u2 => ?_)
  exact hQ h2 F2.pop (u1.trans fun b o eb hn => ⟨o.slots, u2 b o eb hn⟩)
theorem leave_first {base : Heap} {env : Env} {outer : List Env} {L e : Addr} {dx t1 : Addr} {Q : Unit → Shared → Prop} (hfr : A.frames = some (env :: outer)) (hf : env.frame = some L) (hl : s.heap.FunFrames base (env :: outer)) (hkb : base.StaysIn s.heap) (hen : base.get? e = none)
    (he : s.heap.get? e = some (fltObj dx t1)) (hQ : ∀ h', Fly base outer e h' → s.heap.UpToSlots h' → Q () { s with heap := h' }) : wpAny M A (leaving env (.ref e)) Q E s := by
  refine wpAny_leaving_firstW hfr hl hf he hkb hen rfl rfl rfl (fun h' ⟨x1, x2, x3, x4⟩ => hQ h' ⟨x1, hen, x2.2.2, _, _, x3.at⟩ x4)
theorem passOn_fly {α : Type} {base : Heap} {l : List Env} {e : Addr} {env : Env} {what : String} {Q : α → Shared → Prop} (F : Fly base l e s.heap)
    (hE : ∀ h', Fly base l e h' → (∀ b o, s.heap.get? b = some o → (∀ vs, o.data ≠ .fields vs) → h'.get? b = some o) → E (.ref e) { s with heap := h' }) : wpAny M A (PySem.passOn what (.ref e) env : Sem α) Q E s := by
  obtain ⟨a0, fl, oe, vs, T, oT, ts, he, hcls, hd, h1, _⟩ := id F.tr
  unfold PySem.passOn
  refine wpAny_bind (wpAny_field he hd h1 ?_)
  rw [if_neg (show ¬ ((Value.ref T == Value.none) = true) from by simp)]
  exact wpAny_bind (set_fly F fun h' F' u => wpAny_throw (hE h' F' u))
end
section
variable {prog : Program} {w : World} {A : Around} {B H : Heap} {Ss : List Addr}
/-- a list comprehension over one iterator: what stands between the turns is Φ -/
theorem comp_coreC {E : Value → Shared → Prop} {s : Shared} {env : Env} {elt target iter : Expr} {ifs : List Expr} {scope : Scope} {cl : List (Str × Addr)} {pos : Pos} {Q : Value → Shared → Prop}
    {it : Addr} {pr : Nat → OP} {src : Heap → Prop} {n : Nat} {P : Nat → Value → Prop} {ow : List (Addr × OP)} (Er : Addr → Value → Shared → Prop)
    (Φ : Nat → List Value → List (Addr × OP) → Heap → Prop)
    (he : EnvOk env) (I : Itr prog w A it pr src n P) (S : St B H Ss ((it, pr 0) :: ow) s.heap) (hn : n ≤ 1000) (hSs : ∀ h' : Heap, ∀ b ∈ Ss, b ≠ it ∧ (∃ o, s.heap.get? b = some o))
    (hcell : ∀ y ∈ scope.names, y.2 ≠ .cell) (hkind : scope.kind = .function)
    (mono : ∀ i ys ow' h h', Imm h h' → Φ i ys ow' h → Φ i ys ow' h')
    (start : Φ 0 [] ow s.heap)
    (hsrc : ∀ i ys ow' h C D m p, Imm s.heap h → St B H Ss ((C, nsP m) :: (D, listP p) :: (it, pr i) :: ow') h → Φ i ys ow' h → src h)
    (turn : ∀ (i : Nat) (ys : List Value) (ow' : List (Addr × OP)) (h : Heap) (tk : Nat) (C D : Addr) (m : Str → Option Value) (x : Value), i < n → P i x → Imm s.heap h → s.heap.get? C = none →
      St B H Ss ((C, nsP m) :: (D, listP ys.toArray) :: (it, pr (i + 1)) :: ow') h → Φ i ys ow' h →
      wpAny (model prog w) A (letOwnedTupleGo target (.ref it) x) (fun _ s₁ => wpAny (model prog w) A (assign target (compEnvC scope cl C env) x) (fun _ s₂ =>
        ifsWp prog w A ifs (compEnvC scope cl C env) (fun ok s₃ =>
          if ok = true then wpAny (model prog w) A (eval elt (compEnvC scope cl C env)) (fun y s₄ => X4 fun h' tk' m' ow'' => C4 (s₄ = { s with heap := h', toks := tk' }) (Imm h h') (St B H Ss ((C, nsP m') :: (D, listP ys.toArray) :: (it, pr (i + 1)) :: ow'') h') (Φ (i + 1) (ys ++ [y]) ow'' h')) (Er C) s₃
          else X4 fun h' tk' m' ow'' => C4 (s₃ = { s with heap := h', toks := tk' }) (Imm h h') (St B H Ss ((C, nsP m') :: (D, listP ys.toArray) :: (it, pr (i + 1)) :: ow'') h') (Φ (i + 1) ys ow'' h')) (Er C) s₂) (Er C) s₁) (Er C)
        { s with heap := h, toks := tk })
    (fin : ∀ ys ow' h tk D, ys.length ≤ n → s.heap.get? D = none → Imm s.heap h → St B H Ss ((D, listP (List.toArray ys)) :: ow') h → Φ n ys ow' h → Q (.ref D) { s with heap := h, toks := tk })
    (hEr : ∀ (C : Addr) e s', s.heap.get? C = none → Er C e s' → notedBy (model prog w) A (compEnvC scope cl C env) (fun e s' => compPost (model prog w) A E none Q (.ref s.heap.objs.size) C (.error e) s') e s') :
    wpAny (model prog w) A (newList []) (fun acc s₃ => wpAny (model prog w) A (newFunctionEnv scope env.globals cl [] env.qual none .none (some env)) (fun cenv s₄ =>
      codeAny (model prog w) A (.compStart (.ListComp elt [⟨target, iter, ifs, 0⟩] scope pos) 0 (.ref it) acc { cenv with scope := relabel scope env }) (compPost (model prog w) A E none Q acc cenv.locals) s₄) E s₃) E s := by
  refine wpAny_newList ?_
  try dsimp only
  have S1 := S.addPush (o := { cls := .type "list", data := .seq ([] : List Value).toArray }) (p := listP #[]) rfl ⟨0, rfl⟩ (nt_cls (by decide))
  generalize hH2 : s.heap.push { cls := .type "list", data := .seq ([] : List Value).toArray } = H2 at S1 ⊢
  refine wpAny_newFunctionEnv hcell (by intro y hy; simp at hy) (fun h₁ hns₁ hsb₁ => ?_) hkind
  dsimp only at hns₁ hsb₁ ⊢
  have k1 : Kp s.heap H2 := by rw [← hH2]; exact Kp.push _ _
  have hsz : H2.objs.size = s.heap.objs.size + 1 := by rw [← hH2, Heap.size_push]
  have hCn : H2.get? H2.objs.size = none := Heap.get?_none_of_le (Nat.le_refl _)
  have hCs : s.heap.get? H2.objs.size = none := Heap.get?_none_of_le (by rw [hsz]; exact Nat.le_succ _)
  have k2 : Kp H2 h₁ := fun b o e => hsb₁.extBut b o (fun q => by subst q; rw [hCn] at e; cases e) (Heap.get?_push_of_some _ e)
  have S2 : St B H Ss ((H2.objs.size, nsP fun x => ([] : List (Str × Value)).reverse.lookup x) :: (s.heap.objs.size, listP #[]) :: (it, pr 0) :: ow) h₁ :=
    S1.add hCn k2 (let ⟨o, e, r⟩ := nsP_ns.mp hns₁; ⟨o, e, r, r.nt⟩)
  have im2 : Imm s.heap h₁ := Imm.kp (k1.tr k2)
  have hDn : s.heap.get? s.heap.objs.size = none := Heap.get?_none_of_le (Nat.le_refl _)
  generalize hC : H2.objs.size = C at *
  generalize hD : s.heap.objs.size = D at *
  have hCS : C ∉ Ss := fun q => by obtain ⟨o, e⟩ := (hSs s.heap C q).2; rw [hCs] at e; cases e
  have hIS : it ∉ Ss := fun q => (hSs s.heap it q).1 rfl
  have Erc := fun e s' => hEr C e s' hCs
  let J : Nat → Shared → Prop := fun k s' => X6 fun i ys ow' h tk m => C7 (k + i = n + 1) (ys.length ≤ i) (i ≤ n) (s' = { s with heap := h, toks := tk }) (Imm s.heap h) (St B H Ss ((C, nsP m) :: (D, listP (List.toArray ys)) :: (it, pr i) :: ow') h) (Φ i ys ow' h)
  have hJ : J (n + 1) { s with heap := h₁, toks := s.toks + ([] : List (Str × Value)).length } := ⟨0, [], ow, h₁, _, _, rfl, Nat.le_refl _, Nat.zero_le _, rfl, im2, S2, mono _ _ _ _ _ im2 start⟩
  have loop : ∀ s₃ : Shared, s₃ = { s with heap := h₁, toks := s.toks + ([] : List (Str × Value)).length } →
      codeAny (model prog w) A (.compLoop (.ListComp elt [⟨target, iter, ifs, 0⟩] scope pos) 0 (.ref it) (.ref D) (compEnvC scope cl C env)) (compPost (model prog w) A E none Q (.ref D) C) s₃ := by
    rintro s₃ rfl
    refine compLoopG J (fun k s' hJk => ?_) (n + 1) hJ
    (refine x6c7 hJk fun i ys ow' h tk m hki hyl hin hq9 im S3 hΦ => ?_; subst hq9; clear hJk)
    have so := hsrc i ys ow' h C D m _ im S3 hΦ
    have hit : ∃ o, h.get? it = some o ∧ pr i o := let ⟨o, e, r, _⟩ := S3.get 2 rfl; ⟨o, e, r⟩
    by_cases hlt : i < n
    · refine I.item i _ _ _ hlt hit so (fun x h' tk' hx hit' hs' => ?_)
      refine e02 (S3.upd (p' := pr (i + 1)) 2 rfl hs' (let ⟨o, e, r⟩ := hit'; ⟨o, e, r, I.nt _ _ r⟩)) fun S4 im4 => ?_
      have t := turn i ys ow' h' tk' C D m x hlt hx (im.tr im4) hCs S4 (mono _ _ _ _ _ im4 hΦ)
      refine wpAny_mono t (fun _ s₁ t => wpAny_mono t (fun _ s₂ t => wpAny_mono t (fun ok s₃ t => ?_) Erc) Erc) Erc
      cases ok with
      | false =>
        (refine x4c4 t fun h'' tk'' m'' ow'' hq4 im5 S5 hΦ5 => ?_; subst hq4; clear t)
        exact ⟨k - 1, by omega, i + 1, ys, ow'', h'', tk'', m'', by lia, by exact Nat.le_succ_of_le (by assumption), by exact hlt, rfl, (im.tr im4).tr im5, S5, hΦ5⟩
      | true =>
        refine wpAny_mono t (fun y s₄ t => ?_) Erc
        (refine x4c4 t fun h'' tk'' m'' ow'' hq4 im5 S5 hΦ5 => ?_; subst hq4; clear t)
        refine wpAny_list_append_plain (S5.plain 1 rfl) (fun h6 hl6 hs6 => ?_) (by rw [List.size_toArray]; have := sizeLine_big; exact Nat.le_trans (Nat.le_trans (Nat.le_trans hyl hin) hn) (Nat.le_of_ble_eq_true rfl))
        refine e02 (S5.setList 1 rfl hs6 hl6) fun S6 im6 => ?_
        refine ⟨k - 1, by omega, i + 1, ys ++ [y], ow'', h6, tk'', m'', by omega, by rw [List.length_append]; simp; simp [*], by exact hlt, rfl, ((im.tr im4).tr im5).tr im6, ?_, mono _ _ _ _ _ im6 hΦ5⟩
        have e : ys.toArray.push y = (ys ++ [y]).toArray := by simp
        (refine (e ..) ▸ ?_); exact S6
    · have hie : i = n := by lia
      subst hie
      refine I.stop _ _ _ hit so (fun h' tk' hs' => ?_)
      try dsimp only
      -- forget the iterator, then the frame
      have S4 := S3.swap
      have S5 : St B H Ss ((it, pr i) :: (D, listP ys.toArray) :: (C, nsP m) :: ow') h := by
        refine ⟨S3.kb, S3.base, fun p hp => S3.own p ?_, fun p hp => S3.new p ?_, ?_, fun c hc => ?_⟩
        try dsimp only
        · simp only [List.mem_cons] at hp ⊢; rcases hp with h | h | h | h <;> simp [h]
        · simp only [List.mem_cons] at hp ⊢; rcases hp with h | h | h | h <;> simp [h]
        · have := S3.nd
          simp only [List.map_cons, List.nodup_cons, List.mem_cons, not_or] at this ⊢
          exact ⟨⟨Ne.symm this.2.1.1, Ne.symm this.1.2.1, this.2.2.1⟩, ⟨Ne.symm this.1.1, this.2.1.2⟩, this.1.2.2, this.2.2.2⟩
        · have := S3.sub c hc
          simp only [List.map_cons, List.mem_cons] at this ⊢
          rcases this with h | h | h | h <;> simp [h]
      refine e02 (S5.lose hIS hs') fun S6 im6 => ?_
      have S7 := S6.swap
      refine ⟨m, S7.ns 0 rfl, fun h8 hs8 => ?_⟩
      refine e02 (S7.lose hCS hs8.extBut) fun S8 im8 => ?_
      exact fin ys ow' h8 tk' D hyl hDn ((im.tr im6).tr im8) S8 (mono _ _ _ _ _ im8 (mono _ _ _ _ _ im6 hΦ))
  exact codeAny_compStart_list (loop _ rfl) (I.again _ _ _ (let ⟨o, e, r, _⟩ := S2.get 2 rfl; ⟨o, e, r⟩) (loop _ rfl))
end
section
variable {prog : Program} {w : World} {A : Around}
theorem funFrames_same {h h' base : Heap} : ∀ {l : List Env}, (∀ b ∈ l.filterMap (·.frame), h'.get? b = h.get? b) → h.FunFrames base l → h'.FunFrames base l
  | [], _, _ => trivial
  | env :: l, k, ⟨a, ⟨L, o, e1, e2, e3, e4⟩, r⟩ => ⟨a, ⟨L, o, e1, e2, (k L (by simp [e1])).trans e3, e4⟩, funFrames_same (fun b hb => k b (by
      rw [List.filterMap_cons, e1]; exact List.mem_cons_of_mem _ hb)) r⟩
theorem compTupR (B H : Heap) (base : Heap) {L : Addr} {outer : List Env} {E : Value → Shared → Prop} {s : Shared} {env : Env} {elt iter target : Expr} {ifs : List Expr} {scope : Scope} {cl : List (Str × Addr)} {pos : Pos} {Q : Value → Shared → Prop} (he : EnvOk env) (hh : A.handled = none)
    (hfr : A.frames = some (env :: outer)) (hfL : env.frame = some L)
    (h : wpAny (model prog w) A (eval iter env) (fun xv s₁ => X4 fun (a : Addr) (xs : List Value) (ow : List (Addr × OP)) (Φ : Nat → List Value → List (Addr × OP) → Heap → Prop) => C11 (xv = .ref a) (IsTup s₁.heap a xs.toArray) (xs.length ≤ 1000) (St B H [] ow s₁.heap) (base.StaysIn s₁.heap) (s₁.heap.FunFrames base (env :: outer)) ((∀ i ys ow' h h', Imm h h' → Φ i ys ow' h → Φ i ys ow' h')) (Φ 0 [] ow s₁.heap) ((∀ (i : Nat) (ys : List Value) (ow' : List (Addr × OP)) (h : Heap) (tk : Nat) (C D it : Addr) (p : OP) (m : Str → Option Value) (x : Value), xs[i]? = some x → Imm s₁.heap h → s₁.heap.get? C = none →
        St B H [] ((C, nsP m) :: (D, listP ys.toArray) :: (it, p) :: ow') h → Φ i ys ow' h →
        wpAny (model prog w) A (letOwnedTupleGo target (.ref it) x) (fun _ s₁' => wpAny (model prog w) A (assign target (compEnvC scope cl C env) x) (fun _ s₂ =>
          ifsWp prog w A ifs (compEnvC scope cl C env) (fun ok s₃ =>
          if ok = true then wpAny (model prog w) A (eval elt (compEnvC scope cl C env)) (fun y s₄ => X4 fun h' tk' m' ow'' => C4 (s₄ = { s₁ with heap := h', toks := tk' }) (Imm h h') (St B H [] ((C, nsP m') :: (D, listP ys.toArray) :: (it, p) :: ow'') h') (Φ (i + 1) (ys ++ [y]) ow'' h'))
            (fun e s' => X4 fun ea h' tk' m' => C5 (e = .ref ea) (s' = { s₁ with heap := h', toks := tk' }) (Fly base (env :: outer) ea h') (H.UpToSlots h') (h'.Ns C m')) s₃
          else X4 fun h' tk' m' ow'' => C4 (s₃ = { s₁ with heap := h', toks := tk' }) (Imm h h') (St B H [] ((C, nsP m') :: (D, listP ys.toArray) :: (it, p) :: ow'') h') (Φ (i + 1) ys ow'' h')) noE s₂) noE s₁') noE
        { s₁ with heap := h, toks := tk })) ((∀ ys ow' h tk D, ys.length ≤ xs.length → s₁.heap.get? D = none → Imm s₁.heap h → St B H [] ((D, listP (List.toArray ys)) :: ow') h → Φ xs.length ys ow' h → Q (.ref D) { s₁ with heap := h, toks := tk })) ((∀ ea h' tk', Fly base (env :: outer) ea h' → H.UpToSlots h' → E (.ref ea) { s₁ with heap := h', toks := tk' }))) E s)
    (hclos : autoParam (closureFor scope env = pure cl) aRfl) (hcell : autoParam (∀ y ∈ scope.names, y.2 ≠ .cell) aDec) (hkind : autoParam (scope.kind = .function) aRfl)
    (hnames : autoParam (∀ y ∈ scope.names, y.2 = .local → scope.names.lookup y.1 = some .local) aDec)
    (hs : autoParam (∀ x, foldedSetIterable iter env x = pure x) aIRfl) :
    wpAny (model prog w) A (eval (.ListComp elt [⟨target, iter, ifs, 0⟩] scope pos) env) Q E s := by
  dsimp only [eval_ListComp]
  refine wpAny_comprehension_free (use := none) rfl hs hclos hkind hnames (wpAny_mono h (fun xv s₁ h₁ => ?_) fun _ _ e => e)
  obtain ⟨a, xs, ow, Φ, rfl, ht, hn, S, hst, hfun, mono, start, turn, fin, hE⟩ := h₁
  refine iter_tuple ht ?_
  try dsimp only
  have hin : s₁.heap.get? s₁.heap.objs.size = none := Heap.get?_none_of_le (Nat.le_refl _)
  have S1 := S.addPush (o := { cls := .type "tuple_iterator", data := .fields #[.ref a, .int 0 0] }) (p := titP a 0) rfl ⟨rfl, rfl⟩ (nt_cls (show (Value.type "tuple_iterator") ≠ Value.type "tuple" by decide))
  have k1 : Kp s₁.heap (s₁.heap.push { cls := .type "tuple_iterator", data := .fields #[.ref a, .int 0 0] }) := Kp.push _ _
  have hCn : ∀ {C : Addr}, (s₁.heap.push { cls := .type "tuple_iterator", data := .fields #[.ref a, .int 0 0] }).get? C = none → s₁.heap.get? C = none := fun {C} hC => by
    cases e : s₁.heap.get? C with
    | none => rfl
    | some o => have := k1 _ _ e; rw [hC] at this; cases this
  refine comp_coreC (s := { s₁ with heap := s₁.heap.push { cls := .type "tuple_iterator", data := .fields #[.ref a, .int 0 0] } }) (fun C e s' => X4 fun ea h' tk' m' => C5 (e = .ref ea) (s' = { s₁ with heap := h', toks := tk' }) (Fly base (env :: outer) ea h') (H.UpToSlots h') (h'.Ns C m')) Φ he (itr_tup hh s₁.heap.objs.size a xs) S1 hn
    (fun _ b hb => nomatch hb) hcell hkind mono (mono _ _ _ _ _ (Imm.kp k1) start) (fun i ys ow' h C D m p im _ _ => im _ _ (ht.keeps k1)) ?_ ?_ ?_
  · intro i ys ow' h tk C D m x hi hx im hC S' hΦ
    refine wpAny_mono (turn i ys ow' h tk C D _ _ m x hx ((Imm.kp k1).tr im) (hCn hC) S' hΦ) (fun _ s1 h1 => wpAny_mono h1 (fun _ s2 h2 => wpAny_mono h2 (fun ok s3 h3 => ?_) fun _ _ x => x.elim) fun _ _ x => x.elim) fun _ _ x => x.elim
    exact h3
  · intro ys ow' h tk D hl hD im S' hΦ
    exact fin ys ow' h tk D hl (hCn hD) ((Imm.kp k1).tr im) S' hΦ
  · intro C e s' hC hpz1; obtain ⟨ea, h', tk', m', rfl, rfl, F, U, hns⟩ := hpz1
    have hC1 := hCn hC
    show wpAny _ _ (noteFrame (.ref ea) env) _ _ _
    refine note_fly hfr hfL F (fun h2 F2 U2 => ⟨m', U2.ns hns, fun h3 hsb cenv hcl => ?_⟩)
    try dsimp only
    have hns2 := U2.ns hns
    have U02 : H.UpToSlots h2 := U.trans U2
    have hCH : H.get? C = none := by
      cases e : H.get? C with
      | none => rfl
      | some o => have := S.kpH _ _ e; rw [hC1] at this; cases this
    have hbC : base.get? C = none := by
      cases e : base.get? C with
      | none => rfl
      | some o => have := hst _ _ e; rw [hC1] at this; cases this
    have notC : ∀ {b o vs}, h2.get? b = some o → o.data = .fields vs → b ≠ C := fun {b o vs} e1 e2 q => by
      subst q
      obtain ⟨o', es, ep, e3, e4, _⟩ := hns2
      rw [e1] at e3; cases e3; rw [e2] at e4; cases e4
    have U03 : H.UpToSlots h3 := fun b o eb hn => by
      refine e11 (U02 b o eb hn) fun sl es => ?_
      exact ⟨sl, (hsb.2 b (fun q => by rw [q, hCH] at eb; cases eb)).trans es⟩
    have F3 : Fly base (env :: outer) ea h3 := by
      refine ⟨fun b o eb => (hsb.2 b (fun q => by rw [q, hbC] at eb; cases eb)).trans (F2.stays b o eb), F2.off, funFrames_same (fun b hb => ?_) F2.frames, ?_⟩
      try dsimp only
      · obtain ⟨_, o, eo, _⟩ := hfun.mem hb
        exact hsb.2 b (fun q => by rw [q, hC1] at eo; cases eo)
      · obtain ⟨a0, fl, oe, vs, T, oT, ts, e1, e2, e3, e4, e5, e6, e7, e8, e9⟩ := F2.tr
        exact ⟨a0, fl, oe, vs, T, oT, ts, (hsb.2 _ (notC e1 e3)).trans e1, e2, e3, e4, e5, e6, (hsb.2 _ (notC e7 e8)).trans e7, e8, e9⟩
    refine passOn_fly F3 (fun h4 F4 u4 => hE ea h4 tk' F4 (U03.trans fun b o eb hn => ⟨o.slots, u4 b o eb hn⟩))
end
theorem plcs_none {tab : Tab} : ∀ {ks : List T}, plcs tab ks = none → ∃ (i : Nat) (k : T), ks[i]? = some k ∧ plc tab k = none
  | [], h => by rw [plcs] at h; cases h
  | k :: ks, h => by
    rw [plcs] at h
    cases hk : plc tab k with
    | none => exact ⟨0, k, rfl, hk⟩
    | some u =>
      rw [hk] at h
      refine e22 (plcs_none (Option.map_eq_none_iff.mp h)) fun i k' h1 h2 => ?_
      exact ⟨i + 1, k', h1, h2⟩
theorem St.funFrames {B H h : Heap} {ow : List (Addr × OP)} {base : Heap} {env : Env} {outer : List Env} {L : Addr} {m : Str → Option Value} (S : St B H [] ow h) (hst : base.StaysIn H) (hfun : H.FunFrames base outer) (hL : H.get? L = none) (hk : env.scope.kind = .function) (hfL : env.frame = some L) (hns : h.Ns L m) :
    base.StaysIn h ∧ h.FunFrames base (env :: outer) := by
  refine ⟨fun b o e => S.kpH _ _ (hst b o e), by rw [hk]; exact fun q => (by cases q), ?_, hfun.of_keeps fun b o e _ => ⟨o, S.kpH _ _ e, rfl⟩⟩
  obtain ⟨o, es, ep, e, hd, _⟩ := hns
  refine ⟨L, o, hfL, ?_, e, fun vs q => by rw [hd] at q; cases q⟩
  cases q : base.get? L with
  | none => rfl
  | some o => have := hst _ _ q; rw [hL] at this; cases this
section
variable {prog : Program} {w : World} {B : Heap}
theorem faultText {A : Around} {E : Value → Shared → Prop} {s : Shared} {env : Env} {e : Expr} {p1 p2 p3 : Pos} {c : Nat} {Q : Value → Shared → Prop}
    (h : wpAny (model prog w) A (eval e env) (fun v s₁ => ∃ (o : Op) (t : Tok), v = .str o.s t ∧ ∀ x t' tk, Q (.str x t') { s₁ with toks := tk }) E s) :
    wpAny (model prog w) A (eval (.JoinedStr [.FormattedValue e (-1) none p1, .Constant (.str " has no term") c p2] p3) env) Q E s := by
  refine wpAny_JoinedStr ?_
  show wpAny _ _ _ _ _ _
  refine wpAny_FormattedValue_plain (wpAny_mono h (fun v s₁ h₁ => ?_) fun _ _ x => x)
  (refine e22 h₁ fun o t hq2 hq => ?_; subst hq2; clear h₁)
  have hol : o.s.length ≤ 10 := by cases o <;> decide +kernel
  have key : ∀ t' tk, ∃ y t'', (Value.str o.s t' : Value) = .str y t'' ∧ (Str.empty ++ y).length ≤ sizeLine ∧ Joins (model prog w) A E (evalEach [.Constant (.str " has no term") c p2] env) (Str.empty ++ y) (fun out s₁ => out.length ≤ sizeLine ∧ Q (.str out s₁.toks) { s₁ with toks := s₁.toks + 1 }) { s₁ with toks := tk } := by
    intro t' tk
    refine ⟨o.s, t', rfl, by cases o <;> decide +kernel, ?_⟩
    show wpAny _ _ _ _ _ _
    refine wpAny_Constant_str ⟨_, _, rfl, by cases o <;> decide +kernel, ?_⟩
    exact ⟨by cases o <;> decide +kernel, hq _ _ _⟩
  exact wpAny_formatField_str (key t s₁.toks) (key s₁.toks (s₁.toks + 1)) (by have := sizeLine_big; exact Nat.le_trans hol (Nat.le_of_ble_eq_true rfl))
set_option maxHeartbeats 1000000 in
theorem placed_raise (W : Wd w B) (PF : ProgOk prog) : ∀ (n : Nat) (t : T) (A : Around) (s : Shared) (R : Result → Shared → Prop) (v tv : Value) (tab : Tab) (base : Heap) (outer : List Env), Wf n t → plc tab t = none → Kp B s.heap → Room A (n + 3) → Rep s.heap t v → TabAt prog w s.heap tab tv →
    A.frames = some outer → base.StaysIn s.heap → s.heap.FunFrames base outer →
    (∀ e h' tk, Fly base outer e h' → s.heap.UpToSlots h' → R (.error (.ref e)) { s with heap := h', toks := tk }) → codeAny (model prog w) A (.call (.ref 84) ⟨[v, tv], []⟩) R s := by
  intro n
  induction n with
  | zero => intro t A s R v tv tab base outer hw; exact hw.elim
  | succ n ih =>
    intro t A s R v tv tab base outer hw hu kb hr hp hT hfr hst hfun hR
    refine enterXr (n := n + 3) (fun L => [("table", L + 1)]) (fun L => [(L, nsP (up nil0 "pattern" v)), (L + 1, cellP (some tv))]) W kb hr (fun L h₁ tk EO hL S => ?_)
    have hfr' : ∀ env : Env, (A.deeper env).frames = some (env :: outer) := fun env => by show A.frames.map (env :: ·) = _; rw [hfr]; rfl
    have hp1 := hp.imm (Imm.kp S.kpH)
    refine wpAny_execs_cons (wpAny_If (wpAny_isTrue_Not (wpAny_isTrue_value (callF W S.kb EO gn_is_variable kf_is_variable (nameL EO (S.ns 0 rfl) rfl ⟨S.kb, is_variable_spec W (n := n) S.kb (hr.deeper.mono (by simp)) hp1 hw (fun h2 tk2 (k2 : Kp h₁ h2) => ?_)⟩)))))
    refine wpAny_truthy_bool ?_
    have S2 := S.kp k2
    obtain ⟨op, ks⟩ := t
    have hp2 := hp1.imm (Imm.kp k2)
    (refine x3c3 (Rep.iff.mp hp2) fun a tk0 vs hq3 ht hks => ?_; subst hq3)
    have hlen : (Value.str op.s tk0 :: vs).length = ks.length + 1 := by rw [List.length_cons, hks.length]
    have hk9 : ks.length ≤ 9 := hw.1
    have hvl : vs.length = ks.length := hks.length
    have hL1 : 1 ≤ (Value.str op.s tk0 :: vs).length := by rw [hlen]; exact Nat.le_add_left _ _
    have hLs : (Value.str op.s tk0 :: vs).length ≤ sizeLine := by have := sizeLine_big; lia
    have hT2 : TabAt prog w h2 tab tv := hT.kp S2.kpH
    have hv : T.isVar (.nd op ks) = (ks.isEmpty && op.isQ) := rfl
    dsimp only
    cases hb : T.isVar (.nd op ks) with
    | true =>
      refine ifF rfl ?_
      rw [hv] at hb
      have hl : tab.lookup op = none := by rw [plc, hb] at hu; exact hu
      refine wpAny_execs_nil ?_
      refine wpAny_execs_cons (wpAny_If (wpAny_isTrue_Compare1 (sub_tup (nameL EO (S2.ns 0 rfl) rfl ⟨_, _, 0, _, rfl, ht, seq0 _, rfl, nameC EO (S2.cell 1 rfl) (notIn_tab hT2 (fun tk => wpAny_truthy_bool ?_))⟩))))
      try dsimp only
      refine ifT (by rw [hl]; rfl) ?_
      try dsimp only
      refine wpAny_execs_cons (raise_fault W PF (n := n + 2) EO S2.kb hr.deeper (faultText (sub_tup (nameL EO (S2.ns 0 rfl) rfl ⟨_, _, 0, _, rfl, ht, seq0 _, rfl, ⟨op, tk0, rfl, fun x t' tk => ⟨x, t', rfl, S2.kb, fun h3 tk3 e dx t1 (k3 : Kp h2 h3) hen he => ?_⟩⟩⟩))))
      try dsimp only
      have S3 := S2.kp k3
      refine e02 (S3.funFrames (env := envX (Str.ofString "placed") _ L 84 _ [("table", L + 1)]) hst hfun hL EO.fk rfl (S3.ns 0 rfl)) fun st3 ff3 => ?_
      have hbe : base.get? e = none := by
        cases q : base.get? e with
        | none => rfl
        | some o => have := S2.kpH _ _ (hst _ _ q); have h' : h2.get? e = none := hen; rw [h'] at this; cases this
      exact leave_first (hfr' _) rfl ff3 st3 hbe he (fun h4 F4 U4 => hR e h4 _ F4 ((Heap.UpToSlots.of_keeps S3.kpH).trans U4))
    | false =>
      refine ifT rfl ?_
      try dsimp only
      rw [hv] at hb
      rw [plc, hb] at hu
      have hu' : plcs tab ks = none := Option.map_eq_none_iff.mp hu
      refine e22 (plcs_none hu') fun i0 k0 hk0 hpl0 => ?_
      refine wpAny_execs_cons (wpAny_Return_some (wpAny_BinOp (tup1 (sub_tup (nameL EO (S2.ns 0 rfl) rfl ⟨_, _, 0, _, rfl, ht, seq0 _, rfl, ?_⟩)))))
      try dsimp only
      intro h3 c3 (k3 : Kp h2 h3) ht3
      have S3 := S2.kp k3
      refine callB W S3.kb EO bn_tuple rfl ?_
      try dsimp only
      refine compTupR B s.heap base (L := L) (outer := outer) EO hr.hh (hfr' _) rfl (sub_from (nameL EO (S3.ns 0 rfl) rfl (wpAny_Constant_int ⟨a, Value.str op.s tk0 :: vs, 1, _, rfl, rfl, ht.keeps k3, Nat.le_refl _, hL1, hLs, fun h4 d tk (k4 : Kp h3 h4) hd => ?_⟩)))
      try dsimp only
      have S4 := S3.kp k4
      have hks4 : RepL h4 ks vs := hks.imm (Imm.kp (k3.tr k4))
      refine e02 (S4.funFrames (env := envX (Str.ofString "placed") _ L 84 _ [("table", L + 1)]) hst hfun hL EO.fk rfl (S4.ns 0 rfl)) fun st4 ff4 => ?_
      refine ⟨d, vs, _, fun i ys ow h => ow = [(L, nsP (up nil0 "pattern" (.ref a))), (L + 1, cellP (some tv))] ∧ ∀ j k, j < i → ks[j]? = some k → plc tab k ≠ none, rfl, by simpa using hd, by exact Nat.le_trans (Nat.le_trans (Nat.le_of_eq hvl) hk9) (Nat.le_of_ble_eq_true rfl), S4, st4, ff4, fun _ _ _ _ _ _ x => x, ⟨rfl, fun j k hj => absurd hj (Nat.not_lt_zero _)⟩, ?_, ?_, ?_⟩
      try dsimp only
      · rintro i ys ow h tk C D it p m x hx im hC S5 ⟨rfl, hno⟩
        refine e12 (hks4.at hx) fun k hk hxk => ?_
        have hxk5 := hxk.imm im
        refine wpAny_pure (wpAny_assign_Name (storeL ⟨EO.gl, EO.bi, rfl⟩ (S5.ns 0 rfl) (fun h6 hn6 hs6 => ?_)))
        try dsimp only
        refine e02 (S5.setNs 0 rfl hs6 hn6) fun S6 im6 => ?_
        try dsimp only [List.set_cons_zero, List.set_cons_succ] at S6
        refine wpAny_tests_nil (ifT rfl ?_)
        refine callF W S6.kb ⟨EO.gl, EO.bi, rfl⟩ gn_placed kf_placed (nameL ⟨EO.gl, EO.bi, rfl⟩ (S6.ns 0 rfl) rfl (nameC ⟨EO.gl, EO.bi, rfl⟩ (S6.cell 4 rfl) ⟨S6.kb, ?_⟩))
        cases hpk : plc tab k with
        | some u =>
          refine placed_ok W n k u _ _ _ _ _ tab (hw.2 k (List.mem_of_getElem? hk)) hpk S6.kb hr.deeper (hxk5.imm im6) (hT.kp S6.kpH) (fun r h7 tk7 (k7 : Kp h6 h7) hrep => ?_)
          refine ⟨h7, tk7, _, _, rfl, im6.tr (Imm.kp k7), S6.kp k7, rfl, fun j k' hj hk' => ?_⟩
          by_cases hji : j = i
          · subst hji; rw [hk] at hk'; cases hk'; rw [hpk]; exact fun q => by cases q
          · exact hno j k' (by lia) hk'
        | none =>
          refine e02 (S6.funFrames (env := envX (Str.ofString "placed") _ L 84 _ [("table", L + 1)]) hst hfun hL EO.fk rfl (S6.ns 3 rfl)) fun st6 ff6 => ?_
          refine ih k _ _ _ _ _ tab base _ (hw.2 k (List.mem_of_getElem? hk)) hpk S6.kb hr.deeper (hxk5.imm im6) (hT.kp S6.kpH) (hfr' _) st6 ff6 (fun e h7 tk7 F7 U7 => ?_)
          refine ⟨e, h7, tk7, _, rfl, rfl, F7, ?_, U7.ns (S6.ns 0 rfl)⟩
          exact (Heap.UpToSlots.of_keeps S6.kpH).trans U7
      · rintro ys ow h tk D hyl hD im S5 ⟨rfl, hno⟩
        exact absurd hpl0 (hno i0 k0 (by have := (List.getElem?_eq_some_iff.mp hk0).1; exact Nat.lt_of_lt_of_le this (Nat.le_of_eq hvl.symm)) hk0)
      · intro ea h' tk' F U
        refine leave_fly (hfr' _) rfl F (fun h5 F5 U5 => hR ea h5 _ F5 (U.trans U5))
end
section
variable {prog : Program} {w : World} {A : Around} {E : Value → Shared → Prop} {s : Shared} {env : Env} {B : Heap}
theorem match_fault (W : Wd w B) {e : Addr} {oe : Obj} {Q : Bool → Shared → Prop} (kb : Kp B s.heap) (he : s.heap.get? e = some oe) (hc : oe.cls = .ref 60) (hq : Q true s) : wpAny (model prog w) A (excMatches (.ref e) (.ref 60)) Q E s := by
  refine x13c1 (fault_cls w) fun nm q bs sn sub ab col dd k0 k1 k2 k3 k5 hC0 => ?_
  obtain ⟨hp, g, d, tk, os⟩ := s
  exact wpAny_excMatches_sub_self (kb _ _ (W.kin _ _ hC0)) he hc (by decide) hq
theorem handle_fault (W : Wd w B) {e : Addr} {base : Heap} {l : List Env} {np pos : Pos} {b₀ : Stmt} {suite : List Stmt} {rest : List ExceptHandler} {Q : Flow → Shared → Prop} (EO : EnvOk env) (kb : Kp B s.heap) (F : Fly base l e s.heap)
    (h : ∀ h', Fly base l e h' → (∀ b o, s.heap.get? b = some o → (∀ vs, o.data ≠ .fields vs) → h'.get? b = some o) → wpAny (model prog w) (A.mark (some (.ref e))) (execs (b₀ :: suite) env) Q (notedBy (model prog w) (A.mark (some (.ref e))) env (cameBackBy (model prog w) A env E)) { s with heap := h' })
    (hx : autoParam (env.kindOf "TermFault" = some .globalImplicit) aRfl) :
    wpAny (model prog w) A (handleBy (.ref e) env (.ExceptHandler (some (.Name "TermFault" np)) none (b₀ :: suite) pos :: rest)) Q E s := by
  refine e12 F.there fun ob hob hoc => ?_
  refine wpAny_handleBy_cons (codeAny_handlers_test (nameG W kb EO gn_TermFault (match_fault W kb hob hoc ?_) hx)) (by intro q; cases q)
  dsimp only
  rw [if_pos rfl]
  refine codeAny_handlers_suite (set_fly F fun h' F' u => ?_)
  exact wpAny_mono (h h' F' u) (fun f s2 h2 => h2) fun _ _ x => x
end
section
variable {prog : Program} {w : World} {B : Heap}
set_option maxHeartbeats 1000000 in
theorem refused_spec (W : Wd w B) (PF : ProgOk prog) {n : Nat} {t : T} {A : Around} {s : Shared} {R : Result → Shared → Prop} {v tv : Value} {tab : Tab} {base : Heap} {outer : List Env} (hw : Wf n t) (kb : Kp B s.heap) (hr : Room A (n + 4)) (hp : Rep s.heap t v) (hT : TabAt prog w s.heap tab tv)
    (hfr : A.frames = some outer) (hst : base.StaysIn s.heap) (hfun : s.heap.FunFrames base outer) (hBb : Kp B base)
    (hno : ∀ h' tk u, plc tab t = some u → Kp s.heap h' → R (.ok (.ret (.bool false))) { s with heap := h', toks := tk })
    (hyes : ∀ h' tk, plc tab t = none → base.StaysIn h' → s.heap.UpToSlots h' → R (.ok (.ret (.bool true))) { s with heap := h', toks := tk }) :
    codeAny (model prog w) A (.call (.ref 255) ⟨[v, tv], []⟩) R s := by
  refine enterXr (n := n + 3) (fun L => []) (fun L => [(L, nsP (up (up nil0 "pattern" v) "table" tv))]) W kb hr (fun L h₁ tk EO hL S => ?_)
  have hfr' : ∀ env : Env, (A.deeper env).frames = some (env :: outer) := fun env => by show A.frames.map (env :: ·) = _; rw [hfr]; rfl
  have hbL : base.get? L = none := by
    cases q : base.get? L with
    | none => rfl
    | some o => have := hst _ _ q; rw [hL] at this; cases this
  refine wpAny_execs_cons (wpAny_Assign_Name (wpAny_Constant_bool (S.storeL 0 rfl EO (fun h2 S2 im2 => ?_))))
  try dsimp only [List.set_cons_zero, List.set_cons_succ] at S2
  have hp2 : Rep h2 t v := hp.imm (Imm.kp S2.kpH)
  have hT2 : TabAt prog w h2 tab tv := hT.kp S2.kpH
  dsimp only
  refine wpAny_execs_cons (wpAny_Try_except ?_)
  refine wpAny_execs_cons (wpAny_Expr_any (callF W S2.kb EO gn_placed kf_placed (nameL EO (S2.ns 0 rfl) rfl (nameL EO (S2.ns 0 rfl) rfl ⟨S2.kb, ?_⟩))))
  cases hpl : plc tab t with
  | some u =>
    refine placed_ok W n t u _ _ _ _ _ tab hw hpl S2.kb hr.deeper hp2 hT2 (fun r h3 tk3 (k3 : Kp h2 h3) hrep => ?_)
    have S3 := S2.kp k3
    refine wpAny_execs_nil (wpAny_execs_nil (wpAny_execs_cons (wpAny_Return_some (nameL EO (S3.ns 0 rfl) rfl ?_))))
    exact hno _ _ u hpl S3.kpH
  | none =>
    refine e02 (S2.funFrames (env := envX (Str.ofString "_law_is_refused") _ L 255 _ []) hst hfun hL EO.fk rfl (S2.ns 0 rfl)) fun st2 ff2 => ?_
    refine placed_raise W PF n t _ _ _ _ _ tab base _ hw hpl S2.kb hr.deeper hp2 hT2 (hfr' _) st2 ff2 (fun e h3 tk3 F3 U3 => ?_)
    show wpAny _ _ (noteFrame _ _) _ _ _
    refine note_fly (hfr' _) rfl F3 (fun h4 F4 U4 => set_fly F4 (fun h5 F5 u5 => ?_))
    have U5 : h2.UpToSlots h5 := (U3.trans U4).trans fun b o eb hn => ⟨o.slots, u5 b o eb hn⟩
    refine handle_fault W EO (hBb.tr F5.stays) F5 (fun h6 F6 u6 => ?_)
    have U6 : h2.UpToSlots h6 := U5.trans fun b o eb hn => ⟨o.slots, u6 b o eb hn⟩
    refine wpAny_execs_cons (wpAny_Assign_Name (wpAny_Constant_bool (storeL EO (U6.ns (S2.ns 0 rfl)) (fun h7 hn7 hs7 => ?_))))
    refine wpAny_execs_nil (wpAny_execs_cons (wpAny_Return_some (nameL EO hn7 rfl ?_)))
    refine hyes _ _ hpl (fun b o eb => hs7.extBut b o (fun q => by
      have q' : b = L := q
      rw [q', hbL] at eb; cases eb) (F6.stays b o eb)) (fun b o eb hn => ?_)
    refine e11 (((Heap.UpToSlots.of_keeps S2.kpH).trans U6) b o eb hn) fun sl es => ?_
    exact ⟨sl, hs7.extBut b _ (fun q => by
      have q' : b = L := q
      rw [q', hL] at eb; cases eb) es⟩
end
/-- the keys of a table, each once -/
noncomputable def Tab.nd (tab : Tab) : Prop := (tab.map (·.1)).Nodup
theorem lookup_of_mem {o : Op} {t : T} : ∀ {tab : Tab}, (tab.map (·.1)).Nodup → (o, t) ∈ tab → tab.lookup o = some t
  | [], _, h => nomatch h
  | (p, u) :: r, nd, h => by
    dsimp only [List.lookup_cons]
    rw [List.map_cons, List.nodup_cons] at nd
    rcases List.mem_cons.mp h with h | h
    · cases h; simp
    · have hne : o ≠ p := fun q => nd.1 (List.mem_map.mpr ⟨(o, t), h, q⟩)
      have hb : (o == p) = false := by rw [beq_eq_false_iff_ne]; exact hne
      simp only [hb]
      exact lookup_of_mem nd.2 h
section
variable {prog : Program} {w : World} {A : Around} {E : Value → Shared → Prop} {s : Shared} {Q : Value → Shared → Prop}
theorem rows_hits {n : Nat} {tab' : Tab} {kb : List (Str × Value)} (hb : Rows s.heap tab' kb) (hn : n ≤ 60) (hu : A.in1.units + 64 < cLine) :
    ∀ (l : Tab) (ka : List (Str × Value)), Rows s.heap l ka → (∀ x ∈ l, Wf n x.2) → (∀ x ∈ l, tab'.lookup x.1 = some x.2) → KeqHits A.in1 s kb ka true
  | [], [], _, _, _ => .nil
  | [], _ :: _, h, _, _ => h.elim
  | _ :: _, [], h, _, _ => h.elim
  | (o, t) :: r, (x, v) :: r', ⟨e1, hv, hr⟩, hw, hl => by
    refine e12 (hb.some (hl (o, t) (.head _))) fun v' hv' hrep' => ?_
    subst e1
    refine e11 hv.reads fun as ra => ?_
    refine e11 (Rep.reads (t := t) hrep') fun bs rb => ?_
    have wt : t.py.canLay0 = true ∧ t.py.depth ≤ n + 1 := wf_lay n t (hw (o, t) (.head _))
    have sh : SeqAt.shaped t.py = true := by unfold SeqAt.shaped; rw [wt.1, Bool.true_and]; exact decide_eq_true (by have := wt.2; lia)
    have h1 := keq_at (A := A) (s := s) ra rb sh sh hu
    have h2 : PyData.eqv t.py t.py = true := (py_eqv t t).mpr rfl
    rw [h2] at h1
    exact KeqHits.hit (e := true) (b := true) hv' h1 (rows_hits hb hn hu r r' hr (fun y hy => hw y (.tail _ hy)) (fun y hy => hl y (.tail _ hy)))
theorem ne_tabs {n : Nat} {tab tab' : Tab} {v v' : Value} (x : Mine.TabAt prog w s.heap tab v) (y : Mine.TabAt prog w s.heap tab' v') (hl : tab.length = tab'.length) (hsame : ∀ z ∈ tab, tab'.lookup z.1 = some z.2) (hw : ∀ z ∈ tab, Wf n z.2) (hn : n ≤ 60) (hu : A.in1.units + 64 < cLine)
    (h : Q (.bool false) s) : wpAny (model prog w) A (compareOp .NotEq v v') Q E s := by
  obtain ⟨d, kvs, rfl, m, hd, hr⟩ := x
  obtain ⟨d', kvs', rfl, m', hd', hr'⟩ := y
  have hl' : kvs.length = kvs'.length := by rw [hr.length, hr'.length, hl]
  refine keq_ne (r := true) m m' hd hd' (by have : A.in1.units = A.units + 1 := rfl; lia) (fun _ => rows_hits hr' hn hu tab kvs hr hw hsame) ?_
  rw [hl']; simpa using h
theorem eqvAll_refl : ∀ nms : List Op, PyData.eqvAll (nms.map fun o => PyData.str o.s) (nms.map fun o => PyData.str o.s) = true
  | [] => rfl
  | o :: r => by
    rw [List.map_cons, PyData.eqvAll, eqvAll_refl r, Bool.and_true, PyData.eqv]
    exact beq_self_eq_true _
theorem strs_lay : ∀ nms : List Op, PyData.canLayAll0 (nms.map fun o => PyData.str o.s) = true ∧ PyData.depthAll (nms.map fun o => PyData.str o.s) ≤ 1
  | [] => by simp [PyData.canLayAll0, PyData.depthAll]
  | o :: r => by
    have h2 := strs_lay r
    have so : (PyData.str o.s).canLay0 = true := by cases o <;> decide +kernel
    have sd : (PyData.str o.s).depth ≤ 1 := by cases o <;> decide +kernel
    simp only [List.map_cons, PyData.canLayAll0, PyData.depthAll, so, h2.1, Bool.and_self, true_and]
    have := h2.2
    assumption
theorem ne_strs {a b : Addr} {vs us : List Value} {nms : List Op} (hl : s.heap.IsList a vs.toArray) (hi : StrsAre vs (nms.map Op.s)) (hl' : s.heap.IsList b us.toArray) (hi' : StrsAre us (nms.map Op.s)) (hu : A.units + 64 < cLine)
    (h : Q (.bool false) s) : wpAny (model prog w) A (compareOp .NotEq (.ref a) (.ref b)) Q E s := by
  obtain ⟨o, ho, hc, k, hd⟩ := hl
  obtain ⟨o', ho', hc', k', hd'⟩ := hl'
  have e : (nms.map Op.s).map PyData.str = nms.map fun o => PyData.str o.s := by rw [List.map_map]; rfl
  have r1 : Reads s.heap (.ref a) (.list (nms.map fun o => PyData.str o.s)) _ := reads_list_at ho hc hd (by simpa [e] using hi.reads s.heap)
  have r2 : Reads s.heap (.ref b) (.list (nms.map fun o => PyData.str o.s)) _ := reads_list_at ho' hc' hd' (by simpa [e] using hi'.reads s.heap)
  have l := strs_lay nms
  have sh : SeqAt.shaped (.list (nms.map fun o => PyData.str o.s)) = true := by
    unfold SeqAt.shaped
    rw [show (PyData.list (nms.map fun o => PyData.str o.s)).canLay0 = true from by dsimp only [PyData.canLay0]; exact l.1, Bool.true_and]
    refine decide_eq_true ?_
    dsimp only [PyData.depth]
    have := l.2
    exact Nat.lt_of_le_of_lt (by assumption) (Nat.le_of_ble_eq_true rfl)
  refine ne_dataH r1 r2 sh sh hu ?_
  rw [show PyData.eqv (.list (nms.map fun o => PyData.str o.s)) (.list (nms.map fun o => PyData.str o.s)) = true from by dsimp only [PyData.eqv]; exact eqvAll_refl nms]
  exact h
theorem ne_none (h : Q (.bool false) s) (hu : A.units + 64 < cLine) : wpAny (model prog w) A (compareOp .NotEq .none .none) Q E s := by
  refine ne_dataH Reads.none Reads.none (by decide) (by decide) hu ?_
  exact h
end
/-- the variables of a pattern are leaves -/
noncomputable def PatQ (p : T) : Prop := ∀ u ∈ subs p, u.op.isQ = true → u.kids = []
theorem PatQ.kid {o : Op} {ks : List T} {k : T} (h : PatQ (.nd o ks)) (hk : k ∈ ks) : PatQ k := fun u hu => h u (subs_nd.mpr (.inr ⟨k, hk, hu⟩))
theorem PatQ.self {o : Op} {ks : List T} (h : PatQ (.nd o ks)) (hq : o.isQ = true) : ks = [] := h _ (subs_self _) hq
theorem isVar_iff {o : Op} {ks : List T} : T.isVar (.nd o ks) = true ↔ ks = [] ∧ o.isQ = true := by
  unfold T.isVar
  rw [Bool.and_eq_true, List.isEmpty_iff]
theorem lput_congr {t1 t2 : Tab} : ∀ p : T, (∀ u ∈ subs p, t1.lookup u.op = t2.lookup u.op) → lput t1 p = lput t2 p :=
  ind2 (fun o ks ih h => by
    have e0 : t1.lookup o = t2.lookup o := h _ (subs_self _)
    rw [lput, lput, e0]
    cases t2.lookup o with
    | some u => rfl
    | none =>
      dsimp only
      rw [lputs_map, lputs_map]
      congr 1
      exact List.map_congr_left fun k hk => ih k hk fun u hu => h u (subs_nd.mpr (.inr ⟨k, hk, hu⟩)))
theorem plcs_some {tab : Tab} {g : T → T} : ∀ {ks : List T}, (∀ k ∈ ks, plc tab k = some (g k)) → plcs tab ks = some (ks.map g)
  | [], _ => by dsimp only [plcs]; rfl
  | k :: ks, h => by
    rw [plcs, h k (.head _)]
    dsimp only
    rw [plcs_some fun k' hk => h k' (.tail _ hk)]
    rfl
/-- placed with a table that has the pattern's variables -/
theorem plc_put {tab t0 : Tab} : ∀ p : T, PatQ p → (∀ u ∈ subs p, u.op.isQ = true → tab.lookup u.op = t0.lookup u.op ∧ t0.lookup u.op ≠ none) → (∀ u ∈ subs p, u.op.isQ = false → t0.lookup u.op = none) → plc tab p = some (lput t0 p) :=
  ind2 (fun o ks ih hp h1 h2 => by
    cases hq : o.isQ with
    | true =>
      have hk := hp.self hq
      subst hk
      refine e02 (h1 _ (subs_self _) hq) fun e hn => ?_
      rw [plc, if_pos (by rw [hq]; rfl), lput]
      have e' : tab.lookup o = t0.lookup o := e
      rw [e']
      have hn' : t0.lookup o ≠ none := hn
      cases hl : t0.lookup o with
      | none => exact absurd hl hn'
      | some v => rfl
    | false =>
      have hn : t0.lookup o = none := h2 _ (subs_self _) hq
      rw [plc, if_neg (by rw [hq, Bool.and_false]; decide), lput, hn]
      dsimp only
      rw [lputs_map, plcs_some (g := lput t0) fun k hk => ih k hk (hp.kid hk) (fun u hu => h1 u (subs_nd.mpr (.inr ⟨k, hk, hu⟩))) (fun u hu => h2 u (subs_nd.mpr (.inr ⟨k, hk, hu⟩)))]
      rfl)
theorem plcs_isNone {tab : Tab} : ∀ {ks : List T}, plcs tab ks = none ↔ ∃ k ∈ ks, plc tab k = none
  | [] => by dsimp only [plcs]; simp
  | k :: ks => by
    dsimp only [plcs]
    cases hk : plc tab k with
    | none => simp [hk]
    | some u =>
      dsimp only
      rw [Option.map_eq_none_iff, plcs_isNone]
      simp [hk]
/-- placed is refused just where a variable of the pattern has no term -/
theorem plc_none_iff {tab : Tab} : ∀ p : T, PatQ p → (plc tab p = none ↔ ∃ u ∈ subs p, u.op.isQ = true ∧ tab.lookup u.op = none) :=
  ind2 (fun o ks ih hp => by
    cases hq : o.isQ with
    | true =>
      have hk := hp.self hq
      subst hk
      rw [plc, if_pos (by rw [hq]; rfl)]
      constructor
      · intro h; exact ⟨_, subs_self _, hq, h⟩
      · intro hpz1; (refine e13 hpz1 fun u hu h1 h2 => ?_; clear hpz1)
        rcases subs_nd.mp hu with rfl | ⟨k, hk, _⟩
        · exact h2
        · nomatch hk
    | false =>
      rw [plc, if_neg (by rw [hq, Bool.and_false]; decide), Option.map_eq_none_iff, plcs_isNone]
      constructor
      · intro hpz2; (refine e12 hpz2 fun k hk h => ?_; clear hpz2)
        refine e13 ((ih k hk (hp.kid hk)).mp h) fun u hu h1 h2 => ?_
        exact ⟨u, subs_nd.mpr (.inr ⟨k, hk, hu⟩), h1, h2⟩
      · intro hpz3; (refine e13 hpz3 fun u hu h1 h2 => ?_; clear hpz3)
        rcases subs_nd.mp hu with rfl | ⟨k, hk, hu⟩
        · exact absurd h1 (by show ¬ o.isQ = true; rw [hq]; decide)
        · exact ⟨k, hk, (ih k hk (hp.kid hk)).mpr ⟨u, hu, h1, h2⟩⟩)

/-! ### matched -/
theorem lookup_snoc {tab : Tab} {o p : Op} {u v : T} (h : tab.lookup o = none) : (tab ++ [(o, u)]).lookup p = some v ↔ tab.lookup p = some v ∨ (p = o ∧ v = u) := by
  induction tab with
  | nil =>
    dsimp only [List.nil_append, List.lookup_cons]
    by_cases hp : p = o
    · subst hp; simp [eq_comm]
    · have hb : (p == o) = false := by rw [beq_eq_false_iff_ne]; exact hp
      simp [hb, hp]
  | cons x r ih =>
    obtain ⟨o', t'⟩ := x
    rw [List.lookup_cons] at h
    have ho : o ≠ o' := by
      rintro rfl
      simp at h
    have hb : (o == o') = false := by rw [beq_eq_false_iff_ne]; exact ho
    simp only [hb] at h
    dsimp only [List.cons_append, List.lookup_cons, List.lookup_cons]
    by_cases hp : p = o'
    · subst hp
      (rw [beq_self_eq_true]; dsimp only)
      exact ⟨.inl, fun q => q.elim id fun ⟨e, _⟩ => absurd e.symm ho⟩
    · have hb2 : (p == o') = false := by rw [beq_eq_false_iff_ne]; exact hp
      (rw [hb2]; dsimp only)
      exact ih h
theorem lookup_none_not_mem {tab : Tab} {o : Op} (h : tab.lookup o = none) : o ∉ tab.map (·.1) := by
  induction tab with
  | nil => simp
  | cons x r ih =>
    obtain ⟨o', t'⟩ := x
    rw [List.lookup_cons] at h
    have ho : o ≠ o' := by
      rintro rfl
      simp at h
    have hb : (o == o') = false := by rw [beq_eq_false_iff_ne]; exact ho
    simp only [hb] at h
    rw [List.map_cons, List.mem_cons]
    rintro (q | q)
    · exact ho q
    · exact ih h q
structure MOut (acc tab : Tab) (st : List (T × T)) : Prop where
  ext : ∀ o v, acc.lookup o = some v → tab.lookup o = some v
  sol : ∀ x ∈ st, lput tab x.1 = x.2
  q : ∀ x ∈ tab, x.1.isQ = true
  nd : (tab.map (·.1)).Nodup
  from_ : ∀ x ∈ tab, x ∈ acc ∨ ∃ y ∈ st, (∃ z ∈ subs y.1, z.op = x.1) ∧ x.2 ∈ subs y.2
  vars : ∀ y ∈ st, ∀ z ∈ subs y.1, z.op.isQ = true → tab.lookup z.op ≠ none
theorem lput_at {tab : Tab} {o : Op} {v : T} (h : tab.lookup o = some v) (ks : List T) : lput tab (.nd o ks) = v := by rw [lput, h]
theorem lput_off {tab : Tab} {o : Op} (h : tab.lookup o = none) (ks : List T) : lput tab (.nd o ks) = .nd o (ks.map (lput tab)) := by rw [lput, h, lputs_map]
theorem q_none {tab : Tab} (hq : ∀ x ∈ tab, x.1.isQ = true) {o : Op} (ho : o.isQ = false) : tab.lookup o = none := by
  cases h : tab.lookup o with
  | none => rfl
  | some v => have := hq _ (lookup_mem h); simp only at this; rw [ho] at this; cases this
theorem zip_map {α β : Type} {f : α → β} : ∀ {xs : List α} {ys : List β}, xs.length = ys.length → (∀ z ∈ xs.zip ys, f z.1 = z.2) → xs.map f = ys
  | [], [], _, _ => rfl
  | [], _ :: _, e, _ => by simp at e
  | _ :: _, [], e, _ => by simp at e
  | x :: xs, y :: ys, e, h => by
    rw [List.map_cons, h (x, y) (by simp), zip_map (by simpa using e) fun z hz => h z (by simp [hz])]
theorem mem_zip_kids {α β : Type} {xs : List α} {ys : List β} {z : α × β} (h : z ∈ xs.zip ys) : z.1 ∈ xs ∧ z.2 ∈ ys := List.of_mem_zip h
/-- what matched gives back places the pattern -/
theorem mrun_sound : ∀ (n : Nat) (acc : Tab) (st : List (T × T)) (tab : Tab), mrun n acc st = some tab → (∀ y ∈ st, PatQ y.1) → (∀ x ∈ acc, x.1.isQ = true) → (acc.map (·.1)).Nodup → MOut acc tab st := by
  intro n
  induction n with
  | zero =>
    intro acc st tab h hp hq hn
    cases st with
    | nil => rw [mrun_nil] at h; cases h; exact ⟨fun _ _ e => e, (fun x hx => nomatch hx), hq, hn, fun x hx => .inl hx, (fun y hy => nomatch hy)⟩
    | cons x st => rw [mrun] at h; cases h
  | succ n ih =>
    intro acc st tab h hp hq hn
    cases st with
    | nil => rw [mrun_nil] at h; cases h; exact ⟨fun _ _ e => e, (fun x hx => nomatch hx), hq, hn, fun x hx => .inl hx, (fun y hy => nomatch hy)⟩
    | cons x st =>
      obtain ⟨hpz4, u⟩ := x; obtain ⟨o, ks⟩ := hpz4
      have hp0 : PatQ (.nd o ks) := hp _ (.head _)
      have hp1 : ∀ y ∈ st, PatQ y.1 := fun y hy => hp y (.tail _ hy)
      cases hv : T.isVar (.nd o ks) with
      | true =>
        (refine e02 (isVar_iff.mp hv) fun hq0 ho => ?_; subst hq0)
        have one : ∀ z ∈ subs (T.nd o []), z = T.nd o [] := fun z hz => by
          rcases subs_nd.mp hz with e | ⟨k, hk, _⟩
          · exact e
          · nomatch hk
        cases hl : acc.lookup o with
        | some v =>
          by_cases hvu : v = u
          · rw [mrun_there hv hl hvu] at h
            have M := ih acc st tab h hp1 hq hn
            have ho' : tab.lookup o = some u := by rw [← hvu]; exact M.ext o v hl
            refine ⟨M.ext, fun y hy => ?_, M.q, M.nd, fun y hy => (M.from_ y hy).imp id fun ⟨z, hz, r⟩ => ⟨z, .tail _ hz, r⟩, fun y hy z hz hzq => ?_⟩
            · rcases List.mem_cons.mp hy with rfl | hy
              · exact lput_at ho' []
              · exact M.sol y hy
            · rcases List.mem_cons.mp hy with rfl | hy
              · rw [one z hz]; show tab.lookup o ≠ none; rw [ho']; exact fun q => by cases q
              · exact M.vars y hy z hz hzq
          · rw [mrun_other hv hl hvu] at h; cases h
        | none =>
          rw [mrun_new hv hl] at h
          have M := ih (acc ++ [(o, u)]) st tab h hp1 (fun x hx => by
            rcases List.mem_append.mp hx with hx | hx
            · exact hq x hx
            · rw [List.mem_singleton.mp hx]; exact ho) (by
            rw [List.map_append]
            exact List.nodup_append.mpr ⟨hn, by simp, fun a ha b hb => by simp at hb; subst hb; rintro rfl; exact lookup_none_not_mem hl ha⟩)
          have ho' : tab.lookup o = some u := M.ext o u ((lookup_snoc hl).mpr (.inr ⟨rfl, rfl⟩))
          refine ⟨fun p v e => M.ext p v ((lookup_snoc hl).mpr (.inl e)), fun y hy => ?_, M.q, M.nd, fun y hy => ?_, fun y hy z hz hzq => ?_⟩
          · rcases List.mem_cons.mp hy with rfl | hy
            · exact lput_at ho' []
            · exact M.sol y hy
          · rcases M.from_ y hy with h1 | ⟨z, hz, r⟩
            · rcases List.mem_append.mp h1 with h1 | h1
              · exact .inl h1
              · rw [List.mem_singleton.mp h1]
                exact .inr ⟨_, .head _, ⟨_, subs_self _, rfl⟩, subs_self _⟩
            · exact .inr ⟨z, .tail _ hz, r⟩
          · rcases List.mem_cons.mp hy with rfl | hy
            · rw [one z hz]; show tab.lookup o ≠ none; rw [ho']; exact fun q => by cases q
            · exact M.vars y hy z hz hzq
      | false =>
        have ho : o.isQ = false := by
          cases hq' : o.isQ with
          | false => rfl
          | true => rw [isVar_iff.mpr ⟨hp0.self hq', hq'⟩] at hv; cases hv
        by_cases hk : o = u.op ∧ ks.length = u.kids.length
        · rw [mrun_kids hv hk] at h
          have hmem : ∀ y, y ∈ (ks.zip u.kids).reverse ++ st ↔ y ∈ ks.zip u.kids ∨ y ∈ st := fun y => by rw [List.mem_append, List.mem_reverse]
          have M := ih acc _ tab h (fun y hy => ((hmem y).mp hy).elim (fun hz => hp0.kid (mem_zip_kids hz).1) (hp1 y)) hq hn
          obtain ⟨uo, uk⟩ := u
          have hlen : ks.length = uk.length := hk.2
          have hoo : o = uo := hk.1
          refine ⟨M.ext, fun y hy => ?_, M.q, M.nd, fun y hy => ?_, fun y hy z hz hzq => ?_⟩
          · rcases List.mem_cons.mp hy with rfl | hy
            · show lput tab (.nd o ks) = .nd uo uk
              rw [lput_off (q_none M.q ho), ← hoo, zip_map hlen fun z hz => M.sol z ((hmem z).mpr (.inl hz))]
            · exact M.sol y ((hmem y).mpr (.inr hy))
          · rcases M.from_ y hy with h1 | ⟨z, hz, ⟨a, ha, he⟩, hv2⟩
            · exact .inl h1
            · rcases (hmem z).mp hz with hz | hz
              · refine e02 (mem_zip_kids hz) fun h1 h2 => ?_
                exact .inr ⟨_, .head _, ⟨a, subs_nd.mpr (.inr ⟨_, h1, ha⟩), he⟩, subs_nd.mpr (.inr ⟨_, h2, hv2⟩)⟩
              · exact .inr ⟨z, .tail _ hz, ⟨a, ha, he⟩, hv2⟩
          · rcases List.mem_cons.mp hy with rfl | hy
            · rcases subs_nd.mp hz with rfl | ⟨k, hk', hz⟩
              · exact absurd hzq (by show ¬ o.isQ = true; rw [ho]; decide)
              · refine e11 (List.getElem?_of_mem hk') fun i hi => ?_
                have hi1 := (List.getElem?_eq_some_iff.mp hi).1
                obtain ⟨w, hw⟩ : ∃ w, uk[i]? = some w := ⟨_, List.getElem?_eq_getElem (by exact Nat.lt_of_lt_of_le hi1 (Nat.le_of_eq hlen))⟩
                have hzip : (k, w) ∈ ks.zip uk := List.mem_of_getElem? (i := i) (by rw [List.getElem?_zip_eq_some]; exact ⟨hi, hw⟩)
                exact M.vars (k, w) ((hmem _).mpr (.inl hzip)) z hz hzq
            · exact M.vars y ((hmem y).mpr (.inr hy)) z hz hzq
        · rw [mrun_no hv hk] at h; cases h
/-- where a table places the pattern, matched finds it -/
theorem mrun_complete {σ : Tab} (hσ : ∀ x ∈ σ, x.1.isQ = true) : ∀ (n : Nat) (acc : Tab) (st : List (T × T)), stk st ≤ n → (∀ y ∈ st, PatQ y.1) → (∀ y ∈ st, lput σ y.1 = y.2) → (∀ y ∈ st, ∀ z ∈ subs y.1, z.op.isQ = true → σ.lookup z.op ≠ none) → (∀ o v, acc.lookup o = some v → σ.lookup o = some v) →
    ∃ tab, mrun n acc st = some tab ∧ ∀ o v, tab.lookup o = some v → σ.lookup o = some v := by
  intro n
  induction n with
  | zero =>
    intro acc st hs hp hl hk ha
    cases st with
    | nil => exact ⟨acc, mrun_nil _ _, ha⟩
    | cons x st => have := stk_len (x :: st); rw [List.length_cons] at this; lia
  | succ n ih =>
    intro acc st hs hp hl hk ha
    cases st with
    | nil => exact ⟨acc, mrun_nil _ _, ha⟩
    | cons x st =>
      obtain ⟨hpz5, u⟩ := x; obtain ⟨o, ks⟩ := hpz5
      have hp0 : PatQ (.nd o ks) := hp _ (.head _)
      have hp1 : ∀ y ∈ st, PatQ y.1 := fun y hy => hp y (.tail _ hy)
      have hl0 : lput σ (.nd o ks) = u := hl _ (.head _)
      have hs1 : stk st + 1 ≤ stk ((T.nd o ks, u) :: st) := by
        have e : stk ((T.nd o ks, u) :: st) = (T.nd o ks).size + stk st := by unfold stk; rfl
        have := size_pos (T.nd o ks); lia
      cases hv : T.isVar (.nd o ks) with
      | true =>
        (refine e02 (isVar_iff.mp hv) fun hq0 ho => ?_; subst hq0)
        have hne : σ.lookup o ≠ none := hk _ (.head _) _ (subs_self _) ho
        obtain ⟨v, hσv⟩ : ∃ v, σ.lookup o = some v := by
          cases h : σ.lookup o with
          | none => exact absurd h hne
          | some v => exact ⟨v, rfl⟩
        have hvu : v = u := by rw [← hl0, lput_at hσv]
        subst hvu
        cases hla : acc.lookup o with
        | some v' =>
          have : v' = v := by have := ha o v' hla; rw [hσv] at this; cases this; rfl
          rw [mrun_there hv hla this]
          exact ih acc st (by lia) hp1 (fun y hy => hl y (.tail _ hy)) (fun y hy => hk y (.tail _ hy)) ha
        | none =>
          rw [mrun_new hv hla]
          refine ih _ st (by omega) hp1 (fun y hy => hl y (.tail _ hy)) (fun y hy => hk y (.tail _ hy)) (fun p v' e => ?_)
          rcases (lookup_snoc hla).mp e with e | ⟨rfl, rfl⟩
          · exact ha p v' e
          · exact hσv
      | false =>
        have ho : o.isQ = false := by
          cases hq' : o.isQ with
          | false => rfl
          | true => rw [isVar_iff.mpr ⟨hp0.self hq', hq'⟩] at hv; cases hv
        rw [lput_off (q_none hσ ho)] at hl0
        subst hl0
        have hlen : (ks.map (lput σ)).length = ks.length := List.length_map ..
        rw [mrun_kids (p := .nd o ks) (u := .nd o (ks.map (lput σ))) hv ⟨rfl, hlen.symm⟩]
        have hmem : ∀ y, y ∈ (ks.zip (ks.map (lput σ))).reverse ++ st ↔ y ∈ ks.zip (ks.map (lput σ)) ∨ y ∈ st := fun y => by rw [List.mem_append, List.mem_reverse]
        have hz : ∀ y ∈ ks.zip (ks.map (lput σ)), y.1 ∈ ks ∧ lput σ y.1 = y.2 := fun y hy => by
          refine e11 (List.getElem?_of_mem hy) fun i hi => ?_
          rw [List.getElem?_zip_eq_some] at hi
          refine ⟨List.mem_of_getElem? hi.1, ?_⟩
          have := hi.2
          rw [List.getElem?_map, hi.1] at this
          exact Option.some.inj this
        have hks := kids_size o ks (ks.map (lput σ)) hlen st (.nd o (ks.map (lput σ)))
        refine ih acc _ (by show stk ((ks.zip (ks.map (lput σ))).reverse ++ st) ≤ n; lia) (fun y hy => ((hmem y).mp hy).elim (fun h => hp0.kid (hz y h).1) (hp1 y)) (fun y hy => ((hmem y).mp hy).elim (fun h => (hz y h).2) fun h => hl y (.tail _ h))
          (fun y hy => ((hmem y).mp hy).elim (fun h z hz' => hk _ (.head _) z (subs_nd.mpr (.inr ⟨_, (hz y h).1, hz'⟩))) fun h => hk y (.tail _ h)) ha
theorem mem_tabsF {ts : List T} : ∀ {os : List Op} {tab : Tab}, tab.map (·.1) = os → (∀ x ∈ tab, x.2 ∈ ts) → tab ∈ tabsF ts os := by
  intro os tab
  induction h : tab.length generalizing os tab with
  | zero =>
    intro h1 h2
    have : tab = [] := List.eq_nil_of_length_eq_zero h
    subst this
    rw [← h1]; simp [tabsF]
  | succ n ih =>
    intro h1 h2
    obtain ⟨tab', x, rfl⟩ : ∃ tab' x, tab = tab' ++ [x] := ⟨tab.dropLast, tab.getLast (by rintro rfl; simp at h), (List.dropLast_concat_getLast _).symm⟩
    obtain ⟨o, t⟩ := x
    rw [← h1, List.map_append]
    show _ ∈ tabsF ts (tab'.map (·.1) ++ [o])
    rw [tabsF_snoc]
    have := ih (os := tab'.map (·.1)) (tab := tab') (by simpa using h) rfl (fun x hx => h2 x (List.mem_append_left _ hx))
    exact List.mem_flatMap.mpr ⟨tab', this, List.mem_map.mpr ⟨t, h2 _ (List.mem_append_right _ (.head _)), rfl⟩⟩
/-- nms: the names of the pattern's variables, each once -/
noncomputable def NamesOf (p : T) (nms : List Op) : Prop := nms.Nodup ∧ ∀ o, o ∈ nms ↔ o.isQ = true ∧ ∃ z ∈ subs p, z.op = o
theorem lookup_some_of_key {tab : Tab} {o : Op} (h : o ∈ tab.map (·.1)) : tab.lookup o ≠ none := fun e => lookup_none_not_mem e h
theorem key_of_lookup {tab : Tab} {o : Op} (h : tab.lookup o ≠ none) : o ∈ tab.map (·.1) := by
  cases e : tab.lookup o with
  | none => exact absurd e h
  | some v => exact List.mem_map.mpr ⟨_, lookup_mem e, rfl⟩
theorem match_tab {p u : T} {nms : List Op} {tab : Tab} (hp : PatQ p) (hn : NamesOf p nms) (hk : tab.map (·.1) = nms) (hu : lput tab p = u) :
    ∃ tab', C5 (mrun p.size [] [(p, u)] = some tab') (tab'.length = tab.length) ((∀ z ∈ tab', tab.lookup z.1 = some z.2)) (plc tab' p = some u) ((∀ z ∈ tab', z.2 ∈ subs u)) := by
  have hq : ∀ x ∈ tab, x.1.isQ = true := fun x hx => ((hn.2 x.1).mp (by rw [← hk]; exact List.mem_map.mpr ⟨x, hx, rfl⟩)).1
  have hs : stk [(p, u)] ≤ p.size := by unfold stk; simp
  have hvar : ∀ z ∈ subs p, z.op.isQ = true → tab.lookup z.op ≠ none := fun z hz hzq => lookup_some_of_key (by rw [hk]; exact (hn.2 _).mpr ⟨hzq, z, hz, rfl⟩)
  refine e12 (mrun_complete hq p.size [] [(p, u)] hs (fun y hy => by rw [List.mem_singleton.mp hy]; exact hp) (fun y hy => by rw [List.mem_singleton.mp hy]; exact hu) (fun y hy => by rw [List.mem_singleton.mp hy]; exact hvar) (fun o v e => by simp at e)) fun tab' hm hsub => ?_
  have M := mrun_sound p.size [] [(p, u)] tab' hm (fun y hy => by rw [List.mem_singleton.mp hy]; exact hp) (fun x hx => nomatch hx) (by simp)
  have hmem : ∀ o, o ∈ tab'.map (·.1) ↔ o ∈ nms := fun o => by
    constructor
    · intro h
      (refine e12 (List.mem_map.mp h) fun x hx hq2 => ?_; subst hq2)
      rcases M.from_ x hx with h1 | ⟨y, hy, ⟨z, hz, e⟩, _⟩
      · nomatch h1
      · rw [List.mem_singleton.mp hy] at hz
        exact (hn.2 _).mpr ⟨M.q x hx, z, hz, e⟩
    · intro h
      obtain ⟨h1, z, hz, e⟩ := (hn.2 o).mp h
      have := M.vars (p, u) (.head _) z hz (by rw [e]; exact h1)
      rw [e] at this
      exact key_of_lookup this
  have hlen : tab'.length = tab.length := by
    have := ((List.perm_ext_iff_of_nodup M.nd hn.1).mpr hmem).length_eq
    rw [List.length_map] at this
    (refine Eq.symm (this ..) ▸ ?_; refine (hk ..) ▸ ?_; exact Eq.symm (List.length_map ..) ▸ rfl)
  refine ⟨tab', hm, hlen, fun z hz => hsub _ _ (lookup_of_mem M.nd hz), ?_, fun z hz => ?_⟩
  · have e : lput tab' p = u := M.sol (p, u) (.head _)
    rw [← e]
    refine plc_put p hp (fun z hz hzq => ⟨rfl, M.vars (p, u) (.head _) z hz hzq⟩) (fun z hz hzq => q_none M.q hzq)
  · rcases M.from_ z hz with h1 | ⟨y, hy, _, h2⟩
    · nomatch h1
    · rw [List.mem_singleton.mp hy] at h2; exact h2
theorem match_none {p u : T} {nms : List Op} {ts : List T} (hp : PatQ p) (hn : NamesOf p nms) (hts : ∀ x, x ∈ ts ↔ x ∈ subs u) (hno : ∀ tab ∈ tabsF ts nms, lput tab p ≠ u) : mrun p.size [] [(p, u)] = none := by
  cases hm : mrun p.size [] [(p, u)] with
  | none => rfl
  | some tab' =>
    exfalso
    have M := mrun_sound p.size [] [(p, u)] tab' hm (fun y hy => by rw [List.mem_singleton.mp hy]; exact hp) (fun x hx => nomatch hx) (by simp)
    have hex : ∀ o ∈ nms, ∃ v, tab'.lookup o = some v := fun o ho => by
      obtain ⟨h1, z, hz, e⟩ := (hn.2 o).mp ho
      have := M.vars (p, u) (.head _) z hz (by rw [e]; exact h1)
      rw [e] at this
      cases h : tab'.lookup o with
      | none => exact absurd h this
      | some v => exact ⟨v, rfl⟩
    have build : ∀ os : List Op, (∀ o ∈ os, ∃ v, tab'.lookup o = some v) → ∃ σ : Tab, σ.map (·.1) = os ∧ ∀ x ∈ σ, tab'.lookup x.1 = some x.2 := by
      intro os
      induction os with
      | nil => intro _; exact ⟨[], rfl, fun x hx => nomatch hx⟩
      | cons o os ih =>
        intro h
        refine e11 (h o (.head _)) fun v hv => ?_
        refine e12 (ih fun o' ho' => h o' (.tail _ ho')) fun σ h1 h2 => ?_
        exact ⟨(o, v) :: σ, by rw [List.map_cons, h1], fun x hx => by
          rcases List.mem_cons.mp hx with rfl | hx
          · exact hv
          · exact h2 x hx⟩
    refine e12 (build nms hex) fun σ hσ1 hσ2 => ?_
    refine hno σ (mem_tabsF hσ1 fun x hx => ?_) ?_
    · rcases M.from_ _ (lookup_mem (hσ2 x hx)) with h1 | ⟨y, hy, _, h2⟩
      · nomatch h1
      · rw [List.mem_singleton.mp hy] at h2; exact (hts _).mpr h2
    · have e : lput tab' p = u := M.sol (p, u) (.head _)
      rw [← e]
      refine lput_congr p fun z hz => ?_
      by_cases ho : z.op ∈ nms
      · refine e11 (hex _ ho) fun v hv => ?_
        rw [hv]
        cases hs : σ.lookup z.op with
        | none => exact absurd (by rw [← hσ1] at ho; exact ho) (lookup_none_not_mem hs)
        | some v' => have := hσ2 _ (lookup_mem hs); simp only at this; rw [hv] at this; cases this; rfl
      · have h1 : σ.lookup z.op = none := by
          cases hs : σ.lookup z.op with
          | none => rfl
          | some v' => exact absurd (by rw [← hσ1]; exact List.mem_map.mpr ⟨_, lookup_mem hs, rfl⟩) ho
        have h2 : tab'.lookup z.op = none := by
          cases hs : tab'.lookup z.op with
          | none => rfl
          | some v' => exact absurd ((hn.2 _).mpr ⟨M.q _ (lookup_mem hs), z, hz, rfl⟩) ho
        rw [h1, h2]

/-! ### what is drawn -/
theorem one_patq {los : List Op} : ∀ {d : Nat} {p : T}, One los d p → PatQ p
  | 0, .nd o ks, h => by
    obtain ⟨_, rfl⟩ := h
    intro u hu _
    rcases subs_nd.mp hu with rfl | ⟨k, hk, _⟩
    · rfl
    · nomatch hk
  | d + 1, .nd o ks, h => by
    rcases h with ⟨_, rfl⟩ | ⟨hf, _, _, hk⟩
    · intro u hu _
      rcases subs_nd.mp hu with rfl | ⟨k, hk, _⟩
      · rfl
      · nomatch hk
    · intro u hu hq
      rcases subs_nd.mp hu with rfl | ⟨k, hk', hu⟩
      · have hq' : o.isQ = true := hq
        rcases hf with rfl | rfl <;> cases hq'
      · exact one_patq (hk k hk') u hu hq
theorem one_ops {los : List Op} : ∀ {d : Nat} {p : T}, One los d p → ∀ u ∈ subs p, u.op ∈ los ∨ u.op = .f ∨ u.op = .g
  | 0, .nd o ks, h => by
    (refine e02 h fun ho hq1 => ?_; subst hq1; clear h)
    intro u hu
    rcases subs_nd.mp hu with rfl | ⟨k, hk, _⟩
    · exact .inl ho
    · nomatch hk
  | d + 1, .nd o ks, h => by
    rcases h with ⟨ho, rfl⟩ | ⟨hf, _, _, hk⟩
    · intro u hu
      rcases subs_nd.mp hu with rfl | ⟨k, hk, _⟩
      · exact .inl ho
      · nomatch hk
    · intro u hu
      rcases subs_nd.mp hu with rfl | ⟨k, hk', hu⟩
      · exact .inr hf
      · exact one_ops (hk k hk') u hu
theorem one_ground {los : List Op} (hlos : ∀ o ∈ los, o.isQ = false) {d : Nat} {p : T} (h : One los d p) : Ground p := fun u hu => by
  rcases one_ops h u hu with h1 | h1 | h1
  · exact hlos _ h1
  · rw [h1]; rfl
  · rw [h1]; rfl
theorem ground_lput {tab : Tab} (hg : ∀ x ∈ tab, Ground x.2) : ∀ p : T, (∀ u ∈ subs p, u.op.isQ = true → tab.lookup u.op ≠ none) → Ground (lput tab p) :=
  ind2 (fun o ks ih h => by
    cases hl : tab.lookup o with
    | some v => rw [lput_at hl]; exact hg _ (lookup_mem hl)
    | none =>
      rw [lput_off hl]
      intro u hu
      rcases subs_nd.mp hu with rfl | ⟨k, hk, hu⟩
      · cases hq : o.isQ with
        | false => exact hq
        | true => exact absurd hl (h _ (subs_self _) hq)
      · (refine e12 (List.mem_map.mp hk) fun k' hk' hq2 => ?_; subst hq2)
        exact ih k' hk' (fun u hu => h u (subs_nd.mpr (.inr ⟨k', hk', hu⟩))) u hu)
theorem size_lput {tab : Tab} {m : Nat} (hm : 1 ≤ m) (ht : ∀ x ∈ tab, x.2.size ≤ m) : ∀ p : T, (lput tab p).size ≤ m * p.size :=
  ind2 (fun o ks ih => by
    have h1 : 1 ≤ (T.nd o ks).size := size_pos _
    cases hl : tab.lookup o with
    | some v =>
      rw [lput_at hl]
      have h2 : v.size ≤ m := ht _ (lookup_mem hl)
      calc v.size ≤ m * 1 := by simp [*]
        _ ≤ m * (T.nd o ks).size := Nat.mul_le_mul_left m h1
    | none =>
      rw [lput_off hl, size_nd, size_nd, List.map_map]
      have key : ∀ l : List T, (∀ k ∈ l, (lput tab k).size ≤ m * k.size) → (l.map (T.size ∘ lput tab)).sum ≤ m * (l.map T.size).sum := by
        intro l
        induction l with
        | nil => intro _; simp
        | cons k l ihl =>
          intro h
          have h1 := h k (.head _)
          have h2 := ihl fun k' hk' => h k' (.tail _ hk')
          rw [List.map_cons, List.sum_cons, List.map_cons, List.sum_cons, Nat.mul_add]
          show (lput tab k).size + _ ≤ _
          lia
      have := key ks ih
      rw [Nat.mul_add]; lia)
/-! ### names -/
theorem nodup_two {α : Type} [DecidableEq α] {a b : α} (hab : a ≠ b) {l : List α} (nd : l.Nodup) (h : ∀ x ∈ l, x = a ∨ x = b) : l = [] ∨ l = [a] ∨ l = [b] ∨ l = [a, b] ∨ l = [b, a] := by
  match l, nd, h with
  | [], _, _ => simp
  | [x], _, h => rcases h x (by simp) with rfl | rfl <;> simp
  | [x, y], nd, h =>
    have hxy : x ≠ y := by simp at nd; exact nd
    rcases h x (by simp) with rfl | rfl <;> rcases h y (by simp) with rfl | rfl
    · exact absurd rfl hxy
    · simp
    · simp
    · exact absurd rfl hxy
  | x :: y :: z :: r, nd, h =>
    exfalso
    simp only [List.nodup_cons, List.mem_cons, not_or] at nd
    obtain ⟨hpz1, hpz2, _⟩ := nd; obtain ⟨h1, h2, _⟩ := hpz1; obtain ⟨h3, _⟩ := hpz2
    rcases h x (by simp) with rfl | rfl <;> rcases h y (by simp) with rfl | rfl <;> rcases h z (by simp) with rfl | rfl <;> first | exact h1 rfl | exact h2 rfl | exact h3 rfl
theorem sorted_two {l m : List Op} (nl : l.Nodup) (nm : m.Nodup) (hl : ∀ o ∈ l, o = .x ∨ o = .y) (hm : ∀ o, o ∈ m ↔ o ∈ l) (sl : sortedS (l.map Op.s) = true) (sm : sortedS (m.map Op.s) = true) : l = m := by
  have hm' : ∀ o ∈ m, o = .x ∨ o = .y := fun o ho => hl o ((hm o).mp ho)
  have bad : sortedS ([Op.y, Op.x].map Op.s) = false := by decide
  have hx := hm .x
  have hy := hm .y
  rcases nodup_two (by decide) nl hl with rfl | rfl | rfl | rfl | rfl <;> rcases nodup_two (by decide) nm hm' with rfl | rfl | rfl | rfl | rfl <;>
    first
      | rfl
      | (rw [bad] at sl; cases sl)
      | (rw [bad] at sm; cases sm)
      | (simp at hx; done)
      | (simp at hy; done)
      | (exfalso; simp at hx; done)
      | (exfalso; revert hx; decide)
      | (exfalso; revert hy; decide)
theorem perm_map_inv {ss : List Str} {os : List Op} (h : ss.Perm (os.map Op.s)) : ∃ nms : List Op, ss = nms.map Op.s ∧ nms.Perm os := by
  let g : Str → Op := fun x => ([Op.f, .g, .a, .b, .c, .x, .y, .w].find? fun o => o.s == x).getD .f
  have hg : ∀ o : Op, g o.s = o := by intro o; cases o <;> decide
  refine ⟨ss.map g, ?_, ?_⟩
  · rw [List.map_map]
    refine ((List.map_congr_left fun x hx => ?_).trans (List.map_id' ss)).symm
    obtain ⟨o, _, rfl⟩ := List.mem_map.mp (h.mem_iff.mp hx)
    show (g o.s).s = o.s
    rw [hg]
  · have := h.map g
    rw [List.map_map] at this
    have e : os.map (g ∘ Op.s) = os := (List.map_congr_left fun o _ => hg o).trans (List.map_id' os)
    rwa [e] at this
/-- the law's own function, as it stands on the heap -/
noncomputable def lawFd (w : World) : Option FuncData := ((KK w).lookup 265).bind fun o => match o.data with | .func fd => some fd | _ => none
noncomputable def lawSt (w : World) (i : Nat) : Option Stmt := (lawFd w).bind fun fd => match fd.body with | .stmts b => b[i]? | _ => none
noncomputable def lawSc (w : World) : Option Scope := (lawFd w).bind fun fd => match fd.scope with | ⟨k, ns, g, c, m⟩ => some ⟨k, ns, g, c, m⟩
noncomputable abbrev lawCells (L : Addr) : List (Str × Addr) := [("bank", L + 1 + 1 + 1 + 1 + 1), ("table", L + 1 + 1 + 1 + 1), ("name", L + 1 + 1 + 1), ("leaves", L + 1 + 1), ("hand", L + 1)]
noncomputable abbrev lawEnv (sc : Scope) (L f : Addr) (cd : Value) : Env := envX "law" sc L f cd (lawCells L)
/-- the cells of the law's frame -/
noncomputable abbrev cellsOw (L : Addr) (cb ct cn cl ch : Option Value) : List (Addr × OP) := [(L + 1 + 1 + 1 + 1 + 1, cellP cb), (L + 1 + 1 + 1 + 1, cellP ct), (L + 1 + 1 + 1, cellP cn), (L + 1 + 1, cellP cl), (L + 1, cellP ch)]
noncomputable abbrev lawS (hd L : Addr) : List Addr := [hd, L, L + 1 + 1 + 1 + 1 + 1, L + 1 + 1 + 1 + 1, L + 1 + 1 + 1, L + 1 + 1, L + 1]
/-- what keeps its place: la, a list of leaves -/
noncomputable def LvS (h : Heap) (S : List Addr) (la : Addr) (los : List Op) : Prop := la ∉ S ∧ LeavesAt h la los
theorem LvS.mv {h h' : Heap} {S : List Addr} {la : Addr} {los : List Op} (x : LvS h S la los) (k : Chg S h h') : LvS h' S la los := ⟨x.1, x.2.of fun o e => k _ _ x.1 e⟩
noncomputable def HsS (h : Heap) (S : List Addr) (hd : Addr) (c : Addr × List Value × Int) : Prop := c.1 ∉ S ∧ HandSt h hd c
theorem HsS.mv {h h' : Heap} {S : List Addr} {hd : Addr} {c : Addr × List Value × Int} (x : HsS h S hd c) (k : Chg S h h') : HsS h' S hd c := ⟨x.1, x.2.of fun o e => k _ _ x.1 e⟩
noncomputable def TbS (prog : Program) (w : World) (h : Heap) (S : List Addr) (tab : Tab) (v : Value) : Prop := ∃ d, v = .ref d ∧ d ∉ S ∧ TabAt prog w h tab (.ref d)
theorem TbS.tab {prog : Program} {w : World} {h : Heap} {S : List Addr} {tab : Tab} {v : Value} (x : TbS prog w h S tab v) : TabAt prog w h tab v := by obtain ⟨d, rfl, _, t⟩ := x; exact t
theorem TbS.mv {prog : Program} {w : World} {h h' : Heap} {S : List Addr} {tab : Tab} {v : Value} (x : TbS prog w h S tab v) (k : Chg S h h') (im : Imm h h') : TbS prog w h' S tab v := by
  obtain ⟨d, rfl, hd, d', kvs, e, m, hdict, hrows⟩ := x
  cases e
  exact ⟨d, rfl, hd, d, kvs, rfl, m, dictOf_kp hdict (fun o e => k _ _ hd e), hrows.imm im⟩
theorem St.at' {B H h : Heap} {S S' : List Addr} {ow : List (Addr × OP)} (x : St B H S ow h) (e : ow.map (·.1) = S') : St B h S' ow h := by
  have := x.rebase
  rw [e] at this
  exact this
section
variable {prog : Program} {w : World} {B : Heap} {A : Around} {E : Value → Shared → Prop} {s : Shared} {Q : Flow → Shared → Prop} {L f : Addr} {cd : Value} {st : Stmt} {sc : Scope}
theorem list2 {env : Env} {e1 e2 : Expr} {pos : Pos} {Q : Value → Shared → Prop} (h : wpAny (model prog w) A (eval e1 env) (fun v1 s₁ => wpAny (model prog w) A (eval e2 env) (fun v2 s₂ => ∀ h' l, Kp s₂.heap h' → s₂.heap.get? l = none → h'.PlainList l (List.toArray [v1, v2]) → Q (.ref l) { s₂ with heap := h' }) E s₁) E s) (he : autoParam (([e1, e2] : List Expr).all plainE = true) aRfl) :
    wpAny (model prog w) A (eval (.List [e1, e2] pos) env) Q E s := by
  refine wpAny_List (spliced_args he (wpAny_mono h (fun v1 s₁ h₁ => wpAny_mono h₁ (fun v2 s₂ h₂ => ⟨by have := sizeLine_big; simp; exact Nat.le_add_left _ _, ?_⟩) fun _ _ e => e) fun _ _ e => e))
  exact h₂ _ _ (Kp.push _ _) (Heap.get?_none_of_le (Nat.le_refl _)) ⟨0, Heap.get?_push_size _ rfl⟩
theorem law_envOk (hsc : lawSc w = some sc) : EnvOk (lawEnv sc L f cd) := by
  obtain rfl := Option.some.inj hsc.symm
  exact ⟨rfl, rfl, rfl⟩
theorem ne_ns {h : Heap} {a b : Addr} {xs : Array Value} {m : Str → Option Value} (x : h.IsList b xs) (y : h.Ns a m) : b ≠ a := by
  rintro rfl
  obtain ⟨o, e, _, n, d⟩ := x
  obtain ⟨o', es, ep, e', d', _⟩ := y
  rw [e] at e'; cases e'; rw [d] at d'; cases d'
theorem ne_cell {h : Heap} {a b : Addr} {xs : Array Value} {v : Option Value} (x : h.IsList b xs) (y : h.IsCell a v) : b ≠ a := by
  rintro rfl
  obtain ⟨o, e, _, n, d⟩ := x
  (refine e12 y fun o' e' d' => ?_; clear y)
  rw [e] at e'; cases e'; rw [d] at d'; cases d'
theorem law_s0 (W : Wd w B) (hst : lawSt w 0 = some st) (hsc : lawSc w = some sc) (hr : Room A 20) {H : Heap} {sa : Addr} {vs : List Value} {m : Str → Option Value} (hl : H.IsList sa vs.toArray) (hv : ∀ v ∈ vs, ∃ i t, v = Value.int i t) (hn : vs.length ≤ 1000) (hm : m "script" = some (.ref sa))
    (S : St B H [] ((L, nsP m) :: cellsOw L none none none none none) s.heap)
    (hQ : ∀ h' tk hd c la, St B h' (lawS hd L) ((hd, handP prog w c 0) :: (L, nsP m) :: cellsOw L none none none (some (.ref la)) (some (.ref hd))) h' → HsS h' (lawS hd L) hd c → LvS h' (lawS hd L) la [.a, .b] → Q .next { s with heap := h', toks := tk }) :
    wpAny (model prog w) A (exec st (lawEnv sc L f cd)) Q E s := by
  have EO : EnvOk (lawEnv sc L f cd) := law_envOk hsc
  obtain rfl := Option.some.inj hst.symm
  obtain rfl := Option.some.inj hsc.symm
  clear hst hsc
  have hl1 : s.heap.IsList sa vs.toArray := let ⟨o, e, r⟩ := hl; ⟨o, S.kpH _ _ e, r⟩
  refine pairPlain hr.hh (callF W S.kb EO gn_hand kf_hand (nameL EO (S.ns 0 rfl) hm ⟨S.kb, hand_spec W (n := 16) S.kb (hr.mono (by exact Nat.le_add_left _ _)) hl1 hv hn (fun hd c h1 tk1 hdn (k1 : Kp s.heap h1) HA => ?_)⟩))
  (refine e02 HA fun hpz1 hst1 => ?_; clear HA); (refine e12 hpz1 fun oh eoh ph => ?_; clear hpz1)
  have S1 := S.add (p := handP prog w c 0) hdn k1 ⟨oh, eoh, ph, ph.nt⟩
  refine list2 (wpAny_Constant_str (wpAny_Constant_str (fun h2 la (k2 : Kp h1 h2) hln hpl => ?_)))
  have hc1 : c.1 ∉ lawS hd L := by
    have hL := hst1.lst
    simp only [List.mem_cons, List.not_mem_nil, or_false, not_or]
    exact ⟨hst1.ne, ne_ns hL (S1.ns 1 rfl), ne_cell hL (S1.cell 2 rfl), ne_cell hL (S1.cell 3 rfl), ne_cell hL (S1.cell 4 rfl), ne_cell hL (S1.cell 5 rfl), ne_cell hL (S1.cell 6 rfl)⟩
  have hla : la ∉ lawS hd L := fun q => by
    have q' : la ∈ ((hd, handP prog w c 0) :: (L, nsP m) :: cellsOw L none none none none none).map (·.1) := q
    refine e12 (List.mem_map.mp q') fun p hp e => ?_
    obtain ⟨o, eo, _⟩ := S1.own p hp
    have hln' : h1.get? la = none := hln
    rw [e, hln'] at eo; cases eo
  intro h3 tk3 (k3 : Kp h2 h3)
  have S3 := (S1.kp k2).kp k3
  have hst3 : HandSt h3 hd c := hst1.of fun o e => k3 _ _ (k2 _ _ e)
  have hpl3 : h3.IsList la _ := (hpl.at fun o e => k3 _ _ e).isList
  refine storeC EO (S3.cell 6 rfl) (fun h4 hc4 hs4 => ?_)
  refine e02 (S3.setCell 6 rfl hs4 hc4) fun S4 im4 => ?_
  refine storeC EO (S4.cell 5 rfl) (fun h5 hc5 hs5 => ?_)
  refine e02 (S4.setCell 5 rfl hs5 hc5) fun S5 im5 => ?_
  try dsimp only [List.set_cons_zero, List.set_cons_succ] at S5
  have ch : Chg (lawS hd L) h3 h5 := fun b o hb e => hs5.extBut b o (fun q => hb (by rw [q]; simp)) (hs4.extBut b o (fun q => hb (by rw [q]; simp)) e)
  refine hQ h5 _ hd c la (S5.at' rfl) ⟨hc1, hst3.of fun o e => ch _ _ hc1 e⟩ ⟨hla, _, (let ⟨o, e, r⟩ := hpl3; ⟨o, ch _ _ hla e, r⟩), rfl, fun i o hi => ?_⟩
  match i, hi with
  | 0, hi => cases hi; exact ⟨_, rfl⟩
  | 1, hi => cases hi; exact ⟨_, rfl⟩
  | i + 2, hi => simp at hi
end
noncomputable abbrev pleaves : List Op := [.x, .y, .a, .x, .b]
section
variable {prog : Program} {w : World} {B : Heap} {A : Around} {E : Value → Shared → Prop} {s : Shared} {Q : Flow → Shared → Prop} {L f : Addr} {cd : Value} {st : Stmt} {sc : Scope}
theorem listN {env : Env} {es : List Expr} {pos : Pos} {Q : Value → Shared → Prop} (h : argsWp (model prog w) A E env es (fun vs s₁ => vs.length ≤ 1000 ∧ ∀ h' l, Kp s₁.heap h' → s₁.heap.get? l = none → h'.PlainList l (List.toArray vs) → Q (.ref l) { s₁ with heap := h' }) s) (he : autoParam (es.all plainE = true) aRfl) :
    wpAny (model prog w) A (eval (.List es pos) env) Q E s := by
  refine wpAny_List (spliced_args he ?_)
  have key : ∀ {args : List Expr} {Q₁ Q₂ : List Value → Shared → Prop} {s : Shared}, (∀ vs s, Q₁ vs s → Q₂ vs s) → argsWp (model prog w) A E env args Q₁ s → argsWp (model prog w) A E env args Q₂ s := by
    intro args
    induction args with
    | nil => intro Q₁ Q₂ s i h; exact i _ _ h
    | cons e r ih => intro Q₁ Q₂ s i h; exact wpAny_mono h (fun v s₁ h₁ => ih (fun vs s => i _ s) h₁) fun _ _ x => x
  refine key (fun vs s₁ h₁ => ⟨by have := sizeLine_big; lia, ?_⟩) h
  exact h₁.2 _ _ (Kp.push _ _) (Heap.get?_none_of_le (Nat.le_refl _)) ⟨0, Heap.get?_push_size _ rfl⟩
/-- what is fresh stands in no list of places that are taken -/
theorem St.fresh {H h : Heap} {S : List Addr} {ow : List (Addr × OP)} (x : St B H S ow h) {a : Addr} (ha : h.get? a = none) : a ∉ ow.map (·.1) := fun q => by
  refine e12 (List.mem_map.mp q) fun p hp e => ?_
  obtain ⟨o, eo, _⟩ := x.own p hp
  rw [e, ha] at eo; cases eo
theorem law_s1 (W : Wd w B) (hst : lawSt w 1 = some st) (hsc : lawSc w = some sc) (hr : Room A 20) {hd la : Addr} {c : Addr × List Value × Int} {m : Str → Option Value}
    (S : St B s.heap (lawS hd L) ((hd, handP prog w c 0) :: (L, nsP m) :: cellsOw L none none none (some (.ref la)) (some (.ref hd))) s.heap) (Hs : HsS s.heap (lawS hd L) hd c) (Lv : LvS s.heap (lawS hd L) la [.a, .b])
    (hQ : ∀ h' tk a p pv, a ≤ 36 → One pleaves 2 p → Rep h' p pv → St B h' (lawS hd L) ((hd, handP prog w c a) :: (L, nsP (up m "pattern" pv)) :: cellsOw L none none none (some (.ref la)) (some (.ref hd))) h' → HsS h' (lawS hd L) hd c → LvS h' (lawS hd L) la [.a, .b] → Q .next { s with heap := h', toks := tk }) :
    wpAny (model prog w) A (exec st (lawEnv sc L f cd)) Q E s := by
  have EO : EnvOk (lawEnv sc L f cd) := law_envOk hsc
  obtain rfl := Option.some.inj hst.symm
  obtain rfl := Option.some.inj hsc.symm
  clear hst hsc
  refine wpAny_Assign_Name (callF W S.kb EO gn_one kf_one (nameC EO (S.cell 6 rfl) (wpAny_Constant_int (listN (wpAny_Constant_str (wpAny_Constant_str (wpAny_Constant_str (wpAny_Constant_str (wpAny_Constant_str ⟨by simp, fun h1 l1 (k1 : Kp s.heap h1) hln hpl => ?_⟩)))))))))
  have S1 := S.kp k1
  have hlS : l1 ∉ lawS hd L := S.fresh hln
  have hs1 : HandSt h1 hd c := Hs.2.of fun o e => k1 _ _ e
  have hoff : B.get? hd = none := S.off 0 rfl
  refine ⟨S1.kb, one_spec W 2 _ _ _ hd l1 c 0 pleaves _ 2 rfl (Nat.le_refl _) S1.kb (hr.mono (by exact Nat.le_add_left _ _)) hoff ⟨let ⟨o, e, r, _⟩ := S1.get 0 rfl; ⟨o, e, r⟩, hs1⟩ (by unfold six six six; exact Nat.le_add_left _ _) (fun q => hlS (by rw [q]; simp)) ⟨_, hpl.isList, rfl, fun i o hi => ?_⟩ (by decide) (by decide) (fun r p h2 tk2 a hx HA ha1 ha2 hrep hone => ?_)⟩
  · match i, hi with
    | 0, hi => cases hi; exact ⟨_, rfl⟩
    | 1, hi => cases hi; exact ⟨_, rfl⟩
    | 2, hi => cases hi; exact ⟨_, rfl⟩
    | 3, hi => cases hi; exact ⟨_, rfl⟩
    | 4, hi => cases hi; exact ⟨_, rfl⟩
    | i + 5, hi => simp at hi
  · have ha : a ≤ 36 := by unfold six six six at ha2; simp [*]
    refine e02 (S1.upd (p' := handP prog w c a) 0 rfl hx (let ⟨o, e, r⟩ := HA.1; ⟨o, e, r, r.nt⟩)) fun S2 im2 => ?_
    refine S2.storeL 1 rfl EO (fun h3 S3 im3 => ?_)
    try dsimp only [List.set_cons_zero, List.set_cons_succ] at S3
    have ch : Chg (lawS hd L) s.heap h3 := fun b o hb e => S3.base b o hb e
    exact hQ h3 _ a p r ha hone (hrep.imm im3) (S3.at' rfl) (Hs.mv ch) (Lv.mv ch)
theorem q_head (o : Op) : ∃ c, (seqIndex? 0 o.s.length).bind (o.s.cps[·]?) = some c ∧ (Str.mk #[c] == Str.ofString "?") = o.isQ := by
  refine ⟨(o.s.cps[0]?).getD 0, ?_, ?_⟩
  · cases o <;> decide +kernel
  · cases o <;> decide +kernel
theorem leavesAt_of {h : Heap} {l : Addr} {vs : List Value} {nms : List Op} (hl : h.IsList l vs.toArray) (hs : StrsAre vs (nms.map Op.s)) : LeavesAt h l nms := by
  refine ⟨vs, hl, by have := hs.length; simpa using this, fun i o hi => ?_⟩
  refine e11 (hs.at (j := i) (y := o.s) (by rw [List.getElem?_map, hi]; rfl)) fun t ht => ?_
  exact ⟨t, ht⟩
end
/-- the law's list of names -/
structure NmOk (p : T) (nms : List Op) : Prop where
  of : NamesOf p nms
  xy : ∀ o ∈ nms, o = .x ∨ o = .y
  sorted : sortedS (nms.map Op.s) = true
  len : nms.length ≤ 2
theorem nm_len {nms : List Op} (nd : nms.Nodup) (h : ∀ o ∈ nms, o = Op.x ∨ o = .y) : nms.length ≤ 2 := by
  rcases nodup_two (by decide) nd h with rfl | rfl | rfl | rfl | rfl <;> decide
theorem leaves_strs {h : Heap} {l : Addr} {nms : List Op} (x : LeavesAt h l nms) : ∃ vs, h.IsList l (List.toArray vs) ∧ StrsAre vs (nms.map Op.s) ∧ vs.length = nms.length := by
  (refine e13 x fun vs hl hlen hat => ?_; clear x)
  refine ⟨vs, hl, ?_, hlen⟩
  clear hl
  induction nms generalizing vs with
  | nil =>
    have e : vs = [] := List.eq_nil_of_length_eq_zero (by simpa using hlen)
    subst e; exact .nil
  | cons o r ih =>
    match vs, hlen with
    | v :: vs, hlen =>
      refine e11 (hat 0 o rfl) fun t ht => ?_
      cases ht
      exact .cons _ _ (ih vs (by simpa using hlen) fun i o' hi => hat (i + 1) o' hi)
theorem nodup_ops {p : T} (hp : PatQ p) : ∀ {ts : List T}, ts.Nodup → (∀ u ∈ ts, u ∈ subs p) → ((ts.filter (fun (u : T) => u.op.isQ)).map T.op).Nodup
  | [], _, _ => by simp
  | u :: ts, nd, h => by
    rw [List.nodup_cons] at nd
    have ih := nodup_ops hp nd.2 fun v hv => h v (.tail _ hv)
    by_cases hq : u.op.isQ = true
    · rw [List.filter_cons, if_pos hq, List.map_cons, List.nodup_cons]
      refine ⟨fun q => ?_, ih⟩
      refine e12 (List.mem_map.mp q) fun v hv e => ?_
      obtain ⟨hv1, hv2⟩ := List.mem_filter.mp hv
      have k1 := hp u (h u (.head _)) hq
      have k2 := hp v (h v (.tail _ hv1)) hv2
      obtain ⟨uo, uk⟩ := u
      obtain ⟨vo, vk⟩ := v
      have e' : vo = uo := e
      have k1' : uk = [] := k1
      have k2' : vk = [] := k2
      subst e' k1' k2'
      exact nd.1 hv1
    · rw [List.filter_cons, if_neg hq]; exact ih
theorem names_ok {p : T} {los : List Op} {d : Nat} (hone : One los d p) (hxy : ∀ o ∈ los, o.isQ = true → o = .x ∨ o = .y) {ts : List T} (htn : ts.Nodup) (htm : ∀ u, u ∈ ts ↔ u ∈ subs p) {nms : List Op} (hperm : nms.Perm ((ts.filter (fun (u : T) => u.op.isQ)).map T.op)) (hs : sortedS (nms.map Op.s) = true) : NmOk p nms := by
  have nd : nms.Nodup := hperm.nodup_iff.mpr (nodup_ops (one_patq hone) htn fun u hu => (htm u).mp hu)
  have hmem : ∀ o, o ∈ nms ↔ o.isQ = true ∧ ∃ z ∈ subs p, z.op = o := fun o => by
    rw [hperm.mem_iff, List.mem_map]
    constructor
    · intro hpz1; (refine e12 hpz1 fun u hu hq2 => ?_; subst hq2; clear hpz1)
      refine e02 (List.mem_filter.mp hu) fun h1 h2 => ?_
      exact ⟨h2, u, (htm u).mp h1, rfl⟩
    · intro hpz2; obtain ⟨h1, z, hz, rfl⟩ := hpz2
      exact ⟨z, List.mem_filter.mpr ⟨(htm z).mpr hz, h1⟩, rfl⟩
  have xy : ∀ o ∈ nms, o = .x ∨ o = .y := fun o ho => by
    obtain ⟨h1, z, hz, rfl⟩ := (hmem o).mp ho
    rcases one_ops hone z hz with h2 | h2 | h2
    · exact hxy _ h2 h1
    · rw [h2] at h1; cases h1
    · rw [h2] at h1; cases h1
  exact ⟨⟨nd, hmem⟩, xy, hs, nm_len nd xy⟩
section
variable {prog : Program} {w : World} {A : Around} {E : Value → Shared → Prop} {s : Shared}
theorem collectL {l : Addr} {vs : List Value} {Q : List Value → Shared → Prop} (hl : s.heap.IsList l vs.toArray) (hsz : vs.length ≤ 1000) (h : ∀ h', Kp s.heap h' → Q vs { s with heap := h' }) : wpAny (model prog w) A (collect (.ref l)) Q E s := by
  refine collect_list hl (h _ fun b o e => ?_) (by have := sizeLine_big; exact Nat.le_trans hsz (Nat.le_of_ble_eq_true rfl))
  rw [Heap.get?_update_other _ _ (Nat.ne_of_gt (Heap.lt_size e))]
  exact Heap.get?_push_of_some _ e
end
section
variable {prog : Program} {w : World} {B : Heap} {A : Around} {E : Value → Shared → Prop} {s : Shared} {Q : Flow → Shared → Prop} {L f : Addr} {cd : Value} {st : Stmt} {sc : Scope}
theorem law_s2 (W : Wd w B) (hst : lawSt w 2 = some st) (hsc : lawSc w = some sc) (hr : Room A 20) {hd la : Addr} {c : Addr × List Value × Int} {m : Str → Option Value} {a : Nat} {p : T} {pv : Value} (hone : One pleaves 2 p) (hp : Rep s.heap p pv) (hm : m "pattern" = some pv)
    (S : St B s.heap (lawS hd L) ((hd, handP prog w c a) :: (L, nsP m) :: cellsOw L none none none (some (.ref la)) (some (.ref hd))) s.heap) (Hs : HsS s.heap (lawS hd L) hd c) (Lv : LvS s.heap (lawS hd L) la [.a, .b])
    (hQ : ∀ h' tk nv nms, NmOk p nms → Imm s.heap h' → LvS h' (lawS hd L) nv nms → St B h' (lawS hd L) ((hd, handP prog w c a) :: (L, nsP (up m "names" (.ref nv))) :: cellsOw L none none none (some (.ref la)) (some (.ref hd))) h' → HsS h' (lawS hd L) hd c → LvS h' (lawS hd L) la [.a, .b] → Q .next { s with heap := h', toks := tk }) :
    wpAny (model prog w) A (exec st (lawEnv sc L f cd)) Q E s := by
  have EO : EnvOk (lawEnv sc L f cd) := law_envOk hsc
  obtain rfl := Option.some.inj hst.symm
  obtain rfl := Option.some.inj hsc.symm
  clear hst hsc
  have hw : Wf 3 p := one_wf hone (Nat.le_refl _)
  have hsz : p.size ≤ 10 := one_size2 hone
  have hpq := one_patq hone
  have hu9 : A.units + 64 < cLine := hr.units64
  refine wpAny_Assign_Name (callB W S.kb EO bn_sorted rfl ?_)
  try dsimp only
  refine compListE B s.heap (lawS hd L) EO hr.hh (callF W S.kb EO gn_lparts kf_lparts (nameL EO (S.ns 1 rfl) hm ⟨S.kb, lparts_spec W 3 p _ _ _ _ hw (by exact Nat.le_add_left _ _) (by exact Nat.le_trans hsz (Nat.le_of_ble_eq_true rfl)) S.kb (hr.mono (by exact Nat.le_add_left _ _)) hp (fun r h1 tk1 (k1 : Kp s.heap h1) hout => ?_)⟩))
  try dsimp only
  (refine x3c7 hout fun D ys ts hq3 hDn hDl hys htn htm htl => ?_; subst hq3; clear hout)
  have S1 := S.add (p := listP ys.toArray) hDn k1 (let ⟨n, e⟩ := hDl; ⟨_, e, ⟨n, rfl⟩, listP.nt ⟨n, rfl⟩⟩)
  have hyl : ys.length = ts.length := hys.length
  refine ⟨D, ys, _, fun j rs ow h => ow = (D, listP ys.toArray) :: (hd, handP prog w c a) :: (L, nsP m) :: cellsOw L none none none (some (.ref la)) (some (.ref hd)) ∧ StrsAre rs (((ts.take j).filter (fun (u : T) => u.op.isQ)).map fun (u : T) => u.op.s), rfl, hDl.isList, by exact Nat.le_trans (Nat.le_trans (Nat.le_trans (Nat.le_of_eq hyl) htl) hsz) (Nat.le_of_ble_eq_true rfl), S1, fun _ _ _ _ _ _ x => x, ⟨rfl, .nil⟩, ?_, ?_, ?_⟩
  · intro j rs ow h C D' it' m' p' q' im S9 hpz3; obtain ⟨rfl, _⟩ := hpz3
    exact S9.list 3 rfl
  · intro j rs ow h tk C D' it' p' m'' x' hx' im9 hC S9 hlit hpz4 EO'; (refine e02 hpz4 fun hq0 hrs => ?_; subst hq0; clear hpz4)
    refine e12 (hys.at hx') fun u hu hxu => ?_
    refine wpAny_pure (wpAny_assign_Name (S9.storeL 0 rfl EO' (fun h10 S10 im10 => ?_)))
    try dsimp only
    try dsimp only [List.set_cons_zero, List.set_cons_succ] at S10
    have hxu10 := (hxu.imm im9).imm im10
    obtain ⟨op, ks⟩ := u
    (refine x3c3 (Rep.iff.mp hxu10) fun ad tk0 vs hq3 ht hks => ?_; subst hq3)
    refine e12 (q_head op) fun ch hch hqe => ?_
    refine wpAny_tests_one (wpAny_isTrue_Compare1 (Subscript_ (sub_tup (nameL EO' (S10.ns 0 rfl) rfl ⟨ad, _, 0, _, rfl, ht, seq0 _, rfl, wpAny_Constant_int ?_⟩))))
    refine tail_any (typeIs_str _ _ _) slot_str_getitem.lookup (P.getItem_str (by decide) hch ?_) (by with_unfolding_all rfl)
    refine Constant_str (eq_str ?_)
    try dsimp only
    rw [hqe]
    refine wpAny_truthy_bool ?_
    try dsimp only
    have htake : ts.take (j + 1) = ts.take j ++ [T.nd op ks] := by rw [List.take_add_one, hu]; rfl
    cases hq : op.isQ with
    | true =>
      rw [if_pos rfl]
      refine sub_tup (nameL EO' (S10.ns 0 rfl) rfl ⟨ad, _, 0, _, rfl, ht, seq0 _, rfl, ?_⟩)
      try dsimp only
      refine ⟨h10, _, _, _, rfl, im10, S10, rfl, ?_⟩
      try dsimp only
      rw [htake, List.filter_append, List.map_append]
      have e : ([T.nd op ks] : List T).filter (fun (u : T) => u.op.isQ) = [T.nd op ks] := by simp [T.op, hq]
      rw [e]
      exact strsAre_snoc hrs _ _
    | false =>
      rw [if_neg (by decide)]
      refine ⟨h10, _, _, _, rfl, im10, S10, rfl, ?_⟩
      try dsimp only
      rw [htake, List.filter_append, List.map_append]
      have e : ([T.nd op ks] : List T).filter (fun (u : T) => u.op.isQ) = [] := by simp [T.op, hq]
      rw [e]
      simpa using hrs
  · intro rs ow h tk D' hrl hD' im9 S9 hpz5; obtain ⟨rfl, hrs⟩ := hpz5
    have hfull : ts.take ys.length = ts := by rw [hyl]; exact List.take_length
    rw [hfull] at hrs
    have e0 : ((ts.filter (fun (u : T) => u.op.isQ)).map fun (u : T) => u.op.s) = ((ts.filter (fun (u : T) => u.op.isQ)).map T.op).map Op.s := by rw [List.map_map]; rfl
    rw [e0] at hrs
    have hfl := List.length_filter_le (fun (u : T) => u.op.isQ) ts
    have hrl2 : rs.length ≤ 10 := by have := hrs.length; rw [List.length_map, List.length_map] at this; (clear EO; lia)
    refine sorted_strs_any (collectL (S9.list 0 rfl) (by exact Nat.le_trans hrl2 (Nat.le_of_ble_eq_true rfl)) (fun h10 (k10 : Kp h h10) => ⟨_, hrs, by exact Nat.lt_of_le_of_lt hrl2 (Nat.le_of_ble_eq_true rfl), fun h11 l out ss' (k11 : Kp h10 h11) hln hpl hout hperm hsorted => ?_⟩))
    (refine e12 (perm_map_inv hperm) fun nms hq1 hpn => ?_; subst hq1)
    have hok : NmOk p nms := names_ok hone (by decide) htn htm hpn hsorted
    have S10 := ((S9.tail (ext_notin S1 hD')).tail (ext_notin S hDn)).kp k10
    have hlS : l ∉ lawS hd L := S10.fresh hln
    have S11 := S10.kp k11
    dsimp only
    refine storeL EO (S11.ns 1 rfl) (fun h12 hn12 hs12 => ?_)
    refine e02 (S11.setNs 1 rfl hs12 hn12) fun S12 im12 => ?_
    try dsimp only [List.set_cons_zero, List.set_cons_succ] at S12
    have ch : Chg (lawS hd L) s.heap h12 := fun b o hb e => S12.base b o hb e
    have hlv : LeavesAt h12 l nms := (leavesAt_of hpl.isList hout).of fun o e => hs12.extBut _ _ (fun q => hlS (by rw [q]; simp)) e
    exact hQ h12 _ l nms hok ((((Imm.kp k1).tr im9).tr (Imm.kp (k10.tr k11))).tr im12) ⟨hlS, hlv⟩ (S12.at' rfl) (Hs.mv ch) (Lv.mv ch)
end
theorem Rows.keysN {h : Heap} {tab : Tab} {kvs : List (Str × Value)} (x : Rows h tab kvs) (nd : (tab.map (·.1)).Nodup) : (kvs.map (·.1)).Nodup := by
  rw [x.keys]
  have := nodup_s nd
  rwa [List.map_map] at this
section
variable {prog : Program} {w : World} {B : Heap} {A : Around} {E : Value → Shared → Prop} {s : Shared} {Q : Flow → Shared → Prop} {L f : Addr} {cd : Value} {st : Stmt} {sc : Scope}
theorem law_s3 (W : Wd w B) (hst : lawSt w 3 = some st) (hsc : lawSc w = some sc) (hr : Room A 20) {hd la nv : Addr} {c : Addr × List Value × Int} {m : Str → Option Value} {a : Nat} {nms : List Op} (ha : a ≤ 36) (hnd : nms.Nodup) (hn2 : nms.length ≤ 2) (hm : m "names" = some (.ref nv))
    (S : St B s.heap (lawS hd L) ((hd, handP prog w c a) :: (L, nsP m) :: cellsOw L none none none (some (.ref la)) (some (.ref hd))) s.heap) (Hs : HsS s.heap (lawS hd L) hd c) (Lv : LvS s.heap (lawS hd L) la [.a, .b]) (Nv : LvS s.heap (lawS hd L) nv nms)
    (hQ : ∀ h' tk a' tab tv, a' ≤ 50 → tab.map (·.1) = nms → (∀ x ∈ tab, One [.a, .b] 1 x.2) → Imm s.heap h' → Chg (lawS hd L) s.heap h' → TbS prog w h' (lawS hd L) tab tv → St B h' (lawS hd L) ((hd, handP prog w c a') :: (L, nsP m) :: cellsOw L none (some tv) none (some (.ref la)) (some (.ref hd))) h' → Q .next { s with heap := h', toks := tk }) :
    wpAny (model prog w) A (exec st (lawEnv sc L f cd)) Q E s := by
  have EO : EnvOk (lawEnv sc L f cd) := law_envOk hsc
  obtain rfl := Option.some.inj hst.symm
  obtain rfl := Option.some.inj hsc.symm
  clear hst hsc
  refine e13 (leaves_strs Nv.2) fun vs hvl hvs hvlen => ?_
  have hoff : B.get? hd = none := S.off 0 rfl
  have hlaS : la ≠ hd := fun q => Lv.1 (by rw [q]; simp)
  refine wpAny_Assign_Name (callB W S.kb EO bn_dict rfl ?_)
  try dsimp only
  refine compListE B s.heap (lawS hd L) EO hr.hh (nameL EO (S.ns 1 rfl) hm ?_)
  refine ⟨nv, vs, _, fun j rs ow h => X3 fun a1 tab kvs => C6 (ow = (hd, handP prog w c a1) :: (L, nsP m) :: cellsOw L none none none (some (.ref la)) (some (.ref hd))) (a1 ≤ 36 + 6 * j) (tab.map (·.1) = nms.take j) ((∀ x ∈ tab, One [.a, .b] 1 x.2)) (Rows h tab kvs) (KVs h kvs rs), rfl, hvl, by exact Nat.le_trans (Nat.le_trans (Nat.le_of_eq hvlen) hn2) (Nat.le_of_ble_eq_true rfl), S, ?_, ⟨a, [], [], rfl, by simp [*], by simp, by simp, trivial, rfl, fun i kv p e => by simp at e⟩, ?_, ?_, ?_⟩
  · intro j rs ow h h' im hpz1; (refine x3c6 hpz1 fun a1 tab kvs e e1 e2 e3 e4 e5 => ?_; clear hpz1)
    exact ⟨a1, tab, kvs, e, e1, e2, e3, e4.imm im, e5.imm im⟩
  · intro j rs ow h C D' it' m' p' q' im S9 hpz2; obtain ⟨a1, tab, kvs, rfl, _⟩ := hpz2
    exact let ⟨o, e, r⟩ := hvl; ⟨o, S9.base _ _ Nv.1 e, r⟩
  · intro j rs ow h tk C D' it' p' m'' x' hx' im9 hC S9 hlit hpz3 EO'; (refine x3c6 hpz3 fun a1 tab kvs hq3 ha1 hk hone hrows hkvs => ?_; subst hq3; clear hpz3)
    (refine e22 (strs_at hvs j x' hx') fun x t hx hq3 => ?_; subst hq3)
    rw [List.getElem?_map] at hx
    (refine e12 (Option.map_eq_some_iff.mp hx) fun o ho hq2 => ?_; subst hq2)
    have hjl : j < nms.length := (List.getElem?_eq_some_iff.mp ho).1
    have htake : nms.take (j + 1) = nms.take j ++ [o] := by rw [List.take_add_one, ho]; rfl
    refine wpAny_pure (wpAny_assign_Name (S9.storeL 0 rfl EO' (fun h10 S10 im10 => ?_)))
    try dsimp only [List.set_cons_zero, List.set_cons_succ] at S10
    have ch10 : Chg (lawS hd L) s.heap h10 := fun b o hb e => S10.base b o hb e
    refine wpAny_tests_nil (ifT rfl ?_)
    try dsimp only
    refine tup2 (nameL EO' (S10.ns 0 rfl) rfl (callF W S10.kb EO' gn_one kf_one (nameC EO' (S10.cell 9 rfl) (wpAny_Constant_int (nameC EO' (S10.cell 8 rfl) ⟨S10.kb, ?_⟩)))))
    try dsimp only
    refine one_spec W 1 _ _ _ hd la c a1 [.a, .b] _ 1 rfl (by decide) S10.kb (hr.mono (by exact Nat.le_add_left _ _)) hoff ⟨let ⟨o, e, r, _⟩ := S10.get 3 rfl; ⟨o, e, r⟩, (Hs.mv ch10).2⟩ (by unfold six six; ((try clear hK0); (try clear hn11); (try clear hs11); (try clear EO'); clear EO; lia)) hlaS (Lv.mv ch10).2 (by decide) (by decide) (fun r u h11 tk11 a2 hx11 HA11 hb1 hb2 hrep hone1 => ?_)
    refine e02 (S10.upd (p' := handP prog w c a2) 3 rfl hx11 (let ⟨o, e, r⟩ := HA11.1; ⟨o, e, r, r.nt⟩)) fun S11 im11 => ?_
    try dsimp only [List.set_cons_zero, List.set_cons_succ] at S11
    intro h12 c12 (k12 : Kp h11 h12) ht12
    have imA : Imm h h12 := (im10.tr im11).tr (Imm.kp k12)
    refine ⟨h12, _, _, _, rfl, imA, S11.kp k12, a2, tab ++ [(o, u)], kvs ++ [(o.s, r)], rfl, by unfold six six at hb2; ((try clear hK0); (try clear hn11); (try clear hs11); (try clear EO'); clear EO; lia), by rw [List.map_append, hk, htake]; rfl, fun x hx => ?_, Rows.snoc (hrep.imm (Imm.kp k12)) (hrows.imm imA), (hkvs.imm imA).snoc ⟨c12, t, rfl, ht12⟩⟩
    rcases List.mem_append.mp hx with hx | hx
    · exact hone x hx
    · rw [List.mem_singleton.mp hx]; exact hone1
  · intro rs ow h tk D' hrl hD' im9 S9 hpz4; (refine x3c6 hpz4 fun a1 tab kvs hq3 ha1 hk hone hrows hkvs => ?_; subst hq3; clear hpz4)
    have hfull : nms.take vs.length = nms := by rw [hvlen]; exact List.take_length
    rw [hfull] at hk
    have hkl : kvs.length ≤ 2 := by rw [hrows.length, ← List.length_map (f := fun (x : Op × T) => x.1), hk]; exact hn2
    have hlen : vs.length ≤ 2 := by exact Nat.le_trans (Nat.le_of_eq hvlen) hn2
    refine dict_pairs hr.hh (S9.plain 0 rfl) hkvs (by exact Nat.le_trans hkl (Nat.le_of_ble_eq_true rfl)) (fun h10 tk10 hdict (k10 : Kp h h10) => ?_)
    try dsimp only
    rw [merged_nil_of_nodup _ (hrows.keysN (by rw [hk]; exact hnd))] at hdict
    have hms := notMods W S9.kb
    have hfr : h.get? h.objs.size = none := Heap.get?_none_of_le (Nat.le_refl _)
    dsimp only at hdict ⊢
    generalize (h.objs.size : Addr) = d at *
    have S9' := S9.tail (ext_notin S hD')
    have hdS : d ∉ lawS hd L := S9'.fresh hfr
    have S10 := S9'.kp k10
    refine storeC EO (S10.cell 3 rfl) (fun h11 hc11 hs11 => ?_)
    refine e02 (S10.setCell 3 rfl hs11 hc11) fun S11 im11 => ?_
    try dsimp only [List.set_cons_zero, List.set_cons_succ] at S11
    have imB : Imm h h11 := (Imm.kp k10).tr im11
    refine hQ h11 _ a1 tab (.ref d) (by ((try clear hK0); (try clear hn11); (try clear hs11); (try clear EO'); clear EO; lia)) hk hone (im9.tr imB) (fun b o hb e => S11.base b o hb e) ⟨d, rfl, hdS, d, kvs, rfl, hms, ?_, hrows.imm imB⟩ (S11.at' rfl)
    exact dictOf_kp hdict (fun o e => hs11.extBut _ _ (fun q => hdS (by rw [q]; simp)) e)
end
section
variable {prog : Program} {w : World} {B : Heap} {A : Around} {E : Value → Shared → Prop} {s : Shared} {Q : Flow → Shared → Prop} {L f : Addr} {cd : Value} {st : Stmt} {sc : Scope}
theorem law_s4 (W : Wd w B) (hst : lawSt w 4 = some st) (hsc : lawSc w = some sc) (hr : Room A 20) {hd la : Addr} {c : Addr × List Value × Int} {m : Str → Option Value} {a : Nat} {p : T} {pv tv : Value} {tab : Tab} {cl ch : Option Value} (hw : Wf 3 p) (hp : Rep s.heap p pv) (hm : m "pattern" = some pv) (hT : TbS prog w s.heap (lawS hd L) tab tv) (hnd : (tab.map (·.1)).Nodup) (htl : tab.length ≤ 2) (hxy : ∀ x ∈ tab, x.1 = .x ∨ x.1 = .y)
    (S : St B s.heap (lawS hd L) ((hd, handP prog w c a) :: (L, nsP m) :: cellsOw L none (some tv) none cl ch) s.heap)
    (hQ : ∀ h' tk tr mv, Imm s.heap h' → Chg (lawS hd L) s.heap h' → Rep h' (lput tab p) tr → TbS prog w h' (lawS hd L) (tab ++ [(.w, .nd .c []), (.a, .nd .b [])]) mv → St B h' (lawS hd L) ((hd, handP prog w c a) :: (L, nsP (up (up m "more" mv) "t" tr)) :: cellsOw L none (some tv) none cl ch) h' → Q .next { s with heap := h', toks := tk }) :
    wpAny (model prog w) A (exec st (lawEnv sc L f cd)) Q E s := by
  have EO : EnvOk (lawEnv sc L f cd) := law_envOk hsc
  obtain rfl := Option.some.inj hst.symm
  obtain rfl := Option.some.inj hsc.symm
  clear hst hsc
  refine pairSwapped hr.hh (callF W S.kb EO gn_put kf_put (nameL EO (S.ns 1 rfl) hm (nameC EO (S.cell 3 rfl) ⟨S.kb, put_spec W 3 p _ _ _ _ _ tab hw S.kb (hr.mono (by exact Nat.le_add_left _ _)) hp hT.tab (fun tr h1 tk1 (k1 : Kp s.heap h1) hrep => ?_)⟩)))
  have S1 := S.kp k1
  obtain ⟨d, rfl, hdS, d', kvs, e, hms, hdict, hrows⟩ := hT
  cases e
  have hd1 := dictOf_kp hdict (fun o => k1 d o)
  have hkl : kvs.length ≤ 2 := by rw [hrows.length]; exact htl
  refine callB W S1.kb EO bn_dict rfl (wpAny_BinOp (callB W S1.kb EO bn_list rfl (methT PySem.F.plainAttrs_dict PySem.F.slot_dict_items PySem.F.type_dict_items (nameC EO (S1.cell 3 rfl) ⟨hd1.typeIs, nd_dict hd1, dict_items hms hd1 (fun h2 v2 (k2 : Kp h1 h2) hv2 => ?_)⟩))))
  have hd2 := dictOf_kp hd1 (fun o => k2 d o)
  refine list_items hr.hh hv2 hd2 (by exact Nat.le_trans hkl (Nat.le_of_ble_eq_true rfl)) (fun h3 tk3 c3 ps (k3 : Kp h2 h3) hcn3 hpl3 hkv3 => ?_)
  have S3 := (S1.kp k2).kp k3
  dsimp only
  refine listN ?_
  refine tup2 (wpAny_Constant_str (tup1 (wpAny_Constant_str ?_)))
  intro h4 c4 (k4 : Kp h3 h4) hc4 h5 c5 (k5 : Kp h4 h5) hc5
  refine tup2 (wpAny_Constant_str (tup1 (wpAny_Constant_str ?_)))
  intro h6 c6 (k6 : Kp h5 h6) hc6 h7 c7 (k7 : Kp h6 h7) hc7
  refine ⟨by simp, fun h8 l8 (k8 : Kp h7 h8) hln8 hpl8 => ?_⟩
  have k38 : Kp h3 h8 := (((k4.tr k5).tr k6).tr k7).tr k8
  have S8 := S3.kp k38
  dsimp only
  have hpl3' : h8.PlainList c3 _ := hpl3.at fun o e => k38 _ _ e
  have hpsl : ps.length ≤ 2 := by rw [hkv3.1]; exact hkl
  refine add_lists hpl3' hpl8 (by simp; exact Nat.le_trans hpsl (Nat.le_of_ble_eq_true rfl)) (fun h9 c9 (k9 : Kp h8 h9) hcn9 hpl9 => ?_)
  have hkv9 : KVs h9 (kvs ++ [(Op.w.s, .ref c4), (Op.a.s, .ref c6)]) (ps ++ [.ref c5, .ref c7]) := by
    have h1 := ((hkv3.imm (Imm.kp (k38.tr k9))).snoc (kv := (Op.w.s, .ref c4)) (p := .ref c5) ⟨c5, _, rfl, hc5.keeps ((k6.tr k7).tr (k8.tr k9))⟩).snoc (kv := (Op.a.s, .ref c6)) (p := .ref c7) ⟨c7, _, rfl, hc7.keeps (k8.tr k9)⟩
    rw [List.append_assoc, List.append_assoc] at h1
    exact h1
  have rep1 : ∀ {hh : Heap} {cc : Addr} {tk : Tok} {o : Op}, IsTup hh cc (List.toArray [Value.str o.s tk]) → Rep hh (.nd o []) (.ref cc) := fun hx => Rep.iff.mpr ⟨_, _, [], rfl, hx, RepL.nil_iff.mpr rfl⟩
  have kAll : Kp s.heap h9 := (((k1.tr k2).tr k3).tr k38).tr k9
  have hrows9 : Rows h9 (tab ++ [(.w, .nd .c []), (.a, .nd .b [])]) (kvs ++ [(Op.w.s, .ref c4), (Op.a.s, .ref c6)]) := by
    have h1 := Rows.snoc (o := .a) (rep1 (o := .b) (hc6.keeps ((k7.tr k8).tr k9))) (Rows.snoc (o := .w) (rep1 (o := .c) (hc4.keeps (((k5.tr k6).tr k7).tr (k8.tr k9)))) (hrows.imm (Imm.kp kAll)))
    rw [List.append_assoc, List.append_assoc] at h1
    exact h1
  have hnd9 : ((tab ++ [(Op.w, T.nd .c []), (.a, .nd .b [])]).map (·.1)).Nodup := by
    rw [List.map_append]
    refine List.nodup_append.mpr ⟨hnd, by decide, fun x hx y hy => ?_⟩
    (refine e12 (List.mem_map.mp hx) fun z hz hq2 => ?_; subst hq2)
    have hy' : y = Op.w ∨ y = Op.a := by simpa using hy
    rcases hxy z hz with h1 | h1 <;> rcases hy' with h2 | h2 <;> (refine Eq.symm (h1 ..) ▸ ?_; refine Eq.symm (h2 ..) ▸ ?_) <;> decide
  refine dict_pairs hr.hh hpl9 hkv9 (by simp; exact Nat.le_trans hkl (Nat.le_of_ble_eq_true rfl)) (fun h10 tk10 hdict10 (k10 : Kp h9 h10) => ?_)
  rw [merged_nil_of_nodup _ (hrows9.keysN hnd9)] at hdict10
  have S9 := S8.kp k9
  have hms10 := notMods W S9.kb
  have hfr : h9.get? h9.objs.size = none := Heap.get?_none_of_le (Nat.le_refl _)
  dsimp only at hdict10 ⊢
  generalize (h9.objs.size : Addr) = dm at *
  have hdmS : dm ∉ lawS hd L := S9.fresh hfr
  intro h11 tk11 (k11 : Kp h10 h11)
  have S11 := (S9.kp k10).kp k11
  refine storeL EO (S11.ns 1 rfl) (fun h12 hn12 hs12 => ?_)
  refine e02 (S11.setNs 1 rfl hs12 hn12) fun S12 im12 => ?_
  refine storeL EO (S12.ns 1 rfl) (fun h13 hn13 hs13 => ?_)
  refine e02 (S12.setNs 1 rfl hs13 hn13) fun S13 im13 => ?_
  try dsimp only [List.set_cons_zero, List.set_cons_succ] at S13
  have im1 : Imm h9 h13 := ((Imm.kp (k10.tr k11)).tr im12).tr im13
  have imB : Imm s.heap h13 := (Imm.kp kAll).tr im1
  refine hQ h13 _ tr (.ref dm) imB (fun b o hb e => S13.base b o hb e) (hrep.imm ((Imm.kp (((k2.tr k3).tr k38).tr k9)).tr im1)) ⟨dm, rfl, hdmS, dm, _, rfl, hms10, ?_, hrows9.imm im1⟩ (S13.at' rfl)
  exact dictOf_kp hdict10 (fun o e => hs13.extBut _ _ (fun q => hdmS (by rw [q]; simp)) (hs12.extBut _ _ (fun q => hdmS (by rw [q]; simp)) (k11 _ _ e)))
end
/-- what the law has drawn -/
structure Drawn1 (p : T) (nms : List Op) (tab : Tab) : Prop where
  one : One pleaves 2 p
  nm : NmOk p nms
  keys : tab.map (·.1) = nms
  vals : ∀ x ∈ tab, One [.a, .b] 1 x.2
theorem Drawn1.wf {p : T} {nms : List Op} {tab : Tab} (x : Drawn1 p nms tab) : Wf 3 p := one_wf x.one (Nat.le_refl _)
theorem Drawn1.pq {p : T} {nms : List Op} {tab : Tab} (x : Drawn1 p nms tab) : PatQ p := one_patq x.one
theorem Drawn1.size {p : T} {nms : List Op} {tab : Tab} (x : Drawn1 p nms tab) : p.size ≤ 10 := one_size2 x.one
theorem Drawn1.nd {p : T} {nms : List Op} {tab : Tab} (x : Drawn1 p nms tab) : (tab.map (·.1)).Nodup := by rw [x.keys]; exact x.nm.of.1
theorem Drawn1.len {p : T} {nms : List Op} {tab : Tab} (x : Drawn1 p nms tab) : tab.length ≤ 2 := by rw [← List.length_map (f := fun (x : Op × T) => x.1), x.keys]; exact x.nm.len
theorem Drawn1.xy {p : T} {nms : List Op} {tab : Tab} (x : Drawn1 p nms tab) : ∀ z ∈ tab, z.1 = .x ∨ z.1 = .y := fun z hz => x.nm.xy _ (by rw [← x.keys]; exact List.mem_map.mpr ⟨z, hz, rfl⟩)
theorem Drawn1.wfv {p : T} {nms : List Op} {tab : Tab} (x : Drawn1 p nms tab) : ∀ z ∈ tab, Wf 2 z.2 := fun z hz => one_wf (x.vals z hz) (by decide)
theorem Drawn1.wft {p : T} {nms : List Op} {tab : Tab} (x : Drawn1 p nms tab) : Wf 5 (lput tab p) := wf_lput x.wfv 3 p x.wf
theorem Drawn1.sizet {p : T} {nms : List Op} {tab : Tab} (x : Drawn1 p nms tab) : (lput tab p).size ≤ 30 := by
  have := size_lput (tab := tab) (m := 3) (by decide) (fun z hz => one_size1 (x.vals z hz)) p
  have := x.size
  lia
theorem Drawn1.has {p : T} {nms : List Op} {tab : Tab} (x : Drawn1 p nms tab) : ∀ u ∈ subs p, u.op.isQ = true → tab.lookup u.op ≠ none := fun u hu hq => lookup_some_of_key (by rw [x.keys]; exact (x.nm.of.2 _).mpr ⟨hq, u, hu, rfl⟩)
theorem Drawn1.offq {p : T} {nms : List Op} {tab : Tab} (x : Drawn1 p nms tab) {o : Op} (ho : o.isQ = false) : tab.lookup o = none := q_none (fun z hz => by rcases x.xy z hz with h | h <;> rw [h] <;> rfl) ho
theorem Drawn1.plc {p : T} {nms : List Op} {tab : Tab} (x : Drawn1 p nms tab) : plc tab p = some (lput tab p) := plc_put p x.pq (fun u hu hq => ⟨rfl, x.has u hu hq⟩) fun u _ hq => x.offq hq
theorem lookup_append {o : Op} {t1 t2 : Tab} (h : t1.lookup o ≠ none) : (t1 ++ t2).lookup o = t1.lookup o := by
  induction t1 with
  | nil => exact absurd rfl h
  | cons x r ih =>
    obtain ⟨o', u⟩ := x
    dsimp only [List.cons_append, List.lookup_cons, List.lookup_cons]
    rw [List.lookup_cons] at h
    by_cases ho : o = o'
    · subst ho; simp
    · have hb : (o == o') = false := by rw [beq_eq_false_iff_ne]; exact ho
      simp only [hb] at h ⊢
      exact ih h
theorem Drawn1.plcMore {p : T} {nms : List Op} {tab more : Tab} (x : Drawn1 p nms tab) : Mine.plc (tab ++ more) p = some (lput tab p) := plc_put p x.pq (fun u hu hq => ⟨lookup_append (x.has u hu hq), x.has u hu hq⟩) fun u _ hq => x.offq hq
section
variable {prog : Program} {w : World} {B : Heap} {A : Around} {E : Value → Shared → Prop} {s : Shared} {Q : Flow → Shared → Prop} {L f : Addr} {cd : Value} {st : Stmt} {sc : Scope}
theorem law_s5 (W : Wd w B) (hst : lawSt w 5 = some st) (hsc : lawSc w = some sc) (hr : Room A 20) {hd : Addr} {c : Addr × List Value × Int} {m : Str → Option Value} {a : Nat} {p : T} {pv tv tr mv : Value} {nms : List Op} {tab more : Tab} {cl ch : Option Value} (D : Drawn1 p nms tab) (hp : Rep s.heap p pv) (hm : m "pattern" = some pv) (hT : TbS prog w s.heap (lawS hd L) tab tv) (hM : TbS prog w s.heap (lawS hd L) (tab ++ more) mv)
    (ht : Rep s.heap (lput tab p) tr) (hmt : m "t" = some tr) (hmm : m "more" = some mv)
    (S : St B s.heap (lawS hd L) ((hd, handP prog w c a) :: (L, nsP m) :: cellsOw L none (some tv) none cl ch) s.heap)
    (hQ : ∀ h' tk, Kp s.heap h' → Q .next { s with heap := h', toks := tk }) :
    wpAny (model prog w) A (exec st (lawEnv sc L f cd)) Q E s := by
  have EO : EnvOk (lawEnv sc L f cd) := law_envOk hsc
  obtain rfl := Option.some.inj hst.symm
  obtain rfl := Option.some.inj hsc.symm
  clear hst hsc
  have hu9 : A.units + 64 < cLine := hr.units64
  have hu10 : A.in1.units + 64 < cLine := by have := hr.2.2; show A.units + 1 + 64 < _; (clear EO; lia)
  refine wpAny_If (wpAny_isTrue_BoolOp (wpAny_allTrue_Or_cons (wpAny_isTrue_Compare1 (callF W S.kb EO gn_placed kf_placed (nameL EO (S.ns 1 rfl) hm (nameC EO (S.cell 3 rfl) ⟨S.kb, placed_ok W 3 p _ _ _ _ _ _ tab D.wf D.plc S.kb (hr.mono (by exact Nat.le_add_left _ _)) hp hT.tab (fun r1 h1 tk1 (k1 : Kp s.heap h1) hrep1 => ?_)⟩))))))
  have S1 := S.kp k1
  refine nameL EO (S1.ns 1 rfl) hmt (ne_trees hrep1 (ht.imm (Imm.kp k1)) D.wft D.wft (by decide) (by decide) hu9 (fun b hb => wpAny_truthy_bool ?_))
  have hbf : b = false := by cases b with | false => rfl | true => exact absurd rfl (hb.mp rfl)
  subst hbf
  refine ifF rfl ?_
  refine wpAny_allTrue_Or_cons (wpAny_isTrue_Compare1 (callF W S1.kb EO gn_placed kf_placed (nameL EO (S1.ns 1 rfl) hm (nameL EO (S1.ns 1 rfl) hmm ⟨S1.kb, placed_ok W 3 p _ _ _ _ _ _ (tab ++ more) D.wf D.plcMore S1.kb (hr.mono (by exact Nat.le_add_left _ _)) (hp.imm (Imm.kp k1)) (hM.tab.kp k1) (fun r2 h2 tk2 (k2 : Kp h1 h2) hrep2 => ?_)⟩))))
  have S2 := S1.kp k2
  refine nameL EO (S2.ns 1 rfl) hmt (ne_trees hrep2 (ht.imm (Imm.kp (k1.tr k2))) D.wft D.wft (by decide) (by decide) hu9 (fun b hb => wpAny_truthy_bool ?_))
  have hbf : b = false := by cases b with | false => rfl | true => exact absurd rfl (hb.mp rfl)
  subst hbf
  refine ifF rfl ?_
  obtain ⟨tab', hmr, hlen, hsame, _, hsub⟩ := match_tab D.pq D.nm.of D.keys rfl
  refine wpAny_allTrue_Or_cons (wpAny_isTrue_Compare1 (callF W S2.kb EO gn_matched kf_matched (nameL EO (S2.ns 1 rfl) hm (nameL EO (S2.ns 1 rfl) hmt ⟨S2.kb, matched_spec W (n := 10) S2.kb (hr.mono (by exact Nat.le_add_left _ _)) (hp.imm (Imm.kp (k1.tr k2))) (ht.imm (Imm.kp (k1.tr k2))) (D.wf.up (by decide)) D.wft (by decide) (by have := D.size; exact Nat.le_trans this (Nat.le_of_ble_eq_true rfl)) (fun rv h3 tk3 (k3 : Kp h2 h3) _ htab => ?_)⟩))))
  have S3 := S2.kp k3
  refine nameC EO (S3.cell 3 rfl) (ne_tabs (n := 5) (htab tab' hmr) (hT.tab.kp ((k1.tr k2).tr k3)) hlen hsame (fun z hz => subs_wf D.wft (hsub z hz)) (by decide) hu10 (wpAny_truthy_bool ?_))
  refine ifF rfl (wpAny_allTrue_Or_nil (ifF rfl (wpAny_execs_nil ?_)))
  exact hQ h3 _ ((k1.tr k2).tr k3)
end
section
variable {prog : Program} {w : World}
theorem St.bankUpdS {B H h h' : Heap} {S : List Addr} {pre ow : List (Addr × OP)} {k : BK} {ts' : List T} {cs : List Addr} {wv dv : List Value} {xs} (x : St B H S (pre ++ bankOw prog w k cs wv dv xs ow) h) (off : BankOff B k) (hc : Chg k.four h h') (bk : BankAt prog w h' k ts') :
    X4 fun cs' wv' dv' xs' => BankInv h' ts' cs' wv' dv' xs' ∧ St B H S (pre ++ bankOw prog w k cs' wv' dv' xs' ow) h' := by
  obtain ⟨o, cs', wv', dv', xs', inv, e1, e2, e3, e4⟩ := bk
  refine ⟨cs', wv', dv', xs', inv, ?_⟩
  have keys : ∀ (cs : List Addr) (wv dv : List Value) (xs), (pre ++ bankOw prog w k cs wv dv xs ow).map (·.1) = pre.map (·.1) ++ k.nl :: k.nd :: k.wl :: k.dl :: ow.map (·.1) := fun cs wv dv xs => by simp
  have nd := x.nd
  rw [keys] at nd
  rw [List.nodup_append] at nd
  obtain ⟨_, nd2, nd3⟩ := nd
  simp only [List.nodup_cons, List.mem_cons, not_or] at nd2
  have hpre : ∀ p ∈ pre, p.1 ∉ k.four := fun p hp q => by
    have h1 : p.1 ∈ pre.map (·.1) := List.mem_map.mpr ⟨p, hp, rfl⟩
    simp only [BK.four, List.mem_cons, List.not_mem_nil, or_false] at q
    exact nd3 _ h1 _ (by simp only [List.mem_cons]; rcases q with q | q | q | q <;> simp [q]) rfl
  have how : ∀ p ∈ ow, p.1 ∉ k.four := fun p hp q => by
    have h1 : p.1 ∈ ow.map (·.1) := List.mem_map.mpr ⟨p, hp, rfl⟩
    simp only [BK.four, List.mem_cons, List.not_mem_nil, or_false] at q
    rcases q with q | q | q | q
    · exact nd2.1.2.2.2 (q ▸ h1)
    · exact nd2.2.1.2.2 (q ▸ h1)
    · exact nd2.2.2.1.2 (q ▸ h1)
    · exact nd2.2.2.2.1 (q ▸ h1)
  have hB : ∀ b o, B.get? b = some o → b ∉ k.four := fun b o e q => by
    simp only [BK.four, List.mem_cons, List.not_mem_nil, or_false] at q
    rcases q with q | q | q | q
    · rw [q, off.nl] at e; cases e
    · rw [q, off.nd] at e; cases e
    · rw [q, off.wl] at e; cases e
    · rw [q, off.dl] at e; cases e
  have cases' : ∀ {cs : List Addr} {wv dv : List Value} {xs} {P : Addr × OP → Prop}, (∀ p ∈ pre, P p) → (∀ p ∈ ow, P p) → P (k.nl, listP (List.toArray (cs.map Value.ref))) → P (k.nd, numP prog w xs) → P (k.wl, listP wv.toArray) → P (k.dl, listP dv.toArray) → ∀ p ∈ pre ++ bankOw prog w k cs wv dv xs ow, P p := by
    intro cs wv dv xs P a b c d e f p hp
    rcases List.mem_append.mp hp with hp | hp
    · exact a p hp
    rcases List.mem_cons.mp hp with rfl | hp
    · exact c
    rcases List.mem_cons.mp hp with rfl | hp
    · exact d
    rcases List.mem_cons.mp hp with rfl | hp
    · exact e
    rcases List.mem_cons.mp hp with rfl | hp
    · exact f
    exact b p hp
  have get : ∀ p ∈ pre ++ bankOw prog w k cs wv dv xs ow, B.get? p.1 = none ∧ (H.get? p.1 = none ∨ p.1 ∈ S) := x.new
  have g1 : B.get? k.nl = none ∧ (H.get? k.nl = none ∨ k.nl ∈ S) := get (k.nl, listP (List.toArray (cs.map Value.ref))) (List.mem_append_right _ (.head _))
  have g2 : B.get? k.nd = none ∧ (H.get? k.nd = none ∨ k.nd ∈ S) := get (k.nd, numP prog w xs) (List.mem_append_right _ (.tail _ (.head _)))
  have g3 : B.get? k.wl = none ∧ (H.get? k.wl = none ∨ k.wl ∈ S) := get (k.wl, listP wv.toArray) (List.mem_append_right _ (.tail _ (.tail _ (.head _))))
  have g4 : B.get? k.dl = none ∧ (H.get? k.dl = none ∨ k.dl ∈ S) := get (k.dl, listP dv.toArray) (List.mem_append_right _ (.tail _ (.tail _ (.tail _ (.head _)))))
  have hS : ∀ b o, b ∉ S → H.get? b = some o → b ∉ k.four := fun b o hb e q => by
    have key : H.get? b = none ∨ b ∈ S := by
      simp only [BK.four, List.mem_cons, List.not_mem_nil, or_false] at q
      rcases q with q | q | q | q
      · rw [q]; exact g1.2
      · rw [q]; exact g2.2
      · rw [q]; exact g3.2
      · rw [q]; exact g4.2
    rcases key with h1 | h1
    · rw [e] at h1; cases h1
    · exact hb h1
  refine ⟨fun b o e => hc b o (hB b o e) (x.kb b o e), fun b o hb e => hc b o (hS b o hb e) (x.base b o hb e), cases' (fun p hp => ?_) (fun p hp => ?_) (let ⟨o, e, p⟩ := e1; ⟨o, e, p, p.nt⟩) (let ⟨o, e, p⟩ := e2; ⟨o, e, p, p.nt⟩) (let ⟨o, e, p⟩ := e3; ⟨o, e, p, p.nt⟩) (let ⟨o, e, p⟩ := e4; ⟨o, e, p, p.nt⟩),
    cases' (fun p hp => get p (List.mem_append_left _ hp)) (fun p hp => get p (List.mem_append_right _ (.tail _ (.tail _ (.tail _ (.tail _ hp)))))) g1 g2 g3 g4, ?_, ?_⟩
  · refine e12 (x.own p (List.mem_append_left _ hp)) fun o e r => ?_
    exact ⟨o, hc _ _ (hpre p hp) e, r⟩
  · refine e12 (x.own p (List.mem_append_right _ (.tail _ (.tail _ (.tail _ (.tail _ hp)))))) fun o e r => ?_
    exact ⟨o, hc _ _ (how p hp) e, r⟩
  · have := x.nd
    rw [keys] at this ⊢; exact this
  · have := x.sub
    rw [keys] at this ⊢; exact this
theorem St.bankAtS {B H h : Heap} {S : List Addr} {pre ow : List (Addr × OP)} {k : BK} {ts : List T} {cs : List Addr} {wv dv : List Value} {xs} (x : St B H S (pre ++ bankOw prog w k cs wv dv xs ow) h) (o : BankObj h k) (inv : BankInv h ts cs wv dv xs) : BankAt prog w h k ts :=
  ⟨o, cs, wv, dv, xs, inv, (let ⟨o, e, p, _⟩ := x.own (k.nl, _) (List.mem_append_right _ (.head _)); ⟨o, e, p⟩), (let ⟨o, e, p, _⟩ := x.own (k.nd, _) (List.mem_append_right _ (.tail _ (.head _))); ⟨o, e, p⟩),
    (let ⟨o, e, p, _⟩ := x.own (k.wl, _) (List.mem_append_right _ (.tail _ (.tail _ (.head _)))); ⟨o, e, p⟩), (let ⟨o, e, p, _⟩ := x.own (k.dl, _) (List.mem_append_right _ (.tail _ (.tail _ (.tail _ (.head _))))); ⟨o, e, p⟩)⟩
end
noncomputable def BkS (h : Heap) (S : List Addr) (k : BK) : Prop := k.b ∉ S ∧ k.db ∉ S ∧ BankObj h k
theorem BkS.mv {h h' : Heap} {S : List Addr} {k : BK} (x : BkS h S k) (c : Chg S h h') : BkS h' S k := ⟨x.1, x.2.1, x.2.2.of (fun o e => c _ _ x.1 e) fun o e => c _ _ x.2.1 e⟩
theorem LvS.more {h : Heap} {S F : List Addr} {la : Addr} {los : List Op} (x : LvS h S la los) (hF : ∀ a ∈ F, h.get? a = none) : LvS h (F ++ S) la los := by
  refine ⟨fun q => ?_, x.2⟩
  rcases List.mem_append.mp q with q | q
  · obtain ⟨vs, hpz1, _⟩ := x.2; obtain ⟨o, e, _⟩ := hpz1
    rw [hF _ q] at e; cases e
  · exact x.1 q
theorem HsS.more {h : Heap} {S F : List Addr} {hd : Addr} {c : Addr × List Value × Int} (x : HsS h S hd c) (hF : ∀ a ∈ F, h.get? a = none) : HsS h (F ++ S) hd c := by
  refine ⟨fun q => ?_, x.2⟩
  rcases List.mem_append.mp q with q | q
  · obtain ⟨o, e, _⟩ := x.2.lst
    rw [hF _ q] at e; cases e
  · exact x.1 q
theorem TbS.more {prog : Program} {w : World} {h : Heap} {S F : List Addr} {tab : Tab} {v : Value} (x : TbS prog w h S tab v) (hF : ∀ a ∈ F, h.get? a = none) : TbS prog w h (F ++ S) tab v := by
  (refine e13 x fun d hq1 hd t => ?_; subst hq1; clear x)
  refine ⟨d, rfl, fun q => ?_, t⟩
  rcases List.mem_append.mp q with q | q
  · obtain ⟨d', kvs, e, _, hpz2, _⟩ := t; obtain ⟨o, es, ep, eo, _⟩ := hpz2
    cases e
    rw [hF _ q] at eo; cases eo
  · exact hd q
noncomputable abbrev lawS2 (k : BK) (hd L : Addr) : List Addr := k.four ++ lawS hd L
section
variable {prog : Program} {w : World} {B : Heap} {A : Around} {E : Value → Shared → Prop} {s : Shared} {Q : Flow → Shared → Prop} {L f : Addr} {cd : Value} {st : Stmt} {sc : Scope}
theorem law_s6 (W : Wd w B) (hst : lawSt w 6 = some st) (hsc : lawSc w = some sc) (hr : Room A 20) {hd : Addr} {c : Addr × List Value × Int} {m : Str → Option Value} {a : Nat} {tv cl ch : Option Value}
    (S : St B s.heap (lawS hd L) ((hd, handP prog w c a) :: (L, nsP m) :: cellsOw L none tv none cl ch) s.heap)
    (hQ : ∀ h' tk (k : BK) cs wv dv xs, (∀ a ∈ k.four, s.heap.get? a = none) → Chg (lawS hd L) s.heap h' → Imm s.heap h' → BankOff B k → BankInv h' [] cs wv dv xs → BkS h' (lawS2 k hd L) k → St B h' (lawS2 k hd L) (bankOw prog w k cs wv dv xs ((hd, handP prog w c a) :: (L, nsP m) :: cellsOw L (some (.ref k.b)) tv none cl ch)) h' → Q .next { s with heap := h', toks := tk }) :
    wpAny (model prog w) A (exec st (lawEnv sc L f cd)) Q E s := by
  have EO : EnvOk (lawEnv sc L f cd) := law_envOk hsc
  obtain rfl := Option.some.inj hst.symm
  obtain rfl := Option.some.inj hsc.symm
  clear hst hsc
  refine wpAny_Assign_Name (wpAny_Call_ofName (nameG W S.kb EO gn_Bank (callWithP (P := fun h => Kp B h) (fun h hk => keeps_K (kf_Bank w) h (W.kin.keeps hk)) ?_)))
  refine ⟨S.kb, newBank W (n := 10) S.kb (hr.mono (by exact Nat.le_add_left _ _)) (fun h1 tk1 k (k1 : Kp s.heap h1) off hfour hb hdb bk => ?_)⟩
  obtain ⟨bo, cs, wv, dv, xs, inv, e1, e2, e3, e4⟩ := bk
  have hbS : k.b ∉ lawS hd L := S.fresh hb
  have hdbS : k.db ∉ lawS hd L := S.fresh hdb
  have hfS : ∀ a ∈ k.four, a ∉ lawS hd L := fun a ha => S.fresh (hfour a ha)
  have S1 := S.kp k1
  have hnewB : ∀ a ∈ k.four, B.get? a = none := fun a ha => by
    cases e : B.get? a with
    | none => rfl
    | some o => have := S.kb _ _ e; rw [hfour a ha] at this; cases this
  have hnew : ∀ a ∈ k.four, B.get? a = none ∧ s.heap.get? a = none := fun a ha => ⟨hnewB a ha, hfour a ha⟩
  -- the four are owned
  have S2 : St B s.heap (lawS hd L) (bankOw prog w k cs wv dv xs ((hd, handP prog w c a) :: (L, nsP m) :: cellsOw L none tv none cl ch)) h1 := by
    have nd := off.dist
    simp only [BK.four, List.nodup_cons, List.mem_cons, List.not_mem_nil, or_false, not_or, not_false_eq_true, List.nodup_nil, and_true] at nd
    have f1 := hfS k.nl (by simp)
    have f2 := hfS k.nd (by simp)
    have f3 := hfS k.wl (by simp)
    have f4 := hfS k.dl (by simp)
    refine ⟨S1.kb, S1.base, fun p hp => ?_, fun p hp => ?_, ?_, fun b hb => ?_⟩
    · rcases List.mem_cons.mp hp with rfl | hp
      · exact let ⟨o, e, p⟩ := e1; ⟨o, e, p, p.nt⟩
      rcases List.mem_cons.mp hp with rfl | hp
      · exact let ⟨o, e, p⟩ := e2; ⟨o, e, p, p.nt⟩
      rcases List.mem_cons.mp hp with rfl | hp
      · exact let ⟨o, e, p⟩ := e3; ⟨o, e, p, p.nt⟩
      rcases List.mem_cons.mp hp with rfl | hp
      · exact let ⟨o, e, p⟩ := e4; ⟨o, e, p, p.nt⟩
      exact S1.own p hp
    · rcases List.mem_cons.mp hp with rfl | hp
      · exact ⟨(hnew k.nl (by simp)).1, .inl (hnew k.nl (by simp)).2⟩
      rcases List.mem_cons.mp hp with rfl | hp
      · exact ⟨(hnew k.nd (by simp)).1, .inl (hnew k.nd (by simp)).2⟩
      rcases List.mem_cons.mp hp with rfl | hp
      · exact ⟨(hnew k.wl (by simp)).1, .inl (hnew k.wl (by simp)).2⟩
      rcases List.mem_cons.mp hp with rfl | hp
      · exact ⟨(hnew k.dl (by simp)).1, .inl (hnew k.dl (by simp)).2⟩
      exact S1.new p hp
    · show (k.nl :: k.nd :: k.wl :: k.dl :: lawS hd L).Nodup
      have ndS : (lawS hd L).Nodup := S1.nd
      simp only [List.nodup_cons (a := k.nl), List.nodup_cons (a := k.nd), List.nodup_cons (a := k.wl), List.nodup_cons (a := k.dl)]
      refine ⟨fun q => ?_, fun q => ?_, fun q => ?_, f4, ndS⟩
      · rcases List.mem_cons.mp q with q | q
        · exact nd.1.1 q
        rcases List.mem_cons.mp q with q | q
        · exact nd.1.2.1 q
        rcases List.mem_cons.mp q with q | q
        · exact nd.1.2.2 q
        exact f1 q
      · rcases List.mem_cons.mp q with q | q
        · exact nd.2.1.1 q
        rcases List.mem_cons.mp q with q | q
        · exact nd.2.1.2 q
        exact f2 q
      · rcases List.mem_cons.mp q with q | q
        · exact nd.2.2 q
        exact f3 q
    · exact List.mem_cons_of_mem _ (List.mem_cons_of_mem _ (List.mem_cons_of_mem _ (List.mem_cons_of_mem _ (S1.sub b hb))))
  refine storeC EO (S2.cell 6 rfl) (fun h3 hc3 hs3 => ?_)
  refine e02 (S2.setCell 6 rfl hs3 hc3) fun S3 im3 => ?_
  try dsimp only [List.set_cons_zero, List.set_cons_succ] at S3
  have hkL : ∀ {x : Addr}, x ∉ lawS hd L → x ≠ L + 1 + 1 + 1 + 1 + 1 := fun hx q => hx (by rw [q]; simp)
  refine hQ h3 _ k cs wv dv xs hfour (fun b o hb e => S3.base b o hb e) ((Imm.kp k1).tr im3) off (inv.imm im3) ⟨?_, ?_, bo.of (fun o e => hs3.extBut _ _ (hkL hbS) e) fun o e => hs3.extBut _ _ (hkL hdbS) e⟩ (S3.at' rfl)
  · intro q
    rcases List.mem_append.mp q with q | q
    · exact off.b q
    · exact hbS q
  · intro q
    rcases List.mem_append.mp q with q | q
    · exact off.db q
    · exact hdbS q
end
theorem NRows.snoc {ts : List T} {o : Op} {t : T} {i : Nat} {tk : Tok} (h : ts[i]? = Option.some t) : ∀ {tab : Tab} {kvs : List (Str × Value)}, NRows ts tab kvs → NRows ts (tab ++ [(o, t)]) (kvs ++ [(o.s, Value.int (i : Nat) tk)])
  | [], [], _ => ⟨rfl, ⟨i, tk, rfl, h⟩, trivial⟩
  | _ :: _, _ :: _, ⟨a, b, c⟩ => ⟨a, b, c.snoc h⟩
  | [], _ :: _, x => x.elim
  | _ :: _, [], x => x.elim
theorem NRows.keys {ts : List T} : ∀ {tab : Tab} {kvs : List (Str × Value)}, NRows ts tab kvs → kvs.map (·.1) = tab.map (·.1.s)
  | [], [], _ => rfl
  | _ :: _, _ :: _, ⟨a, b, c⟩ => by rw [List.map_cons, List.map_cons, c.keys, a]
  | [], _ :: _, x => x.elim
  | _ :: _, [], x => x.elim
theorem NRows.keysN {ts : List T} {tab : Tab} {kvs : List (Str × Value)} (x : NRows ts tab kvs) (nd : (tab.map (·.1)).Nodup) : (kvs.map (·.1)).Nodup := by
  rw [x.keys]
  have := nodup_s nd
  rwa [List.map_map] at this
theorem kf_bput (w : World) : keepIn (KK w) (.ref 136) = true := by kernel_rfl
theorem kf_term (w : World) : keepIn (KK w) (.ref 174) = true := by kernel_rfl
section
variable {prog : Program} {w : World} {B : Heap} {A : Around} {E : Value → Shared → Prop} {s : Shared} {Q : Flow → Shared → Prop} {L f : Addr} {cd : Value} {st : Stmt} {sc : Scope}
theorem law_s7 (W : Wd w B) (hst : lawSt w 7 = some st) (hsc : lawSc w = some sc) (hr : Room A 20) {hd nv : Addr} {c : Addr × List Value × Int} {m : Str → Option Value} {a : Nat} {p : T} {nms : List Op} {tab : Tab} {tv : Value} {cl ch : Option Value} {k : BK} {cs : List Addr} {wv dv : List Value} {xs} (D : Drawn1 p nms tab) (hm : m "names" = some (.ref nv)) (off : BankOff B k)
    (inv : BankInv s.heap [] cs wv dv xs) (Bk : BkS s.heap (lawS2 k hd L) k) (Nv : LvS s.heap (lawS2 k hd L) nv nms) (hT : TbS prog w s.heap (lawS2 k hd L) tab tv)
    (S : St B s.heap (lawS2 k hd L) (bankOw prog w k cs wv dv xs ((hd, handP prog w c a) :: (L, nsP m) :: cellsOw L (some (.ref k.b)) (some tv) none cl ch)) s.heap)
    (hQ : ∀ h' tk ts cs wv dv xs d, ts.length ≤ 6 → BankInv h' ts cs wv dv xs → NumAt prog w h' k ts tab d → d ∉ lawS2 k hd L → Imm s.heap h' → Chg (lawS2 k hd L) s.heap h' → St B h' (lawS2 k hd L) (bankOw prog w k cs wv dv xs ((hd, handP prog w c a) :: (L, nsP (up m "numbers" (.ref d))) :: cellsOw L (some (.ref k.b)) (some tv) none cl ch)) h' → Q .next { s with heap := h', toks := tk }) :
    wpAny (model prog w) A (exec st (lawEnv sc L f cd)) Q E s := by
  have EO : EnvOk (lawEnv sc L f cd) := law_envOk hsc
  obtain rfl := Option.some.inj hst.symm
  obtain rfl := Option.some.inj hsc.symm
  clear hst hsc
  refine e13 (leaves_strs Nv.2) fun vs hvl hvs hvlen => ?_
  have hn2 := D.nm.len
  have htl : tab.length = nms.length := by rw [← D.keys, List.length_map]
  refine wpAny_Assign_Name (callB W S.kb EO bn_dict rfl ?_)
  refine compListE B s.heap (lawS2 k hd L) EO hr.hh (nameL EO (S.ns 5 rfl) hm ?_)
  refine ⟨nv, vs, _, fun j rs ow h => X6 fun ts cs wv dv xs kvs => C5 (ow = bankOw prog w k cs wv dv xs ((hd, handP prog w c a) :: (L, nsP m) :: cellsOw L (some (.ref k.b)) (some tv) none cl ch)) (BankInv h ts cs wv dv xs) (ts.length ≤ 3 * j) (NRows ts (tab.take j) kvs) (KVs h kvs rs), rfl, hvl, by exact Nat.le_trans (Nat.le_trans (Nat.le_of_eq hvlen) hn2) (Nat.le_of_ble_eq_true rfl), S, ?_, ⟨[], cs, wv, dv, xs, [], rfl, inv, by simp, by simp [NRows], rfl, fun i kv p e => by simp at e⟩, ?_, ?_, ?_⟩
  · intro j rs ow h h' im hpz1; (refine x6c5 hpz1 fun ts cs wv dv xs kvs e e1 e2 e3 e4 => ?_; clear hpz1)
    exact ⟨ts, cs, wv, dv, xs, kvs, e, e1.imm im, e2, e3, e4.imm im⟩
  · intro j rs ow h C D' it' m' p' q' im S9 hpz2; obtain ⟨ts, cs, wv, dv, xs, kvs, rfl, _⟩ := hpz2
    exact let ⟨o, e, r⟩ := hvl; ⟨o, S9.base _ _ Nv.1 e, r⟩
  · intro j rs ow h tk C D' it' p' m'' x' hx' im9 hC S9 hlit hpz3 EO'; (refine x6c5 hpz3 fun ts cs wv dv xs kvs hq6 inv9 htsl hrows hkvs => ?_; subst hq6; clear hpz3)
    (refine e22 (strs_at hvs j x' hx') fun x t hx hq3 => ?_; subst hq3)
    rw [List.getElem?_map] at hx
    (refine e12 (Option.map_eq_some_iff.mp hx) fun o ho hq2 => ?_; subst hq2)
    have hjl : j < nms.length := (List.getElem?_eq_some_iff.mp ho).1
    obtain ⟨⟨o', u⟩, hu⟩ : ∃ y, tab[j]? = some y := ⟨_, List.getElem?_eq_getElem (by exact Nat.lt_of_lt_of_le hjl (Nat.le_of_eq htl.symm))⟩
    have hoo : o' = o := by
      have h1 : (tab.map (·.1))[j]? = some o' := by rw [List.getElem?_map, hu]; rfl
      rw [D.keys, ho] at h1; cases h1; rfl
    subst hoo
    have hum : (o', u) ∈ tab := List.mem_of_getElem? hu
    have hlk : tab.lookup o' = some u := lookup_of_mem D.nd hum
    have hone : One [.a, .b] 1 u := D.vals _ hum
    have hus : u.size ≤ 3 := one_size1 hone
    have htake : tab.take (j + 1) = tab.take j ++ [(o', u)] := by rw [List.take_add_one, hu]; rfl
    refine wpAny_pure (wpAny_assign_Name (S9.storeL 0 rfl EO' (fun h10 S10 im10 => ?_)))
    try dsimp only [List.set_cons_zero, List.set_cons_succ] at S10
    have ch10 : Chg (lawS2 k hd L) s.heap h10 := fun b o hb e => S10.base b o hb e
    have hT10 := hT.mv ch10 (im9.tr im10)
    have Bk10 := Bk.mv ch10
    have bk10 : BankAt prog w h10 k ts := St.bankAtS (pre := [_, _, _]) S10 Bk10.2.2 (inv9.imm im10)
    refine wpAny_tests_nil (ifT rfl ?_)
    refine hide (fun K3 hK3 => ?_)
    refine tup2 (nameL EO' (S10.ns 0 rfl) rfl (methB W (fun _ N => N.put) kf_bput (nameC EO' (S10.cell 9 rfl) ⟨rfl, S10.kb, Bk10.2.2, Subscript_ (nameC EO' (S10.cell 10 rfl) (nameL EO' (S10.ns 0 rfl) rfl (item_tab hT10.tab hlk (fun rv tk2 hrep => ⟨S10.kb, ?_⟩))))⟩) rfl (fun w => ⟨_, rfl, rfl⟩)))
    refine bput_spec W off (n := 2) (one_wf hone (by decide)) (by decide) (one_ground (by decide) hone) (by exact Nat.le_trans hus (Nat.le_of_ble_eq_true rfl)) S10.kb (hr.mono (by exact Nat.le_add_left _ _)) bk10 (by ((try clear hK0); (try clear hn11); (try clear hs11); (try clear EO'); clear EO; lia)) hrep (fun h11 tk11 i ti us hch im11 bk11 hul hi => ?_)
    refine x4c2 (St.bankUpdS (pre := [_, _, _]) S10 off hch bk11) fun cs' wv' dv' xs' inv' S11 => ?_
    intro h12 c12 (k12 : Kp h11 h12) ht12
    have imA : Imm h h12 := (im10.tr im11).tr (Imm.kp k12)
    refine hK3 _ _ ⟨h12, _, _, _, rfl, imA, S11.kp k12, ts ++ us, cs', wv', dv', xs', kvs ++ [(o'.s, .int (i : Nat) ti)], rfl, inv'.imm (Imm.kp k12), by rw [List.length_append]; ((try clear hK0); (try clear hn11); (try clear hs11); (try clear EO'); clear EO; lia), ?_, (hkvs.imm imA).snoc ⟨c12, _, rfl, ht12⟩⟩
    rw [htake]
    exact (hrows.more (us := us)).snoc hi
  · intro rs ow h tk D' hrl hD' im9 S9 hpz4; (refine x6c5 hpz4 fun ts cs wv dv xs kvs hq6 inv9 htsl hrows hkvs => ?_; subst hq6; clear hpz4)
    have hfull : tab.take vs.length = tab := List.take_of_length_le (by exact Nat.le_trans (Nat.le_of_eq htl) (Nat.le_of_eq hvlen.symm))
    rw [hfull] at hrows
    have hkl : kvs.length ≤ 2 := by
      have := congrArg List.length hrows.keys
      rw [List.length_map, List.length_map] at this; exact Nat.le_trans (Nat.le_trans (Nat.le_of_eq this) (Nat.le_of_eq htl)) hn2
    refine dict_pairs hr.hh (S9.plain 0 rfl) hkvs (by exact Nat.le_trans hkl (Nat.le_of_ble_eq_true rfl)) (fun h10 tk10 hdict (k10 : Kp h h10) => ?_)
    rw [merged_nil_of_nodup _ (hrows.keysN D.nd)] at hdict
    have hms := notMods W S9.kb
    have hfr : h.get? h.objs.size = none := Heap.get?_none_of_le (Nat.le_refl _)
    dsimp only at hdict ⊢
    generalize (h.objs.size : Addr) = d at *
    have S9' := S9.tail (ext_notin S hD')
    have hdS : d ∉ lawS2 k hd L := S9'.fresh hfr
    have S10 := S9'.kp k10
    refine storeL EO (S10.ns 5 rfl) (fun h11 hn11 hs11 => ?_)
    refine e02 (S10.setNs 5 rfl hs11 hn11) fun S11 im11 => ?_
    try dsimp only [List.set_cons_zero, List.set_cons_succ] at S11
    have imB : Imm h h11 := (Imm.kp k10).tr im11
    refine hQ h11 _ ts cs wv dv xs d (by ((try clear hK0); (try clear hn11); (try clear hs11); (try clear EO'); clear EO; lia)) (inv9.imm imB) ⟨fun q => hdS (List.mem_append_left _ q), hms, kvs, ?_, hrows⟩ hdS (im9.tr imB) (fun b o hb e => S11.base b o hb e) (S11.at' rfl)
    exact dictOf_kp hdict (fun o e => hs11.extBut _ _ (fun q => hdS (by rw [q]; simp)) e)
end
noncomputable def big : Nat → Nat | 0 => 3 | d + 1 => 1 + (d + 2) * big d
theorem big_pos : ∀ d, 3 ≤ big d
  | 0 => Nat.le_refl _
  | d + 1 => by
    have := big_pos d
    unfold big
    have : 2 * 3 ≤ (d + 2) * big d := Nat.mul_le_mul (by exact Nat.le_add_left _ _) this
    lia
theorem size_one_lput {tab : Tab} (ht : ∀ x ∈ tab, x.2.size ≤ 3) {los : List Op} (hfg : tab.lookup .f = none ∧ tab.lookup .g = none) : ∀ {d : Nat} {p : T}, One los d p → (lput tab p).size ≤ big d
  | 0, .nd o ks, h => by
    obtain ⟨_, rfl⟩ := h
    cases hl : tab.lookup o with
    | some v => rw [lput_at hl]; exact ht _ (lookup_mem hl)
    | none => rw [lput_off hl, size_nd]; simp [big]
  | d + 1, .nd o ks, h => by
    rcases h with ⟨_, rfl⟩ | ⟨hf, _, hk2, hk⟩
    · have hb := big_pos (d + 1)
      cases hl : tab.lookup o with
      | some v => rw [lput_at hl]; have := ht _ (lookup_mem hl); simp only at this; exact Nat.le_trans this hb
      | none => rw [lput_off hl, size_nd]; simp; lia
    · have hl : tab.lookup o = none := by rcases hf with rfl | rfl; exact hfg.1; exact hfg.2
      rw [lput_off hl, size_nd, List.map_map]
      have h1 := sum_le (f := T.size ∘ lput tab) (m := big d) (l := ks) (fun x hx => size_one_lput ht hfg (hk x hx))
      unfold big
      have : ks.length * big d ≤ (d + 2) * big d := Nat.mul_le_mul_right _ hk2
      lia
theorem Drawn1.size22 {p : T} {nms : List Op} {tab : Tab} (x : Drawn1 p nms tab) : (lput tab p).size ≤ 22 :=
  size_one_lput (tab := tab) (fun z hz => one_size1 (x.vals z hz)) ⟨x.offq rfl, x.offq rfl⟩ x.one
theorem Drawn1.ground {p : T} {nms : List Op} {tab : Tab} (x : Drawn1 p nms tab) : Ground (lput tab p) := ground_lput (fun z hz => one_ground (by decide) (x.vals z hz)) p x.has
section
variable {prog : Program} {w : World} {B : Heap} {A : Around} {E : Value → Shared → Prop} {s : Shared} {Q : Flow → Shared → Prop} {L f : Addr} {cd : Value} {st : Stmt} {sc : Scope}
theorem law_s8 (W : Wd w B) (hst : lawSt w 8 = some st) (hsc : lawSc w = some sc) (hr : Room A 20) {hd d : Addr} {c : Addr × List Value × Int} {m : Str → Option Value} {a : Nat} {p : T} {pv : Value} {nms : List Op} {tab : Tab} {tv cn cl ch : Option Value} {k : BK} {ts : List T} {cs : List Addr} {wv dv : List Value} {xs} (D : Drawn1 p nms tab) (hp : Rep s.heap p pv) (hm : m "pattern" = some pv) (hmn : m "numbers" = some (.ref d)) (off : BankOff B k) (htsl : ts.length ≤ 6)
    (inv : BankInv s.heap ts cs wv dv xs) (Bk : BkS s.heap (lawS2 k hd L) k) (Nu : NumAt prog w s.heap k ts tab d)
    (S : St B s.heap (lawS2 k hd L) (bankOw prog w k cs wv dv xs ((hd, handP prog w c a) :: (L, nsP m) :: cellsOw L (some (.ref k.b)) tv cn cl ch)) s.heap)
    (hQ : ∀ h' tk ts' cs wv dv xs (i : Nat) ti, ts'.length ≤ 28 → BankInv h' ts' cs wv dv xs → ts'[i]? = some (lput tab p) → Imm s.heap h' → Chg (lawS2 k hd L) s.heap h' → St B h' (lawS2 k hd L) (bankOw prog w k cs wv dv xs ((hd, handP prog w c a) :: (L, nsP (up m "number" (.int (i : Nat) ti))) :: cellsOw L (some (.ref k.b)) tv cn cl ch)) h' → Q .next { s with heap := h', toks := tk }) :
    wpAny (model prog w) A (exec st (lawEnv sc L f cd)) Q E s := by
  have EO : EnvOk (lawEnv sc L f cd) := law_envOk hsc
  obtain rfl := Option.some.inj hst.symm
  obtain rfl := Option.some.inj hsc.symm
  clear hst hsc
  have h22 := D.size22
  have bk : BankAt prog w s.heap k ts := St.bankAtS (pre := []) S Bk.2.2 inv
  refine wpAny_Assign_Name (callF W S.kb EO gn_taken kf_taken (nameC EO (S.cell 6 rfl) (nameL EO (S.ns 5 rfl) hm (nameL EO (S.ns 5 rfl) hmn ⟨S.kb, ?_⟩))))
  refine taken_spec W off 3 p _ _ _ pv ts D.wf (fun u hu hl => ?_) (by exact Nat.le_trans h22 (Nat.le_of_ble_eq_true rfl)) S.kb (hr.mono (by exact Nat.le_add_left _ _)) bk (by (clear EO; lia)) Nu hp (fun h1 tk1 i ti us hch im1 bk1 hul hi => ?_)
  · cases hq : u.op.isQ with
    | false => rfl
    | true => exact absurd hl (D.has u hu hq)
  · refine x4c2 (St.bankUpdS (pre := []) S off hch bk1) fun cs' wv' dv' xs' inv' S1 => ?_
    refine S1.storeL 5 rfl EO (fun h2 S2 im2 => ?_)
    exact hQ h2 _ (ts ++ us) cs' wv' dv' xs' i ti (by rw [List.length_append]; (clear EO; lia)) (inv'.imm im2) hi (im1.tr im2) (fun b o hb e => S2.base b o hb e) (S2.at' rfl)
end
theorem vars_eq {p : T} {nms : List Op} {ss : List Str} (hp : PatQ p) (hn : NmOk p nms) (h1 : ss.Perm (dd (vnames p))) (h2 : sortedS ss = true) : ss = nms.map Op.s := by
  have hd := dd_mem_nodup (vnames p)
  have hnd : (nms.map Op.s).Nodup := nodup_s hn.of.1
  have hp2 : (dd (vnames p)).Perm (nms.map Op.s) := (List.perm_ext_iff_of_nodup hd.1 hnd).mpr fun x => by
    rw [hd.2, List.mem_map]
    unfold vnames
    rw [List.mem_map]
    constructor
    · intro hpz1; (refine e12 hpz1 fun u hu hq2 => ?_; subst hq2; clear hpz1)
      refine e02 (List.mem_filter.mp hu) fun h3 h4 => ?_
      obtain ⟨o, ks⟩ := u
      exact ⟨o, (hn.of.2 o).mpr ⟨(isVar_iff.mp h4).2, _, h3, rfl⟩, rfl⟩
    · intro hpz2; (refine e12 hpz2 fun o ho hq2 => ?_; subst hq2; clear hpz2)
      obtain ⟨h3, z, hz, rfl⟩ := (hn.of.2 o).mp ho
      refine ⟨z, List.mem_filter.mpr ⟨hz, ?_⟩, rfl⟩
      have hk := hp z hz h3
      obtain ⟨o, ks⟩ := z
      exact isVar_iff.mpr ⟨hk, h3⟩
  (refine e12 (perm_map_inv (h1.trans hp2)) fun l hq1 hl => ?_; subst hq1)
  rw [sorted_two hn.of.1 (hl.nodup_iff.mpr hn.of.1) hn.xy (fun o => hl.mem_iff) hn.sorted h2]
section
variable {prog : Program} {w : World} {B : Heap} {A : Around} {E : Value → Shared → Prop} {s : Shared} {Q : Flow → Shared → Prop} {L f : Addr} {cd : Value} {st : Stmt} {sc : Scope}
set_option maxHeartbeats 1000000 in
theorem law_s9 (W : Wd w B) (hst : lawSt w 9 = some st) (hsc : lawSc w = some sc) (hr : Room A 20) {hd nv : Addr} {c : Addr × List Value × Int} {m : Str → Option Value} {a : Nat} {p : T} {pv tr : Value} {nms : List Op} {tab : Tab} {tv cn cl ch : Option Value} {k : BK} {ts : List T} {cs : List Addr} {wv dv : List Value} {xs} {i : Nat} {ti : Tok} (D : Drawn1 p nms tab) (hp : Rep s.heap p pv) (ht : Rep s.heap (lput tab p) tr) (hm : m "pattern" = some pv) (hmn : m "number" = some (.int (i : Nat) ti)) (hmt : m "t" = some tr) (hmnm : m "names" = some (.ref nv)) (off : BankOff B k) (htsl : ts.length ≤ 28)
    (inv : BankInv s.heap ts cs wv dv xs) (Bk : BkS s.heap (lawS2 k hd L) k) (hi : ts[i]? = some (lput tab p)) (Nv : LvS s.heap (lawS2 k hd L) nv nms)
    (S : St B s.heap (lawS2 k hd L) (bankOw prog w k cs wv dv xs ((hd, handP prog w c a) :: (L, nsP m) :: cellsOw L (some (.ref k.b)) tv cn cl ch)) s.heap)
    (hQ : ∀ h' tk dr ts' cs wv dv xs, BankInv h' ts' cs wv dv xs → Imm s.heap h' → Chg (lawS2 k hd L) s.heap h' → St B h' (lawS2 k hd L) (bankOw prog w k cs wv dv xs ((hd, handP prog w c a) :: (L, nsP m) :: cellsOw L (some (.ref k.b)) tv cn cl ch)) h' → Q .next { s with heap := h', toks := tk, drawn := dr }) :
    wpAny (model prog w) A (exec st (lawEnv sc L f cd)) Q E s := by
  have EO : EnvOk (lawEnv sc L f cd) := law_envOk hsc
  obtain rfl := Option.some.inj hst.symm
  obtain rfl := Option.some.inj hsc.symm
  clear hst hsc
  have h22 := D.size22
  have hu9 : A.units + 64 < cLine := hr.units64
  refine wpAny_If (wpAny_isTrue_BoolOp (wpAny_allTrue_Or_cons (wpAny_isTrue_Compare1 (callF W S.kb EO gn_variables kf_variables (nameL EO (S.ns 5 rfl) hm ⟨S.kb, variables_spec W (n := 5) S.kb (hr.mono (by simp)) hp D.wf (by decide) (by have := D.size; exact Nat.le_trans this (Nat.le_of_ble_eq_true rfl)) (fun h1 tk1 dr l out ss' (k1 : Kp s.heap h1) hpl hout hperm hsorted => ?_)⟩)))))
  have S1 := S.kp k1
  obtain rfl := vars_eq D.pq D.nm hperm hsorted
  obtain ⟨vs, hvl, hvs, _⟩ := leaves_strs (Nv.mv (fun b o hb e => k1 b o e)).2
  refine nameL EO (S1.ns 5 rfl) hmnm (ne_strs hpl.isList hout hvl hvs hu9 (wpAny_truthy_bool (ifF rfl ?_)))
  have im1 : Imm s.heap h1 := Imm.kp k1
  have Bk1 := Bk.mv (fun b o hb e => k1 b o e)
  have bk1 : BankAt prog w h1 k ts := St.bankAtS (pre := []) S1 Bk1.2.2 (inv.imm im1)
  refine wpAny_allTrue_Or_cons (wpAny_isTrue_Compare1 (methB W (fun _ N => N.put) kf_bput (nameC EO (S1.cell 6 rfl) ⟨rfl, S1.kb, Bk1.2.2, nameL EO (S1.ns 5 rfl) hmt ⟨S1.kb, ?_⟩⟩) rfl (fun w => ⟨_, rfl, rfl⟩)))
  refine bput_spec W off (n := 5) D.wft (by decide) D.ground (by exact Nat.le_trans h22 (Nat.le_of_ble_eq_true rfl)) S1.kb (hr.mono (by exact Nat.le_add_left _ _)) bk1 (by (clear EO; lia)) (ht.imm im1) (fun h2 tk2 j tj us hch im2 bk2 hul hj => ?_)
  refine x4c2 (St.bankUpdS (pre := []) S1 off hch bk2) fun cs' wv' dv' xs' inv' S2 => ?_
  have hi2 : (ts ++ us)[i]? = some (lput tab p) := by rw [List.getElem?_append_left (List.getElem?_eq_some_iff.mp hi).1]; exact hi
  have hji : j = i := nodup_at inv'.ok.nd hj hi2
  subst hji
  dsimp only
  refine nameL EO (S2.ns 5 rfl) hmn (PyProof.Rows.ne_int (wpAny_truthy_bool (ifF (by simp) ?_)))
  have S2' : St B h2 (lawS2 k hd L) (bankOw prog w k cs' wv' dv' xs' ((hd, handP prog w c a) :: (L, nsP m) :: cellsOw L (some (.ref k.b)) tv cn cl ch)) h2 := S2.at' rfl
  have ch2 : Chg (lawS2 k hd L) s.heap h2 := fun b o hb e => S2.base b o hb e
  have Bk2 := Bk.mv ch2
  have bk2' : BankAt prog w h2 k (ts ++ us) := St.bankAtS (pre := []) S2 Bk2.2.2 inv'
  refine wpAny_allTrue_Or_cons (wpAny_isTrue_Compare1 (methB W (fun _ N => N.term) kf_term (nameC EO (S2.cell 6 rfl) ⟨rfl, S2.kb, Bk2.2.2, nameL EO (S2.ns 5 rfl) hmn ⟨S2.kb, ?_⟩⟩) rfl (fun w => ⟨_, rfl, rfl⟩)))
  refine term_spec W (n := 10) S2.kb (hr.mono (by exact Nat.le_add_left _ _)) off bk2' (by rw [List.length_append]; (clear EO; lia)) hi2 (fun r h3 tk3 (k3 : Kp h2 h3) hrep => ?_)
  have S3 := S2.kp k3
  refine nameL EO (S3.ns 5 rfl) hmt (ne_trees hrep (ht.imm ((im1.tr im2).tr (Imm.kp k3))) D.wft D.wft (by decide) (by decide) hu9 (fun b hb => wpAny_truthy_bool ?_))
  have hbf : b = false := by cases b with | false => rfl | true => exact absurd rfl (hb.mp rfl)
  subst hbf
  refine ifF rfl (wpAny_allTrue_Or_nil (ifF rfl (wpAny_execs_nil ?_)))
  exact hQ h3 _ dr (ts ++ us) cs' wv' dv' xs' (inv'.imm (Imm.kp k3)) ((im1.tr im2).tr (Imm.kp k3)) (fun b o hb e => S3.base b o hb e) (S3.at' rfl)
end
section
variable {prog : Program} {w : World} {A : Around} {B H : Heap} {Ss : List Addr} {E : Value → Shared → Prop} {s : Shared} {env : Env}
theorem compDictE (B H : Heap) (Ss : List Addr) {elt iter target : Expr} {ifs : List Expr} {scope : Scope} {cl : List (Str × Addr)} {pos : Pos} {Q : Value → Shared → Prop} (he : EnvOk env) (hh : A.handled = none)
    (h : wpAny (model prog w) A (eval iter env) (fun xv s₁ => X4 fun (d : Addr) (kvs : List (Str × Value)) (ow : List (Addr × OP)) (Φ : Nat → List Value → List (Addr × OP) → Heap → Prop) => C10 (xv = .ref d) ((d == sysModules) = false) (s₁.heap.DictOf (PySem.strKind prog w) d kvs) (kvs.length ≤ 1000) (St B H Ss ow s₁.heap) ((∀ i ys ow' h h', Imm h h' → Φ i ys ow' h → Φ i ys ow' h')) (Φ 0 [] ow s₁.heap) ((∀ i ys ow' h C D it m p q, Imm s₁.heap h → St B H Ss ((C, nsP m) :: (D, listP p) :: (it, q) :: ow') h → Φ i ys ow' h → ∀ o, s₁.heap.get? d = some o → h.get? d = some o)) ((∀ (i : Nat) (ys : List Value) (ow' : List (Addr × OP)) (h : Heap) (tk : Nat) (C D it : Addr) (p : OP) (m : Str → Option Value) (x : Value), (∃ k v, kvs[i]? = some (k, v) ∧ (PySem.strKind prog w).is k x = true) → Imm s₁.heap h → s₁.heap.get? C = none →
        St B H Ss ((C, nsP m) :: (D, listP ys.toArray) :: (it, p) :: ow') h → Φ i ys ow' h → EnvOk (compEnvC scope cl C env) →
        wpAny (model prog w) A (letOwnedTupleGo target (.ref it) x) (fun _ s₁' => wpAny (model prog w) A (assign target (compEnvC scope cl C env) x) (fun _ s₂ =>
          ifsWp prog w A ifs (compEnvC scope cl C env) (fun ok s₃ =>
          if ok = true then wpAny (model prog w) A (eval elt (compEnvC scope cl C env)) (fun y s₄ => X4 fun h' tk' m' ow'' => C4 (s₄ = { s₁ with heap := h', toks := tk' }) (Imm h h') (St B H Ss ((C, nsP m') :: (D, listP ys.toArray) :: (it, p) :: ow'') h') (Φ (i + 1) (ys ++ [y]) ow'' h')) noE s₃
          else X4 fun h' tk' m' ow'' => C4 (s₃ = { s₁ with heap := h', toks := tk' }) (Imm h h') (St B H Ss ((C, nsP m') :: (D, listP ys.toArray) :: (it, p) :: ow'') h') (Φ (i + 1) ys ow'' h')) noE s₂) noE s₁') noE
        { s₁ with heap := h, toks := tk })) ((∀ ys ow' h tk D, ys.length ≤ kvs.length → s₁.heap.get? D = none → Imm s₁.heap h → St B H Ss ((D, listP (List.toArray ys)) :: ow') h → Φ kvs.length ys ow' h → Q (.ref D) { s₁ with heap := h, toks := tk }))) E s)
    (hclos : autoParam (closureFor scope env = pure cl) aRfl) (hcell : autoParam (∀ y ∈ scope.names, y.2 ≠ .cell) aDec) (hkind : autoParam (scope.kind = .function) aRfl)
    (hnames : autoParam (∀ y ∈ scope.names, y.2 = .local → scope.names.lookup y.1 = some .local) aDec)
    (hs : autoParam (∀ x, foldedSetIterable iter env x = pure x) aIRfl) :
    wpAny (model prog w) A (eval (.ListComp elt [⟨target, iter, ifs, 0⟩] scope pos) env) Q E s := by
  dsimp only [eval_ListComp]
  refine wpAny_comprehension_free (use := none) rfl hs hclos hkind hnames (wpAny_mono h (fun xv s₁ h₁ => ?_) fun _ _ e => e)
  obtain ⟨d, kvs, ow, Φ, rfl, hms, hd, hn, S, mono, start, hsrc, turn, fin⟩ := h₁
  refine e11 hd.dictAt fun ep hat => ?_
  refine wpAny_pyIter_dict hms hat ?_
  have hin : s₁.heap.get? s₁.heap.objs.size = none := Heap.get?_none_of_le (Nat.le_refl _)
  have S1 := S.addPush (o := { cls := .type "dict_keyiterator", data := .fields #[.ref d, .int 0 0, .int kvs.length 0, .int ep 0] }) (p := kitP d kvs.length ep 0) rfl ⟨rfl, rfl⟩ (nt_cls (show (Value.type "dict_keyiterator") ≠ Value.type "tuple" by decide))
  have k1 : Kp s₁.heap (s₁.heap.push { cls := .type "dict_keyiterator", data := .fields #[.ref d, .int 0 0, .int kvs.length 0, .int ep 0] }) := Kp.push _ _
  have hit := ext_notin S hin
  have none1 : ∀ C : Addr, (s₁.heap.push { cls := .type "dict_keyiterator", data := .fields #[.ref d, .int 0 0, .int kvs.length 0, .int ep 0] }).get? C = none → s₁.heap.get? C = none := fun C hC => by
    cases e : s₁.heap.get? C with
    | none => rfl
    | some o => have := k1 _ _ e; rw [hC] at this; cases this
  refine comp_core (s := { s₁ with heap := s₁.heap.push { cls := .type "dict_keyiterator", data := .fields #[.ref d, .int 0 0, .int kvs.length 0, .int ep 0] } }) noE Φ he (itr_dict (knd := PySem.strKind prog w) hh s₁.heap.objs.size d kvs ep) S1 hn
    (fun _ b hb => ⟨fun q => hit (q ▸ hb), ss_there S1 b hb⟩) hcell hkind mono (mono _ _ _ _ _ (Imm.kp k1) start) (fun i ys ow' h C D m p im S' hΦ => ?_) ?_ ?_ (fun _ _ _ _ x => x.elim)
  · (refine e22 hat fun o es e r => ?_; clear hat)
    exact ⟨o, es, hsrc i ys ow' h C D _ m p _ ((Imm.kp k1).tr im) S' hΦ o e, r⟩
  · intro i ys ow' h tk C D m x hi hx im hC S' hΦ
    exact turn i ys ow' h tk C D _ _ m x hx ((Imm.kp k1).tr im) (none1 C hC) S' hΦ ⟨he.gl, he.bi, hkind⟩
  · intro ys ow' h tk D hl hD im S' hΦ
    exact fin ys ow' h tk D hl (none1 D hD) ((Imm.kp k1).tr im) S' hΦ
theorem tupN {es : List Expr} {k : Nat} {pos : Pos} {Q : Value → Shared → Prop} (h : argsWp (model prog w) A E env es (fun vs s₁ => vs.length ≤ 1000 ∧ ∀ h' c, Kp s₁.heap h' → IsTup h' c (List.toArray vs) → Q (.ref c) { s₁ with heap := h' }) s) (he : autoParam (es.all plainE = true) aRfl) :
    wpAny (model prog w) A (eval (.Tuple es k pos) env) Q E s := by
  refine wpAny_Tuple (spliced_args he ?_)
  have key : ∀ {args : List Expr} {Q₁ Q₂ : List Value → Shared → Prop} {s : Shared}, (∀ vs s, Q₁ vs s → Q₂ vs s) → argsWp (model prog w) A E env args Q₁ s → argsWp (model prog w) A E env args Q₂ s := by
    intro args
    induction args with
    | nil => intro Q₁ Q₂ s i h; exact i _ _ h
    | cons e r ih => intro Q₁ Q₂ s i h; exact wpAny_mono h (fun v s₁ h₁ => ih (fun vs s => i _ s) h₁) fun _ _ x => x
  exact key (fun vs s₁ h₁ => ⟨by have := sizeLine_big; lia, h₁.2 _ _ (Kp.push _ _) (IsTup.new _ _)⟩) h
theorem any_names {o : Op} : ∀ nms : List Op, ((nms.map fun o => PyData.str o.s).any fun y => PyData.eqv y (.str o.s)) = decide (o ∈ nms)
  | [] => by simp
  | p :: r => by
    rw [List.map_cons, List.any_cons, any_names r]
    have e : PyData.eqv (.str p.s) (.str o.s) = decide (o = p) := by
      dsimp only [PyData.eqv]
      by_cases h : o = p
      · subst h; simp
      · rw [decide_eq_false h, beq_eq_false_iff_ne]
        exact fun q => h (Op.s_inj q).symm
    rw [e]
    by_cases h1 : o = p <;> by_cases h2 : o ∈ r <;> simp [h1, h2]
theorem in_names {b : Addr} {us : List Value} {nms : List Op} {o : Op} {t : Tok} {Q : Value → Shared → Prop} (hl : s.heap.IsList b us.toArray) (hi : StrsAre us (nms.map Op.s)) (hu : A.units + 64 < cLine)
    (h : Q (.bool (decide (o ∈ nms))) s) : wpAny (model prog w) A (compareOp .In (.str o.s t) (.ref b)) Q E s := by
  obtain ⟨ob, ho, hc, k, hd⟩ := hl
  have e : (nms.map Op.s).map PyData.str = nms.map fun o => PyData.str o.s := by rw [List.map_map]; rfl
  have r1 : Reads s.heap (.ref b) (.list (nms.map fun o => PyData.str o.s)) _ := reads_list_at ho hc hd (by simpa [e] using hi.reads s.heap)
  have l := strs_lay nms
  refine SeqAt.in_list_reads r1 (Reads.str o.s t) l.1 (by cases o <;> decide +kernel) ?_ (by rw [any_names]; exact h)
  have := l.2
  have := Nat.min_le_left (PyData.depthAll (nms.map fun o => PyData.str o.s)) (PyData.str o.s).depth
  lia
theorem ne_bools {a b : Bool} {Q : Value → Shared → Prop} (hu : A.units + 64 < cLine) (hab : a = b) (h : Q (.bool false) s) : wpAny (model prog w) A (compareOp .NotEq (.bool a) (.bool b)) Q E s := by
  subst hab
  refine ne_dataH (Reads.bool a) (Reads.bool a) (by cases a <;> decide) (by cases a <;> decide) hu ?_
  have : PyData.eqv (.bool a) (.bool a) = true := by dsimp only [PyData.eqv]; exact beq_self_eq_true _
  rw [this]; exact h
theorem St.unhide {h h' : Heap} {ow : List (Addr × OP)} {L : Addr} {m : Str → Option Value} (x : St B H Ss ow h) (i : Nat) (hi : ow[i]? = some (L, nsP m)) (hst : (hideAll h [L]).StaysIn h') (hu : h.UpToSlots h') : St B H Ss ow h' ∧ Imm h h' := by
  have hx : Heap.ExtBut L h h' := fun b o hb e => hst b o (hideAll_get [L] e (by simpa using hb))
  have hns := hu.ns (x.ns i hi)
  refine e02 (x.upd (p' := nsP m) i hi hx (let ⟨o, e, r⟩ := nsP_ns.mp hns; ⟨o, e, r, r.nt⟩)) fun y im => ?_
  rw [set_same hi] at y
  exact ⟨y, im⟩
end
theorem lookup_filter {nm o : Op} : ∀ {tab : Tab}, (tab.filter fun x => decide (x.1 ≠ nm)).lookup o = if o = nm then none else tab.lookup o
  | [] => by simp
  | (p, u) :: r => by
    dsimp only [List.lookup_cons]
    by_cases hp : p = nm
    · rw [List.filter_cons, if_neg (by simp [hp]), lookup_filter]
      by_cases ho : o = nm
      · rw [if_pos ho, if_pos ho]
      · have hb : (o == p) = false := by rw [beq_eq_false_iff_ne, hp]; exact ho
        rw [hb]
    · rw [List.filter_cons, if_pos (by simp [hp]), List.lookup_cons, lookup_filter]
      by_cases ho : o = nm
      · have hb : (o == p) = false := by rw [beq_eq_false_iff_ne, ho]; exact fun q => hp q.symm
        rw [hb, if_pos ho]
      · simp only [if_neg ho]
theorem Drawn1.lack {p : T} {nms : List Op} {tab : Tab} (x : Drawn1 p nms tab) (nm : Op) : Mine.plc (tab.filter fun y => decide (y.1 ≠ nm)) p = none ↔ nm ∈ nms := by
  rw [plc_none_iff p x.pq, x.nm.of.2]
  constructor
  · intro hpz1; (refine e13 hpz1 fun u hu hq hl => ?_; clear hpz1)
    rw [lookup_filter] at hl
    by_cases h : u.op = nm
    · exact ⟨by rw [← h]; exact hq, u, hu, h⟩
    · rw [if_neg h] at hl
      exact absurd hl (x.has u hu hq)
  · intro hpz2; obtain ⟨hq, z, hz, rfl⟩ := hpz2
    exact ⟨z, hz, hq, by rw [lookup_filter, if_pos rfl]⟩
noncomputable abbrev lawOw (prog : Program) (w : World) (k : BK) (cs : List Addr) (wv dv : List Value) (xs : List (List (Str ⊕ Int) × Addr × Value)) (hd L : Addr) (c : Addr × List Value × Int) (a : Nat) (m : Str → Option Value) (tv cn cl ch : Option Value) : List (Addr × OP) :=
  bankOw prog w k cs wv dv xs ((hd, handP prog w c a) :: (L, nsP m) :: cellsOw L (some (.ref k.b)) tv cn cl ch)
theorem rows_split {h : Heap} : ∀ {tab : Tab} {kvs : List (Str × Value)} {i : Nat} {x : Str} {v : Value}, Rows h tab kvs → kvs[i]? = some (x, v) → ∃ o t, tab[i]? = some (o, t) ∧ x = o.s ∧ Rep h t v
  | [], [], i, x, v, _, e => by simp at e
  | (o, t) :: r, (y, u) :: r', 0, x, v, ⟨a, b, c⟩, e => by cases e; exact ⟨o, t, rfl, a, b⟩
  | (o, t) :: r, (y, u) :: r', i + 1, x, v, ⟨a, b, c⟩, e => rows_split (i := i) c e
  | [], _ :: _, _, _, _, x, _ => x.elim
  | _ :: _, [], _, _, _, x, _ => x.elim
section
variable {prog : Program} {w : World} {B : Heap} {A : Around} {E : Value → Shared → Prop} {s : Shared} {Q : Flow → Shared → Prop} {L f : Addr} {cd : Value} {st : Stmt} {sc : Scope}
set_option maxHeartbeats 4000000 in
theorem law_s10 (W : Wd w B) (PF : ProgOk prog) (hst : lawSt w 10 = some st) (hsc : lawSc w = some sc) (hr : Room A 20) (hfr : A.frames = some [lawEnv sc L f cd]) {hd nv : Addr} {c : Addr × List Value × Int} {m : Str → Option Value} {a : Nat} {p : T} {pv tv : Value} {nms : List Op} {tab : Tab} {cn cl ch : Option Value} {k : BK} {cs : List Addr} {wv dv : List Value} {xs} (D : Drawn1 p nms tab) (hp : Rep s.heap p pv) (hm : m "pattern" = some pv) (hmnm : m "names" = some (.ref nv))
    (Nv : LvS s.heap (lawS2 k hd L) nv nms) (hT : TbS prog w s.heap (lawS2 k hd L) tab tv)
    (S : St B s.heap (lawS2 k hd L) (lawOw prog w k cs wv dv xs hd L c a m (some tv) cn cl ch) s.heap)
    (hQ : ∀ h' tk m' cn', m' "pattern" = some pv → m' "names" = some (.ref nv) → m' "t" = m "t" → Imm s.heap h' → Chg (lawS2 k hd L) s.heap h' → St B h' (lawS2 k hd L) (lawOw prog w k cs wv dv xs hd L c a m' (some tv) cn' cl ch) h' → Q .next { s with heap := h', toks := tk }) :
    wpAny (model prog w) A (exec st (lawEnv sc L f cd)) Q E s := by
  have EO : EnvOk (lawEnv sc L f cd) := law_envOk hsc
  obtain rfl := Option.some.inj hst.symm
  obtain rfl := Option.some.inj hsc.symm
  clear hst hsc
  have hu9 : A.units + 64 < cLine := hr.units64
  have hBL : B.get? L = none := S.off 5 rfl
  refine forTup B s.heap (lawS2 k hd L) hr.hh (tupN (wpAny_Constant_str (wpAny_Constant_str (wpAny_Constant_str ⟨by simp, fun h1 c1 (k1 : Kp s.heap h1) hc1 => ?_⟩))))
  try dsimp only
  have S1 := S.kp k1
  refine ⟨c1, _, _, fun i ow h => ∃ m' cn', C4 (ow = lawOw prog w k cs wv dv xs hd L c a m' (some tv) cn' cl ch) (m' "pattern" = some pv) (m' "names" = some (.ref nv)) (m' "t" = m "t"), rfl, hc1, S1, fun _ _ _ _ _ x => x, ⟨m, cn, rfl, hm, hmnm, rfl⟩, ?_, ?_⟩
  try dsimp only
  · intro i ow h tk it q x hx im S2 hpz1; obtain ⟨m', cn', rfl, hmp, hmn, hmt⟩ := hpz1
    obtain ⟨nm, tn, rfl⟩ : ∃ (nm : Op) (tn : Tok), x = .str nm.s tn := by
      match i, hx with
      | 0, hx => cases hx; exact ⟨.w, _, rfl⟩
      | 1, hx => cases hx; exact ⟨.x, _, rfl⟩
      | 2, hx => cases hx; exact ⟨.y, _, rfl⟩
      | i + 3, hx => simp at hx
    refine wpAny_pure (wpAny_assign_Name (S2.storeC 9 rfl EO (fun h3 S3 im3 => ?_)))
    refine hide (fun K1 hK1 => ?_)
    try dsimp only [List.set_cons_zero, List.set_cons_succ] at S3
    have ch3 : Chg (lawS2 k hd L) s.heap h3 := fun b o hb e => S3.base b o hb e
    have im03 : Imm s.heap h3 := ((Imm.kp k1).tr im).tr im3
    have hT3 := hT.mv ch3 im03
    obtain ⟨d, rfl, hdS, d', kvs, e, hms, hdict, hrows⟩ := id hT3
    cases e
    have htl := D.len
    have hkl : kvs.length ≤ 2 := by rw [hrows.length]; exact htl
    dsimp only
    -- lacking
    refine wpAny_execs_cons (wpAny_Assign_Name (callB W S3.kb EO bn_dict rfl ?_))
    refine compDictE B s.heap (lawS2 k hd L) EO hr.hh (hide fun K2 hK2 => nameC EO (S3.cell 8 rfl) ?_)
    refine hK2 _ _ ⟨d, kvs, _, fun j rs ow h => ow = (it, q) :: lawOw prog w k cs wv dv xs hd L c a m' (some (.ref d)) (some (.str nm.s tn)) cl ch ∧ ∃ kvs', Rows h ((tab.take j).filter fun y => decide (y.1 ≠ nm)) kvs' ∧ KVs h kvs' rs, rfl, hms, hdict, by exact Nat.le_trans hkl (Nat.le_of_ble_eq_true rfl), S3, ?_, ⟨rfl, [], trivial, rfl, fun i kv p e => by simp at e⟩, ?_, ?_, ?_⟩
    try dsimp only
    · intro j rs ow h h' im hpz2; obtain ⟨e, kvs', e1, e2⟩ := hpz2
      exact ⟨e, kvs', e1.imm im, e2.imm im⟩
    · intro j rs ow h C D' it' m'' p' q' im' S9 hpz3 o eo; obtain ⟨rfl, _⟩ := hpz3
      obtain ⟨o2, e2⟩ : ∃ o2, s.heap.get? d = some o2 := by
        obtain ⟨_, e, _, d2, kvs2, e3, _, hpz7, _⟩ := hT; obtain ⟨o2, es, ep, eo2, _⟩ := hpz7
        cases e; cases e3
        exact ⟨o2, eo2⟩
      have h1 := S9.base d o2 hdS e2
      have h2 := ch3 d o2 hdS e2
      rw [h2] at eo; cases eo; exact h1
    · intro j rs ow h tk2 C D' it' p' m'' x' hx' im9 hC S9 hpz4 EO'; obtain ⟨rfl, kvs', hrw, hkv⟩ := hpz4
      (refine e22 hx' fun y v hkvj hisx => ?_; clear hx')
      (refine e23 (rows_split hrows hkvj) fun o u htj hq3 hrepv => ?_; subst hq3)
      (refine e11 (isStr_shape hisx) fun ty hq1 => ?_; subst hq1)
      have hum : (o, u) ∈ tab := List.mem_of_getElem? htj
      have hlk : tab.lookup o = some u := lookup_of_mem D.nd hum
      have htake : tab.take (j + 1) = tab.take j ++ [(o, u)] := by rw [List.take_add_one, htj]; rfl
      refine wpAny_pure (wpAny_assign_Name (S9.storeL 0 rfl EO' (fun h10 S10 im10 => ?_)))
      try dsimp only
      try dsimp only [List.set_cons_zero, List.set_cons_succ] at S10
      have hT10 := hT.mv (fun b o hb e => S10.base b o hb e) ((im03.tr im9).tr im10)
      refine wpAny_tests_one (wpAny_isTrue_Compare1 (nameL EO' (S10.ns 0 rfl) rfl (nameC EO' (S10.cell 12 rfl) (PyProof.Rows.ne_str (wpAny_truthy_bool ?_)))))
      try dsimp only
      by_cases hon : o = nm
      · have hb : (o.s != nm.s) = false := by rw [hon]; simp
        rw [hb, if_neg (by decide)]
        refine ⟨h10, _, _, _, rfl, im10, S10, rfl, kvs', ?_, hkv.imm im10⟩
        rw [htake, List.filter_append, List.filter_cons, if_neg (by simp [hon]), List.filter_nil, List.append_nil]
        exact hrw.imm im10
      · have hb : (o.s != nm.s) = true := by rw [bne_iff_ne]; exact fun q => hon (Op.s_inj q)
        rw [hb, if_pos rfl]
        refine hide (fun K3 hK3 => ?_)
        refine tup2 (nameL EO' (S10.ns 0 rfl) rfl (Subscript_ (nameC EO' (S10.cell 11 rfl) (nameL EO' (S10.ns 0 rfl) rfl (item_tab hT10.tab hlk (fun rv tk3 hrep => ?_))))))
        try dsimp only
        intro h12 c12 (k12 : Kp h10 h12) ht12
        have imA : Imm h h12 := im10.tr (Imm.kp k12)
        refine hK3 _ _ ⟨h12, _, _, _, rfl, imA, S10.kp k12, rfl, kvs' ++ [(o.s, rv)], ?_, (hkv.imm imA).snoc ⟨c12, _, rfl, ht12⟩⟩
        rw [htake, List.filter_append, List.filter_cons, if_pos (by simp [hon]), List.filter_nil]
        exact Rows.snoc (hrep.imm (Imm.kp k12)) (hrw.imm imA)
    · intro rs ow h tk2 D' hrl hD' im9 S9 hpz5; obtain ⟨rfl, kvs', hrw, hkv⟩ := hpz5
      have hfull : tab.take kvs.length = tab := List.take_of_length_le (by rw [hrows.length]; exact Nat.le_refl _)
      rw [hfull] at hrw
      have hfl : kvs'.length ≤ 2 := by rw [hrw.length]; exact Nat.le_trans (List.length_filter_le _ _) htl
      have hndf : ((tab.filter fun y => decide (y.1 ≠ nm)).map (·.1)).Nodup := D.nd.sublist (List.Sublist.map _ List.filter_sublist)
      refine dict_pairs hr.hh (S9.plain 0 rfl) hkv (by exact Nat.le_trans hfl (Nat.le_of_ble_eq_true rfl)) (fun h10 tk10 hdict10 (k10 : Kp h h10) => ?_)
      try dsimp only
      rw [merged_nil_of_nodup _ (hrw.keysN hndf)] at hdict10
      have hms10 := notMods W S9.kb
      have hfr10 : h.get? h.objs.size = none := Heap.get?_none_of_le (Nat.le_refl _)
      dsimp only at hdict10 ⊢
      generalize (h.objs.size : Addr) = dl at *
      have S9' := S9.tail (ext_notin S3 hD')
      have hdlS : dl ∉ ((it, q) :: lawOw prog w k cs wv dv xs hd L c a m' (some (.ref d)) (some (.str nm.s tn)) cl ch).map (·.1) := S9'.fresh hfr10
      have S10 := S9'.kp k10
      refine storeL EO (S10.ns 6 rfl) (fun h11 hn11 hs11 => ?_)
      try dsimp only
      refine e02 (S10.setNs 6 rfl hs11 hn11) fun S11 im11 => ?_
      try dsimp only [List.set_cons_zero, List.set_cons_succ] at S11
      have hdlL : dl ≠ L := fun q => hdlS (by rw [q]; simp)
      have hdict11 := dictOf_kp hdict10 (fun o e => hs11.extBut _ _ hdlL e)
      have im011 : Imm s.heap h11 := (im03.tr im9).tr ((Imm.kp k10).tr im11)
      have hlack : TabAt prog w h11 (tab.filter fun y => decide (y.1 ≠ nm)) (.ref dl) := ⟨dl, kvs', rfl, hms10, hdict11, hrw.imm ((Imm.kp k10).tr im11)⟩
      have S11' : ∃ m2, C5 (m2 "pattern" = some pv) (m2 "names" = some (.ref nv)) (m2 "t" = m "t") (m2 "lacking" = some (.ref dl)) (St B s.heap (lawS2 k hd L) ((it, q) :: lawOw prog w k cs wv dv xs hd L c a m2 (some (.ref d)) (some (.str nm.s tn)) cl ch) h11) := ⟨up m' "lacking" (.ref dl), hmp, hmn, hmt, rfl, S11⟩
      clear S11 S10 S9 S9' hn11 hdict10
      obtain ⟨m2, hmp2, hmn2, hmt2, hml2, S11⟩ := S11'
      -- the test
      have hbL : (hideAll h11 [L]).get? L = none := hideAll_none [L] (by simp)
      obtain ⟨oL, eL, _⟩ := S11.get 6 rfl
      have hff : h11.FunFrames (hideAll h11 [L]) [lawEnv _ L f cd] := ⟨by rw [EO.fk]; exact fun q => (by cases q), ⟨L, oL, rfl, hbL, eL, fun vs qq => by
        obtain ⟨o', es, ep, e', d', _⟩ := S11.ns 6 rfl
        rw [eL] at e'; cases e'; rw [d'] at qq; cases qq⟩, trivial⟩
      have hBb : Kp B (hideAll h11 [L]) := fun b o e => hideAll_get [L] (S11.kb b o e) (by
        intro qq
        rw [List.mem_singleton.mp qq, hBL] at e; cases e)
      have hlackIff := D.lack nm
      obtain ⟨vsn, hvl, hvsn, _⟩ := leaves_strs (Nv.mv (fun b o hb e => S11.base b o hb e)).2
      have hnvS : nv ∉ lawS2 k hd L := Nv.1
      refine wpAny_execs_cons (wpAny_If (wpAny_isTrue_Compare1 (callF W S11.kb EO gn_refused kf_refused (nameL EO (S11.ns 6 rfl) hmp2 (nameL EO (S11.ns 6 rfl) hml2 ⟨S11.kb, ?_⟩)))))
      refine refused_spec W PF (n := 3) D.wf S11.kb (hr.mono (by exact Nat.le_add_left _ _)) (hp.imm im011) hlack hfr (fun b o e => of_hideAll [L] e) hff hBb (fun h12 tk12 u hpl (k12 : Kp h11 h12) => ?_) (fun h12 tk12 hpl hst12 hu12 => ?_)
      · have S12 := S11.kp k12
        have hnin : nm ∉ nms := fun qq => by rw [hlackIff.mpr qq] at hpl; cases hpl
        have hvl12 : h12.IsList nv _ := let ⟨o, e, r⟩ := hvl; ⟨o, k12 _ _ e, r⟩
        refine wpAny_Compare1 (nameC EO (S12.cell 9 rfl) (nameL EO (S12.ns 6 rfl) hmn2 (in_names hvl12 hvsn hu9 (ne_bools hu9 (by simp [hnin]) (wpAny_truthy_bool (ifF rfl (wpAny_execs_nil (wpAny_execs_nil ?_))))))))
        try dsimp only
        exact hK1 _ _ ⟨h12, _, _, rfl, (im3.tr im9).tr (((Imm.kp k10).tr im11).tr (Imm.kp k12)), S12, m2, _, rfl, hmp2, hmn2, hmt2⟩
      · refine e02 (S11.unhide 6 rfl hst12 hu12) fun S12 im12 => ?_
        have hin : nm ∈ nms := hlackIff.mp hpl
        have hvl12 : h12.IsList nv _ := let ⟨o, e, r⟩ := hvl; ⟨o, hst12 _ _ (hideAll_get [L] e (by
          intro qq
          exact hnvS (by rw [List.mem_singleton.mp qq]; simp))), r⟩
        refine wpAny_Compare1 (nameC EO (S12.cell 9 rfl) (nameL EO (S12.ns 6 rfl) hmn2 (in_names hvl12 hvsn hu9 (ne_bools hu9 (by simp [hin]) (wpAny_truthy_bool (ifF rfl (wpAny_execs_nil (wpAny_execs_nil ?_))))))))
        try dsimp only
        exact hK1 _ _ ⟨h12, _, _, rfl, (im3.tr im9).tr (((Imm.kp k10).tr im11).tr im12), S12, m2, _, rfl, hmp2, hmn2, hmt2⟩
  · intro ow h tk im S2 hpz6; obtain ⟨m', cn', rfl, hmp, hmn, hmt⟩ := hpz6
    exact hQ h tk m' cn' hmp hmn hmt ((Imm.kp k1).tr im) (fun b o hb e => S2.base b o hb e) (S2.at' rfl)
end
theorem op_ne_pattern (o : Op) : ("pattern" : Str) ≠ o.s := by cases o <;> decide +kernel
theorem rows_key {h : Heap} : ∀ {tab : Tab} {kvs : List (Str × Value)} {x : Str × Value}, Rows h tab kvs → x ∈ kvs → ∃ o : Op, x.1 = o.s
  | [], [], x, _, e => nomatch e
  | (o, t) :: r, (y, u) :: r', x, ⟨a, b, c⟩, e => by
    rcases List.mem_cons.mp e with rfl | e
    · exact ⟨o, a⟩
    · exact rows_key c e
  | [], _ :: _, _, x, _ => x.elim
  | _ :: _, [], _, x, _ => x.elim
theorem tab_ne_ns {prog : Program} {w : World} {h : Heap} {tab : Tab} {v pv : Value} {L : Addr} {m : Str → Option Value} (x : TabAt prog w h tab v) (n : h.Ns L m) (hm : m "pattern" = some pv) : v ≠ .ref L := by
  rintro rfl
  obtain ⟨d, kvs, e, _, hpz3, hr⟩ := x; obtain ⟨o, es, ep, ho, _, hd, _, hp, _⟩ := hpz3
  cases e
  obtain ⟨o', es', ep', ho', hd', _, hf⟩ := n
  rw [ho] at ho'
  cases ho'
  rw [hd] at hd'
  cases hd'
  have h1 := hf "pattern"
  rw [hm] at h1
  have h2 : valueAt kvs "pattern" = some pv := by
    (refine (hp.find ..) ▸ ?_; refine (h1 ..) ▸ ?_)
    show Option.map _ _ = findBy _ es _
    unfold findBy
    rw [← Array.find?_toList]
    congr 2
    funext e
    cases e.key <;> rfl
  unfold valueAt at h2
  cases hq : kvs.find? (fun kv : Str × Value => decide (kv.1 = ("pattern" : Str))) with
  | none => rw [hq] at h2; cases h2
  | some z =>
    refine e11 (rows_key hr (List.mem_of_find?_eq_some hq)) fun o e => ?_
    have h3 : z.1 = ("pattern" : Str) := of_decide_eq_true (List.find?_some (p := fun kv : Str × Value => decide (kv.1 = ("pattern" : Str))) hq)
    exact op_ne_pattern o (h3.symm.trans e)
theorem TabAt.store {prog : Program} {w : World} {h h' : Heap} {tab : Tab} {v : Value} {L : Addr} (x : TabAt prog w h tab v) (n : v ≠ .ref L) (hs : Heap.SameBut L h h') (im : Imm h h') : TabAt prog w h' tab v := by
  obtain ⟨d, kvs, rfl, e, a, b⟩ := x
  exact ⟨d, kvs, rfl, e, dictOf_kp a (fun o ho => (hs.2 d (fun q => n (by rw [q]))).trans ho), b.imm im⟩
theorem one_kids {los : List Op} : ∀ {d : Nat} {t : T}, One los d t → t.kids.length ≤ d + 1
  | 0, .nd o ks, h => by obtain ⟨_, rfl⟩ := h; simp [T.kids]
  | d + 1, .nd o ks, h => by
    rcases h with ⟨_, rfl⟩ | ⟨_, _, h2, _⟩
    · simp [T.kids]
    · exact h2
theorem kids_lput {tab : Tab} {p : T} (hp : p.kids.length ≤ 3) (ht : ∀ x ∈ tab, x.2.kids.length ≤ 3) : (lput tab p).kids.length ≤ 3 := by
  obtain ⟨o, ks⟩ := p
  dsimp only [lput]
  cases hl : tab.lookup o with
  | some u => exact ht _ (lookup_mem hl)
  | none =>
    show (lputs tab ks).length ≤ 3
    rw [lputs_map, List.length_map]; exact hp
theorem Drawn1.kids3 {p : T} {nms : List Op} {tab : Tab} (x : Drawn1 p nms tab) : (lput tab p).kids.length ≤ 3 :=
  kids_lput (one_kids x.one) fun y hy => by have := one_kids (x.vals y hy); exact Nat.le_succ_of_le (by assumption)
section
variable {prog : Program} {w : World} {B : Heap} {A : Around} {E : Value → Shared → Prop} {s : Shared} {Q : Flow → Shared → Prop} {L f : Addr} {cd : Value} {st : Stmt} {sc : Scope}
set_option maxHeartbeats 4000000 in
theorem law_s11 (W : Wd w B) (hst : lawSt w 11 = some st) (hsc : lawSc w = some sc) (hr : Room A 20) {hd nv la : Addr} {c : Addr × List Value × Int} {m : Str → Option Value} {a : Nat} {p : T} {pv tr : Value} {nms : List Op} {tab : Tab} {tv cn : Option Value} {k : BK} {cs : List Addr} {wv dv : List Value} {xs} (D : Drawn1 p nms tab) (hp : Rep s.heap p pv) (ht : Rep s.heap (lput tab p) tr) (hm : m "pattern" = some pv) (hmnm : m "names" = some (.ref nv)) (hmt : m "t" = some tr) (ha : a ≤ 50)
    (Nv : LvS s.heap (lawS2 k hd L) nv nms) (Hs : HsS s.heap (lawS2 k hd L) hd c) (Lv : LvS s.heap (lawS2 k hd L) la [.a, .b])
    (S : St B s.heap (lawS2 k hd L) (lawOw prog w k cs wv dv xs hd L c a m tv cn (some (.ref la)) (some (.ref hd))) s.heap)
    (hQ : ∀ h' tk, Kp B h' → Q .next { s with heap := h', toks := tk }) :
    wpAny (model prog w) A (exec st (lawEnv sc L f cd)) Q E s := by
  have EO : EnvOk (lawEnv sc L f cd) := law_envOk hsc
  obtain rfl := Option.some.inj hst.symm
  obtain rfl := Option.some.inj hsc.symm
  clear hst hsc
  have hu9 : A.units + 64 < cLine := hr.units64
  have hu10 : A.in1.units + 64 < cLine := by have := hr.2.2; show A.units + 1 + 64 < _; ((try clear hK0); (try clear hn11); (try clear hs11); (try clear EO'); clear EO; lia)
  have hoff : B.get? hd = none := S.off 4 rfl
  have hlaS : la ≠ hd := fun q => Lv.1 (by rw [q]; simp)
  have h22 := D.size22
  have hwt := D.wft
  obtain ⟨⟨op, ks⟩, ht0⟩ : ∃ t0, lput tab p = t0 := ⟨_, rfl⟩
  rw [ht0] at ht h22 hwt
  (refine x3c3 (Rep.iff.mp ht) fun ad tk0 vs hq3 hta hks => ?_; subst hq3)
  have hk9 : ks.length ≤ 9 := hwt.1
  have hvl : vs.length = ks.length := hks.length
  have hLs : (Value.str op.s tk0 :: vs).length ≤ sizeLine := by have := sizeLine_big; simp; ((try clear hK0); (try clear hn11); (try clear hs11); (try clear EO'); clear EO; lia)
  refine forTup B s.heap (lawS2 k hd L) hr.hh (hide fun K0 hK0 => tupN (callF W S.kb EO gn_other kf_other (nameC EO (S.cell 10 rfl) (nameL EO (S.ns 5 rfl) hmt (nameC EO (S.cell 9 rfl) ⟨S.kb, ?_⟩)))))
  refine other_spec W 5 (.nd op ks) _ _ _ hd la c a [.a, .b] _ hwt (by decide) S.kb (hr.mono (by exact Nat.le_add_left _ _)) hoff ⟨let ⟨o, e, r, _⟩ := S.get 4 rfl; ⟨o, e, r⟩, Hs.2⟩ (by ((try clear hK0); (try clear hn11); (try clear hs11); (try clear EO'); clear EO; lia)) hlaS Lv.2 (by decide) (by decide) ht (fun r1 u1 h1 tk1 a1 hx1 HA1 hb1 hb2 hrep1 hwf1 hsz1 => ?_)
  refine e02 (S.upd (p' := handP prog w c a1) 4 rfl hx1 (let ⟨o, e, r⟩ := HA1.1; ⟨o, e, r, r.nt⟩)) fun S1 im1 => ?_
  try dsimp only [List.set_cons_zero, List.set_cons_succ] at S1
  -- t + (('a',),)
  refine wpAny_BinOp (nameL EO (S1.ns 5 rfl) hmt (tup1 (tup1 (wpAny_Constant_str ?_))))
  intro h2 c2 (k2 : Kp h1 h2) hc2 h3 c3 (k3 : Kp h2 h3) hc3
  have hta1 := im1 _ _ hta
  refine add_tup (vs := Value.str op.s tk0 :: vs) (ws := [.ref c2]) (hta1.keeps (k2.tr k3)) hc3 (fun h4 c4 (k4 : Kp h3 h4) hc4 => ?_) (by have := sizeLine_big; simp; ((try clear hK0); (try clear hn11); (try clear hs11); (try clear EO'); clear EO; lia))
  have k14 : Kp h1 h4 := (k2.tr k3).tr k4
  have S4 := S1.kp k14
  have hrep2 : Rep h4 (.nd op (ks ++ [.nd .a []])) (.ref c4) := Rep.iff.mpr ⟨c4, tk0, vs ++ [.ref c2], rfl, by rw [List.cons_append] at hc4; exact hc4, (hks.imm (im1.tr (Imm.kp k14))).append (RepL.one (Rep.iff.mpr ⟨c2, _, [], rfl, hc2.keeps (k3.tr k4), RepL.nil_iff.mpr rfl⟩))⟩
  -- t[:1]
  refine sub_upto (nameL EO (S4.ns 5 rfl) hmt (wpAny_Constant_int ⟨ad, Value.str op.s tk0 :: vs, 1, _, rfl, rfl, hta1.keeps k14, by simp, hLs, fun h5 c5 tk5 (k5 : Kp h4 h5) hc5 => ?_⟩))
  have S5 := S4.kp k5
  have hrep3 : Rep h5 (.nd op []) (.ref c5) := Rep.iff.mpr ⟨c5, tk0, [], rfl, hc5, RepL.nil_iff.mpr rfl⟩
  -- _law_one(hand, 2, leaves)
  have ch5 : Chg (lawS2 k hd L) s.heap h5 := fun b o hb e => S5.base b o hb e
  refine callF W S5.kb EO gn_one kf_one (nameC EO (S5.cell 10 rfl) (wpAny_Constant_int (nameC EO (S5.cell 9 rfl) ⟨S5.kb, ?_⟩)))
  refine one_spec W 2 _ _ _ hd la c a1 [.a, .b] _ 2 rfl (by decide) S5.kb (hr.mono (by exact Nat.le_add_left _ _)) hoff ⟨let ⟨o, e, r, _⟩ := S5.get 4 rfl; ⟨o, e, r⟩, (Hs.mv ch5).2⟩ (by unfold six six six; ((try clear hK0); (try clear hn11); (try clear hs11); (try clear EO'); clear EO; lia)) hlaS (Lv.mv ch5).2 (by decide) (by decide) (fun r4 u4 h6 tk6 a2 hx6 HA6 hc1 hc2' hrep4 hone4 => ?_)
  refine e02 (S5.upd (p' := handP prog w c a2) 4 rfl hx6 (let ⟨o, e, r⟩ := HA6.1; ⟨o, e, r, r.nt⟩)) fun S6 im6 => ?_
  try dsimp only [List.set_cons_zero, List.set_cons_succ] at S6
  refine nameL EO (S6.ns 5 rfl) hm ⟨by simp, fun h7 c7 (k7 : Kp h6 h7) hc7 => ?_⟩
  have S7 := S6.kp k7
  have im17 : Imm h1 h7 := ((Imm.kp (k14.tr k5)).tr im6).tr (Imm.kp k7)
  have im07 : Imm s.heap h7 := im1.tr im17
  have hus : RepL h7 [u1, .nd op (ks ++ [.nd .a []]), .nd op [], u4, p] [r1, .ref c4, .ref c5, r4, pv] := by
    refine RepL.cons_iff.mpr ⟨_, _, rfl, hrep1.imm im17, RepL.cons_iff.mpr ⟨_, _, rfl, hrep2.imm ((Imm.kp k5).tr (im6.tr (Imm.kp k7))), RepL.cons_iff.mpr ⟨_, _, rfl, hrep3.imm (im6.tr (Imm.kp k7)), RepL.cons_iff.mpr ⟨_, _, rfl, hrep4.imm (Imm.kp k7), RepL.one (hp.imm im07)⟩⟩⟩⟩
  have hok : ∀ u ∈ [u1, T.nd op (ks ++ [.nd .a []]), .nd op [], u4, p], Wf 6 u ∧ u.size ≤ 60 := by
    have hk3 : ks.length ≤ 8 := by
      have := D.kids3
      rw [ht0] at this
      have h1 : ks.length ≤ 3 := this
      exact Nat.le_trans h1 (Nat.le_of_ble_eq_true rfl)
    intro u hu
    simp only [List.mem_cons, List.not_mem_nil, or_false] at hu
    rcases hu with rfl | rfl | rfl | rfl | rfl
    · exact ⟨hwf1, by ((try clear hK0); (try clear hn11); (try clear hs11); (try clear EO'); clear EO; lia)⟩
    · refine ⟨⟨by rw [List.length_append]; simp; simp [*], fun x hx => ?_⟩, ?_⟩
      · rcases List.mem_append.mp hx with hx | hx
        · exact (hwt.2 x hx).up (by decide)
        · rw [List.mem_singleton.mp hx]; exact ⟨by simp, fun k hk => nomatch hk⟩
      · rw [size_nd, List.map_append, List.sum_append]
        have e1 : ((([T.nd .a []] : List T).map T.size).sum) = 1 := by simp [size_nd]
        rw [e1]
        have := size_nd op ks
        ((try clear hK0); (try clear hn11); (try clear hs11); (try clear EO'); clear EO; lia)
    · exact ⟨⟨by simp, fun k hk => nomatch hk⟩, by rw [size_nd]; simp⟩
    · exact ⟨(one_wf hone4 (by decide)).up (by decide), by have := one_size2 hone4; exact Nat.le_trans this (Nat.le_of_ble_eq_true rfl)⟩
    · exact ⟨D.wf.up (by decide), by have := D.size; exact Nat.le_trans this (Nat.le_of_ble_eq_true rfl)⟩
  generalize hul : [u1, T.nd op (ks ++ [.nd .a []]), .nd op [], u4, p] = us at hus hok
  generalize hvl' : [r1, Value.ref c4, .ref c5, r4, pv] = vus at hus hc7
  refine hK0 _ _ ⟨c7, vus, _, fun i ow h => ∃ m', ow = lawOw prog w k cs wv dv xs hd L c a2 m' tv cn (some (.ref la)) (some (.ref hd)) ∧ m' "pattern" = some pv ∧ m' "names" = some (.ref nv), rfl, hc7, S7, fun _ _ _ _ _ x => x, ⟨m, rfl, hm, hmnm⟩, ?_, ?_⟩
  · intro i ow h tk it q x hx im S8 hpz1; (refine e13 hpz1 fun m' hq1 hmp hmn => ?_; subst hq1; clear hpz1)
    refine e12 (hus.at hx) fun u hu hxu => ?_
    refine e02 (hok u (List.mem_of_getElem? hu)) fun hwu hsu => ?_
    refine wpAny_pure (wpAny_assign_Name (S8.storeL 6 rfl EO (fun h9 S9 im9 => ?_)))
    try dsimp only [List.set_cons_zero, List.set_cons_succ] at S9
    have S9' : ∃ m2, C4 (m2 "pattern" = some pv) (m2 "names" = some (.ref nv)) (m2 "late" = some x) (St B s.heap (lawS2 k hd L) ((it, q) :: lawOw prog w k cs wv dv xs hd L c a2 m2 tv cn (some (.ref la)) (some (.ref hd))) h9) := ⟨up m' "late" x, hmp, hmn, rfl, S9⟩
    clear S9
    obtain ⟨m2, hmp2, hmn2, hml2, S9⟩ := S9'
    have im09 : Imm s.heap h9 := (im07.tr im).tr im9
    have hp9 := hp.imm im09
    have hu9' : Rep h9 u x := (hxu.imm im).imm im9
    have Nv9 := Nv.mv (fun b o hb e => S9.base b o hb e)
    dsimp only
    refine hide (fun K hK => ?_)
    refine wpAny_execs_cons (cps (P := fun Q' => ∀ (h' : Heap) (tk' : Nat) (m3 : Str → Option Value) (rv rv2 : Value), (m3 "pattern" = some pv) → (m3 "names" = some (.ref nv)) → (m3 "late" = some x) → (m3 "due" = some rv) → (m3 "found" = some rv2) → (Imm h9 h') → (DueOut prog w h' p nms u rv) → ((mrun p.size [] [(p, u)] = none → rv2 = .none)) → ((∀ tab, mrun p.size [] [(p, u)] = some tab → TabAt prog w h' tab rv2)) → (St B s.heap (lawS2 k hd L) ((it, q) :: lawOw prog w k cs wv dv xs hd L c a2 m3 tv cn (some (.ref la)) (some (.ref hd))) h') → Q' .next { s with heap := h', toks := tk' }) ?_ ?_)
    · intro K2 hK2
      refine pairSwapped hr.hh (callF W S9.kb EO gn_due kf_due (nameL EO (S9.ns 6 rfl) hmp2 (nameL EO (S9.ns 6 rfl) hmn2 (nameL EO (S9.ns 6 rfl) hml2 ⟨S9.kb, due_spec W (n := 6) S9.kb (hr.mono (by exact Nat.le_add_left _ _)) hp9 (D.wf.up (by decide)) rfl Nv9.2 D.nm.of.1 D.nm.len hu9' hwu (by decide) hsu (fun rv h10 tk10 (k10 : Kp h9 h10) hdue => ?_)⟩))))
      have S10 := S9.kp k10
      refine callF W S10.kb EO gn_matched kf_matched (nameL EO (S10.ns 6 rfl) hmp2 (nameL EO (S10.ns 6 rfl) hml2 ⟨S10.kb, matched_spec W (n := 10) S10.kb (hr.mono (by exact Nat.le_add_left _ _)) (hp9.imm (Imm.kp k10)) (hu9'.imm (Imm.kp k10)) (D.wf.up (by decide)) hwu (by decide) (by have := D.size; exact Nat.le_trans this (Nat.le_of_ble_eq_true rfl)) (fun rv2 h11 tk11 (k11 : Kp h10 h11) hno hyes => ?_)⟩))
      intro h12 tk12 (k12 : Kp h11 h12)
      have S12 := (S10.kp k11).kp k12
      have k1012 : Kp h10 h12 := k11.tr k12
      refine storeL EO (S12.ns 6 rfl) (fun h13 hn13 hs13 => ?_)
      refine e02 (S12.setNs 6 rfl hs13 hn13) fun S13 im13 => ?_
      try dsimp only [List.set_cons_zero, List.set_cons_succ] at S13
      refine storeL EO (S13.ns 6 rfl) (fun h14 hn14 hs14 => ?_)
      refine e02 (S13.setNs 6 rfl hs14 hn14) fun S14 im14 => ?_
      try dsimp only [List.set_cons_zero, List.set_cons_succ] at S14
      have mv : ∀ {tab : Tab} {v : Value}, TabAt prog w h12 tab v → TabAt prog w h14 tab v := fun {tab v} x => by
        have n := tab_ne_ns x (S12.ns 6 rfl) hmp2
        exact (x.store n hs13 im13).store n hs14 im14
      refine hK2 h14 _ (up (up m2 "found" rv2) "due" rv) rv rv2 hmp2 hmn2 hml2 rfl rfl ((Imm.kp (k10.tr k1012)).tr (im13.tr im14)) ?_ hno (fun tab e => mv ((hyes tab e).kp k12)) S14
      (refine e12 hdue fun ts h1 h2 => ?_; clear hdue)
      exact ⟨ts, h1, Or.imp id (fun ⟨tab, a, b, c⟩ => ⟨tab, a, mv (b.kp k1012), c⟩) h2⟩
    intro h10 tk10 m3 rv rv2 hmp3 hmn3 hml3 hmd3 hmf3 im10 hdue hno hyes S10
    have im0' : Imm s.heap h10 := im09.tr im10
    have hp10 := hp.imm im0'
    have hu10' := hu9'.imm im10
    obtain ⟨ts, hts, ⟨rfl, hnone⟩ | ⟨tab1, htab1, hT1, hl1⟩⟩ := hdue
    · obtain rfl := hno (match_none D.pq D.nm.of hts hnone)
      refine wpAny_execs_cons (wpAny_If (wpAny_isTrue_BoolOp (wpAny_allTrue_Or_cons (wpAny_isTrue_Compare1 (nameL EO (S10.ns 6 rfl) hmf3 (nameL EO (S10.ns 6 rfl) hmd3 (ne_none (wpAny_truthy_bool (ifF rfl ?_)) hu9)))))))
      refine wpAny_allTrue_Or_cons (wpAny_isTrue_BoolOp (wpAny_allTrue_And_cons (wpAny_isTrue_Compare1 (nameL EO (S10.ns 6 rfl) hmd3 (wpAny_Constant_none (isNot_none (wpAny_truthy_bool (ifF rfl (ifF rfl (wpAny_allTrue_Or_nil (ifF rfl (wpAny_execs_nil (wpAny_execs_nil ?_)))))))))))))
      exact hK _ _ ⟨h10, tk10, _, rfl, im9.tr im10, S10, m3, rfl, hmp3, hmn3⟩
    · obtain ⟨tab2, hm2, hl2, hsub, hplc, hin⟩ := match_tab D.pq D.nm.of (tabsF_keys _ htab1) hl1
      have hT2 := hyes tab2 hm2
      refine wpAny_execs_cons (wpAny_If (wpAny_isTrue_BoolOp (wpAny_allTrue_Or_cons (wpAny_isTrue_Compare1 (nameL EO (S10.ns 6 rfl) hmf3 (nameL EO (S10.ns 6 rfl) hmd3 (ne_tabs (n := 6) hT2 hT1 hl2 hsub (fun z hz => subs_wf hwu (hin z hz)) (by decide) hu10 (wpAny_truthy_bool (ifF rfl ?_)))))))))
      obtain ⟨d1, kv1, rfl, hT1'⟩ := id hT1
      refine wpAny_allTrue_Or_cons (wpAny_isTrue_BoolOp (wpAny_allTrue_And_cons (wpAny_isTrue_Compare1 (nameL EO (S10.ns 6 rfl) hmd3 (wpAny_Constant_none (isNot_none (wpAny_truthy_bool (ifT rfl ?_))))))))
      refine wpAny_allTrue_And_cons (wpAny_isTrue_Compare1 (callF W S10.kb EO gn_placed kf_placed (nameL EO (S10.ns 6 rfl) hmp3 (nameL EO (S10.ns 6 rfl) hmf3 ⟨S10.kb, ?_⟩))))
      refine placed_ok W 3 p u _ _ _ _ _ tab2 D.wf hplc S10.kb (hr.mono (by exact Nat.le_add_left _ _)) hp10 hT2 (fun r h11 tk11 (k11 : Kp h10 h11) hrep => ?_)
      have S11 := S10.kp k11
      refine nameL EO (S11.ns 6 rfl) hml3 (ne_trees hrep (hu10'.imm (Imm.kp k11)) hwu hwu (by decide) (by decide) hu9 (fun b hb => wpAny_truthy_bool ?_))
      have hbf : b = false := by cases b with | false => rfl | true => exact absurd rfl (hb.mp rfl)
      subst hbf
      refine ifF rfl (ifF rfl (wpAny_allTrue_Or_nil (ifF rfl (wpAny_execs_nil (wpAny_execs_nil ?_)))))
      exact hK _ _ ⟨h11, tk11, _, rfl, (im9.tr im10).tr (Imm.kp k11), S11, m3, rfl, hmp3, hmn3⟩
  · intro ow h tk im S8 hpz2; obtain ⟨m', rfl, _⟩ := hpz2
    exact hQ h tk S8.kb
end
noncomputable def lawBody (w : World) : Option (List Stmt) := (lawFd w).bind fun fd => match fd.body with | .stmts b => some b | _ => none
theorem lawSt_body {w : World} {b : List Stmt} (hb : lawBody w = some b) (i : Nat) : lawSt w i = b[i]? := by
  unfold lawBody at hb
  unfold lawSt
  cases hf : lawFd w with
  | none => rw [hf] at hb; cases hb
  | some fd =>
    rw [hf] at hb
    simp only [Option.bind_some] at hb ⊢
    split at hb
    · rename_i b' e
      cases hb
      first | rfl | rw [e]
    · cases hb
theorem lawBody_len {w : World} : (lawBody w).map List.length = some 13 := rfl
section
variable {prog : Program} {w : World} {B : Heap} {A : Around} {E : Value → Shared → Prop} {s : Shared} {Q : Flow → Shared → Prop} {L f : Addr} {cd : Value} {st : Stmt} {sc : Scope}
theorem law_s12 (hst : lawSt w 12 = some st) {env : Env} (h : Q (.ret (.bool true)) s) : wpAny (model prog w) A (exec st env) Q E s := by
  obtain rfl := Option.some.inj hst.symm
  exact wpAny_Return_some (wpAny_Constant_bool h)
set_option maxHeartbeats 4000000 in
theorem cons_of_len {α : Type} {n : Nat} {b : List α} (h : b.length = n + 1) : ∃ a r, b = a :: r ∧ r.length = n := by
  cases b with
  | nil => cases h
  | cons a r => exact ⟨a, r, rfl, Nat.succ.inj h⟩
theorem law_core (W : Wd w B) (PF : ProgOk prog) {b : List Stmt} (hb : lawBody w = some b) (hsc : lawSc w = some sc) (hr : Room A 20) (hfr : A.frames = some [lawEnv sc L f cd]) {H : Heap} {sa : Addr} {vs : List Value} {m : Str → Option Value} (hl : H.IsList sa vs.toArray) (hv : ∀ v ∈ vs, ∃ i t, v = Value.int i t) (hn : vs.length ≤ 1000) (hm : m "script" = some (.ref sa))
    (S : St B H [] ((L, nsP m) :: cellsOw L none none none none none) s.heap)
    (hQ : ∀ h' tk dr, Kp B h' → Q (.ret (.bool true)) { s with heap := h', toks := tk, drawn := dr }) :
    wpAny (model prog w) A (execs b (lawEnv sc L f cd)) Q E s := by
  have hst := lawSt_body hb
  have hlen : b.length = 13 := by
    have := lawBody_len (w := w)
    rw [hb] at this
    exact Option.some.inj this
  clear hb
  obtain ⟨a0, a1, a2, a3, a4, a5, a6, a7, a8, a9, a10, a11, a12, rfl⟩ : X13 fun a0 a1 a2 a3 a4 a5 a6 a7 a8 a9 a10 a11 a12 => b = [a0, a1, a2, a3, a4, a5, a6, a7, a8, a9, a10, a11, a12] := by
    clear hst
    refine e22 (cons_of_len hlen) fun a0 b0 hq0 h0 => ?_
    refine e22 (cons_of_len h0) fun a1 b1 hq1 h1 => ?_
    refine e22 (cons_of_len h1) fun a2 b2 hq2 h2 => ?_
    refine e22 (cons_of_len h2) fun a3 b3 hq3 h3 => ?_
    refine e22 (cons_of_len h3) fun a4 b4 hq4 h4 => ?_
    refine e22 (cons_of_len h4) fun a5 b5 hq5 h5 => ?_
    refine e22 (cons_of_len h5) fun a6 b6 hq6 h6 => ?_
    refine e22 (cons_of_len h6) fun a7 b7 hq7 h7 => ?_
    refine e22 (cons_of_len h7) fun a8 b8 hq8 h8 => ?_
    refine e22 (cons_of_len h8) fun a9 b9 hq9 h9 => ?_
    refine e22 (cons_of_len h9) fun a10 b10 hq10 h10 => ?_
    refine e22 (cons_of_len h10) fun a11 b11 hq11 h11 => ?_
    refine e22 (cons_of_len h11) fun a12 b12 hq12 h12 => ?_
    exact ⟨a0, a1, a2, a3, a4, a5, a6, a7, a8, a9, a10, a11, a12, by rw [hq0, hq1, hq2, hq3, hq4, hq5, hq6, hq7, hq8, hq9, hq10, hq11, hq12, List.eq_nil_of_length_eq_zero h12]⟩
  refine wpAny_execs_cons (law_s0 W (hst 0) hsc hr hl hv hn hm S (fun h1 tk1 hd c la S1 Hs1 Lv1 => ?_))
  dsimp only
  refine wpAny_execs_cons (law_s1 W (hst 1) hsc hr S1 Hs1 Lv1 (fun h2 tk2 a p pv ha hone hp2 S2 Hs2 Lv2 => ?_))
  dsimp only
  refine wpAny_execs_cons (law_s2 W (hst 2) hsc hr hone hp2 rfl S2 Hs2 Lv2 (fun h3 tk3 nv nms hnm im3 Nv3 S3 Hs3 Lv3 => ?_))
  dsimp only
  have hp3 := hp2.imm im3
  refine wpAny_execs_cons (law_s3 W (hst 3) hsc hr ha hnm.of.1 hnm.len rfl S3 Hs3 Lv3 Nv3 (fun h4 tk4 a' tab tv ha' hkeys hvals im4 ch4 hT4 S4 => ?_))
  dsimp only
  have D : Drawn1 p nms tab := ⟨hone, hnm, hkeys, hvals⟩
  have hp4 := hp3.imm im4
  have Nv4 := Nv3.mv ch4
  have Hs4 := Hs3.mv ch4
  have Lv4 := Lv3.mv ch4
  refine wpAny_execs_cons (law_s4 (la := la) W (hst 4) hsc hr D.wf hp4 rfl hT4 D.nd D.len D.xy S4 (fun h5 tk5 tr mv im5 ch5 ht5 hM5 S5 => ?_))
  dsimp only
  have hp5 := hp4.imm im5
  have Nv5 := Nv4.mv ch5
  have Hs5 := Hs4.mv ch5
  have Lv5 := Lv4.mv ch5
  have hT5 := hT4.mv ch5 im5
  refine wpAny_execs_cons (law_s5 W (hst 5) hsc hr D hp5 rfl hT5 hM5 ht5 rfl rfl S5 (fun h6 tk6 k6 => ?_))
  dsimp only
  have ch6 : Chg (lawS hd L) h5 h6 := Chg.kp k6
  have im6 := Imm.kp k6
  have hp6 := hp5.imm im6
  have ht6 := ht5.imm im6
  have Nv6 := Nv5.mv ch6
  have Hs6 := Hs5.mv ch6
  have Lv6 := Lv5.mv ch6
  have hT6 := hT5.mv ch6 im6
  have S6 := (S5.kp k6).at' (S' := lawS hd L) rfl
  refine wpAny_execs_cons (law_s6 W (hst 6) hsc hr S6 (fun h7 tk7 k cs wv dv xs hF ch7 im7 off inv7 Bk7 S7 => ?_))
  dsimp only
  have hp7 := hp6.imm im7
  have ht7 := ht6.imm im7
  have hF' : ∀ a ∈ k.four, h6.get? a = none := hF
  have ch7' : Chg (lawS2 k hd L) h6 h7 := fun b o hb e => ch7 b o (fun q => hb (List.mem_append_right _ q)) e
  have Nv7 := (Nv6.more hF').mv ch7'
  have Hs7 := (Hs6.more hF').mv ch7'
  have Lv7 := (Lv6.more hF').mv ch7'
  have hT7 := (hT6.more hF').mv ch7' im7
  refine wpAny_execs_cons (law_s7 W (hst 7) hsc hr D rfl off inv7 Bk7 Nv7 hT7 S7 (fun h8 tk8 ts cs wv dv xs d htsl inv8 Nu8 hdS im8 ch8 S8 => ?_))
  dsimp only
  have hp8 := hp7.imm im8
  have ht8 := ht7.imm im8
  have Nv8 := Nv7.mv ch8
  have Hs8 := Hs7.mv ch8
  have Lv8 := Lv7.mv ch8
  have hT8 := hT7.mv ch8 im8
  have Bk8 := Bk7.mv ch8
  refine wpAny_execs_cons (law_s8 W (hst 8) hsc hr D hp8 rfl rfl off htsl inv8 Bk8 Nu8 S8 (fun h9 tk9 ts' cs wv dv xs i ti htsl' inv9 hi im9 ch9 S9 => ?_))
  dsimp only
  have hp9 := hp8.imm im9
  have ht9 := ht8.imm im9
  have Nv9 := Nv8.mv ch9
  have Hs9 := Hs8.mv ch9
  have Lv9 := Lv8.mv ch9
  have hT9 := hT8.mv ch9 im9
  have Bk9 := Bk8.mv ch9
  refine wpAny_execs_cons (law_s9 W (hst 9) hsc hr D hp9 ht9 rfl rfl rfl rfl off htsl' inv9 Bk9 hi Nv9 S9 (fun h10 tk10 dr ts2 cs wv dv xs inv10 im10 ch10 S10 => ?_))
  dsimp only
  have hp10 := hp9.imm im10
  have ht10 := ht9.imm im10
  have Nv10 := Nv9.mv ch10
  have Hs10 := Hs9.mv ch10
  have Lv10 := Lv9.mv ch10
  have hT10 := hT9.mv ch10 im10
  refine wpAny_execs_cons (law_s10 W PF (hst 10) hsc hr hfr D hp10 rfl rfl Nv10 hT10 S10 (fun h11 tk11 m' cn' hmp hmn hmt im11 ch11 S11 => ?_))
  dsimp only
  have hp11 := hp10.imm im11
  have ht11 := ht10.imm im11
  have Nv11 := Nv10.mv ch11
  have Hs11 := Hs10.mv ch11
  have Lv11 := Lv10.mv ch11
  refine wpAny_execs_cons (law_s11 W (hst 11) hsc hr D hp11 ht11 hmp hmn (hmt.trans rfl) ha' Nv11 Hs11 Lv11 S11 (fun h12 tk12 kb12 => ?_))
  dsimp only
  exact wpAny_execs_cons (law_s12 (hst 12) (hQ _ _ _ kb12))
end
theorem ints_all : ∀ {vs : List Value} {ns : List Int}, IntsAre vs ns → ∀ v ∈ vs, ∃ i t, v = Value.int i t
  | _, _, .nil => fun v hv => nomatch hv
  | _, _, .cons n t h => fun v hv => by
    rcases List.mem_cons.mp hv with rfl | h'
    · exact ⟨_, _, rfl⟩
    · exact ints_all h v h'
section
variable {prog : Program} {w : World} {A : Around} {E : Value → Shared → Prop} {s : Shared} {Q : Flow → Shared → Prop} {L f : Addr} {cd : Value} {sc : Scope}
theorem law_go {h₁ : Heap} {tk : Nat} {ex : ExcName → Option Value} {mg mb : Str → Option Value} (KX : (hd.heap_39 w.params).In s.heap) (T : Top hd.view_39 (looseW hd.view_39 []) ex mg mb s.heap) (PF : ProgOk prog) {b : List Stmt} (hb : lawBody w = some b) (hsc : lawSc w = some sc) (hr : Room A 20) (hfr : A.frames = some [lawEnv sc L f cd])
    {sa : Addr} {vs : List Value} {ns : List Int} {m : Str → Option Value} (hl : s.heap.IsList sa vs.toArray) (hI : IntsAre vs ns) (hlen : ns.length ≤ 1000) (hm : m "script" = some (.ref sa))
    (F : Fr s.heap L h₁ m) {o1 o2 o3 o4 o5 : Obj} (N : News s.heap L h₁ [(L + 1 + 1 + 1 + 1 + 1, o1), (L + 1 + 1 + 1 + 1, o2), (L + 1 + 1 + 1, o3), (L + 1 + 1, o4), (L + 1, o5)])
    (c1 : o1.data = .cell none) (c2 : o2.data = .cell none) (c3 : o3.data = .cell none) (c4 : o4.data = .cell none) (c5 : o5.data = .cell none)
    (hQ : ∀ h' tk dr, Kp s.heap h' → Q (.ret (.bool true)) { s with heap := h', toks := tk, drawn := dr }) :
    wpAny (model prog w) A (execs b (lawEnv sc L f cd)) Q E { s with heap := h₁, toks := tk } := by
  have W : Wd w s.heap := ⟨KX, mg, mb, topRead_of T⟩
  have hLB : s.heap.get? L = none := Heap.get?_none_of_le F.above
  have S : St s.heap s.heap [] ((L, nsP m) :: cellsOw L none none none none none) h₁ := by
    refine ⟨F.keep, fun b o _ e => F.keep b o e, ?_, ?_, ?_, fun b hb => nomatch hb⟩
    · intro p hp
      simp only [List.mem_cons, List.not_mem_nil, or_false] at hp
      rcases hp with rfl | rfl | rfl | rfl | rfl | rfl
      · refine e12 (nsP_ns.mp F.ns) fun o e r => ?_
        exact ⟨o, e, r, r.nt⟩
      · exact ⟨o1, N.get (by simp), c1, cellP.nt (v := none) c1⟩
      · exact ⟨o2, N.get (by simp), c2, cellP.nt (v := none) c2⟩
      · exact ⟨o3, N.get (by simp), c3, cellP.nt (v := none) c3⟩
      · exact ⟨o4, N.get (by simp), c4, cellP.nt (v := none) c4⟩
      · exact ⟨o5, N.get (by simp), c5, cellP.nt (v := none) c5⟩
    · intro p hp
      simp only [List.mem_cons, List.not_mem_nil, or_false] at hp
      have key : s.heap.get? p.1 = none := by
        rcases hp with rfl | rfl | rfl | rfl | rfl | rfl
        · exact hLB
        · exact (N.fresh (o := o1) (by simp))
        · exact (N.fresh (o := o2) (by simp))
        · exact (N.fresh (o := o3) (by simp))
        · exact (N.fresh (o := o4) (by simp))
        · exact (N.fresh (o := o5) (by simp))
      exact ⟨key, .inl key⟩
    · show ([L, L + 1 + 1 + 1 + 1 + 1, L + 1 + 1 + 1 + 1, L + 1 + 1 + 1, L + 1 + 1, L + 1] : List Addr).Nodup
      have lt : ∀ a : Addr, (a : Nat) < a + 1 := fun a => Nat.lt_succ_self a
      simp only [List.nodup_cons, List.mem_cons, List.not_mem_nil, or_false, not_or, not_false_eq_true, List.nodup_nil, and_true]
      refine ⟨⟨?_, ?_, ?_, ?_, ?_⟩, ⟨?_, ?_, ?_, ?_⟩, ⟨?_, ?_, ?_⟩, ⟨?_, ?_⟩, ?_⟩ <;> exact fun (q : (_ : Nat) = _) => by lia
  exact law_core (s := { s with heap := h₁, toks := tk }) W PF hb hsc hr hfr hl (ints_all hI) (by rw [hI.length]; exact hlen) hm S hQ
end
theorem prog_ok : ProgOk PySem.Challenge.rw_pq0115_01.row.prog := ⟨by decide +kernel, by decide +kernel⟩
theorem body_ok (w : World) : ∃ b, lawBody w = some b := ⟨_, rfl⟩
theorem sc_ok (w : World) : ∃ b, lawSc w = some b := ⟨_, rfl⟩
theorem room_caller {env : Env} : Room (callerA.deeper env) 20 := ⟨rfl, by show 1 + claimMargin + 1 + 20 < recursionLimit; decide +kernel, by show 4 + 3 + 8 * 20 + 100 < cLine; decide +kernel⟩
theorem said_ok : PySem.Challenge.rw_pq0115_01.wellSaid = true := by
  rw [PySem.W.Fast.te9446332074065402090]
  kernel_rfl
end Mine
local macro_rules | `(tactic| k_qdec) => `(tactic| decide +kernel)
set_option maxHeartbeats 8000000 in
theorem PySem.Challenge.cw_pq0115_01_holds : PySem.Challenge.rw_pq0115_01.Holds :=
  holds_law Mine.said_ok (fun said => by
    refine holds_open (q := Mine.hd.view_39) (loose := []) (Xt := fun s => xlAt Mine.hd.view_39 [] s && recOk (RowW.records PySem.Challenge.rw_pq0115_01.row.toRowW) s) (XP := XL Mine.hd.view_39 []) (Yf := Mine.hook.obs) (Ya := Mine.hook.val) (YP := Mine.hook.says) (N := 3422) Mine.left Mine.hook.of Mine.hook.keeps (fun s e => xl_of s (Bool.and_eq_true_iff.mp e).1) XL.keeps (by rfl) (by rfl) (by rfl) (fun s e => recFacts_of (Bool.and_eq_true_iff.mp e).2) (by rfl) (by assumption) (by decide +kernel) ⟨rfl, rfl, rfl, rfl, rfl, by decide +kernel⟩ ?hw ?hc
    case hw => w_witness2
    case hc =>
      w_on
      k_go0
      rename_i _ _ _ _ _ _ _ _ _ _ _ hg KX _ _ _ T _ _ _ _ _ _ _ _ _ ns _ _ _ _ _ _ _ sa vs _ hL _ _ _ hI _ hlen _ _ _ h1 tk1 F o1 o2 o3 o4 o5 c1 c2 c3 c4 c5 N X0
      refine Mine.law_go KX T Mine.prog_ok rfl rfl Mine.room_caller rfl hL hI (by lia) rfl F N c1 c2 c3 c4 c5 (fun h' tk dr kp => ?_)
      clear X0 F N c1 c2 c3 c4 c5
      refine ⟨.inl ⟨.bool true, .bool true, [], rfl, raisesW_false ?_, .bool _, ?_, unshared_nil⟩, kp, rfl, hg⟩
      · wrow_none_raised
      · wrow_post)
