import PyProof.Rows.All
import Wide.All
import Open.Line
import Open.Boot
import Open.Tree
import OpenK.KWalk
import OpenK.KCell
import OpenK.KDict
import OpenK.KTop
import PyProof.Rows.BitMore
import Lean
import PySem.Challenge.RW_pb0347_01
set_option maxRecDepth 100000
set_option Elab.async false
set_option linter.all false
set_option maxHeartbeats 4000000
set_option genSizeOf false
set_option genSizeOfSpec false
set_option compiler.extract_closed false
set_option backward.eqns.nonrecursive false
set_option backward.eqns.deepRecursiveSplit false
-- part J0
namespace Mine
open PySem PySem.W PySem.Calls PyProof.Rows
noncomputable abbrev hdS (s : String) : Str := Str.ofString s
noncomputable def hdMb : List Stmt := Challenge.pw_pb0347_01.main.body
noncomputable def fnS : Stmt → Option DefRec
  | .FunctionDef name args body _ _ _ scope _ _ pos => some ⟨name, args, body, scope, pos⟩
  | _ => none
noncomputable def clsS : Stmt → Option (List Stmt)
  | .ClassDef _ _ _ body _ _ _ _ _ _ _ => some body
  | _ => none
noncomputable def hdMth (c j : Nat) : Option Stmt := ((hdMb[c]?).bind clsS).bind (·[j]?)
noncomputable def fO (s : Option Stmt) (qual : Str) (dV pm cd : Value) : Obj :=
  (s.bind fnS).elim ⟨.none, none, .plain, #[]⟩ fun d => ⟨.type "function", none, .func (fnOf d.name qual d.params d.body d.scope dV .none .none pm none cd .none), #[]⟩
noncomputable def hdFP (s : Option Stmt) (qual : String) : Obj :=
  (s.bind fnS).elim ⟨.none, none, .plain, #[]⟩ fun d => ⟨.none, none, .func ⟨d.name, hdS qual, d.params, .stmts d.body, d.scope, 0, [], .none, .none, .none, .none, none, .none, .none, 0⟩, #[]⟩
noncomputable def hdCO (n q : String) (t : Nat) (l a f : Int) (b u : Nat) : Obj := Obj.mk (Value.type "code") none (Data.fields #[Value.str (hdS n) t, Value.str (hdS q) (t + 1), Value.str (hdS "/claim/cut.py") (t + 2), Value.int l 0, Value.int a 0, Value.int 0 0, Value.int 0 0, Value.int f 0, Value.ref b, Value.bool true, Value.int 181 0, Value.ref (b + 1), Value.none, Value.ref (b + 2), Value.ref (b + 3), Value.ref (b + 4), Value.int (u : Int) 0, Value.int l 0, Value.str (hdS "/claim/cut.py") (u + 1)]) #[]
noncomputable def hdTE : Obj := Obj.mk (Value.type "tuple") none (Data.seq #[]) #[]
noncomputable def hdNE : Obj := Obj.mk Value.none none (Data.fields #[]) #[]
noncomputable def hdStrsL : Nat → List String → List Value
  | _, [] => []
  | t, s :: l => Value.str (hdS s) t :: hdStrsL (t + 1) l
noncomputable def hdTS (t : Nat) (l : List String) : Obj := Obj.mk (Value.type "tuple") none (Data.seq (Array.mk (hdStrsL t l))) #[]
noncomputable def hdDE (P : Params) (n : String) (t : Nat) (v : Value) : DictEntry := DictEntry.mk (PyData.keyHash P (hdS n)) (Value.str (hdS n) t) v
noncomputable def hdGS (P : Params) : List DictEntry := [hdDE P "__doc__" 166 Value.none, hdDE P "__package__" 167 Value.none, hdDE P "__loader__" 168 (Value.builtin "__main__.__loader__#opaque"), hdDE P "__spec__" 169 Value.none, hdDE P "__annotations__" 170 (Value.ref 6), hdDE P "__builtins__" 171 (Value.ref 4), hdDE P "__file__" 173 (Value.str (hdS "/claim/cut.py") 172), hdDE P "__cached__" 174 Value.none]
noncomputable def hdGU (P : Params) : List DictEntry := [hdDE P "_wall" 193 (Value.ref 21), hdDE P "Rec" 227 (Value.ref 38), hdDE P "fits" 234 (Value.ref 49), hdDE P "text_of" 244 (Value.ref 56), hdDE P "cut_text" 254 (Value.ref 63), hdDE P "as_text" 261 (Value.ref 70), hdDE P "same_reference" 269 (Value.ref 77), hdDE P "ordered" 278 (Value.ref 84), hdDE P "relation" 289 (Value.ref 91), hdDE P "set_value" 298 (Value.ref 98), hdDE P "set_relation" 307 (Value.ref 105), hdDE P "range_mask" 315 (Value.ref 112), hdDE P "SCode" 376 (Value.ref 150), hdDE P "is_jump" 383 (Value.ref 161), hdDE P "ends_way" 390 (Value.ref 168), hdDE P "effect" 398 (Value.ref 175), hdDE P "next_rows" 408 (Value.ref 182), hdDE P "heights" 423 (Value.ref 189), hdDE P "check_code" 430 (Value.ref 196), hdDE P "targets_of" 441 (Value.ref 203), hdDE P "is_number" 448 (Value.ref 210), hdDE P "joined_arithmetic" 458 (Value.ref 217), hdDE P "joined_pair" 468 (Value.ref 224), hdDE P "joined_single" 477 (Value.ref 231), hdDE P "test_of_number" 485 (Value.ref 238), hdDE P "compacted" 496 (Value.ref 245), hdDE P "fold_at" 509 (Value.ref 252), hdDE P "fold_constants" 519 (Value.ref 259), hdDE P "last_target" 529 (Value.ref 266), hdDE P "thread_jumps" 535 (Value.ref 271), hdDE P "drop_rows" 547 (Value.ref 278), hdDE P "optimise" 558 (Value.ref 286), hdDE P "_law_row" 571 (Value.ref 293), hdDE P "_law_next" 578 (Value.ref 300), hdDE P "_law_spot_of" 585 (Value.ref 307), hdDE P "_law_number" 596 (Value.ref 314), hdDE P "_law_choice" 609 (Value.ref 321), hdDE P "_law_truth" 620 (Value.ref 328), hdDE P "_law_mask" 631 (Value.ref 335), hdDE P "_law_two" 637 (Value.ref 340), hdDE P "_law_one" 646 (Value.ref 347), hdDE P "_law_ended" 661 (Value.ref 354), hdDE P "law" 675 (Value.ref 361)]
noncomputable def hdGO (P : Params) (nm : String) (t m : Nat) : Obj := Obj.mk (Value.type "dict") none (Data.dict (Array.mk (hdDE P "__name__" 165 (Value.str (hdS nm) t) :: (hdGS P ++ (hdGU P).take m))) (9 + m)) #[]
noncomputable def hdKU : List (Int × Addr) := [(1, 20), (5, 27), (11, 48), (13, 55), (22, 62), (27, 69), (33, 76), (39, 83), (51, 90), (59, 97), (67, 104), (71, 111), (76, 118), (94, 160), (96, 167), (98, 174), (117, 181), (125, 188), (149, 195), (152, 202), (158, 209), (160, 216), (172, 223), (187, 230), (200, 237), (204, 244), (216, 251), (244, 258), (254, 265), (261, 270), (263, 277), (278, 285), (286, 292), (299, 299), (301, 306), (304, 313), (325, 320), (341, 327), (360, 334), (378, 339), (402, 346), (411, 353), (441, 360)]
noncomputable def hdKO (m : Nat) : Obj := Obj.mk Value.none none (Data.fields (Array.mk ((hdKU.take m).flatMap fun x => [Value.int x.1 0, Value.int 0 0, Value.ref x.2]))) #[]
noncomputable def hdHL (P : Params) : List Obj := [hdTE,
  hdNE,
  hdTS 190 ["k"],
  hdTE,
  hdFP (hdMb[0]?) "_wall",
  hdCO "_wall" "_wall" 187 1 1 3 15 191,
  fO (hdMb[0]?) (hdS "_wall") .none (.str (hdS "__main__") 164) (.ref 20),
  hdTE,
  Obj.mk (Value.type "builtin_function_or_method") none (Data.fields #[Value.builtin "type.__prepare__", Value.type "type"]) #[],
  Obj.mk (Value.type "dict") none (Data.dict #[DictEntry.mk (PyData.keyHash P (hdS "__module__")) (Value.str (hdS "__module__") 203) (Value.str (hdS "moduleyard.pvalues") 194), DictEntry.mk (PyData.keyHash P (hdS "__qualname__")) (Value.str (hdS "__qualname__") 205) (Value.str (hdS "Rec") 204), DictEntry.mk (PyData.keyHash P (hdS "__firstlineno__")) (Value.str (hdS "__firstlineno__") 207) (Value.int 5 206), DictEntry.mk (PyData.keyHash P (hdS "__init__")) (Value.str (hdS "__init__") 216) (Value.ref 35), DictEntry.mk (PyData.keyHash P (hdS "__static_attributes__")) (Value.str (hdS "__static_attributes__") 220) (Value.ref 36)] 5) #[],
  hdTE,
  Obj.mk Value.none none (Data.fields #[Value.int 7 0, Value.int 4 0, Value.ref 34]) #[],
  Obj.mk (Value.type "code") none (Data.fields #[Value.str (hdS "Rec") 198, Value.str (hdS "Rec") 199, Value.str (hdS "/claim/cut.py") 200, Value.int 5 0, Value.int 0 0, Value.int 0 0, Value.int 0 0, Value.int 0 0, Value.ref 25, Value.bool false, Value.int 181 0, Value.ref 26, Value.none, Value.none, Value.none, Value.none, Value.int 201 0, Value.int 5 0, Value.str (hdS "/claim/cut.py") 202]) #[],
  Obj.mk (Value.type "frame") none Data.plain #[some (Value.ref 27), some (Value.ref 3), some (Value.ref 24), none, some (Value.str (hdS "moduleyard.pvalues") 194), none, some (Value.ref 0)],
  hdTE,
  hdNE,
  hdTS 211 ["self", "chain", "number"],
  hdTE,
  hdFP (hdMth 2 0) "Rec.__init__",
  hdCO "__init__" "Rec.__init__" 208 7 3 3 29 214,
  fO (hdMth 2 0) (hdS "Rec.__init__") .none (.str (hdS "moduleyard.pvalues") 194) (.ref 34),
  hdTS 217 ["cells", "chain", "number"],
  Obj.mk (Value.type "dict") none (Data.dict #[DictEntry.mk (PyData.keyHash P (hdS "__module__")) (Value.str (hdS "__module__") 203) (Value.str (hdS "moduleyard.pvalues") 194), DictEntry.mk (PyData.keyHash P (hdS "__firstlineno__")) (Value.str (hdS "__firstlineno__") 207) (Value.int 5 206), DictEntry.mk (PyData.keyHash P (hdS "__init__")) (Value.str (hdS "__init__") 216) (Value.ref 35), DictEntry.mk (PyData.keyHash P (hdS "__static_attributes__")) (Value.str (hdS "__static_attributes__") 220) (Value.ref 36), DictEntry.mk (PyData.keyHash P (hdS "__dict__")) (Value.str (hdS "__dict__") 222) (Value.ref 39), DictEntry.mk (PyData.keyHash P (hdS "__weakref__")) (Value.str (hdS "__weakref__") 224) (Value.ref 40), DictEntry.mk (PyData.keyHash P (hdS "__doc__")) (Value.str (hdS "__doc__") 225) Value.none] 4) #[],
  Obj.mk (Value.type "type") none (Data.cls (ClassData.mk (hdS "Rec") [Value.type "object"] [Value.ref 38, Value.type "object"] 37 (hdS "Rec") true [] [] false none false)) #[none, none, some (Value.str (hdS "Rec") 196), some (Value.str (hdS "Rec") 204), some (Value.builtin "object.__new__"), some (Value.bool true)],
  Obj.mk (Value.type "getset_descriptor") none (Data.fields #[Value.str (hdS "__dict__") 221, Value.ref 38, Value.builtin "function.__dict__", Value.builtin "function.__dict__#set"]) #[],
  Obj.mk (Value.type "getset_descriptor") none (Data.fields #[Value.str (hdS "__weakref__") 223, Value.ref 38, Value.builtin "ExceptionGroup.__weakref__", Value.none]) #[],
  Obj.mk (Value.type "super") none (Data.fields #[Value.ref 38, Value.ref 38, Value.ref 38]) #[],
  Obj.mk (Value.type "builtin_function_or_method") none (Data.fields #[Value.builtin "object.__init_subclass__", Value.ref 38]) #[],
  hdTE,
  hdNE,
  hdTS 231 ["n"],
  hdTE,
  hdFP (hdMb[3]?) "fits",
  hdCO "fits" "fits" 228 11 1 3 43 232,
  fO (hdMb[3]?) (hdS "fits") .none (.str (hdS "moduleyard.pvalues") 194) (.ref 48),
  hdTE,
  hdNE,
  hdTS 238 ["arr", "chars", "place", "code"],
  hdTE,
  hdFP (hdMb[4]?) "text_of",
  hdCO "text_of" "text_of" 235 13 1 3 50 242,
  fO (hdMb[4]?) (hdS "text_of") .none (.str (hdS "moduleyard.pvalues") 194) (.ref 55),
  hdTE,
  hdNE,
  hdTS 250 ["text", "end"],
  hdTE,
  hdFP (hdMb[6]?) "cut_text",
  hdCO "cut_text" "cut_text" 247 22 1 3 57 252,
  fO (hdMb[6]?) (hdS "cut_text") .none (.str (hdS "moduleyard.prel") 245) (.ref 62),
  hdTE,
  hdNE,
  hdTS 258 ["value"],
  hdTE,
  hdFP (hdMb[7]?) "as_text",
  hdCO "as_text" "as_text" 255 27 1 3 64 259,
  fO (hdMb[7]?) (hdS "as_text") .none (.str (hdS "moduleyard.prel") 245) (.ref 69),
  hdTE,
  hdNE,
  hdTS 265 ["a", "b"],
  hdTE,
  hdFP (hdMb[8]?) "same_reference",
  hdCO "same_reference" "same_reference" 262 33 2 3 71 267,
  fO (hdMb[8]?) (hdS "same_reference") .none (.str (hdS "moduleyard.prel") 245) (.ref 76),
  hdTE,
  hdNE,
  hdTS 273 ["op", "a", "b"],
  hdTE,
  hdFP (hdMb[9]?) "ordered",
  hdCO "ordered" "ordered" 270 39 3 3 78 276,
  fO (hdMb[9]?) (hdS "ordered") .none (.str (hdS "moduleyard.prel") 245) (.ref 83),
  hdTE,
  hdNE,
  hdTS 282 ["op", "kind", "a", "b", "same"],
  hdTE,
  hdFP (hdMb[10]?) "relation",
  hdCO "relation" "relation" 279 51 4 3 85 287,
  fO (hdMb[10]?) (hdS "relation") .none (.str (hdS "moduleyard.prel") 245) (.ref 90),
  hdTE,
  hdNE,
  hdTS 293 ["op", "a", "b"],
  hdTE,
  hdFP (hdMb[11]?) "set_value",
  hdCO "set_value" "set_value" 290 59 3 3 92 296,
  fO (hdMb[11]?) (hdS "set_value") .none (.str (hdS "moduleyard.prel") 245) (.ref 97),
  hdTE,
  hdNE,
  hdTS 302 ["op", "a", "b"],
  hdTE,
  hdFP (hdMb[12]?) "set_relation",
  hdCO "set_relation" "set_relation" 299 67 3 3 99 305,
  fO (hdMb[12]?) (hdS "set_relation") .none (.str (hdS "moduleyard.prel") 245) (.ref 104),
  hdTE,
  hdNE,
  hdTS 311 ["low", "high"],
  hdTE,
  hdFP (hdMb[13]?) "range_mask",
  hdCO "range_mask" "range_mask" 308 71 2 3 106 313,
  fO (hdMb[13]?) (hdS "range_mask") .none (.str (hdS "moduleyard.prel") 245) (.ref 111),
  hdTE,
  Obj.mk (Value.type "builtin_function_or_method") none (Data.fields #[Value.builtin "type.__prepare__", Value.type "type"]) #[],
  Obj.mk (Value.type "dict") none (Data.dict #[DictEntry.mk (PyData.keyHash P (hdS "__module__")) (Value.str (hdS "__module__") 325) (Value.str (hdS "moduleyard.scode") 316), DictEntry.mk (PyData.keyHash P (hdS "__qualname__")) (Value.str (hdS "__qualname__") 327) (Value.str (hdS "SCode") 326), DictEntry.mk (PyData.keyHash P (hdS "__firstlineno__")) (Value.str (hdS "__firstlineno__") 329) (Value.int 76 328), DictEntry.mk (PyData.keyHash P (hdS "__init__")) (Value.str (hdS "__init__") 340) (Value.ref 126), DictEntry.mk (PyData.keyHash P (hdS "put")) (Value.str (hdS "put") 348) (Value.ref 133), DictEntry.mk (PyData.keyHash P (hdS "here")) (Value.str (hdS "here") 355) (Value.ref 140), DictEntry.mk (PyData.keyHash P (hdS "patch")) (Value.str (hdS "patch") 363) (Value.ref 147), DictEntry.mk (PyData.keyHash P (hdS "__static_attributes__")) (Value.str (hdS "__static_attributes__") 369) (Value.ref 148)] 8) #[],
  hdTE,
  Obj.mk Value.none none (Data.fields #[Value.int 78 0, Value.int 4 0, Value.ref 125, Value.int 85 0, Value.int 4 0, Value.ref 132, Value.int 89 0, Value.int 4 0, Value.ref 139, Value.int 92 0, Value.int 4 0, Value.ref 146]) #[],
  Obj.mk (Value.type "code") none (Data.fields #[Value.str (hdS "SCode") 320, Value.str (hdS "SCode") 321, Value.str (hdS "/claim/cut.py") 322, Value.int 76 0, Value.int 0 0, Value.int 0 0, Value.int 0 0, Value.int 0 0, Value.ref 116, Value.bool false, Value.int 181 0, Value.ref 117, Value.none, Value.none, Value.none, Value.none, Value.int 323 0, Value.int 76 0, Value.str (hdS "/claim/cut.py") 324]) #[],
  Obj.mk (Value.type "frame") none Data.plain #[some (Value.ref 118), some (Value.ref 3), some (Value.ref 115), none, some (Value.str (hdS "moduleyard.scode") 316), none, some (Value.ref 0)],
  hdTE,
  hdNE,
  hdTS 333 ["self", "module", "label", "level", "slots"],
  hdTE,
  hdFP (hdMth 15 0) "SCode.__init__",
  hdCO "__init__" "SCode.__init__" 330 78 5 3 120 338,
  fO (hdMth 15 0) (hdS "SCode.__init__") .none (.str (hdS "moduleyard.scode") 316) (.ref 125),
  hdTE,
  hdNE,
  hdTS 344 ["self", "row"],
  hdTE,
  hdFP (hdMth 15 1) "SCode.put",
  hdCO "put" "SCode.put" 341 85 2 3 127 346,
  fO (hdMth 15 1) (hdS "SCode.put") .none (.str (hdS "moduleyard.scode") 316) (.ref 132),
  hdTE,
  hdNE,
  hdTS 352 ["self"],
  hdTE,
  hdFP (hdMth 15 2) "SCode.here",
  hdCO "here" "SCode.here" 349 89 1 3 134 353,
  fO (hdMth 15 2) (hdS "SCode.here") .none (.str (hdS "moduleyard.scode") 316) (.ref 139),
  hdTE,
  hdNE,
  hdTS 359 ["self", "index"],
  hdTE,
  hdFP (hdMth 15 3) "SCode.patch",
  hdCO "patch" "SCode.patch" 356 92 2 3 141 361,
  fO (hdMth 15 3) (hdS "SCode.patch") .none (.str (hdS "moduleyard.scode") 316) (.ref 146),
  hdTS 364 ["label", "level", "module", "rows", "slots"],
  Obj.mk (Value.type "dict") none (Data.dict #[DictEntry.mk (PyData.keyHash P (hdS "__module__")) (Value.str (hdS "__module__") 325) (Value.str (hdS "moduleyard.scode") 316), DictEntry.mk (PyData.keyHash P (hdS "__firstlineno__")) (Value.str (hdS "__firstlineno__") 329) (Value.int 76 328), DictEntry.mk (PyData.keyHash P (hdS "__init__")) (Value.str (hdS "__init__") 340) (Value.ref 126), DictEntry.mk (PyData.keyHash P (hdS "put")) (Value.str (hdS "put") 348) (Value.ref 133), DictEntry.mk (PyData.keyHash P (hdS "here")) (Value.str (hdS "here") 355) (Value.ref 140), DictEntry.mk (PyData.keyHash P (hdS "patch")) (Value.str (hdS "patch") 363) (Value.ref 147), DictEntry.mk (PyData.keyHash P (hdS "__static_attributes__")) (Value.str (hdS "__static_attributes__") 369) (Value.ref 148), DictEntry.mk (PyData.keyHash P (hdS "__dict__")) (Value.str (hdS "__dict__") 371) (Value.ref 151), DictEntry.mk (PyData.keyHash P (hdS "__weakref__")) (Value.str (hdS "__weakref__") 373) (Value.ref 152), DictEntry.mk (PyData.keyHash P (hdS "__doc__")) (Value.str (hdS "__doc__") 374) Value.none] 4) #[],
  Obj.mk (Value.type "type") none (Data.cls (ClassData.mk (hdS "SCode") [Value.type "object"] [Value.ref 150, Value.type "object"] 149 (hdS "SCode") true [] [] false none false)) #[none, none, some (Value.str (hdS "SCode") 318), some (Value.str (hdS "SCode") 326), some (Value.builtin "object.__new__"), some (Value.bool true)],
  Obj.mk (Value.type "getset_descriptor") none (Data.fields #[Value.str (hdS "__dict__") 370, Value.ref 150, Value.builtin "function.__dict__", Value.builtin "function.__dict__#set"]) #[],
  Obj.mk (Value.type "getset_descriptor") none (Data.fields #[Value.str (hdS "__weakref__") 372, Value.ref 150, Value.builtin "ExceptionGroup.__weakref__", Value.none]) #[],
  Obj.mk (Value.type "super") none (Data.fields #[Value.ref 150, Value.ref 150, Value.ref 150]) #[],
  Obj.mk (Value.type "builtin_function_or_method") none (Data.fields #[Value.builtin "object.__init_subclass__", Value.ref 150]) #[],
  hdTE,
  hdNE,
  hdTS 380 ["row"],
  hdTE,
  hdFP (hdMb[16]?) "is_jump",
  hdCO "is_jump" "is_jump" 377 94 1 3 155 381,
  fO (hdMb[16]?) (hdS "is_jump") .none (.str (hdS "moduleyard.scode") 316) (.ref 160),
  hdTE,
  hdNE,
  hdTS 387 ["row"],
  hdTE,
  hdFP (hdMb[17]?) "ends_way",
  hdCO "ends_way" "ends_way" 384 96 1 3 162 388,
  fO (hdMb[17]?) (hdS "ends_way") .none (.str (hdS "moduleyard.scode") 316) (.ref 167),
  hdTE,
  hdNE,
  hdTS 394 ["row", "name"],
  hdTE,
  hdFP (hdMb[18]?) "effect",
  hdCO "effect" "effect" 391 98 1 3 169 396,
  fO (hdMb[18]?) (hdS "effect") .none (.str (hdS "moduleyard.scode") 316) (.ref 174),
  hdTE,
  hdNE,
  hdTS 402 ["rows", "index", "row", "found"],
  hdTE,
  hdFP (hdMb[19]?) "next_rows",
  hdCO "next_rows" "next_rows" 399 117 2 3 176 406,
  fO (hdMb[19]?) (hdS "next_rows") .none (.str (hdS "moduleyard.scode") 316) (.ref 181),
  hdTE,
  hdNE,
  hdTS 412 ["rows", "found", "faults", "waiting", "index", "taken", "given", "height", "target"],
  hdTE,
  hdFP (hdMb[20]?) "heights",
  hdCO "heights" "heights" 409 125 1 3 183 421,
  fO (hdMb[20]?) (hdS "heights") .none (.str (hdS "moduleyard.scode") 316) (.ref 188),
  hdTE,
  hdNE,
  hdTS 427 ["code"],
  hdTE,
  hdFP (hdMb[21]?) "check_code",
  hdCO "check_code" "check_code" 424 149 1 3 190 428,
  fO (hdMb[21]?) (hdS "check_code") .none (.str (hdS "moduleyard.scode") 316) (.ref 195),
  hdTE,
  hdNE,
  hdTS 436 ["rows", "found", "row"],
  hdTE,
  hdFP (hdMb[23]?) "targets_of",
  hdCO "targets_of" "targets_of" 433 152 1 3 197 439,
  fO (hdMb[23]?) (hdS "targets_of") .none (.str (hdS "moduleyard.sopt") 431) (.ref 202),
  hdTE,
  hdNE,
  hdTS 445 ["row"],
  hdTE,
  hdFP (hdMb[24]?) "is_number",
  hdCO "is_number" "is_number" 442 158 1 3 204 446,
  fO (hdMb[24]?) (hdS "is_number") .none (.str (hdS "moduleyard.sopt") 431) (.ref 209),
  hdTE,
  hdNE,
  hdTS 452 ["op", "x", "y", "total"],
  hdTE,
  hdFP (hdMb[25]?) "joined_arithmetic",
  hdCO "joined_arithmetic" "joined_arithmetic" 449 160 3 3 211 456,
  fO (hdMb[25]?) (hdS "joined_arithmetic") .none (.str (hdS "moduleyard.sopt") 431) (.ref 216),
  hdTE,
  hdNE,
  hdTS 462 ["row", "x", "y", "name"],
  hdTE,
  hdFP (hdMb[26]?) "joined_pair",
  hdCO "joined_pair" "joined_pair" 459 172 3 3 218 466,
  fO (hdMb[26]?) (hdS "joined_pair") .none (.str (hdS "moduleyard.sopt") 431) (.ref 223),
  hdTE,
  hdNE,
  hdTS 472 ["row", "x", "name"],
  hdTE,
  hdFP (hdMb[27]?) "joined_single",
  hdCO "joined_single" "joined_single" 469 187 2 3 225 475,
  fO (hdMb[27]?) (hdS "joined_single") .none (.str (hdS "moduleyard.sopt") 431) (.ref 230),
  hdTE,
  hdNE,
  hdTS 481 ["row", "x"],
  hdTE,
  hdFP (hdMb[28]?) "test_of_number",
  hdCO "test_of_number" "test_of_number" 478 200 2 3 232 483,
  fO (hdMb[28]?) (hdS "test_of_number") .none (.str (hdS "moduleyard.sopt") 431) (.ref 237),
  hdTE,
  hdNE,
  hdTS 489 ["rows", "places", "count", "row", "found"],
  hdTE,
  hdFP (hdMb[29]?) "compacted",
  hdCO "compacted" "compacted" 486 204 1 3 239 494,
  fO (hdMb[29]?) (hdS "compacted") .none (.str (hdS "moduleyard.sopt") 431) (.ref 244),
  hdTE,
  hdNE,
  hdTS 500 ["rows", "led", "index", "x", "behind", "made", "value"],
  hdTE,
  hdFP (hdMb[30]?) "fold_at",
  hdCO "fold_at" "fold_at" 497 216 3 3 246 507,
  fO (hdMb[30]?) (hdS "fold_at") .none (.str (hdS "moduleyard.sopt") 431) (.ref 251),
  hdTE,
  hdNE,
  hdTS 513 ["rows", "led", "found", "index"],
  hdTE,
  hdFP (hdMb[31]?) "fold_constants",
  hdCO "fold_constants" "fold_constants" 510 244 1 3 253 517,
  fO (hdMb[31]?) (hdS "fold_constants") .none (.str (hdS "moduleyard.sopt") 431) (.ref 258),
  hdTE,
  hdNE,
  hdTS 523 ["rows", "index", "seen", "at"],
  hdTE,
  hdFP (hdMb[32]?) "last_target",
  hdCO "last_target" "last_target" 520 254 2 3 260 527,
  fO (hdMb[32]?) (hdS "last_target") .none (.str (hdS "moduleyard.sopt") 431) (.ref 265),
  hdTE,
  hdNE,
  hdFP (hdMb[33]?) "thread_jumps",
  Obj.mk (Value.type "code") none (Data.fields #[Value.str (hdS "thread_jumps") 530, Value.str (hdS "thread_jumps") 531, Value.str (hdS "/claim/cut.py") 532, Value.int 261 0, Value.int 1 0, Value.int 0 0, Value.int 0 0, Value.int 3 0, Value.ref 267, Value.bool true, Value.int 181 0, Value.ref 268, Value.none, Value.none, Value.none, Value.ref 269, Value.int 533 0, Value.int 261 0, Value.str (hdS "/claim/cut.py") 534]) #[],
  fO (hdMb[33]?) (hdS "thread_jumps") .none (.str (hdS "moduleyard.sopt") 431) (.ref 270),
  hdTE,
  hdNE,
  hdTS 539 ["rows", "reached", "led", "found", "index", "row"],
  hdTE,
  hdFP (hdMb[34]?) "drop_rows",
  hdCO "drop_rows" "drop_rows" 536 263 1 3 272 545,
  fO (hdMb[34]?) (hdS "drop_rows") .none (.str (hdS "moduleyard.sopt") 431) (.ref 277),
  Obj.mk (Value.type "tuple") none (Data.seq #[Value.int 6 548]) #[],
  hdTE,
  hdNE,
  hdTS 552 ["rows", "turns", "turn", "better"],
  hdTE,
  hdFP (hdMb[35]?) "optimise",
  hdCO "optimise" "optimise" 549 278 2 3 280 556,
  fO (hdMb[35]?) (hdS "optimise") (.ref 279) (.str (hdS "moduleyard.sopt") 431) (.ref 285),
  hdTE,
  hdNE,
  hdTS 564 ["script", "row", "cell", "figure", "lap"],
  hdTE,
  hdFP (hdMb[37]?) "_law_row",
  hdCO "_law_row" "_law_row" 561 286 1 3 287 569,
  fO (hdMb[37]?) (hdS "_law_row") .none (.str (hdS "law_pb0347_01") 559) (.ref 292),
  hdTE,
  hdNE,
  hdTS 575 ["row"],
  hdTE,
  hdFP (hdMb[38]?) "_law_next",
  hdCO "_law_next" "_law_next" 572 299 1 3 294 576,
  fO (hdMb[38]?) (hdS "_law_next") .none (.str (hdS "law_pb0347_01") 559) (.ref 299),
  hdTE,
  hdNE,
  hdTS 582 ["box"],
  hdTE,
  hdFP (hdMb[39]?) "_law_spot_of",
  hdCO "_law_spot_of" "_law_spot_of" 579 301 1 3 301 583,
  fO (hdMb[39]?) (hdS "_law_spot_of") .none (.str (hdS "law_pb0347_01") 559) (.ref 306),
  hdTE,
  hdNE,
  hdTS 589 ["row", "box", "code", "deep", "way"],
  hdTE,
  hdFP (hdMb[40]?) "_law_number",
  hdCO "_law_number" "_law_number" 586 304 4 3 308 594,
  fO (hdMb[40]?) (hdS "_law_number") .none (.str (hdS "law_pb0347_01") 559) (.ref 313),
  hdTE,
  hdNE,
  hdTS 600 ["row", "box", "code", "deep", "first", "last", "away"],
  hdTE,
  hdFP (hdMb[41]?) "_law_choice",
  hdCO "_law_choice" "_law_choice" 597 325 4 3 315 607,
  fO (hdMb[41]?) (hdS "_law_choice") .none (.str (hdS "law_pb0347_01") 559) (.ref 320),
  hdTE,
  hdNE,
  hdTS 613 ["row", "box", "code", "deep", "way"],
  hdTE,
  hdFP (hdMb[42]?) "_law_truth",
  hdCO "_law_truth" "_law_truth" 610 341 4 3 322 618,
  fO (hdMb[42]?) (hdS "_law_truth") .none (.str (hdS "law_pb0347_01") 559) (.ref 327),
  hdTE,
  hdNE,
  hdTS 624 ["row", "box", "code", "deep", "way"],
  hdTE,
  hdFP (hdMb[43]?) "_law_mask",
  hdCO "_law_mask" "_law_mask" 621 360 4 3 329 629,
  fO (hdMb[43]?) (hdS "_law_mask") .none (.str (hdS "law_pb0347_01") 559) (.ref 334),
  hdTE,
  hdNE,
  hdFP (hdMb[44]?) "_law_two",
  Obj.mk (Value.type "code") none (Data.fields #[Value.str (hdS "_law_two") 632, Value.str (hdS "_law_two") 633, Value.str (hdS "/claim/cut.py") 634, Value.int 378 0, Value.int 3 0, Value.int 0 0, Value.int 0 0, Value.int 3 0, Value.ref 336, Value.bool true, Value.int 181 0, Value.ref 337, Value.none, Value.none, Value.none, Value.ref 338, Value.int 635 0, Value.int 378 0, Value.str (hdS "/claim/cut.py") 636]) #[],
  fO (hdMb[44]?) (hdS "_law_two") .none (.str (hdS "law_pb0347_01") 559) (.ref 339),
  hdTE,
  hdNE,
  hdTS 641 ["step", "x", "name"],
  hdTE,
  hdFP (hdMb[45]?) "_law_one",
  hdCO "_law_one" "_law_one" 638 402 2 3 341 644,
  fO (hdMb[45]?) (hdS "_law_one") .none (.str (hdS "law_pb0347_01") 559) (.ref 346),
  hdTE,
  hdNE,
  hdTS 650 ["rows", "held", "spot", "lap", "step", "name", "found", "fault", "y"],
  hdTE,
  hdFP (hdMb[46]?) "_law_ended",
  hdCO "_law_ended" "_law_ended" 647 411 1 3 348 659,
  fO (hdMb[46]?) (hdS "_law_ended") .none (.str (hdS "law_pb0347_01") 559) (.ref 353),
  hdTE,
  hdNE,
  hdTS 665 ["script", "row", "box", "code", "due", "kept", "better", "again"],
  hdTE,
  hdFP (hdMb[47]?) "law",
  hdCO "law" "law" 662 441 1 3 355 673,
  fO (hdMb[47]?) (hdS "law") .none (.str (hdS "law_pb0347_01") 559) (.ref 360)]
noncomputable def hdLifeF : Life := Life.mk [] [] [] 0 [] [] false #[] [] 0 false false false 0 [2000, 10, 10] false 0 true [] [] 0 false
noncomputable def hdAddL : List Obj → Nat → BT → BT
  | [], _, t => t
  | o :: l, n, t => hdAddL l (n + 1) (t.ins n o)
noncomputable def hdT0 (P : Params) : BT := hdAddL [boot_o_0 P, boot_o_1 P, boot_o_2 P, hdGO P "__main__" 164 0, boot_o_4 P, boot_o_5 P, boot_o_6 P, boot_o_7 P, boot_o_8 P, boot_o_9 P, boot_o_10 P, hdTE, hdKO 0, Obj.mk (Value.type "code") none (Data.fields #[Value.str (hdS "<module>") 182, Value.str (hdS "<module>") 183, Value.str (hdS "/claim/cut.py") 184, Value.int 1 0, Value.int 0 0, Value.int 0 0, Value.int 0 0, Value.int 0 0, Value.ref 11, Value.bool false, Value.int 181 0, Value.ref 12, Value.none, Value.none, Value.none, Value.none, Value.int 185 0, Value.int 1 0, Value.str (hdS "/claim/cut.py") 186]) #[], Obj.mk (Value.type "frame") none Data.plain #[some (Value.ref 13), some (Value.ref 3), some (Value.ref 3), none, some (Value.str (hdS "__main__") 164), none, some (Value.ref 0)]] 0 .nil
noncomputable def hdT1 (P : Params) : BT := hdAddL (((hdHL P).drop 0).take 56) 15 (((hdT0 P).set 3 fun _ => hdGO P "moduleyard.prel" 245 6).set 12 fun _ => hdKO 6)
noncomputable def hdT2 (P : Params) : BT := hdAddL (((hdHL P).drop 56).take 42) 71 (((hdT1 P).set 3 fun _ => hdGO P "moduleyard.scode" 316 12).set 12 fun _ => hdKO 12)
noncomputable def hdT3 (P : Params) : BT := hdAddL (((hdHL P).drop 98).take 56) 113 (((hdT2 P).set 3 fun _ => hdGO P "moduleyard.scode" 316 15).set 12 fun _ => hdKO 15)
noncomputable def hdT4 (P : Params) : BT := hdAddL (((hdHL P).drop 154).take 84) 169 (((hdT3 P).set 3 fun _ => hdGO P "moduleyard.sopt" 431 27).set 12 fun _ => hdKO 27)
noncomputable def hdT5 (P : Params) : BT := hdAddL (((hdHL P).drop 238).take 83) 253 (((hdT4 P).set 3 fun _ => hdGO P "law_pb0347_01" 559 39).set 12 fun _ => hdKO 39)
noncomputable def hdT6 (P : Params) : BT := hdAddL (((hdHL P).drop 321).take 26) 336 (((hdT5 P).set 3 fun _ => hdGO P "law_pb0347_01" 559 43).set 12 fun _ => hdKO 43)
noncomputable def hdHF (P : Params) : Heap := ⟨Array.mk ((boot_o_0 P) :: (boot_o_1 P) :: (boot_o_2 P) :: (hdGO P "law_pb0347_01" 559 43) :: (boot_o_4 P) :: (boot_o_5 P) :: (boot_o_6 P) :: (boot_o_7 P) :: (boot_o_8 P) :: (boot_o_9 P) :: (boot_o_10 P) :: (hdTE) :: (hdKO 43) :: (Obj.mk (Value.type "code") none (Data.fields #[Value.str (hdS "<module>") 182, Value.str (hdS "<module>") 183, Value.str (hdS "/claim/cut.py") 184, Value.int 1 0, Value.int 0 0, Value.int 0 0, Value.int 0 0, Value.int 0 0, Value.ref 11, Value.bool false, Value.int 181 0, Value.ref 12, Value.none, Value.none, Value.none, Value.none, Value.int 185 0, Value.int 1 0, Value.str (hdS "/claim/cut.py") 186]) #[]) :: (Obj.mk (Value.type "frame") none Data.plain #[some (Value.ref 13), some (Value.ref 3), some (Value.ref 3), none, some (Value.str (hdS "__main__") 164), none, some (Value.ref 0)]) :: hdHL P), hdLifeF⟩
noncomputable abbrev hdPE : Program := Challenge.rw_pb0347_01.row.prog
noncomputable def hdBE : List Stmt := behindTheImports hdPE
noncomputable def hdEnvE : Env := { scope := hdPE.main.scope, locals := mainNs, globals := mainNs, cells := [], code := .ref 13, frame := some 14 }
noncomputable def hdCE : Code := .body hdBE hdEnvE
noncomputable abbrev hdFrE : List Frame := [topFrame default]
noncomputable abbrev hdAnnE : Option Value := some (.ref 6)
noncomputable abbrev hdSE (t : Params → BT) (n k : Nat) (w : World) (os : OsState) : SharedT := ⟨t w.params, n, hdLifeF, Array.mk [], boot_drawn, k, os⟩
theorem hdP_pre (w : World) (os : OsState) : topGo treeTable hdPE w 11 hdAnnE 12 ⟨boot_heap w.params, Array.mk [], boot_drawn, boot_toks, os⟩ (topStub hdPE) = some ((hdSE hdT0 15 187 w os).abs, ⟨denote treeTable hdCE, hdCE, ⟨0, 0, 0, 0⟩, hdFrE⟩) := by kernel_rfl
theorem hdP_block (w : World) (os : OsState) : segRun treeTable hdPE w 11 hdAnnE 1 1 (hdSE hdT0 15 187 w os).abs (blockOf hdBE hdEnvE hdCE ⟨0, 0, 0, 0⟩ hdFrE) = some (.next, (hdSE hdT0 15 187 w os).abs, hdCE, ⟨0, 0, 0, 0⟩) := by kernel_rfl
noncomputable def hdB0 : List Stmt := (hdBE.drop 0).take 8
theorem hdP0 (w : World) (os : OsState) : segRunT treeTable hdPE w 11 hdAnnE 1 393 (hdSE hdT0 15 187 w os) (piecesOf hdB0 hdEnvE hdCE ⟨0, 0, 0, 0⟩ hdFrE) = some (.next, hdSE hdT1 71 262 w os, hdCE, ⟨27, 0, 32, 25⟩) := by kernel_rfl
noncomputable def hdB1 : List Stmt := (hdBE.drop 8).take 7
theorem hdP1 (w : World) (os : OsState) : segRunT treeTable hdPE w 11 hdAnnE 1 196 (hdSE hdT1 71 262 w os) (piecesOf hdB1 hdEnvE hdCE ⟨27, 0, 32, 25⟩ hdFrE) = some (.next, hdSE hdT2 113 318 w os, hdCE, ⟨75, 0, 75, 8⟩) := by kernel_rfl
noncomputable def hdB2 : List Stmt := (hdBE.drop 15).take 3
theorem hdP2 (w : World) (os : OsState) : segRunT treeTable hdPE w 11 hdAnnE 1 383 (hdSE hdT2 113 318 w os) (piecesOf hdB2 hdEnvE hdCE ⟨75, 0, 75, 8⟩ hdFrE) = some (.next, hdSE hdT3 169 391 w os, hdCE, ⟨96, 0, 97, 47⟩) := by kernel_rfl
noncomputable def hdB3 : List Stmt := (hdBE.drop 18).take 13
theorem hdP3 (w : World) (os : OsState) : segRunT treeTable hdPE w 11 hdAnnE 1 391 (hdSE hdT3 169 391 w os) (piecesOf hdB3 hdEnvE hdCE ⟨96, 0, 97, 47⟩ hdFrE) = some (.next, hdSE hdT4 253 510 w os, hdCE, ⟨216, 0, 243, 15⟩) := by kernel_rfl
noncomputable def hdB4 : List Stmt := (hdBE.drop 31).take 13
theorem hdP4 (w : World) (os : OsState) : segRunT treeTable hdPE w 11 hdAnnE 1 393 (hdSE hdT4 253 510 w os) (piecesOf hdB4 hdEnvE hdCE ⟨216, 0, 243, 15⟩ hdFrE) = some (.next, hdSE hdT5 336 632 w os, hdCE, ⟨360, 0, 377, 73⟩) := by kernel_rfl
noncomputable def hdB5 : List Stmt := (hdBE.drop 44).take 4
theorem hdP5 (w : World) (os : OsState) : segRunT treeTable hdPE w 11 hdAnnE 1 131 (hdSE hdT5 336 632 w os) (piecesOf hdB5 hdEnvE hdCE ⟨360, 0, 377, 73⟩ hdFrE) = some (.next, hdSE hdT6 362 676 w os, hdCE, ⟨441, 0, 456, 77⟩) := by kernel_rfl
theorem hdB_all : hdBE = hdB0 ++ (hdB1 ++ (hdB2 ++ (hdB3 ++ (hdB4 ++ (hdB5 ++ []))))) := by kernel_rfl
theorem hdP_fin (w : World) (os : OsState) : topRun treeTable hdPE w 11 hdAnnE 2 (hdSE hdT6 362 676 w os).abs ⟨doneF .next, hdCE, ⟨441, 0, 456, 77⟩, hdFrE⟩ = some ⟨hdHF w.params, Array.mk [], boot_drawn, 676, os⟩ := by kernel_rfl
theorem hdP_run (w : World) (os : OsState) : topRun treeTable hdPE w 11 hdAnnE (12 + (1 + (393 + (196 + (383 + (391 + (393 + (131 + 2)))))))) ⟨boot_heap w.params, Array.mk [], boot_drawn, boot_toks, os⟩ (topStub hdPE) = some ⟨hdHF w.params, Array.mk [], boot_drawn, 676, os⟩ := by
  refine go_top (hdP_pre w os) ?_
  refine piece_block (hdP_block w os) ?_
  rw [hdB_all]
  refine piece_app (segRun_of (hdP0 w os)) ?_
  refine piece_app (segRun_of (hdP1 w os)) ?_
  refine piece_app (segRun_of (hdP2 w os)) ?_
  refine piece_app (segRun_of (hdP3 w os)) ?_
  refine piece_app (segRun_of (hdP4 w os)) ?_
  refine piece_app (segRun_of (hdP5 w os)) ?_
  exact piece_nil (hdP_fin w os)
noncomputable def meth (j : Nat) : Option Stmt := ((Challenge.pw_pb0347_01.main.body[15]?).bind clsS).bind (·[j]?)
noncomputable def Kas : List Addr := [3, 125, 126, 132, 133, 146, 147, 149, 150, 279, 285, 286]
noncomputable def Kf (P : Params) : Frag := [
  (3, Obj.mk (Value.type "dict") none (Data.dict #[DictEntry.mk (PyData.keyHash P (Str.ofString "__name__")) (Value.str (Str.ofString "__name__") 165) (Value.str (Str.ofString "law_pb0347_01") 559), DictEntry.mk (PyData.keyHash P (Str.ofString "__doc__")) (Value.str (Str.ofString "__doc__") 166) Value.none, DictEntry.mk (PyData.keyHash P (Str.ofString "__package__")) (Value.str (Str.ofString "__package__") 167) Value.none, DictEntry.mk (PyData.keyHash P (Str.ofString "__loader__")) (Value.str (Str.ofString "__loader__") 168) (Value.builtin "__main__.__loader__#opaque"), DictEntry.mk (PyData.keyHash P (Str.ofString "__spec__")) (Value.str (Str.ofString "__spec__") 169) Value.none, DictEntry.mk (PyData.keyHash P (Str.ofString "__annotations__")) (Value.str (Str.ofString "__annotations__") 170) (Value.ref 6), DictEntry.mk (PyData.keyHash P (Str.ofString "__builtins__")) (Value.str (Str.ofString "__builtins__") 171) (Value.ref 4), DictEntry.mk (PyData.keyHash P (Str.ofString "__file__")) (Value.str (Str.ofString "__file__") 173) (Value.str (Str.ofString "/claim/cut.py") 172), DictEntry.mk (PyData.keyHash P (Str.ofString "__cached__")) (Value.str (Str.ofString "__cached__") 174) Value.none, DictEntry.mk (PyData.keyHash P (Str.ofString "_wall")) (Value.str (Str.ofString "_wall") 193) (Value.ref 21), DictEntry.mk (PyData.keyHash P (Str.ofString "Rec")) (Value.str (Str.ofString "Rec") 227) (Value.ref 38), DictEntry.mk (PyData.keyHash P (Str.ofString "fits")) (Value.str (Str.ofString "fits") 234) (Value.ref 49), DictEntry.mk (PyData.keyHash P (Str.ofString "text_of")) (Value.str (Str.ofString "text_of") 244) (Value.ref 56), DictEntry.mk (PyData.keyHash P (Str.ofString "cut_text")) (Value.str (Str.ofString "cut_text") 254) (Value.ref 63), DictEntry.mk (PyData.keyHash P (Str.ofString "as_text")) (Value.str (Str.ofString "as_text") 261) (Value.ref 70), DictEntry.mk (PyData.keyHash P (Str.ofString "same_reference")) (Value.str (Str.ofString "same_reference") 269) (Value.ref 77), DictEntry.mk (PyData.keyHash P (Str.ofString "ordered")) (Value.str (Str.ofString "ordered") 278) (Value.ref 84), DictEntry.mk (PyData.keyHash P (Str.ofString "relation")) (Value.str (Str.ofString "relation") 289) (Value.ref 91), DictEntry.mk (PyData.keyHash P (Str.ofString "set_value")) (Value.str (Str.ofString "set_value") 298) (Value.ref 98), DictEntry.mk (PyData.keyHash P (Str.ofString "set_relation")) (Value.str (Str.ofString "set_relation") 307) (Value.ref 105), DictEntry.mk (PyData.keyHash P (Str.ofString "range_mask")) (Value.str (Str.ofString "range_mask") 315) (Value.ref 112), DictEntry.mk (PyData.keyHash P (Str.ofString "SCode")) (Value.str (Str.ofString "SCode") 376) (Value.ref 150), DictEntry.mk (PyData.keyHash P (Str.ofString "is_jump")) (Value.str (Str.ofString "is_jump") 383) (Value.ref 161), DictEntry.mk (PyData.keyHash P (Str.ofString "ends_way")) (Value.str (Str.ofString "ends_way") 390) (Value.ref 168), DictEntry.mk (PyData.keyHash P (Str.ofString "effect")) (Value.str (Str.ofString "effect") 398) (Value.ref 175), DictEntry.mk (PyData.keyHash P (Str.ofString "next_rows")) (Value.str (Str.ofString "next_rows") 408) (Value.ref 182), DictEntry.mk (PyData.keyHash P (Str.ofString "heights")) (Value.str (Str.ofString "heights") 423) (Value.ref 189), DictEntry.mk (PyData.keyHash P (Str.ofString "check_code")) (Value.str (Str.ofString "check_code") 430) (Value.ref 196), DictEntry.mk (PyData.keyHash P (Str.ofString "targets_of")) (Value.str (Str.ofString "targets_of") 441) (Value.ref 203), DictEntry.mk (PyData.keyHash P (Str.ofString "is_number")) (Value.str (Str.ofString "is_number") 448) (Value.ref 210), DictEntry.mk (PyData.keyHash P (Str.ofString "joined_arithmetic")) (Value.str (Str.ofString "joined_arithmetic") 458) (Value.ref 217), DictEntry.mk (PyData.keyHash P (Str.ofString "joined_pair")) (Value.str (Str.ofString "joined_pair") 468) (Value.ref 224), DictEntry.mk (PyData.keyHash P (Str.ofString "joined_single")) (Value.str (Str.ofString "joined_single") 477) (Value.ref 231), DictEntry.mk (PyData.keyHash P (Str.ofString "test_of_number")) (Value.str (Str.ofString "test_of_number") 485) (Value.ref 238), DictEntry.mk (PyData.keyHash P (Str.ofString "compacted")) (Value.str (Str.ofString "compacted") 496) (Value.ref 245), DictEntry.mk (PyData.keyHash P (Str.ofString "fold_at")) (Value.str (Str.ofString "fold_at") 509) (Value.ref 252), DictEntry.mk (PyData.keyHash P (Str.ofString "fold_constants")) (Value.str (Str.ofString "fold_constants") 519) (Value.ref 259), DictEntry.mk (PyData.keyHash P (Str.ofString "last_target")) (Value.str (Str.ofString "last_target") 529) (Value.ref 266), DictEntry.mk (PyData.keyHash P (Str.ofString "thread_jumps")) (Value.str (Str.ofString "thread_jumps") 535) (Value.ref 271), DictEntry.mk (PyData.keyHash P (Str.ofString "drop_rows")) (Value.str (Str.ofString "drop_rows") 547) (Value.ref 278), DictEntry.mk (PyData.keyHash P (Str.ofString "optimise")) (Value.str (Str.ofString "optimise") 558) (Value.ref 286), DictEntry.mk (PyData.keyHash P (Str.ofString "_law_row")) (Value.str (Str.ofString "_law_row") 571) (Value.ref 293), DictEntry.mk (PyData.keyHash P (Str.ofString "_law_next")) (Value.str (Str.ofString "_law_next") 578) (Value.ref 300), DictEntry.mk (PyData.keyHash P (Str.ofString "_law_spot_of")) (Value.str (Str.ofString "_law_spot_of") 585) (Value.ref 307), DictEntry.mk (PyData.keyHash P (Str.ofString "_law_number")) (Value.str (Str.ofString "_law_number") 596) (Value.ref 314), DictEntry.mk (PyData.keyHash P (Str.ofString "_law_choice")) (Value.str (Str.ofString "_law_choice") 609) (Value.ref 321), DictEntry.mk (PyData.keyHash P (Str.ofString "_law_truth")) (Value.str (Str.ofString "_law_truth") 620) (Value.ref 328), DictEntry.mk (PyData.keyHash P (Str.ofString "_law_mask")) (Value.str (Str.ofString "_law_mask") 631) (Value.ref 335), DictEntry.mk (PyData.keyHash P (Str.ofString "_law_two")) (Value.str (Str.ofString "_law_two") 637) (Value.ref 340), DictEntry.mk (PyData.keyHash P (Str.ofString "_law_one")) (Value.str (Str.ofString "_law_one") 646) (Value.ref 347), DictEntry.mk (PyData.keyHash P (Str.ofString "_law_ended")) (Value.str (Str.ofString "_law_ended") 661) (Value.ref 354), DictEntry.mk (PyData.keyHash P (Str.ofString "law")) (Value.str (Str.ofString "law") 675) (Value.ref 361)] 52) #[]),
  (125, Obj.mk (Value.type "code") none (Data.fields #[Value.str (Str.ofString "__init__") 330, Value.str (Str.ofString "SCode.__init__") 331, Value.str (Str.ofString "/claim/cut.py") 332, Value.int 78 0, Value.int 5 0, Value.int 0 0, Value.int 0 0, Value.int 3 0, Value.ref 120, Value.bool true, Value.int 181 0, Value.ref 121, Value.none, Value.ref 122, Value.ref 123, Value.ref 124, Value.int 338 0, Value.int 78 0, Value.str (Str.ofString "/claim/cut.py") 339]) #[]),
  (126, fO (meth 0) (Str.ofString "SCode.__init__") .none (.str (Str.ofString "moduleyard.scode") 316) (.ref 125)),
  (132, Obj.mk (Value.type "code") none (Data.fields #[Value.str (Str.ofString "put") 341, Value.str (Str.ofString "SCode.put") 342, Value.str (Str.ofString "/claim/cut.py") 343, Value.int 85 0, Value.int 2 0, Value.int 0 0, Value.int 0 0, Value.int 3 0, Value.ref 127, Value.bool true, Value.int 181 0, Value.ref 128, Value.none, Value.ref 129, Value.ref 130, Value.ref 131, Value.int 346 0, Value.int 85 0, Value.str (Str.ofString "/claim/cut.py") 347]) #[]),
  (133, fO (meth 1) (Str.ofString "SCode.put") .none (.str (Str.ofString "moduleyard.scode") 316) (.ref 132)),
  (146, Obj.mk (Value.type "code") none (Data.fields #[Value.str (Str.ofString "patch") 356, Value.str (Str.ofString "SCode.patch") 357, Value.str (Str.ofString "/claim/cut.py") 358, Value.int 92 0, Value.int 2 0, Value.int 0 0, Value.int 0 0, Value.int 3 0, Value.ref 141, Value.bool true, Value.int 181 0, Value.ref 142, Value.none, Value.ref 143, Value.ref 144, Value.ref 145, Value.int 361 0, Value.int 92 0, Value.str (Str.ofString "/claim/cut.py") 362]) #[]),
  (147, fO (meth 3) (Str.ofString "SCode.patch") .none (.str (Str.ofString "moduleyard.scode") 316) (.ref 146)),
  (149, Obj.mk (Value.type "dict") none (Data.dict #[DictEntry.mk (PyData.keyHash P (Str.ofString "__module__")) (Value.str (Str.ofString "__module__") 325) (Value.str (Str.ofString "moduleyard.scode") 316), DictEntry.mk (PyData.keyHash P (Str.ofString "__firstlineno__")) (Value.str (Str.ofString "__firstlineno__") 329) (Value.int 76 328), DictEntry.mk (PyData.keyHash P (Str.ofString "__init__")) (Value.str (Str.ofString "__init__") 340) (Value.ref 126), DictEntry.mk (PyData.keyHash P (Str.ofString "put")) (Value.str (Str.ofString "put") 348) (Value.ref 133), DictEntry.mk (PyData.keyHash P (Str.ofString "here")) (Value.str (Str.ofString "here") 355) (Value.ref 140), DictEntry.mk (PyData.keyHash P (Str.ofString "patch")) (Value.str (Str.ofString "patch") 363) (Value.ref 147), DictEntry.mk (PyData.keyHash P (Str.ofString "__static_attributes__")) (Value.str (Str.ofString "__static_attributes__") 369) (Value.ref 148), DictEntry.mk (PyData.keyHash P (Str.ofString "__dict__")) (Value.str (Str.ofString "__dict__") 371) (Value.ref 151), DictEntry.mk (PyData.keyHash P (Str.ofString "__weakref__")) (Value.str (Str.ofString "__weakref__") 373) (Value.ref 152), DictEntry.mk (PyData.keyHash P (Str.ofString "__doc__")) (Value.str (Str.ofString "__doc__") 374) Value.none] 4) #[]),
  (150, Obj.mk (Value.type "type") none (Data.cls (ClassData.mk (Str.ofString "SCode") [Value.type "object"] [Value.ref 150, Value.type "object"] 149 (Str.ofString "SCode") true [] [] false none false)) #[none, none, some (Value.str (Str.ofString "SCode") 318), some (Value.str (Str.ofString "SCode") 326), some (Value.builtin "object.__new__"), some (Value.bool true)]),
  (279, Obj.mk (Value.type "tuple") none (Data.seq #[Value.int 6 548]) #[]),
  (285, Obj.mk (Value.type "code") none (Data.fields #[Value.str (Str.ofString "optimise") 549, Value.str (Str.ofString "optimise") 550, Value.str (Str.ofString "/claim/cut.py") 551, Value.int 278 0, Value.int 2 0, Value.int 0 0, Value.int 0 0, Value.int 3 0, Value.ref 280, Value.bool true, Value.int 181 0, Value.ref 281, Value.none, Value.ref 282, Value.ref 283, Value.ref 284, Value.int 556 0, Value.int 278 0, Value.str (Str.ofString "/claim/cut.py") 557]) #[]),
  (286, fO (Challenge.pw_pb0347_01.main.body[35]?) (Str.ofString "optimise") (.ref 279) (.str (Str.ofString "moduleyard.sopt") 431) (.ref 285))]
theorem Kf_as : ∀ P, Kas = (Kf P).map (·.1) := fun _ => rfl
noncomputable def recAt? (k : Nat) : Option DefRec := (Challenge.pw_pb0347_01.main.body[k]?).bind fnS
noncomputable def nmOf (s : Option Stmt) : Str := (s.bind fnS).elim (Str.ofString "") (·.name)
noncomputable def isDef (k : Nat) : Bool := (recAt? k).any fun d => d.params.defaults.isEmpty
noncomputable def dks : List Nat := (List.range 48).filter isDef
theorem dks_mem {k : Nat} (h : isDef k = true) : k ∈ dks := by
  have hk : k < 48 := by
    by_cases hk : k < 48
    · exact hk
    · exfalso
      have hl : Challenge.pw_pb0347_01.main.body.length = 48 := by decide +kernel
      have : Challenge.pw_pb0347_01.main.body[k]? = none := List.getElem?_eq_none_iff.mpr (by (first | lia | omega))
      unfold isDef recAt? at h; rw [this] at h; cases h
  exact List.mem_filter.mpr ⟨List.mem_range.mpr hk, h⟩
noncomputable def hdOL := Challenge.rw_pb0347_01
noncomputable def hdOR : RowW := hdOL.row.toRowW
noncomputable def hdOP : Program := hdOL.row.prog
noncomputable def hdOQ : Program := hdOL.prog
theorem hdSA1 : sreFenced hdOP.main = true := by kernel_rfl
theorem hdSA1b : ((moduleNames hdOP.main.body).isEmpty || lookedIntoSs (moduleNames hdOP.main.body) hdOP.main.body) = true := by kernel_rfl
theorem hdSA2 : namesResolve hdOP = true := by kernel_rfl
theorem hdSA3 : (hdOP.boundNames.all fun n => !worldNames.contains n) = true := by kernel_rfl
theorem hdSA4 : noRoadLSs { strict := !(importedModules hdOP.main.body).all cThrough.contains, foot := none, bare := (["vars", "dir", "locals"] : List Str).filter (readsOut hdOP hdOP.main.body) } hdOP.main.body = true := by kernel_rfl
theorem hdSA5 : (namesMeet hdOP hdOP.main.body fun _ n => attrL n) = true := by kernel_rfl
theorem hdSA : looksOpen hdOL.row.prog = true := look_both (look_both (look_both (look_both (look_both hdSA1 hdSA1b) hdSA2) hdSA3) hdSA4) hdSA5
theorem hdSB : hdOL.row.partSaid = true := by
  iterate 13 (refine look_both ?_ ?_)
  exact hdSA
  all_goals kernel_rfl
theorem hdSC : hdOL.row.wellSaid = true := by
  iterate 2 (refine look_both ?_ ?_)
  exact hdSB
  all_goals kernel_rfl
theorem hdSD1 : (noRoadLSs { strict := true, foot := some hdOL.bound', writes := hdOL.writes, may := hdOL.may } hdOL.footing) = true := by kernel_rfl
theorem hdSD2 : defStands hdOL.about hdOL.above = true := by kernel_rfl
theorem hdSD3 : hdOL.namesIt = true := by kernel_rfl
theorem hdSD4 : (hdOL.bound'.all fun n => !builtinNamed n || hdOL.about == [n] || !hdOL.reads n) = true := by kernel_rfl
theorem hdSD5 : (!hdOL.writes || (hdOL.prog.main.body.flatMap importedNames).all fun n => !hdOL.reads n) = true := by kernel_rfl
theorem hdSD6 : ((hdOL.prog.main.body.flatMap importedNames).all fun n =>
      !hdOL.reads n || (drawsOf n hdOL.prog.main.body).all fun mn => mn.2 != ("attrgetter" : Str) && mn.2 != ("methodcaller" : Str)) = true := by kernel_rfl
theorem hdSD7 : (namesMeet hdOL.prog hdOL.footing fun sc n =>
      (!(["type", "isinstance", "issubclass", "getattr", "hasattr"] : List Str).contains n || sc.names.lookup n == some .globalImplicit) &&
        (hdOL.may != some n || sc.kind == .module || sc.names.lookup n == some .globalImplicit)) = true := by kernel_rfl
theorem hdSD8 : (hdOL.own.eraseDups.length == hdOL.own.length) = true := by kernel_rfl
theorem hdSD9 : (namesMeet hdOL.prog hdOL.above fun _ n => !hdOL.own.contains n) = true := by kernel_rfl
theorem hdSD10 : (namesMeet hdOL.prog hdOL.footing fun sc n => sc.kind == .module || sc.names.lookup n != some .globalExplicit) = true := by kernel_rfl
theorem said : PySem.Challenge.rw_pb0347_01.wellSaid = true := by
  iterate 18 (refine look_both ?_ ?_)
  exact hdSC
  iterate 5 kernel_rfl
  exact hdSD1
  exact hdSD2
  exact hdSD3
  kernel_rfl
  exact hdSD4
  exact hdSD5
  exact hdSD6
  exact hdSD7
  kernel_rfl
  exact hdSD8
  kernel_rfl
  exact hdSD9
  exact hdSD10
noncomputable def kept (s : Stmt) : Bool := ((fnS s).any fun d => d.params.defaults.isEmpty) || (clsS s).isSome
noncomputable def qv : Program := { Challenge.rw_pb0347_01.row.prog with main := { Challenge.rw_pb0347_01.row.prog.main with body := Challenge.rw_pb0347_01.row.prog.main.body.filter kept } }
noncomputable abbrev hdXtE : Shared → Bool := fun s => xlAt qv [] s && recOk (RowW.records Challenge.rw_pb0347_01.row.toRowW) s
noncomputable abbrev hdLsE : List Str := [hdS "optimise"]
theorem hdL1 (w : World) (os : OsState) : (staticsOk (importedModules hdPE.main.body) (boot_heap w.params) (hdHF w.params) && namesBound hdPE (hdHF w.params) && gensDone ⟨hdHF w.params, Array.mk [], boot_drawn, 676, os⟩ && laidKept (boot_heap w.params) (hdHF w.params)) = true := by kernel_rfl
theorem hdL2 (w : World) (os : OsState) : openSeen qv hdLsE (importedModules hdPE.main.body) hdXtE true ⟨hdHF w.params, Array.mk [], boot_drawn, 676, os⟩ = openGood qv hdLsE := by kernel_rfl
theorem hdL3 (w : World) (os : OsState) : Hook.obs (kHook Kf Kas Kf_as) ⟨hdHF w.params, Array.mk [], boot_drawn, 676, os⟩ = Hook.val (kHook Kf Kas Kf_as) w := by kernel_rfl
theorem hdPair_eq {α β : Type} {a a' : α} {b b' : β} (x : a = a') (y : b = b') : (a, b) = (a', b') := by rw [x, y]
theorem hl0 : LeftO hdPE qv hdLsE hdXtE (Hook.obs (kHook Kf Kas Kf_as)) (Hook.val (kHook Kf Kas Kf_as)) 3888 :=
  LeftO.of_pieces (H₀ := boot_heap) (H₁ := hdHF) (gs₀ := Array.mk []) (gs₁ := Array.mk []) (d₀ := boot_drawn) (d₁ := boot_drawn) (k₀ := boot_toks) (k₁ := 676) (m₀ := 11) (ann := hdAnnE) (M := 12 + (1 + (393 + (196 + (383 + (391 + (393 + (131 + 2))))))))
    (boot_open (by kernel_rfl) rfl fun _ => by kernel_rfl) (fun w => by kernel_rfl) hdP_run rfl fun w => funext fun os => hdPair_eq (hdL1 w os) (hdPair_eq (hdL2 w os) (hdL3 w os))
set_option maxHeartbeats 8000000 in
theorem head0 (hw : ∀ {q : Program} {loose : List Str} {XP : (Str → Option Value) → Heap → Prop} {d : DefRec} {kwd : List (Str × Expr)}, recsOf q = dks.filterMap recAt? → d.name = "law" →
    WalkO q loose XP (kHook Kf Kas Kf_as).says Challenge.rw_pb0347_01.row.toRowW d kwd (fun f vs => PySem.call f vs)) : PySem.Challenge.rw_pb0347_01.Holds := by
  w_on
  refine holds_law said fun said => ?_
  refine holds_open (q := qv) (loose := [Str.ofString "optimise"]) (Xt := fun s => xlAt qv [] s && recOk (RowW.records Challenge.rw_pb0347_01.row.toRowW) s) (XP := XL qv []) (Yf := Hook.obs (kHook Kf Kas Kf_as)) (Ya := Hook.val (kHook Kf Kas Kf_as)) (YP := Hook.says (kHook Kf Kas Kf_as)) (N := 3888) hl0 (Hook.of (kHook Kf Kas Kf_as)) (Hook.keeps (kHook Kf Kas Kf_as)) (fun s e => xl_of s (Bool.and_eq_true_iff.mp e).1) XL.keeps (by rfl) (by rfl) (by rfl) (fun s e => recFacts_of (Bool.and_eq_true_iff.mp e).2) (by rfl) said (by decide +kernel) ⟨rfl, rfl, rfl, rfl, rfl, by decide +kernel⟩ ?hw ?hc
  (case hw => w_witness2)
  exact hw (by kernel_rfl) rfl
end Mine

-- part Base
namespace Mine
open PySem PySem.W PySem.Calls PyProof.Rows

inductive PV where
  | none | bool (b : Bool) | int (i : Int) | str (x : Str) | ref (a : Addr) | tup (l : List PV)

noncomputable abbrev tupObj (vs : List Value) (n : Nat) : Obj := { cls := .type "tuple", data := .seq vs.toArray n }

mutual
inductive VRel (h : Heap) : PV → Value → Prop
  | none : VRel h .none .none
  | bool (b : Bool) : VRel h (.bool b) (.bool b)
  | int (i : Int) (t : Tok) : VRel h (.int i) (.int i t)
  | str (x : Str) (t : Tok) : VRel h (.str x) (.str x t)
  | ref (a : Addr) : VRel h (.ref a) (.ref a)
  | tup {l : List PV} {vs : List Value} {a : Addr} {n : Nat} : h.get? a = some (tupObj vs n) → VRels h l vs → VRel h (.tup l) (.ref a)
inductive VRels (h : Heap) : List PV → List Value → Prop
  | nil : VRels h [] []
  | cons {x : PV} {v : Value} {xs : List PV} {vs : List Value} : VRel h x v → VRels h xs vs → VRels h (x :: xs) (v :: vs)
end

noncomputable def TupKept (h h' : Heap) : Prop := ∀ a vs n, h.get? a = some (tupObj vs n) → h'.get? a = some (tupObj vs n)

theorem VRel.mono {h h' : Heap} (k : TupKept h h') {p : PV} {v : Value} (x : VRel h p v) : VRel h' p v :=
  @VRel.rec h (fun p v _ => VRel h' p v) (fun p v _ => VRels h' p v) .none .bool .int .str .ref (fun g _ r => .tup (k _ _ _ g) r) .nil (fun _ _ a r => .cons a r) p v x
theorem VRels.ind {h : Heap} {P : List PV → List Value → Prop} (n : P [] []) (c : ∀ {x v xs vs}, VRel h x v → VRels h xs vs → P xs vs → P (x :: xs) (v :: vs)) {p : List PV} {v : List Value} (x : VRels h p v) : P p v :=
  @VRels.rec h (fun _ _ _ => True) (fun p v _ => P p v) trivial (fun _ => trivial) (fun _ _ => trivial) (fun _ _ => trivial) (fun _ => trivial) (fun _ _ _ => trivial) n (fun a r _ ih => c a r ih) p v x
theorem VRels.mono {h h' : Heap} (k : TupKept h h') {p : List PV} {v : List Value} (x : VRels h p v) : VRels h' p v := x.ind .nil fun a _ ih => .cons (a.mono k) ih

theorem VRels.length {h : Heap} {p : List PV} {v : List Value} (x : VRels h p v) : v.length = p.length :=
  x.ind (P := fun p v => v.length = p.length) rfl fun _ _ ih => congrArg Nat.succ ih
theorem VRels.append {h : Heap} {p : List PV} {v : List Value} {q : List PV} {u : List Value} (x : VRels h p v) (y : VRels h q u) : VRels h (p ++ q) (v ++ u) :=
  x.ind (P := fun p v => VRels h (p ++ q) (v ++ u)) y fun a _ ih => .cons a ih
theorem VRels.get {h : Heap} {p : List PV} {v : List Value} {i : Nat} {x : PV} (y : VRels h p v) : p[i]? = some x → ∃ y, v[i]? = some y ∧ VRel h x y := by
  refine y.ind (P := fun p v => ∀ i, p[i]? = some x → ∃ y, v[i]? = some y ∧ VRel h x y) (fun i e => by rw [List.getElem?_nil] at e; cases e) (fun {_ v _ _} a _ ih i e => ?_) i
  cases i with
  | zero => cases e; exact ⟨v, rfl, a⟩
  | succ i => exact ih i e
theorem VRels.set {h : Heap} {p : List PV} {v : List Value} {i : Nat} {x : PV} {y : Value} (z : VRels h p v) (e : VRel h x y) : VRels h (p.set i x) (v.set i y) := by
  refine z.ind (P := fun p v => ∀ i, VRels h (p.set i x) (v.set i y)) (fun _ => .nil) (fun a r ih i => ?_) i
  cases i with
  | zero => exact .cons e r
  | succ i => exact .cons a (ih i)
theorem VRels.take {h : Heap} {p : List PV} {v : List Value} (i : Nat) (z : VRels h p v) : VRels h (p.take i) (v.take i) := by
  refine z.ind (P := fun p v => ∀ i, VRels h (p.take i) (v.take i)) (fun i => ?_) (fun a _ ih i => ?_) i
  · rw [List.take_nil, List.take_nil]; exact .nil
  · cases i with
    | zero => exact .nil
    | succ i => exact .cons a (ih i)
theorem VRels.snoc {h : Heap} {p : List PV} {v : List Value} {x : PV} {y : Value} (r : VRels h p v) (e : VRel h x y) : VRels h (p ++ [x]) (v ++ [y]) := r.append (.cons e .nil)
theorem VRels.reverse {h : Heap} {p : List PV} {v : List Value} (z : VRels h p v) : VRels h p.reverse v.reverse :=
  z.ind (P := fun p v => VRels h p.reverse v.reverse) .nil fun a _ ih => by rw [List.reverse_cons, List.reverse_cons]; exact ih.snoc a

/-- the objects that a call may change -/
inductive PObj where
  | list (l : List PV)
  | idict (l : List (Int × PV))
  | sdict (l : List (Str × PV))
  | attrs (l : List (Str × PV))
  | inst (C dx : Addr)
  | cell (p : PV)

noncomputable def KVRel {K : Type} (h : Heap) : List (K × PV) → List (K × Value) → Prop
  | [], [] => True
  | (k, p) :: l, (k', v) :: r => k = k' ∧ VRel h p v ∧ KVRel h l r
  | _, _ => False
theorem KVRel.ind {K : Type} {h : Heap} {P : List (K × PV) → List (K × Value) → Prop} (n : P [] []) (c : ∀ {k p v l r}, VRel h p v → KVRel h l r → P l r → P ((k, p) :: l) ((k, v) :: r)) :
    ∀ {l : List (K × PV)} {r : List (K × Value)}, KVRel h l r → P l r := by
  intro l
  induction l with
  | nil =>
    intro r x
    cases r with
    | nil => exact n
    | cons e r => exact x.elim
  | cons a l ih =>
    intro r x
    cases r with
    | nil => exact x.elim
    | cons e r => obtain ⟨k', v⟩ := e; obtain ⟨e, hv, hr⟩ := x; subst e; exact c hv hr (ih hr)
theorem KVRel.mono {K : Type} {h h' : Heap} (k : TupKept h h') {l : List (K × PV)} {r : List (K × Value)} (x : KVRel h l r) : KVRel h' l r := x.ind trivial fun a _ ih => ⟨rfl, a.mono k, ih⟩

noncomputable def ARel (P : Params) (h : Heap) : List (Str × PV) → List DictEntry → Prop
  | [], [] => True
  | (x, p) :: l, e :: r => (∃ t, e.key = .str x t) ∧ e.hash = PyData.keyHash P x ∧ VRel h p e.val ∧ ARel P h l r
  | _, _ => False
theorem ARel.mono {P : Params} {h h' : Heap} (k : TupKept h h') : ∀ {l : List (Str × PV)} {r : List DictEntry}, ARel P h l r → ARel P h' l r := by
  intro l
  induction l with
  | nil =>
    intro r x
    cases r with
    | nil => trivial
    | cons e r => exact x
  | cons a l ih =>
    intro r x
    obtain ⟨n, p⟩ := a
    cases r with
    | nil => exact x
    | cons e r => exact ⟨x.1, x.2.1, x.2.2.1.mono k, ih x.2.2.2⟩

noncomputable abbrev Hp := Addr → Option PObj
noncomputable def upd (H : Hp) (a : Addr) (o : PObj) : Hp := fun b => if b = a then some o else H b
@[simp] theorem upd_self (H : Hp) (a : Addr) (o : PObj) : upd H a o a = some o := by simp [upd]
theorem upd_ne {H : Hp} {a b : Addr} {o : PObj} (h : b ≠ a) : upd H a o b = H b := by simp [upd, h]

theorem upd_none {H : Hp} {a b : Addr} {o : PObj} (h : upd H a o b = none) : b ≠ a ∧ H b = none := by
  unfold upd at h
  split at h
  · cases h
  · exact ⟨‹_›, h⟩
theorem ne_hp {H : Hp} {a b : Addr} {o : PObj} (h1 : H a = some o) (h2 : H b = none) : a ≠ b := fun e => by rw [e, h2] at h1; cases h1

set_option genInjectivity false in
structure Gd where
  prog : Program
  w : World
  h₀ : Heap
  mg : Str → Option Value
  mb : Str → Option Value
  g : h₀.Ns mainGlobals mg
  b : h₀.Ns builtinsNs mb
  nolimit : h₀.NoLimit
  builtins : ∀ x : Str, x ≠ "__name__" → mb x = bootBuiltins x

noncomputable abbrev Gd.M (G : Gd) : Model := model G.prog G.w

noncomputable def ORel (G : Gd) (h : Heap) (a : Addr) : PObj → Prop
  | .list l => ∃ vs n, IsL h a (List.toArray vs) n ∧ VRels h l vs
  | .idict l => ∃ kvs, h.DictOf (intKind G.prog G.w) a kvs ∧ KVRel h l kvs
  | .sdict l => ∃ kvs, h.DictOf (PySem.strKind G.prog G.w) a kvs ∧ KVRel h l kvs
  | .attrs l => ∃ es n, h.get? a = some (dictOf es n) ∧ ARel G.w.params h l es
  | .inst C dx => h.get? a = some ⟨.ref C, some dx, .plain, #[]⟩
  | .cell p => ∃ o v, h.get? a = some o ∧ o.data = .cell (some v) ∧ VRel h p v

theorem dictOf_get {prog : Program} {w : World} {K : Type} [DecidableEq K] {knd : PySem.KeyKind prog w K} {h : Heap} {a : Addr} {kvs : List (K × Value)} (x : h.DictOf knd a kvs) :
    ∃ o, h.get? a = some o ∧ o.cls = .type "dict" := by
  obtain ⟨o, _, _, ho, hc, _⟩ := x.mapOf
  exact ⟨o, ho, hc.1⟩

theorem ORel.there {G : Gd} {h : Heap} {a : Addr} {p : PObj} (x : ORel G h a p) : ∃ o, h.get? a = some o ∧ ∀ vs n, o ≠ tupObj vs n := by
  have key : ∀ o : Obj, o.cls ≠ .type "tuple" → ∀ vs n, o ≠ tupObj vs n := fun o hc vs n e => hc (by rw [e])
  cases p with
  | list l => obtain ⟨vs, n, h1, _⟩ := x; exact ⟨_, h1, key _ (by simp)⟩
  | idict l => obtain ⟨vs, h1, _⟩ := x; obtain ⟨o, h2, h3⟩ := dictOf_get h1; exact ⟨o, h2, key _ (by rw [h3]; simp)⟩
  | sdict l => obtain ⟨vs, h1, _⟩ := x; obtain ⟨o, h2, h3⟩ := dictOf_get h1; exact ⟨o, h2, key _ (by rw [h3]; simp)⟩
  | attrs l => obtain ⟨es, n, h1, _⟩ := x; exact ⟨_, h1, key _ (by simp)⟩
  | inst C dx => exact ⟨_, x, key _ (by simp)⟩
  | cell p =>
    obtain ⟨o, v, h1, h2, _⟩ := x
    exact ⟨o, h1, fun vs n e => by rw [e] at h2; cases h2⟩

theorem dictOf_same {prog : Program} {w : World} {K : Type} [DecidableEq K] {knd : PySem.KeyKind prog w K} {h h' : Heap} {a : Addr} {kvs : List (K × Value)} (x : h.DictOf knd a kvs)
    (e : h'.get? a = h.get? a) : h'.DictOf knd a kvs := by
  obtain ⟨o, ho, hd⟩ := Heap.dictOf_iff.mp x
  exact Heap.dictOf_iff.mpr ⟨o, e.trans ho, hd⟩

theorem ORel.mono {G : Gd} {h h' : Heap} {a : Addr} {p : PObj} (k : TupKept h h') (e : h'.get? a = h.get? a) (x : ORel G h a p) : ORel G h' a p := by
  cases p with
  | list l => obtain ⟨vs, n, h1, h2⟩ := x; exact ⟨vs, n, e.trans h1, h2.mono k⟩
  | idict l => obtain ⟨vs, h1, h2⟩ := x; exact ⟨vs, dictOf_same h1 e, h2.mono k⟩
  | sdict l => obtain ⟨vs, h1, h2⟩ := x; exact ⟨vs, dictOf_same h1 e, h2.mono k⟩
  | attrs l => obtain ⟨es, n, h1, h2⟩ := x; exact ⟨es, n, e.trans h1, h2.mono k⟩
  | inst C dx => exact e.trans x
  | cell p => obtain ⟨o, v, h1, h2, h3⟩ := x; exact ⟨o, v, e.trans h1, h2, h3.mono k⟩

theorem ofString_inj {a b : String} : Str.ofString a = Str.ofString b ↔ a = b := by
  refine ⟨fun h => ?_, fun h => h ▸ rfl⟩
  rw [Str.ofString_eq_byList] at h
  unfold Str.ofStringByList at h
  simp only [Str.mk.injEq] at h
  have h2 : a.toList.map Char.toNat = b.toList.map Char.toNat := by simpa using h
  have inj : ∀ l r : List Char, l.map Char.toNat = r.map Char.toNat → l = r := by
    intro l
    induction l with
    | nil => intro r hr; cases r with
      | nil => rfl
      | cons _ _ => simp at hr
    | cons c l ih =>
      intro r hr
      cases r with
      | nil => simp at hr
      | cons d r =>
        simp only [List.map_cons, List.cons.injEq] at hr
        rw [ih r hr.2]
        have : c = d := Char.ext (UInt32.toNat_inj.mp hr.1)
        rw [this]
  exact String.toList_inj.mp (inj _ _ h2)

noncomputable abbrev Loc := List (Str × PV)
noncomputable def lk : Loc → Str → Option PV
  | [], _ => none
  | (y, v) :: r, x => if y = x then some v else lk r x
noncomputable def setl (x : Str) (v : PV) : Loc → Loc
  | [] => [(x, v)]
  | (y, u) :: r => if y = x then (x, v) :: r else (y, u) :: setl x v r
theorem lk_setl (x y : Str) (v : PV) : ∀ m : Loc, lk (setl x v m) y = if y = x then some v else lk m y
  | [] => by
    simp only [setl, lk]
    by_cases h : y = x
    · simp [h]
    · have : ¬ x = y := fun e => h e.symm
      simp [h, this]
  | (z, u) :: r => by
    simp only [setl]
    by_cases hz : z = x
    · simp only [hz, if_true, lk]
      by_cases h : y = x
      · simp [h]
      · have : ¬ x = y := fun e => h e.symm
        simp [h, this]
    · simp only [hz, if_false, lk, lk_setl x y v r]
      by_cases h : y = x
      · have : ¬ z = y := fun e => hz (e.trans h)
        simp [h]
        intro h'; exact absurd h' hz
      · simp [h]

set_option genInjectivity false in
structure RelH (G : Gd) (H : Hp) (h : Heap) : Prop where
  base : ∀ b o, G.h₀.get? b = some o → h.get? b = some o
  objs : ∀ a p, H a = some p → ORel G h a p
  new : ∀ a p, H a = some p → G.h₀.get? a = none ∧ a ≠ sysModules

noncomputable def LRel (h : Heap) (m : Loc) (mm : Str → Option Value) : Prop := ∀ x p, lk m x = some p → ∃ v, mm x = some v ∧ VRel h p v

set_option genInjectivity false in
structure Rel (G : Gd) (L : Addr) (m : Loc) (H : Hp) (h : Heap) : Prop extends RelH G H h where
  ns : ∃ mm, h.Ns L mm ∧ LRel h m mm
  notL : H L = none
  newL : G.h₀.get? L = none

set_option genInjectivity false in
structure Step (L : Addr) (H : Hp) (h : Heap) (H' : Hp) (h' : Heap) : Prop where
  keep : ∀ a o, h.get? a = some o → a ≠ L → H a = none → h'.get? a = some o
  fresh : ∀ a p, H' a = some p → (∃ q, H a = some q) ∨ h.get? a = none
  there : ∀ o, h.get? L = some o → ∃ o', h'.get? L = some o'

theorem Step.refl (L : Addr) (H : Hp) (h : Heap) : Step L H h H h := ⟨fun _ _ e _ _ => e, fun _ _ e => .inl ⟨_, e⟩, fun _ e => ⟨_, e⟩⟩
theorem Step.trans {L : Addr} {H H' H'' : Hp} {h h' h'' : Heap} (a : Step L H h H' h') (b : Step L H' h' H'' h'') : Step L H h H'' h'' := by
  refine ⟨fun x o e n hn => ?_, fun x p e => ?_, fun o e => ?_⟩
  · refine b.keep x o (a.keep x o e n hn) n ?_
    cases hq : H' x with
    | none => rfl
    | some q =>
      rcases a.fresh x q hq with ⟨r, hr⟩ | hs
      · rw [hn] at hr; cases hr
      · rw [e] at hs; cases hs
  · rcases b.fresh x p e with ⟨q, hq⟩ | hs
    · exact a.fresh x q hq
    · cases hx : h.get? x with
      | none => exact .inr rfl
      | some o =>
        cases hH : H x with
        | some q => exact .inl ⟨q, rfl⟩
        | none =>
          by_cases hL : x = L
          · subst hL
            obtain ⟨o', ho'⟩ := a.there o hx
            rw [ho'] at hs; cases hs
          · rw [a.keep x o hx hL hH] at hs; cases hs
  · obtain ⟨o', ho'⟩ := a.there o e
    exact b.there o' ho'

theorem ns_cls {h : Heap} {L : Addr} {mm : Str → Option Value} (x : h.Ns L mm) : ∃ o es ep, h.get? L = some o ∧ o.data = .dict es ep := by
  obtain ⟨o, es, ep, ho, hd, _⟩ := x; exact ⟨o, es, ep, ho, hd⟩


theorem ORel.lt {G : Gd} {h : Heap} {a : Addr} {p : PObj} (x : ORel G h a p) : a < h.objs.size := by
  obtain ⟨o, ho, _⟩ := x.there; exact Heap.lt_size ho
theorem ORel.noTup {G : Gd} {h : Heap} {a : Addr} {p : PObj} (x : ORel G h a p) {vs : List Value} {n : Nat} (e : h.get? a = some (tupObj vs n)) : False := by
  obtain ⟨o, ho, hc⟩ := x.there
  rw [ho] at e; cases e; exact hc _ _ rfl
theorem ns_noTup {h : Heap} {L : Addr} {mm : Str → Option Value} (x : h.Ns L mm) {vs : List Value} {n : Nat} (e : h.get? L = some (tupObj vs n)) : False := by
  obtain ⟨o, es, ep, ho, hd⟩ := ns_cls x
  rw [ho] at e; cases e; cases hd

section
variable {G : Gd} {L : Addr} {m : Loc} {H H' : Hp} {h h' : Heap}

theorem Rel.tups (R : Rel G L m H h) (S : Step L H h H' h') : TupKept h h' := by
  intro a vs n e
  refine S.keep a _ e (fun q => ?_) ?_
  · obtain ⟨mm, hn, _⟩ := R.ns
    subst q; exact ns_noTup hn e
  · cases q : H a with
    | none => rfl
    | some p => exact (ORel.noTup (R.objs a p q) e).elim

theorem LRel.mono {mm : Str → Option Value} (k : TupKept h h') (x : LRel h m mm) : LRel h' m mm := fun a p e => by
  obtain ⟨v, h1, h2⟩ := x a p e
  exact ⟨v, h1, h2.mono k⟩

theorem tups_of_ext (k : ∀ b o, h.get? b = some o → h'.get? b = some o) : TupKept h h' := fun _ _ _ e => k _ _ e

theorem RelH.ext (R : RelH G H h) (k : ∀ b o, h.get? b = some o → h'.get? b = some o) : RelH G H h' where
  base b o e := k _ _ (R.base b o e)
  objs a p e := by
    have x := R.objs a p e
    obtain ⟨o, ho, _⟩ := x.there
    exact x.mono (tups_of_ext k) ((k _ _ ho).trans ho.symm)
  new := R.new

theorem Rel.ext (R : Rel G L m H h) (k : ∀ b o, h.get? b = some o → h'.get? b = some o) : Rel G L m H h' where
  toRelH := R.toRelH.ext k
  ns := by
    obtain ⟨mm, hn, hl⟩ := R.ns
    exact ⟨mm, hn.keeps k, hl.mono (tups_of_ext k)⟩
  notL := R.notL
  newL := R.newL
theorem Step.ext (k : ∀ b o, h.get? b = some o → h'.get? b = some o) : Step L H h H h' :=
  ⟨fun _ _ e _ _ => k _ _ e, fun _ _ e => .inl ⟨_, e⟩, fun _ e => ⟨_, k _ _ e⟩⟩

theorem Rel.push (R : Rel G L m H h) (o : Obj) : Rel G L m H (h.push o) := R.ext (fun _ _ e => Heap.get?_push_of_some _ e)
theorem Step.push (o : Obj) : Step L H h H (h.push o) := .ext (fun _ _ e => Heap.get?_push_of_some _ e)

theorem Rel.lt (R : Rel G L m H h) : L < h.objs.size := by obtain ⟨_, hn, _⟩ := R.ns; exact hn.lt
theorem get_none_size (h : Heap) {a : Addr} (ha : h.objs.size ≤ a) : h.get? a = none := by
  cases q : h.get? a with
  | none => rfl
  | some o => exact absurd (Heap.lt_size q) (Nat.not_lt.mpr ha)
theorem RelH.big (R : RelH G H h) : 2 < h.objs.size := by
  obtain ⟨mc, hn, _⟩ := G.nolimit.keeps R.base
  exact hn.lt
theorem RelH.newAt (R : RelH G H h) {a : Addr} (ha : h.objs.size ≤ a) : h.get? a = none ∧ a ≠ sysModules :=
  ⟨get_none_size h ha, fun e => by
    have h1 : 2 < a := Nat.lt_of_lt_of_le R.big ha
    rw [e] at h1
    exact absurd h1 (by decide)⟩

/-- a new tracked object at a fresh address -/
theorem Rel.alloc (R : Rel G L m H h) (a : Addr) (p : PObj) (k : ∀ b o, h.get? b = some o → h'.get? b = some o) (ha : h.objs.size ≤ a) (ho : ORel G h' a p) : Rel G L m (upd H a p) h' := by
  have R' := R.ext k
  have na := R.newAt ha
  refine ⟨⟨R'.base, fun b q e => ?_, fun b q e => ?_⟩, R'.ns, ?_, R'.newL⟩
  · unfold upd at e
    split at e
    · rename_i q'; subst q'; cases e; exact ho
    · exact R'.objs b q e
  · unfold upd at e
    split at e
    · rename_i q'; subst q'
      refine ⟨?_, na.2⟩
      cases hq : G.h₀.get? b with
      | none => rfl
      | some o => have := R.base b o hq; rw [na.1] at this; cases this
    · exact R'.new b q e
  · have : L ≠ a := Nat.ne_of_lt (Nat.lt_of_lt_of_le R.lt ha)
    rw [upd_ne this]; exact R.notL
theorem Step.alloc (a : Addr) (p : PObj) (k : ∀ b o, h.get? b = some o → h'.get? b = some o) (ha : h.objs.size ≤ a) : Step L H h (upd H a p) h' := by
  refine ⟨fun _ _ e _ _ => k _ _ e, fun b q e => ?_, fun _ e => ⟨_, k _ _ e⟩⟩
  unfold upd at e
  split at e
  · rename_i q'; subst q'; exact .inr (get_none_size h ha)
  · exact .inl ⟨_, e⟩
theorem RelH.fresh (R : RelH G H h) {a : Addr} (ha : h.objs.size ≤ a) : H a = none := by
  cases q : H a with
  | none => rfl
  | some p => exact absurd (R.objs a p q).lt (Nat.not_lt.mpr ha)

/-- a tracked object is changed -/
theorem Rel.set (R : Rel G L m H h) {a : Addr} {p q : PObj} (hp : H a = some p) (hs : Heap.SameBut a h h') (hq : TupKept h h' → ORel G h' a q) : Rel G L m (upd H a q) h' := by
  have x := R.objs a p hp
  have kt : TupKept h h' := fun b vs n e => (hs.2 b fun z => x.noTup (z ▸ e)).trans e
  have aL : L ≠ a := fun z => by have := R.notL; rw [z, hp] at this; cases this
  refine ⟨⟨fun b o e => ?_, fun b r e => ?_, fun b r e => ?_⟩, ?_, ?_, R.newL⟩
  · have hb : b ≠ a := fun z => by have := (R.new a p hp).1; rw [← z, e] at this; cases this
    exact (hs.2 b hb).trans (R.base b o e)
  · unfold upd at e
    split at e
    · rename_i z; subst z; cases e; exact hq kt
    · rename_i z; exact (R.objs b r e).mono kt (hs.2 b z)
  · unfold upd at e
    split at e
    · rename_i z; subst z; exact R.new _ p hp
    · exact R.new b r e
  · obtain ⟨mm, hn, hl⟩ := R.ns
    exact ⟨mm, hn.sameBut hs aL, hl.mono kt⟩
  · rw [upd_ne aL]; exact R.notL
theorem Step.set (R : Rel G L m H h) {a : Addr} {p q : PObj} (hp : H a = some p) (hs : Heap.SameBut a h h') : Step L H h (upd H a q) h' := by
  have aL : L ≠ a := fun z => by have := R.notL; rw [z, hp] at this; cases this
  refine ⟨fun b o e _ hn => ?_, fun b r e => ?_, fun o e => ⟨o, (hs.2 L aL).trans e⟩⟩
  · have hb : b ≠ a := fun z => by rw [z, hp] at hn; cases hn
    exact (hs.2 b hb).trans e
  · unfold upd at e
    split at e
    · rename_i z; subst z; exact .inl ⟨_, hp⟩
    · exact .inl ⟨_, e⟩

/-- a local name is bound -/
theorem Rel.bind (R : Rel G L m H h) {mm : Str → Option Value} (hl : LRel h m mm) {x : Str} {p : PV} {v : Value} (hv : VRel h p v) (hn : h'.Ns L (fun y => if y = x then some v else mm y)) (hs : Heap.SameBut L h h') : Rel G L (setl x p m) H h' := by
  have kt : TupKept h h' := fun b vs n e => (hs.2 b fun z => by
    obtain ⟨mm', hn', _⟩ := R.ns
    exact ns_noTup hn' (z ▸ e)).trans e
  refine ⟨⟨fun b o e => ?_, fun b r e => ?_, R.new⟩, ⟨_, hn, fun y q e => ?_⟩, R.notL, R.newL⟩
  · have hb : b ≠ L := fun z => by have := R.newL; rw [← z, e] at this; cases this
    exact (hs.2 b hb).trans (R.base b o e)
  · have hb : b ≠ L := fun z => by have := R.notL; rw [← z, e] at this; cases this
    exact (R.objs b r e).mono kt (hs.2 b hb)
  · rw [lk_setl] at e
    by_cases hy : y = x
    · simp only [hy, if_true] at e ⊢
      cases e; exact ⟨v, rfl, hv.mono kt⟩
    · simp only [hy, if_false] at e ⊢
      obtain ⟨u, h1, h2⟩ := hl y q e
      exact ⟨u, h1, h2.mono kt⟩
theorem Step.bind {mm : Str → Option Value} (hn : h'.Ns L mm) (hs : Heap.SameBut L h h') : Step L H h H h' :=
  ⟨fun _ _ e n _ => (hs.2 _ n).trans e, fun _ _ e => .inl ⟨_, e⟩, fun _ _ => by obtain ⟨o, _, _, ho, _⟩ := hn; exact ⟨o, ho⟩⟩

/-- forget locals, forget objects -/
theorem Rel.less (R : Rel G L m H h) {m' : Loc} (hm : ∀ x p, lk m' x = some p → lk m x = some p) (hH : ∀ a p, H' a = some p → H a = some p) : Rel G L m' H' h := by
  refine ⟨⟨R.base, fun a p e => R.objs a p (hH a p e), fun a p e => R.new a p (hH a p e)⟩, ?_, ?_, R.newL⟩
  · obtain ⟨mm, hn, hl⟩ := R.ns
    exact ⟨mm, hn, fun x p e => hl x p (hm x p e)⟩
  · cases q : H' L with
    | none => rfl
    | some p => have := hH _ _ q; rw [R.notL] at this; cases this
theorem Step.less (S : Step L H h H' h') {H'' : Hp} (hH : ∀ a p, H'' a = some p → H' a = some p) : Step L H h H'' h' :=
  ⟨S.keep, fun a p e => S.fresh a p (hH a p e), S.there⟩
end

/-- the triple -/
noncomputable def W {α β : Type} (G : Gd) (A : Around) (L : Addr) (rel : Heap → α → β → Prop) (t : Sem β) (m : Loc) (H : Hp) (post : α → Loc → Hp → Prop) : Prop :=
  ∀ (s : Shared), Rel G L m H s.heap → ∀ (Q : β → Shared → Prop) (E : Value → Shared → Prop),
    (∀ a b m' H' h' tk', post a m' H' → Rel G L m' H' h' → rel h' a b → Step L H s.heap H' h' → Q b { s with heap := h', toks := tk' }) →
    wpAny G.M A t Q E s

section
variable {G : Gd} {A : Around} {L : Addr} {m : Loc} {H : Hp}

theorem W.mono {α β : Type} {rel : Heap → α → β → Prop} {t : Sem β} {P P' : α → Loc → Hp → Prop} (h : W G A L rel t m H P) (hp : ∀ a m' H', P a m' H' → P' a m' H') : W G A L rel t m H P' :=
  fun s R Q E k => h s R Q E fun a b m' H' h' tk' x => k a b m' H' h' tk' (hp _ _ _ x)

end
end Mine

-- part Rules
namespace Mine
open PySem PySem.W PySem.Calls PyProof.Rows

noncomputable abbrev BRel : Heap → Bool → Bool → Prop := fun _ b c => b = c
inductive PFlow where
  | next | brk | cont
  | ret (v : PV)
inductive FRel (h : Heap) : PFlow → Flow → Prop
  | next : FRel h .next .next
  | brk : FRel h .brk .brk
  | cont : FRel h .cont .cont
  | ret {p : PV} {v : Value} : VRel h p v → FRel h (.ret p) (.ret v)

section
variable {G : Gd} {A : Around} {L : Addr} {env : Env} {m : Loc} {H : Hp} {post : PV → Loc → Hp → Prop} {fpost : PFlow → Loc → Hp → Prop} {bpost : Bool → Loc → Hp → Prop} {lpost : List PV → Loc → Hp → Prop}

noncomputable abbrev Ev (G : Gd) (A : Around) (L : Addr) (env : Env) (e : Expr) (m : Loc) (H : Hp) (post : PV → Loc → Hp → Prop) : Prop := W G A L VRel (eval e env) m H post
noncomputable abbrev Tst (G : Gd) (A : Around) (L : Addr) (env : Env) (e : Expr) (m : Loc) (H : Hp) (post : Bool → Loc → Hp → Prop) : Prop := W G A L BRel (isTrue e env (eval e env)) m H post
noncomputable abbrev Ex (G : Gd) (A : Around) (L : Addr) (env : Env) (l : List Stmt) (m : Loc) (H : Hp) (post : PFlow → Loc → Hp → Prop) : Prop := W G A L FRel (execs l env) m H post
noncomputable abbrev Ex1 (G : Gd) (A : Around) (L : Addr) (env : Env) (st : Stmt) (m : Loc) (H : Hp) (post : PFlow → Loc → Hp → Prop) : Prop := W G A L FRel (exec st env) m H post
noncomputable abbrev Evs (G : Gd) (A : Around) (L : Addr) (env : Env) (pos : Pos) (es : List Expr) (m : Loc) (H : Hp) (post : List PV → Loc → Hp → Prop) : Prop := W G A L VRels (spliced (backTo pos (starEach es env))) m H post

noncomputable abbrev All (G : Gd) (A : Around) (L : Addr) (env : Env) (op : BoolOp) (es : List Expr) (m : Loc) (H : Hp) (post : Bool → Loc → Hp → Prop) : Prop := W G A L BRel (allTrue op es env) m H post
/-- names -/
theorem ev_local {x : Str} {pos : Pos} {p : PV} (hv : lk m x = some p) (k : post p m H)
    (hk : env.scope.kind = .function := by rfl) (hL : env.locals = L := by rfl) (hl : env.kindOf x = some .local := by rfl) (hd : (x == ("__debug__" : Str)) = false := by decide) :
    Ev G A L env (.Name x pos) m H post := by
  intro s R Q E K
  obtain ⟨mm, hn, hl'⟩ := R.ns
  obtain ⟨v, hv', hr⟩ := hl' x p hv
  exact wpAny_Name (wpAny_loadName_local hk hl (hL ▸ hn) hv' (K p v m H s.heap s.toks k R hr (Step.refl ..))) hd
noncomputable def locOk (env : Env) (x : Str) : Bool := decide (env.scope.kind = .function) && decide (env.kindOf x = some .local) && !(x == ("__debug__" : Str))
theorem ev_loc {x : Str} {pos : Pos} {p : PV} (hv : lk m x = some p) (ho : locOk env x = true) (hL : L = env.locals) (k : post p m H) : Ev G A L env (.Name x pos) m H post := by
  unfold locOk at ho
  simp only [Bool.and_eq_true, decide_eq_true_eq, Bool.not_eq_true'] at ho
  exact ev_local hv k ho.1.1 hL.symm ho.1.2 ho.2
theorem ev_global {x : Str} {pos : Pos} {f : Addr} (hv : G.mg x = some (.ref f)) (k : post (.ref f) m H)
    (hk : env.scope.kind = .function := by rfl) (hg : env.globals = mainGlobals := by rfl) (hl : env.kindOf x = some .globalImplicit := by rfl) (hd : (x == ("__debug__" : Str)) = false := by decide) :
    Ev G A L env (.Name x pos) m H post := by
  intro s R Q E K
  exact Calls.Name_function_global hk hl (Calls.loadGlobal_global (hg ▸ G.g.keeps R.base) hv (K _ _ m H s.heap s.toks k R (.ref f) (Step.refl ..))) hd

/-- constants -/
theorem ev_int {i : Int} {kd : Nat} {pos : Pos} (k : post (.int i) m H) : Ev G A L env (.Constant (.int i) kd pos) m H post :=
  fun s R Q E K => wpAny_Constant_int (K _ _ m H s.heap (s.toks + 1) k R (.int i s.toks) (Step.refl ..))
theorem ev_str {x : Str} {kd : Nat} {pos : Pos} (k : post (.str x) m H) : Ev G A L env (.Constant (.str x) kd pos) m H post :=
  fun s R Q E K => wpAny_Constant_str (K _ _ m H s.heap (s.toks + 1) k R (.str x s.toks) (Step.refl ..))
theorem ev_none {kd : Nat} {pos : Pos} (k : post .none m H) : Ev G A L env (.Constant .none kd pos) m H post :=
  fun s R Q E K => wpAny_Constant_none (K _ _ m H s.heap s.toks k R .none (Step.refl ..))
theorem ev_bool {b : Bool} {kd : Nat} {pos : Pos} (k : post (.bool b) m H) : Ev G A L env (.Constant (.bool b) kd pos) m H post :=
  fun s R Q E K => wpAny_Constant_bool (K _ _ m H s.heap s.toks k R (.bool b) (Step.refl ..))

noncomputable def BinOk (G : Gd) (A : Around) (H : Hp) (op : Operator) (p q r : PV) : Prop :=
  ∀ (s : Shared) (v u : Value), RelH G H s.heap → VRel s.heap p v → VRel s.heap q u → ∀ (Q : Value → Shared → Prop) (E : Value → Shared → Prop),
    (∀ b tk, VRel s.heap r b → Q b { s with toks := tk }) → wpAny G.M A (binaryOp op v u) Q E s
noncomputable def CmpOk (G : Gd) (A : Around) (H : Hp) (op : CmpOp) (p q : PV) (r : Bool) : Prop :=
  ∀ (s : Shared) (v u : Value), RelH G H s.heap → VRel s.heap p v → VRel s.heap q u → ∀ (Q : Value → Shared → Prop) (E : Value → Shared → Prop),
    (∀ tk, Q (.bool r) { s with toks := tk }) → wpAny G.M A (compareOp op v u) Q E s
noncomputable def UnOk (G : Gd) (A : Around) (op : UnaryOp) (p r : PV) : Prop :=
  ∀ (s : Shared) (v : Value), VRel s.heap p v → ∀ (Q : Value → Shared → Prop) (E : Value → Shared → Prop),
    (∀ b tk, VRel s.heap r b → Q b { s with toks := tk }) → wpAny G.M A (unaryOp op v) Q E s
noncomputable def TrueOk (G : Gd) (A : Around) (p : PV) (r : Bool) : Prop :=
  ∀ (s : Shared) (v : Value), VRel s.heap p v → ∀ (Q : Bool → Shared → Prop) (E : Value → Shared → Prop),
    (∀ tk, Q r { s with toks := tk }) → wpAny G.M A (truthy v) Q E s



section
variable (G : Gd) (A : Around) (L : Addr) (env : Env)
@[reducible] noncomputable def KBin2 (op : Operator) (post : PV → Loc → Hp → Prop) (p q : PV) (m : Loc) (H : Hp) : Prop := ∃ z, BinOk G A H op p q z ∧ post z m H
@[reducible] noncomputable def KBin1 (op : Operator) (r : Expr) (post : PV → Loc → Hp → Prop) (p : PV) (m : Loc) (H : Hp) : Prop := Ev G A L env r m H (KBin2 G A op post p)
@[reducible] noncomputable def KCmp2 (op : CmpOp) (post : PV → Loc → Hp → Prop) (p q : PV) (m : Loc) (H : Hp) : Prop := ∃ z, CmpOk G A H op p q z ∧ post (.bool z) m H
@[reducible] noncomputable def KCmp1 (op : CmpOp) (r : Expr) (post : PV → Loc → Hp → Prop) (p : PV) (m : Loc) (H : Hp) : Prop := Ev G A L env r m H (KCmp2 G A op post p)
@[reducible] noncomputable def KTst2 (op : CmpOp) (bpost : Bool → Loc → Hp → Prop) (p q : PV) (m : Loc) (H : Hp) : Prop := ∃ z, CmpOk G A H op p q z ∧ bpost z m H
@[reducible] noncomputable def KTst1 (op : CmpOp) (r : Expr) (bpost : Bool → Loc → Hp → Prop) (p : PV) (m : Loc) (H : Hp) : Prop := Ev G A L env r m H (KTst2 G A op bpost p)
@[reducible] noncomputable def KUn (op : UnaryOp) (post : PV → Loc → Hp → Prop) (p : PV) (m : Loc) (H : Hp) : Prop := ∃ z, UnOk G A op p z ∧ post z m H
@[reducible] noncomputable def KTrue (bpost : Bool → Loc → Hp → Prop) (p : PV) (m : Loc) (H : Hp) : Prop := ∃ z, TrueOk G A p z ∧ bpost z m H
@[reducible] noncomputable def KNot (bpost : Bool → Loc → Hp → Prop) (b : Bool) (m : Loc) (H : Hp) : Prop := bpost (!b) m H
@[reducible] noncomputable def KAnd (es : List Expr) (bpost : Bool → Loc → Hp → Prop) (b : Bool) (m : Loc) (H : Hp) : Prop := if b = true then All G A L env .And es m H bpost else bpost false m H
@[reducible] noncomputable def KOr (es : List Expr) (bpost : Bool → Loc → Hp → Prop) (b : Bool) (m : Loc) (H : Hp) : Prop := if b = true then bpost true m H else All G A L env .Or es m H bpost
@[reducible] noncomputable def KIfE (t o : Expr) (post : PV → Loc → Hp → Prop) (b : Bool) (m : Loc) (H : Hp) : Prop := if b = true then Ev G A L env t m H post else Ev G A L env o m H post
@[reducible] noncomputable def KIf (t o : List Stmt) (fpost : PFlow → Loc → Hp → Prop) (b : Bool) (m : Loc) (H : Hp) : Prop := if b = true then Ex G A L env t m H fpost else Ex G A L env o m H fpost
@[reducible] noncomputable def KEvs2 (lpost : List PV → Loc → Hp → Prop) (p : PV) (ps : List PV) (m : Loc) (H : Hp) : Prop := lpost (p :: ps) m H
@[reducible] noncomputable def KEvs1 (pos : Pos) (es : List Expr) (lpost : List PV → Loc → Hp → Prop) (p : PV) (m : Loc) (H : Hp) : Prop := Evs G A L env pos es m H (KEvs2 lpost p)
@[reducible] noncomputable def KTup (post : PV → Loc → Hp → Prop) (ps : List PV) (m : Loc) (H : Hp) : Prop := ps.length ≤ 100 ∧ post (.tup ps) m H
@[reducible] noncomputable def KList (post : PV → Loc → Hp → Prop) (ps : List PV) (m : Loc) (H : Hp) : Prop := ps.length ≤ 100 ∧ ∀ a, H a = none → post (.ref a) m (upd H a (.list ps))
@[reducible] noncomputable def KSeq (rest : List Stmt) (fpost : PFlow → Loc → Hp → Prop) (f : PFlow) (m : Loc) (H : Hp) : Prop := match f with | .next => Ex G A L env rest m H fpost | f => fpost f m H
@[reducible] noncomputable def KAsg (x : Str) (fpost : PFlow → Loc → Hp → Prop) (v : PV) (m : Loc) (H : Hp) : Prop := fpost .next (setl x v m) H
@[reducible] noncomputable def KAug (x : Str) (a : Int) (fpost : PFlow → Loc → Hp → Prop) (v : PV) (m : Loc) (H : Hp) : Prop := ∃ b, v = .int b ∧ fpost .next (setl x (.int (a + b)) m) H
@[reducible] noncomputable def KNext (fpost : PFlow → Loc → Hp → Prop) (_ : PV) (m : Loc) (H : Hp) : Prop := fpost .next m H
@[reducible] noncomputable def KRet (fpost : PFlow → Loc → Hp → Prop) (v : PV) (m : Loc) (H : Hp) : Prop := fpost (.ret v) m H
@[reducible] noncomputable def KFn (post : PV → Hp → Prop) (f : PFlow) (_ : Loc) (H : Hp) : Prop := match f with | .ret v => post v H | _ => post .none H
end
theorem bin_mk {op : Operator} {p q z : PV} (h : BinOk G A H op p q z) (k : post z m H) : KBin2 G A op post p q m H := ⟨z, h, k⟩
theorem cmp_mk {op : CmpOp} {p q : PV} {z : Bool} (h : CmpOk G A H op p q z) (k : post (.bool z) m H) : KCmp2 G A op post p q m H := ⟨z, h, k⟩
theorem tcm_mk {op : CmpOp} {p q : PV} {z : Bool} (h : CmpOk G A H op p q z) (k : bpost z m H) : KTst2 G A op bpost p q m H := ⟨z, h, k⟩
theorem un_mk {op : UnaryOp} {p z : PV} (h : UnOk G A op p z) (k : post z m H) : KUn G A op post p m H := ⟨z, h, k⟩
theorem tru_mk {p : PV} {z : Bool} (h : TrueOk G A p z) (k : bpost z m H) : KTrue G A bpost p m H := ⟨z, h, k⟩
theorem tup_mk {ps : List PV} (h : Nat.ble ps.length 100 = true) (k : post (.tup ps) m H) : KTup post ps m H := ⟨Nat.le_of_ble_eq_true h, k⟩
theorem lst_mk {ps : List PV} (h : Nat.ble ps.length 100 = true) (k : ∀ a, H a = none → post (.ref a) m (upd H a (.list ps))) : KList post ps m H := ⟨Nat.le_of_ble_eq_true h, k⟩
theorem kif_t {b : Bool} {t o : List Stmt} (h : b = true) (k : Ex G A L env t m H fpost) : KIf G A L env t o fpost b m H := by unfold KIf; rw [if_pos h]; exact k
theorem kif_f {b : Bool} {t o : List Stmt} (h : b = false) (k : Ex G A L env o m H fpost) : KIf G A L env t o fpost b m H := by unfold KIf; rw [if_neg (by simp [h])]; exact k
theorem kife_t {b : Bool} {t o : Expr} (h : b = true) (k : Ev G A L env t m H post) : KIfE G A L env t o post b m H := by unfold KIfE; rw [if_pos h]; exact k
theorem kife_f {b : Bool} {t o : Expr} (h : b = false) (k : Ev G A L env o m H post) : KIfE G A L env t o post b m H := by unfold KIfE; rw [if_neg (by simp [h])]; exact k
theorem kand_t {b : Bool} {es : List Expr} (h : b = true) (k : All G A L env .And es m H bpost) : KAnd G A L env es bpost b m H := by unfold KAnd; rw [if_pos h]; exact k
theorem kand_f {b : Bool} {es : List Expr} (h : b = false) (k : bpost false m H) : KAnd G A L env es bpost b m H := by unfold KAnd; rw [if_neg (by simp [h])]; exact k
theorem kor_t {b : Bool} {es : List Expr} (h : b = true) (k : bpost true m H) : KOr G A L env es bpost b m H := by unfold KOr; rw [if_pos h]; exact k
theorem kor_f {b : Bool} {es : List Expr} (h : b = false) (k : All G A L env .Or es m H bpost) : KOr G A L env es bpost b m H := by unfold KOr; rw [if_neg (by simp [h])]; exact k

theorem true_bool {b : Bool} : TrueOk G A (.bool b) b := by
  intro s v hv Q E K; cases hv; exact wpAny_truthy_bool (K s.toks)
theorem true_int {i : Int} : TrueOk G A (.int i) (i != 0) := by
  intro s v hv Q E K; cases hv; exact truthy_int (K s.toks)

theorem bin_add {a b : Int} : BinOk G A H .Add (.int a) (.int b) (.int (a + b)) := by
  intro s v u R hv hu Q E K; cases hv; cases hu; exact add_int (K _ _ (.int ..))
theorem bin_sub {a b : Int} : BinOk G A H .Sub (.int a) (.int b) (.int (a - b)) := by
  intro s v u R hv hu Q E K; cases hv; cases hu; exact sub_int (K _ _ (.int ..))
theorem bin_mul {a b : Int} (h : IntMulOk a b) : BinOk G A H .Mult (.int a) (.int b) (.int (a * b)) := by
  intro s v u R hv hu Q E K; cases hv; cases hu; exact mul_int (K _ _ (.int ..)) h
theorem bin_fdiv {a b : Int} (h : b ≠ 0) (hp : Builtin.divisionGoesByPylong a b = false) : BinOk G A H .FloorDiv (.int a) (.int b) (.int (a.fdiv b)) := by
  intro s v u R hv hu Q E K; cases hv; cases hu; exact floordiv_int h (K _ _ (.int ..)) (.inl hp)
theorem bin_mod {a b : Int} (h : b ≠ 0) : BinOk G A H .Mod (.int a) (.int b) (.int (a.fmod b)) := by
  intro s v u R hv hu Q E K; cases hv; cases hu; exact mod_int' h (K _ _ (.int ..))
theorem bin_shl {a n : Int} (h : 0 ≤ n) (h' : n ≤ 1000000) (ha : a.natAbs < 2 ^ 64) : BinOk G A H .LShift (.int a) (.int n) (.int (a * 2 ^ n.toNat)) := by
  intro s v u R hv hu Q E K; cases hv; cases hu; exact lshift_int_small h h' ha (K _ _ (.int ..))
theorem bin_shr {a n : Int} (h : 0 ≤ n) : BinOk G A H .RShift (.int a) (.int n) (.int (a.fdiv (2 ^ n.toNat))) := by
  intro s v u R hv hu Q E K; cases hv; cases hu; exact rshift_int h (K _ _ (.int ..))
theorem bin_and {a b : Int} : BinOk G A H .BitAnd (.int a) (.int b) (.int (Builtin.bitAnd a b)) := by
  intro s v u R hv hu Q E K; cases hv; cases hu; exact and_int (K _ _ (.int ..))
theorem bin_or {a b : Int} : BinOk G A H .BitOr (.int a) (.int b) (.int (Builtin.bitOr a b)) := by
  intro s v u R hv hu Q E K; cases hv; cases hu; exact or_int (K _ _ (.int ..))
theorem bin_xor {a b : Int} : BinOk G A H .BitXor (.int a) (.int b) (.int (Builtin.bitXor a b)) := by
  intro s v u R hv hu Q E K; cases hv; cases hu; exact xor_int (K _ _ (.int ..))
theorem bin_pow {a n : Int} (h : 0 ≤ n) (hb : (Builtin.Int.intBits a : Int) * n ≤ 2 ^ 27) : BinOk G A H .Pow (.int a) (.int n) (.int (a ^ n.toNat)) := by
  intro s v u R hv hu Q E K; cases hv; cases hu; exact pow_int h hb (K _ _ (.int ..))
theorem un_neg {a : Int} : UnOk G A .USub (.int a) (.int (-a)) := by
  intro s v hv Q E K; cases hv; exact neg_int (K _ _ (.int ..))

theorem cmp_eq_int {a b : Int} : CmpOk G A H .Eq (.int a) (.int b) (a == b) := by
  intro s v u R hv hu Q E K; cases hv; cases hu; exact eq_int (K _)
theorem cmp_ne_int {a b : Int} : CmpOk G A H .NotEq (.int a) (.int b) (a != b) := by
  intro s v u R hv hu Q E K; cases hv; cases hu; exact ne_int (K _)
theorem cmp_lt_int {a b : Int} : CmpOk G A H .Lt (.int a) (.int b) (decide (a < b)) := by
  intro s v u R hv hu Q E K; cases hv; cases hu; exact lt_int (K _)
theorem cmp_le_int {a b : Int} : CmpOk G A H .LtE (.int a) (.int b) (decide (a ≤ b)) := by
  intro s v u R hv hu Q E K; cases hv; cases hu; exact le_int (K _)
theorem cmp_gt_int {a b : Int} : CmpOk G A H .Gt (.int a) (.int b) (decide (b < a)) := by
  intro s v u R hv hu Q E K; cases hv; cases hu; exact gt_int (K _)
theorem cmp_ge_int {a b : Int} : CmpOk G A H .GtE (.int a) (.int b) (decide (b ≤ a)) := by
  intro s v u R hv hu Q E K; cases hv; cases hu; exact ge_int (K _)
theorem cmp_eq_str {x y : Str} : CmpOk G A H .Eq (.str x) (.str y) (x == y) := by
  intro s v u R hv hu Q E K; cases hv; cases hu; exact eq_str (K _)
theorem cmp_ne_str {x y : Str} : CmpOk G A H .NotEq (.str x) (.str y) (x != y) := by
  intro s v u R hv hu Q E K; cases hv; cases hu; exact ne_str (K _)
theorem cmp_eq_bool {x y : Bool} : CmpOk G A H .Eq (.bool x) (.bool y) (x == y) := by
  intro s v u R hv hu Q E K; cases hv; cases hu; exact PyProof.Rows.eq_bool (K _)
noncomputable def PV.isNone : PV → Bool
  | .none => true
  | _ => false
theorem isNone_of {h : Heap} {p : PV} {v : Value} (x : VRel h p v) : (v == .none) = p.isNone := by
  cases x <;> rfl
theorem cmp_is_none {p : PV} : CmpOk G A H .Is p .none p.isNone := by
  intro s v u R hv hu Q E K; cases hu; exact is_none (by rw [isNone_of hv]; exact K _)
theorem cmp_isNot_none {p : PV} : CmpOk G A H .IsNot p .none (!p.isNone) := by
  intro s v u R hv hu Q E K; cases hu; exact isNot_none (by rw [isNone_of hv]; exact K _)

theorem ev_bin {l r : Expr} {op : Operator} {pos : Pos}
    (h : Ev G A L env l m H (KBin1 G A L env op r post)) : Ev G A L env (.BinOp l op r pos) m H post := by
  intro s R Q E K
  refine wpAny_BinOp (h s R _ _ fun p v m1 H1 h1 t1 x R1 hv S1 => ?_)
  refine x _ R1 _ _ fun q u m2 H2 h2 t2 y R2 hu S2 => ?_
  obtain ⟨z, hz, hp⟩ := y
  exact hz _ v u R2.toRelH (hv.mono (R1.tups S2)) hu _ _ fun b tk hb => K z b m2 H2 h2 tk hp R2 hb (S1.trans S2)
theorem ev_cmp {l r : Expr} {op : CmpOp} {pos : Pos}
    (h : Ev G A L env l m H (KCmp1 G A L env op r post))
    (hm : behindInMarks op r = false := by with_unfolding_all rfl) : Ev G A L env (.Compare l [op] [r] pos) m H post := by
  intro s R Q E K
  refine wpAny_Compare1 (h s R _ _ fun p v m1 H1 h1 t1 x R1 hv S1 => ?_) hm
  refine x _ R1 _ _ fun q u m2 H2 h2 t2 y R2 hu S2 => ?_
  obtain ⟨z, hz, hp⟩ := y
  exact hz _ v u R2.toRelH (hv.mono (R1.tups S2)) hu _ _ fun tk => K (.bool z) (.bool z) m2 H2 h2 tk hp R2 (.bool z) (S1.trans S2)
theorem ev_un {x : Expr} {op : UnaryOp} {pos : Pos}
    (h : Ev G A L env x m H (KUn G A op post)) : Ev G A L env (.UnaryOp op x pos) m H post := by
  intro s R Q E K
  refine wpAny_UnaryOp (h s R _ _ fun p v m1 H1 h1 t1 x R1 hv S1 => ?_)
  obtain ⟨z, hz, hp⟩ := x
  exact hz _ v hv _ _ fun b tk hb => K z b m1 H1 h1 tk hp R1 hb S1

/-- tests -/
theorem tst_cmp {l r : Expr} {op : CmpOp} {pos : Pos}
    (h : Ev G A L env l m H (KTst1 G A L env op r bpost))
    (hm : behindInMarks op r = false := by with_unfolding_all rfl) : Tst G A L env (.Compare l [op] [r] pos) m H bpost := by
  intro s R Q E K
  refine wpAny_isTrue_Compare1 (h s R _ _ fun p v m1 H1 h1 t1 x R1 hv S1 => ?_) hm
  refine x _ R1 _ _ fun q u m2 H2 h2 t2 y R2 hu S2 => ?_
  obtain ⟨z, hz, hp⟩ := y
  exact hz _ v u R2.toRelH (hv.mono (R1.tups S2)) hu _ _ fun tk => wpAny_truthy_bool (K z z m2 H2 h2 tk hp R2 rfl (S1.trans S2))
theorem tst_plain {e : Expr} (h : Ev G A L env e m H (KTrue G A bpost))
    (he : PySem.isTrue e env (eval e env) = (do let v ← eval e env; standAt e.pos; holding [v] (truthy v)) := by rfl) : Tst G A L env e m H bpost := by
  intro s R Q E K
  refine wpAny_isTrue_value (h s R _ _ fun p v m1 H1 h1 t1 x R1 hv S1 => ?_) he
  obtain ⟨z, hz, hp⟩ := x
  exact hz _ v hv _ _ fun tk => K z z m1 H1 h1 tk hp R1 rfl S1
theorem tst_not {e : Expr} {pos : Pos} (h : Tst G A L env e m H (KNot bpost)) : Tst G A L env (.UnaryOp .Not e pos) m H bpost := by
  intro s R Q E K
  refine wpAny_isTrue_Not (h s R _ _ fun p v m1 H1 h1 t1 x R1 hv S1 => ?_)
  exact K _ _ m1 H1 h1 t1 x R1 (by rw [hv]) S1
theorem tst_bool {op : BoolOp} {es : List Expr} {pos : Pos} (h : All G A L env op es m H bpost) : Tst G A L env (.BoolOp op es pos) m H bpost :=
  fun s R Q E K => wpAny_isTrue_BoolOp (h s R Q E K)
theorem all_and_nil (h : bpost true m H) : All G A L env .And [] m H bpost :=
  fun s R Q E K => wpAny_allTrue_And_nil (K _ _ m H s.heap s.toks h R rfl (Step.refl ..))
theorem all_or_nil (h : bpost false m H) : All G A L env .Or [] m H bpost :=
  fun s R Q E K => wpAny_allTrue_Or_nil (K _ _ m H s.heap s.toks h R rfl (Step.refl ..))
theorem all_and_cons {e : Expr} {es : List Expr} (h : Tst G A L env e m H (KAnd G A L env es bpost)) : All G A L env .And (e :: es) m H bpost := by
  intro s R Q E K
  refine wpAny_allTrue_And_cons (h s R _ _ fun p v m1 H1 h1 t1 x R1 hv S1 => ?_)
  subst hv
  cases p with
  | false => exact K _ _ m1 H1 h1 t1 x R1 rfl S1
  | true => exact x _ R1 _ _ fun b c m2 H2 h2 t2 y R2 hc S2 => K b c m2 H2 h2 t2 y R2 hc (S1.trans S2)
theorem all_or_cons {e : Expr} {es : List Expr} (h : Tst G A L env e m H (KOr G A L env es bpost)) : All G A L env .Or (e :: es) m H bpost := by
  intro s R Q E K
  refine wpAny_allTrue_Or_cons (h s R _ _ fun p v m1 H1 h1 t1 x R1 hv S1 => ?_)
  subst hv
  cases p with
  | true => exact K _ _ m1 H1 h1 t1 x R1 rfl S1
  | false => exact x _ R1 _ _ fun b c m2 H2 h2 t2 y R2 hc S2 => K b c m2 H2 h2 t2 y R2 hc (S1.trans S2)

theorem ev_if {t b o : Expr} {pos : Pos} (h : Tst G A L env t m H (KIfE G A L env b o post)) : Ev G A L env (.IfExp t b o pos) m H post := by
  intro s R Q E K
  refine wpAny_IfExp (h s R _ _ fun p v m1 H1 h1 t1 x R1 hv S1 => ?_)
  subst hv
  cases p with
  | true => exact x _ R1 _ _ fun b c m2 H2 h2 t2 y R2 hc S2 => K b c m2 H2 h2 t2 y R2 hc (S1.trans S2)
  | false => exact x _ R1 _ _ fun b c m2 H2 h2 t2 y R2 hc S2 => K b c m2 H2 h2 t2 y R2 hc (S1.trans S2)
/-- lists of expressions, displays -/
theorem evs_nil {pos : Pos} (h : lpost [] m H) : Evs G A L env pos [] m H lpost :=
  fun s R Q E K => wpAny_items_nil (K [] [] m H s.heap s.toks h R .nil (Step.refl ..))
theorem evs_cons {pos : Pos} {e : Expr} {es : List Expr} (h : Ev G A L env e m H (KEvs1 G A L env pos es lpost))
    (he : starEach (e :: es) env = (false, eval e env) :: starEach es env := by rfl) : Evs G A L env pos (e :: es) m H lpost := by
  intro s R Q E K
  refine wpAny_items_cons (h s R _ _ fun p v m1 H1 h1 t1 x R1 hv S1 => ?_) he
  exact x _ R1 _ _ fun b c m2 H2 h2 t2 y R2 hc S2 => K (p :: b) (v :: c) m2 H2 h2 t2 y R2 (.cons (hv.mono (R1.tups S2)) hc) (S1.trans S2)

theorem sz100 {n : Nat} (h : n ≤ 100) : n ≤ sizeLine := Nat.le_trans h (by decide)
theorem ev_tuple {es : List Expr} {k : Nat} {pos : Pos} (h : Evs G A L env pos es m H (KTup post)) : Ev G A L env (.Tuple es k pos) m H post := by
  intro s R Q E K
  refine wpAny_Tuple (h s R _ _ fun p v m1 H1 h1 t1 x R1 hv S1 => ?_)
  refine ⟨sz100 (by rw [hv.length]; exact x.1), ?_⟩
  refine K (.tup p) _ m1 H1 _ t1 x.2 (R1.push _) ?_ (S1.trans (Step.push _))
  exact .tup (n := 0) (Heap.get?_push_size _ rfl) (hv.mono (tups_of_ext fun _ _ e => Heap.get?_push_of_some _ e))
theorem ev_list {es : List Expr} {pos : Pos} (h : Evs G A L env pos es m H (KList post)) : Ev G A L env (.List es pos) m H post := by
  intro s R Q E K
  refine wpAny_List (h s R _ _ fun p v m1 H1 h1 t1 x R1 hv S1 => ?_)
  refine ⟨sz100 (by rw [hv.length]; exact x.1), ?_⟩
  have kx : ∀ b o, h1.get? b = some o → (h1.push { cls := .type "list", data := .seq v.toArray }).get? b = some o := fun _ _ e => Heap.get?_push_of_some _ e
  refine K (.ref h1.objs.size) _ m1 (upd H1 h1.objs.size (.list p)) _ t1 (x.2 _ (R1.fresh (Nat.le_refl _))) ?_ (.ref _) (S1.trans (Step.alloc _ _ kx (Nat.le_refl _)))
  exact R1.alloc _ _ kx (Nat.le_refl _) ⟨v, 0, Heap.get?_push_size _ rfl, hv.mono (tups_of_ext kx)⟩
end
end Mine

-- part Rules2
namespace Mine
open PySem PySem.W PySem.Calls PyProof.Rows

set_option genInjectivity false in
structure StepH (H : Hp) (h : Heap) (H' : Hp) (h' : Heap) : Prop where
  keep : ∀ a o, h.get? a = some o → H a = none → h'.get? a = some o
  fresh : ∀ a p, H' a = some p → (∃ q, H a = some q) ∨ h.get? a = none

theorem RelH.tups {G : Gd} {H H' : Hp} {h h' : Heap} (R : RelH G H h) (S : StepH H h H' h') : TupKept h h' := by
  intro a vs n e
  refine S.keep a _ e ?_
  cases q : H a with
  | none => rfl
  | some p => exact (ORel.noTup (R.objs a p q) e).elim

/-- behind a call: the caller's frame -/
theorem Rel.after {G : Gd} {L : Addr} {m : Loc} {H H' : Hp} {h h' : Heap} (R : Rel G L m H h) (R' : RelH G H' h') (S : StepH H h H' h') : Rel G L m H' h' := by
  have kt := R.toRelH.tups S
  refine ⟨R', ?_, ?_, R.newL⟩
  · obtain ⟨mm, ⟨o, es, ep, ho, r⟩, hl⟩ := R.ns
    exact ⟨mm, ⟨o, es, ep, S.keep L o ho R.notL, r⟩, hl.mono kt⟩
  · cases q : H' L with
    | none => rfl
    | some p =>
      rcases S.fresh L p q with ⟨r, hr⟩ | hs
      · rw [R.notL] at hr; cases hr
      · obtain ⟨mm, ⟨o, es, ep, ho, r⟩, hl⟩ := R.ns
        rw [ho] at hs; cases hs
theorem StepH.step {G : Gd} {L : Addr} {m : Loc} {H H' : Hp} {h h' : Heap} (R : Rel G L m H h) (S : StepH H h H' h') : Step L H h H' h' := by
  refine ⟨fun a o e _ hn => S.keep a o e hn, S.fresh, fun o e => ⟨o, S.keep L o e R.notL⟩⟩

noncomputable def Room (d : Nat) (A : Around) : Prop := A.handled = none ∧ A.depth + d ≤ 900 ∧ A.units + 10 * d + 200 ≤ 9900
theorem Room.deeper {d : Nat} {A : Around} (r : Room (d + 1) A) (env : Env) : Room d (A.deeper env) := by
  obtain ⟨a, b, c⟩ := r
  refine ⟨a, ?_, ?_⟩
  · show A.depth + 1 + d ≤ 900; (first | lia | omega)
  · show A.units + 3 + 10 * d + 200 ≤ 9900; (first | lia | omega)
theorem Room.le {d e : Nat} {A : Around} (r : Room d A) (h : e ≤ d) : Room e A := ⟨r.1, by have := r.2.1; (first | lia | omega), by have := r.2.2; (first | lia | omega)⟩
theorem Room.limit {d : Nat} {A : Around} (r : Room d A) : A.depth < recursionLimit := by
  have := r.2.1
  show A.depth < 1000
  (first | lia | omega)
theorem Room.units {d : Nat} {A : Around} (r : Room d A) : A.units + 64 < cLine := by
  have := r.2.2
  show A.units + 64 < 9900
  (first | lia | omega)

/-- a def's contract -/
noncomputable def FnW (G : Gd) (A : Around) (f : Addr) (args : List PV) (H : Hp) (post : PV → Hp → Prop) : Prop :=
  ∀ (s : Shared) (vs : List Value), RelH G H s.heap → VRels s.heap args vs → ∀ (Q : Value → Shared → Prop) (E : Value → Shared → Prop),
    (∀ p v H' h' tk', post p H' → RelH G H' h' → VRel h' p v → StepH H s.heap H' h' → Q v { s with heap := h', toks := tk' }) →
    wpAny G.M A (call (.ref f) vs) Q E s

set_option genInjectivity false in
structure FnAt (G : Gd) (f : Addr) (qual : Str) (params : Arguments) (body : List Stmt) (scope : Scope) (dV kV : Value) : Prop where
  at_ : ∃ name doc pm an cdv ct o, G.h₀.get? f = some o ∧ o.data = .func (fnOf name qual params body scope dV kV doc pm an cdv ct) ∧ G.h₀.CodeRec cdv qual
theorem FnAt.ex {G : Gd} {f : Addr} {qual : Str} {params : Arguments} {body : List Stmt} {scope : Scope} {dV kV : Value} (F : FnAt G f qual params body scope dV kV) : ∃ fd o, G.h₀.get? f = some o ∧ o.data = .func fd := by
  obtain ⟨name, doc, pm, an, cdv, ct, o, ho, hd, _⟩ := F.at_
  exact ⟨_, o, ho, hd⟩

theorem lookup_append_some {α β : Type} [BEq α] {x : α} {v : β} : ∀ {l r : List (α × β)}, l.lookup x = some v → (l ++ r).lookup x = some v
  | (y, u) :: l, r, h => by
    rw [List.lookup_cons] at h
    rw [List.cons_append, List.lookup_cons]
    cases hb : x == y with
    | true => rw [hb] at h; exact h
    | false => rw [hb] at h; exact lookup_append_some h
  | [], _, h => by cases h
theorem lookup_append_none {α β : Type} [BEq α] {x : α} : ∀ {l r : List (α × β)}, l.lookup x = none → (l ++ r).lookup x = r.lookup x
  | (y, u) :: l, r, h => by
    rw [List.lookup_cons] at h
    rw [List.cons_append, List.lookup_cons]
    cases hb : x == y with
    | true => rw [hb] at h; cases h
    | false => rw [hb] at h; exact lookup_append_none h
  | [], _, _ => rfl
theorem lookup_notMem {β : Type} {x : Str} : ∀ {l : List (Str × β)}, x ∉ l.map (·.1) → l.lookup x = none
  | [], _ => rfl
  | (y, u) :: l, h => by
    rw [List.lookup_cons]
    have : (x == y) = false := by
      cases hb : x == y with
      | false => rfl
      | true => exact absurd (by rw [eq_of_beq hb]; exact List.mem_cons_self) h
    rw [this]
    exact lookup_notMem fun q => h (List.mem_cons_of_mem _ q)

theorem lrel_zip {h : Heap} {xs : List Str} {args : List PV} {vs : List Value} (hn : xs.Nodup) (z : VRels h args vs) : LRel h (xs.zip args) (fun x => (xs.zip vs).reverse.lookup x) := by
  refine z.ind (P := fun args vs => ∀ xs : List Str, xs.Nodup → LRel h (xs.zip args) (fun x => (xs.zip vs).reverse.lookup x)) (fun xs _ x p e => ?_) (fun {a v args vs} hv r ih xs hn x p e => ?_) xs hn
  · rw [List.zip_nil_right] at e; cases e
  · cases xs with
    | nil => cases e
    | cons y xs =>
    obtain ⟨hn1, hn2⟩ := List.nodup_cons.mp hn
    simp only [List.zip_cons_cons, lk] at e
    simp only [List.zip_cons_cons, List.reverse_cons]
    by_cases hx : y = x
    · simp only [hx, if_true] at e
      cases e
      subst hx
      have : ((xs.zip vs).reverse).lookup y = none := lookup_notMem fun q => by
        obtain ⟨z, hz, he⟩ := List.mem_map.mp q
        exact hn1 (he ▸ (List.of_mem_zip (List.mem_reverse.mp hz)).1)
      refine ⟨v, ?_, hv⟩
      rw [lookup_append_none this]
      simp [List.lookup]
    · simp only [hx, if_false] at e
      obtain ⟨u, h1, h2⟩ := ih xs hn2 x p e
      exact ⟨u, lookup_append_some h1, h2⟩

theorem fn_intro {G : Gd} {A : Around} {f : Addr} {qual : Str} {params : Arguments} {body : List Stmt} {scope : Scope} {args : List PV} {H : Hp} {post : PV → Hp → Prop} {d : Nat} {dV kV : Value} (F : FnAt G f qual params body scope dV kV) (hA : Room (d + 1) A) (xs : List Str)
    (hlen : args.length = xs.length)
    (hbind : ∀ s name doc pm an cdv ct vs, RelH G H s.heap → vs.length = xs.length → BindsTo s (fnOf name qual params body scope dV kV doc pm an cdv ct) ⟨vs, []⟩ (xs.zip vs))
    (hloc : ∀ x ∈ xs, scope.names.lookup x = some .local) (hnd : xs.Nodup)
    (hbody : ∀ A' L cd, Room d A' → H L = none → Ex G A' L (envOf qual scope L f cd) body (xs.zip args) H (KFn post))
    (hcell : ∀ x ∈ scope.names, x.2 ≠ .cell := by decide) (hco : scope.isCoroutine = false := by rfl) (hgen : scope.isGenerator = false := by rfl) (hk : scope.kind = .function := by rfl) : FnW G A f args H post := by
  intro s vs R hv Q E K
  obtain ⟨name, doc, pm, an, cdv, ct, o, ho, hd, hcd⟩ := F.at_
  refine wpAny_call ?_
  refine codeAny_call_def (fd := fnOf name qual params body scope dV kV doc pm an cdv ct) (body := body) (binds := xs.zip vs) hA.limit (R.base _ _ ho) hd (G.nolimit.keeps R.base) (hcd.keeps R.base) rfl
    (hbind _ _ _ _ _ _ _ _ R (by rw [hv.length, hlen])) hcell (fun x hx => hloc _ (List.of_mem_zip hx).1) (fun h₁ hns hk₁ => ?_) hco hgen hk
  have hfr : H s.heap.objs.size = none := R.fresh (Nat.le_refl _)
  have R₁ : Rel G s.heap.objs.size (xs.zip args) H h₁ := by
    refine ⟨R.ext hk₁, ⟨_, hns, ?_⟩, hfr, ?_⟩
    · exact lrel_zip hnd (hv.mono (tups_of_ext hk₁))
    · cases q : G.h₀.get? s.heap.objs.size with
      | none => rfl
      | some o => exact absurd (Heap.lt_size (R.base _ _ q)) (Nat.lt_irrefl _)
  refine hbody _ s.heap.objs.size cdv (hA.deeper _) hfr { s with heap := h₁, toks := s.toks + (xs.zip vs).length } R₁ _ _ fun fl fl' m' H' h' tk' hp R' hr S' => ?_
  have S : StepH H s.heap H' h' := by
    refine ⟨fun a o e hn => S'.keep a o (hk₁ _ _ e) (Nat.ne_of_lt (Heap.lt_size e)) hn, fun a p e => ?_⟩
    rcases S'.fresh a p e with x | x
    · exact .inl x
    · refine .inr ?_
      cases q : s.heap.get? a with
      | none => rfl
      | some o => have := hk₁ _ _ q; rw [x] at this; cases this
  cases hr with
  | ret hv' => exact K _ _ H' h' tk' hp R'.toRelH hv' S
  | next => exact K .none _ H' h' tk' hp R'.toRelH .none S
  | brk => exact K .none _ H' h' tk' hp R'.toRelH .none S
  | cont => exact K .none _ H' h' tk' hp R'.toRelH .none S

section
variable {G : Gd} {A : Around} {L : Addr} {env : Env} {m : Loc} {H : Hp} {post : PV → Loc → Hp → Prop} {fpost : PFlow → Loc → Hp → Prop} {bpost : Bool → Loc → Hp → Prop} {lpost : List PV → Loc → Hp → Prop}

theorem W.hp {α β : Type} {rel : Heap → α → β → Prop} {t : Sem β} {P : α → Loc → Hp → Prop} {H' : Hp} (e : H = H') (h : W G A L rel t m H' P) : W G A L rel t m H P := e ▸ h
theorem W.less {α β : Type} {rel : Heap → α → β → Prop} {t : Sem β} {P : α → Loc → Hp → Prop} {m' : Loc} {H' : Hp} (hm : ∀ x p, lk m' x = some p → lk m x = some p) (hH : ∀ a p, H' a = some p → H a = some p) (h : W G A L rel t m' H' P) : W G A L rel t m H P := by
  intro s R Q E K
  refine h s (R.less hm hH) Q E fun a b m2 H2 h2 tk hp R2 hr S2 => K a b m2 H2 h2 tk hp R2 hr ?_
  refine ⟨fun x o e n hn => S2.keep x o e n ?_, fun x p e => ?_, S2.there⟩
  · cases q : H' x with
    | none => rfl
    | some p => have := hH x p q; rw [hn] at this; cases this
  · rcases S2.fresh x p e with ⟨q, hq⟩ | hs
    · exact .inl ⟨q, hH x q hq⟩
    · exact .inr hs
theorem keep_fn {f : Addr} {fd : FuncData} (M : Model) : ∀ h : Heap, (∃ o, h.get? f = some o ∧ o.data = .func fd) → ∃ k, (k = Keeper.frame ∨ k = Keeper.machine ∨ k = Keeper.boundFrame) ∧ Looks M h (keeperOf (.ref f)) k := by
  rintro h ⟨o, ho, hd⟩
  obtain ⟨c, d, dt, sl⟩ := o
  simp only at hd
  subst hd
  exact ⟨.frame, .inl rfl, (Looks.ld (part := none) ho).andThen .now⟩

@[reducible] noncomputable def KCallR (post : PV → Loc → Hp → Prop) (m : Loc) (r : PV) (H : Hp) : Prop := post r m H
@[reducible] noncomputable def KCall (G : Gd) (A : Around) (f : Addr) (post : PV → Loc → Hp → Prop) (ps : List PV) (m : Loc) (H : Hp) : Prop := FnW G A f ps H (KCallR post m)
theorem ev_callF {x : Str} {p pos : Pos} {f : Addr} {e : Expr} {es : List Expr} (hf : ∃ fd o, G.h₀.get? f = some o ∧ o.data = .func fd)
    (h : Ev G A L env (.Name x p) m H fun v m0 H0 => v = .ref f ∧ Evs G A L env pos (e :: es) m0 H0 (KCall G A f post))
    (he : starEach (e :: es) env = (false, eval e env) :: starEach es env := by rfl) (hplain : (backTo pos (starEach es env)).any (·.1) = false := by rfl) :
    Ev G A L env (.Call (.Name x p) (e :: es) [] pos) m H post := by
  obtain ⟨fd, hf⟩ := hf
  intro s R Q E K
  refine Call_Name rfl (h s R _ _ fun v u m0 H0 h0 t0 x0 R0 hv S0 => ?_)
  obtain ⟨rfl, x0⟩ := x0
  cases hv
  rw [he]
  have h2 := x0 { s with heap := h0, toks := t0 } R0 (fun vs s₁ => (∃ o, s₁.heap.get? f = some o ∧ o.data = .func fd) ∧ wpAny G.M A (call (.ref f) ([] ++ vs)) Q E s₁) E (fun ps vs m1 H1 h1 t1 x1 R1 hvs S1 => by
    refine ⟨?_, ?_⟩
    · obtain ⟨o, ho, hd⟩ := hf
      exact ⟨o, R1.base _ _ ho, hd⟩
    · exact x1 _ _ R1.toRelH hvs _ _ fun r v H2 h2 t2 x2 R2 hr S2 =>
        have R3 := R1.after R2 S2
        K r v m1 H2 h2 t2 x2 R3 hr (S0.trans (S1.trans (S2.step R1))))
  rw [he] at h2
  exact callWith_of (by show ((false || (backTo pos (starEach es env)).any (·.1)) || false) = false; rw [hplain]; rfl) (keep_fn G.M) (evalArgs_plain h2)

theorem ev_call {x : Str} {p pos : Pos} {f : Addr} {e : Expr} {es : List Expr} (hg : G.mg x = some (.ref f)) (hf : ∃ fd o, G.h₀.get? f = some o ∧ o.data = .func fd)
    (h : Evs G A L env pos (e :: es) m H (KCall G A f post))
    (hk : env.scope.kind = .function := by rfl) (hgl : env.globals = mainGlobals := by rfl) (hl : env.kindOf x = some .globalImplicit := by rfl) (hd : (x == ("__debug__" : Str)) = false := by decide)
    (he : starEach (e :: es) env = (false, eval e env) :: starEach es env := by rfl) (hplain : (backTo pos (starEach es env)).any (·.1) = false := by rfl) :
    Ev G A L env (.Call (.Name x p) (e :: es) [] pos) m H post :=
  ev_callF hf (ev_global hg ⟨rfl, h⟩ hk hgl hl hd) he hplain

/-- statements -/
theorem ex_nil (h : fpost .next m H) : Ex G A L env [] m H fpost :=
  fun s R Q E K => wpAny_execs_nil (K _ _ m H s.heap s.toks h R .next (Step.refl ..))
theorem ex_cons {st : Stmt} {rest : List Stmt} (h : Ex1 G A L env st m H (KSeq G A L env rest fpost)) : Ex G A L env (st :: rest) m H fpost := by
  intro s R Q E K
  refine wpAny_execs_cons (h s R _ _ fun f g m1 H1 h1 t1 x R1 hv S1 => ?_)
  cases hv with
  | next => exact x _ R1 _ _ fun b c m2 H2 h2 t2 y R2 hc S2 => K b c m2 H2 h2 t2 y R2 hc (S1.trans S2)
  | brk => exact K _ _ m1 H1 h1 t1 x R1 .brk S1
  | cont => exact K _ _ m1 H1 h1 t1 x R1 .cont S1
  | ret r => exact K _ _ m1 H1 h1 t1 x R1 (.ret r) S1

theorem store_local {x : Str} {p : PV} {v : Value} {s : Shared} (R : Rel G L m H s.heap) (hv : VRel s.heap p v) {Q : Unit → Shared → Prop} {E : Value → Shared → Prop}
    (K : ∀ h' tk', Rel G L (setl x p m) H h' → Step L H s.heap H h' → Q () { s with heap := h', toks := tk' })
    (hL : env.locals = L := by rfl) (hl : env.kindOf x = some .local := by rfl) (hp : (env.scope.kind == .class || (env.scope.kind == .module && env.locals != env.globals)) = false := by rfl) : wpAny G.M A (storeName env x v) Q E s := by
  obtain ⟨mm, hn, hl'⟩ := R.ns
  subst hL
  exact wpAny_storeName_local hl hn (fun h' hn' hs => K h' _ (R.bind hl' hv hn' hs) (Step.bind hn' hs)) hp

theorem ex_assign {x : Str} {p' pos : Pos} {e : Expr} (h : Ev G A L env e m H (KAsg x fpost))
    (hs : swapsWith e (some (.Name x p')) pos.line env = pure false := by rfl)
    (hL : env.locals = L := by rfl) (hl : env.kindOf x = some .local := by rfl) (hp : (env.scope.kind == .class || (env.scope.kind == .module && env.locals != env.globals)) = false := by rfl) :
    Ex1 G A L env (.Assign [.Name x p'] e pos) m H fpost := by
  intro s R Q E K
  refine wpAny_Assign_Name (h s R _ _ fun p v m1 H1 h1 t1 y R1 hv S1 => ?_) hs
  exact store_local (s := { s with heap := h1, toks := t1 }) R1 hv (fun h' tk' R' S' => K .next .next _ H1 h' tk' y R' .next (S1.trans S')) hL hl hp
theorem ex_aug {x : Str} {p' pos : Pos} {e : Expr} {a : Int} (hv : lk m x = some (.int a)) (h : Ev G A L env e m H (KAug x a fpost))
    (hk : env.scope.kind = .function := by rfl) (hL : env.locals = L := by rfl) (hl : env.kindOf x = some .local := by rfl) (hp : (env.scope.kind == .class || (env.scope.kind == .module && env.locals != env.globals)) = false := by rfl) :
    Ex1 G A L env (.AugAssign (.Name x p') .Add e pos) m H fpost := by
  intro s R Q E K
  obtain ⟨mm, hn, hl'⟩ := R.ns
  obtain ⟨v0, hv0, hr0⟩ := hl' x _ hv
  cases hr0
  refine wpAny_AugAssign_Name (wpAny_loadName_local hk hl (hL ▸ hn) hv0 (h s R _ _ fun p v m1 H1 h1 t1 y R1 hv S1 => ?_))
  obtain ⟨b, rfl, hp'⟩ := y
  cases hv
  refine wpAny_iadd_int ?_
  exact store_local (s := { s with heap := h1, toks := t1 + 1 }) R1 (.int _ _) (fun h' tk' R' S' => K .next .next _ H1 h' tk' hp' R' .next (S1.trans S')) hL hl hp
theorem ex_expr {e : Expr} {pos : Pos} (h : Ev G A L env e m H (KNext fpost)) (hi : interactive env = false := by rfl) (hs : swapsWith e none pos.line env = pure false := by rfl) :
    Ex1 G A L env (.Expr e pos) m H fpost :=
  fun s R Q E K => wpAny_Expr_any (h s R _ _ fun p v m1 H1 h1 t1 y R1 hv S1 => K .next .next m1 H1 h1 t1 y R1 .next S1) hi hs
theorem ex_if {t : Expr} {b o : List Stmt} {pos : Pos} (h : Tst G A L env t m H (KIf G A L env b o fpost)) : Ex1 G A L env (.If t b o pos) m H fpost := by
  intro s R Q E K
  refine wpAny_If (h s R _ _ fun p v m1 H1 h1 t1 x R1 hv S1 => ?_)
  subst hv
  cases p with
  | true => exact x _ R1 _ _ fun b c m2 H2 h2 t2 y R2 hc S2 => K b c m2 H2 h2 t2 y R2 hc (S1.trans S2)
  | false => exact x _ R1 _ _ fun b c m2 H2 h2 t2 y R2 hc S2 => K b c m2 H2 h2 t2 y R2 hc (S1.trans S2)
theorem ex_ret {e : Expr} {pos : Pos} (h : Ev G A L env e m H (KRet fpost)) : Ex1 G A L env (.Return (some e) pos) m H fpost :=
  fun s R Q E K => wpAny_Return_some (h s R _ _ fun p v m1 H1 h1 t1 y R1 hv S1 => K (.ret p) (.ret v) m1 H1 h1 t1 y R1 (.ret hv) S1)
/-- what a loop's body hands on -/
noncomputable def Turn (fpost : PFlow → Loc → Hp → Prop) (J : Loc → Hp → Prop) : PFlow → Loc → Hp → Prop
  | .next, m, H => J m H
  | .cont, m, H => J m H
  | .brk, m, H => fpost .next m H
  | .ret v, m, H => fpost (.ret v) m H

@[reducible] noncomputable def KJ (I : Nat → Loc → Hp → Prop) (n : Nat) (m : Loc) (H : Hp) : Prop := ∃ k, k < n ∧ I k m H
@[reducible] noncomputable def KWh (G : Gd) (A : Around) (L : Addr) (env : Env) (b o : List Stmt) (fpost : PFlow → Loc → Hp → Prop) (J : Loc → Hp → Prop) (c : Bool) (m : Loc) (H : Hp) : Prop := if c = true then Ex G A L env b m H (Turn fpost J) else Ex G A L env o m H fpost
theorem ex_while {t : Expr} {b o : List Stmt} {pos : Pos} (I : Nat → Loc → Hp → Prop) (n : Nat) (h0 : I n m H)
    (turn : ∀ n m H, I n m H → Tst G A L env t m H (KWh G A L env b o fpost (KJ I n))) :
    Ex1 G A L env (.While t b o pos) m H fpost := by
  intro s R Q E K
  refine wpAny_While ?_
  refine codeAny_whileLoop (fun n s' => ∃ m' H' h' tk', s' = { s with heap := h', toks := tk' } ∧ I n m' H' ∧ Rel G L m' H' h' ∧ Step L H s.heap H' h') (fun n s' hI => ?_) n ⟨m, H, s.heap, s.toks, rfl, h0, R, Step.refl ..⟩
  obtain ⟨m', H', h', tk', rfl, hi, R', S'⟩ := hI
  refine turn n m' H' hi _ R' _ _ fun p v m1 H1 h1 t1 x R1 hv S1 => ?_
  subst hv
  cases p with
  | true =>
    refine x _ R1 _ _ fun b c m2 H2 h2 t2 y R2 hc S2 => ?_
    cases hc with
    | next => obtain ⟨k, hk, hi'⟩ := y; exact ⟨k, hk, m2, H2, h2, t2, rfl, hi', R2, S'.trans (S1.trans S2)⟩
    | cont => obtain ⟨k, hk, hi'⟩ := y; exact ⟨k, hk, m2, H2, h2, t2, rfl, hi', R2, S'.trans (S1.trans S2)⟩
    | brk => exact K .next .next m2 H2 h2 t2 y R2 .next (S'.trans (S1.trans S2))
    | ret r => exact K (.ret _) (.ret _) m2 H2 h2 t2 y R2 (.ret r) (S'.trans (S1.trans S2))
  | false => exact x _ R1 _ _ fun b c m2 H2 h2 t2 y R2 hc S2 => K b c m2 H2 h2 t2 y R2 hc (S'.trans (S1.trans S2))
end
end Mine

-- part Rules3
namespace Mine
open PySem PySem.W PySem.Calls PyProof.Rows

/-- a hidden object (a loop's iterator) is changed -/
theorem Rel.hid {G : Gd} {L : Addr} {m : Loc} {H : Hp} {h h' : Heap} {a : Addr} (R : Rel G L m H h) (hs : Heap.ExtBut a h h') (hH : H a = none) (hL : a ≠ L) (h0 : G.h₀.get? a = none) (ht : ∀ vs n, h.get? a ≠ some (tupObj vs n)) : Rel G L m H h' := by
  have kt : TupKept h h' := fun b vs n e => hs b _ (fun z => ht vs n (z ▸ e)) e
  refine ⟨⟨fun b o e => hs b o (fun z => by rw [z, h0] at e; cases e) (R.base b o e), fun b p e => ?_, R.new⟩, ?_, R.notL, R.newL⟩
  · have x := R.objs b p e
    obtain ⟨o, ho, _⟩ := x.there
    have hb : b ≠ a := fun z => by rw [z, hH] at e; cases e
    exact x.mono kt ((hs b o hb ho).trans ho.symm)
  · obtain ⟨mm, ⟨o, es, ep, ho, r⟩, hl⟩ := R.ns
    exact ⟨mm, ⟨o, es, ep, hs L o (Ne.symm hL) ho, r⟩, hl.mono kt⟩
theorem Step.hid {L : Addr} {H H' : Hp} {h h' h'' : Heap} {a : Addr} (S : Step L H h H' h') (hs : Heap.ExtBut a h' h'') (hn : h.get? a = none) (hL : a ≠ L) : Step L H h H' h'' := by
  refine ⟨fun b o e n hb => hs b o (fun z => by rw [z, hn] at e; cases e) (S.keep b o e n hb), S.fresh, fun o e => ?_⟩
  obtain ⟨o', ho'⟩ := S.there o e
  exact ⟨o', hs L o' (Ne.symm hL) ho'⟩
theorem extBut_of_same {a : Addr} {h h' : Heap} (x : Heap.SameBut a h h') : Heap.ExtBut a h h' := fun b o n e => (x.2 b n).trans e

section
variable {G : Gd} {A : Around} {L : Addr} {env : Env} {m : Loc} {H : Hp} {post : PV → Loc → Hp → Prop} {fpost : PFlow → Loc → Hp → Prop} {bpost : Bool → Loc → Hp → Prop} {lpost : List PV → Loc → Hp → Prop}

theorem ORel.isList {h : Heap} {a : Addr} {xs : List PV} (x : ORel G h a (.list xs)) : ∃ vs, h.IsList a (List.toArray vs) ∧ VRels h xs vs := by
  obtain ⟨vs, n, h1, h2⟩ := x
  exact ⟨vs, h1.isList, h2⟩

theorem ex_for_listJ {x : Str} {px pos : Pos} {iter : Expr} {body : List Stmt} (hh : A.handled = none)
    (h : Ev G A L env iter m H fun p m1 H1 => ∃ a xs, ∃ J : Nat → Loc → Hp → Prop, p = .ref a ∧ H1 a = some (.list xs) ∧ J 0 m1 H1 ∧
      (∀ i y m2 H2, xs[i]? = some y → J i m2 H2 → H2 a = some (.list xs) ∧ Ex G A L env body (setl x y m2) H2 (Turn fpost (J (i + 1)))) ∧
      (∀ m2 H2, J xs.length m2 H2 → H2 a = some (.list xs) ∧ fpost .next m2 H2))
    (hs : ∀ x, foldedSetIterable iter env x = pure x := by intro _; rfl)
    (hL : env.locals = L := by rfl) (hl : env.kindOf x = some .local := by rfl) (hp : (env.scope.kind == .class || (env.scope.kind == .module && env.locals != env.globals)) = false := by rfl) :
    Ex1 G A L env (.For (.Name x px) iter body [] pos) m H fpost := by
  intro s R Q E K
  refine wpAny_For (h s R _ _ fun p v m1 H1 h1 t1 y R1 hv S1 => ?_) hs
  obtain ⟨a, xs, J, rfl, ha, hJ, turn, done⟩ := y
  cases hv
  obtain ⟨vs, hlist, hvs⟩ := (R1.objs a _ ha).isList
  refine wpAny_pyIter_list (s := { s with heap := h1, toks := t1 }) hlist ?_
  have hnew : h1.get? h1.objs.size = none := get_none_size h1 (Nat.le_refl _)
  have kx : ∀ b o, h1.get? b = some o → (h1.push { cls := .type "list_iterator", data := .fields #[.ref a, .int 0 0] }).get? b = some o := fun _ _ e => Heap.get?_push_of_some _ e
  refine codeAny_forLoop (fun n s' => ∃ i m' H' h' tk', n = xs.length - i ∧ i ≤ xs.length ∧ s' = { s with heap := h', toks := tk' } ∧ J i m' H' ∧ Rel G L m' H' h' ∧ Step L H1 h1 H' h' ∧
    Heap.IsListIter h' h1.objs.size a i ∧ H' h1.objs.size = none) (fun n s' hI => ?_) xs.length
    ⟨0, m1, H1, _, t1, by simp, Nat.zero_le _, rfl, hJ, R1.ext kx, Step.ext kx, ⟨_, Heap.get?_push_size _ rfl, rfl, rfl⟩, R1.fresh (Nat.le_refl _)⟩
  obtain ⟨i, m', H', h', tk', hn, hi, rfl, hj, R', S', hit, hHit⟩ := hI
  have hitL : h1.objs.size ≠ L := fun z => absurd R1.lt (z ▸ Nat.lt_irrefl _)
  have hit0 : G.h₀.get? h1.objs.size = none := by
    cases q : G.h₀.get? h1.objs.size with
    | none => rfl
    | some o => rw [R1.base _ _ q] at hnew; cases hnew
  have htup : ∀ vs n, h'.get? h1.objs.size ≠ some (tupObj vs n) := fun vs n e => by
    obtain ⟨o, ho, hc, hd⟩ := hit
    rw [ho] at e; cases e; cases hd
  rcases Nat.lt_or_ge i xs.length with hlt | hge
  · obtain ⟨y, hy⟩ : ∃ y, xs[i]? = some y := ⟨_, List.getElem?_eq_getElem hlt⟩
    obtain ⟨ha', tb⟩ := turn i y m' H' hy hj
    obtain ⟨vs', hlist', hvs'⟩ := (R'.objs a _ ha').isList
    obtain ⟨v, hv, hr⟩ := hvs'.get hy
    refine wpAny_pyNext_list_item (s := { s with heap := h', toks := tk' }) hit hlist' (by simpa using hv) fun h'' hit'' hsb => ?_
    have eb := extBut_of_same hsb
    have R'' := R'.hid eb hHit hitL hit0 htup
    have S'' : Step L H1 h1 H' h'' := S'.hid eb hnew hitL
    have kt : TupKept h' h'' := fun b vs n e => eb b _ (fun z => htup vs n (z ▸ e)) e
    refine wpAny_assign_Name ?_
    refine store_local (s := { s with heap := h'', toks := tk' }) R'' (hr.mono kt) (fun h3 tk3 R3 S3 => ?_) hL hl hp
    refine tb { s with heap := h3, toks := tk3 } R3 _ _ fun f g m4 H4 h4 tk4 hp4 R4 hg S4 => ?_
    have hstep : Step L H1 h1 H4 h4 := S''.trans (S3.trans S4)
    have hH4 : H4 h1.objs.size = none := by
      cases q : H4 h1.objs.size with
      | none => rfl
      | some p =>
        rcases (S3.trans S4).fresh _ p q with ⟨r, hr'⟩ | hn'
        · rw [hHit] at hr'; cases hr'
        · obtain ⟨o, ho, _⟩ := hit''
          rw [ho] at hn'; cases hn'
    have hit4 : Heap.IsListIter h4 h1.objs.size a (i + 1) := by
      obtain ⟨o, ho, r⟩ := hit''
      exact ⟨o, (S3.trans S4).keep _ o ho hitL hHit, r⟩
    cases hg with
    | next => exact ⟨xs.length - (i + 1), by (first | lia | omega), i + 1, m4, H4, h4, tk4, rfl, hlt, rfl, hp4, R4, hstep, hit4, hH4⟩
    | cont => exact ⟨xs.length - (i + 1), by (first | lia | omega), i + 1, m4, H4, h4, tk4, rfl, hlt, rfl, hp4, R4, hstep, hit4, hH4⟩
    | brk => exact K .next .next m4 H4 h4 tk4 hp4 R4 .next (S1.trans hstep)
    | ret r => exact K (.ret _) (.ret _) m4 H4 h4 tk4 hp4 R4 (.ret r) (S1.trans hstep)
  · have hi' : i = xs.length := Nat.le_antisymm hi hge
    subst hi'
    obtain ⟨ha', hdone⟩ := done m' H' hj
    obtain ⟨vs', hlist', hvs'⟩ := (R'.objs a _ ha').isList
    refine wpAny_pyNext_list_end (s := { s with heap := h', toks := tk' }) hh hit hlist' (by simp [hvs'.length]) fun h'' eb => ?_
    have R'' := R'.hid eb hHit hitL hit0 htup
    have S'' : Step L H1 h1 H' h'' := S'.hid eb hnew hitL
    exact wpAny_execs_nil (K .next .next m' H' h'' tk' hdone R'' .next (S1.trans S''))

theorem ex_for_list {x : Str} {px pos : Pos} {iter : Expr} {body : List Stmt} (hh : A.handled = none) (J : Nat → Loc → Hp → Prop)
    (h : Ev G A L env iter m H fun p m1 H1 => ∃ a xs, p = .ref a ∧ H1 a = some (.list xs) ∧ J 0 m1 H1 ∧
      (∀ i y m2 H2, xs[i]? = some y → J i m2 H2 → H2 a = some (.list xs) ∧ Ex G A L env body (setl x y m2) H2 (Turn fpost (J (i + 1)))) ∧
      (∀ m2 H2, J xs.length m2 H2 → H2 a = some (.list xs) ∧ fpost .next m2 H2))
    (hs : ∀ x, foldedSetIterable iter env x = pure x := by intro _; rfl)
    (hL : env.locals = L := by rfl) (hl : env.kindOf x = some .local := by rfl) (hp : (env.scope.kind == .class || (env.scope.kind == .module && env.locals != env.globals)) = false := by rfl) :
    Ex1 G A L env (.For (.Name x px) iter body [] pos) m H fpost :=
  ex_for_listJ hh (h.mono fun p m1 H1 y => by
    obtain ⟨a, xs, r⟩ := y
    exact ⟨a, xs, J, r⟩) hs hL hl hp

/-- builtins by name -/
theorem ev_builtin1 {x : Str} {p pos : Pos} {F : Value} {e : Expr} (hmiss : G.mg x = none) (hb : bootBuiltins x = some F) (hF : (∃ id, F = .builtin id) ∨ ∃ T, F = .type T)
    (h : Ev G A L env e m H fun p m1 H1 => ∀ s v, Rel G L m1 H1 s.heap → VRel s.heap p v → ∀ Q E,
      (∀ r v' m' H' h' tk', post r m' H' → Rel G L m' H' h' → VRel h' r v' → Step L H1 s.heap H' h' → Q v' { s with heap := h', toks := tk' }) → wpAny G.M A (call F [v]) Q E s)
    (hx : x ≠ "__name__" := by decide) (hk : env.scope.kind = .function := by rfl) (hgl : env.globals = mainGlobals := by rfl) (hbl : env.builtins = builtinsNs := by rfl) (hl : env.kindOf x = some .globalImplicit := by rfl) (hd : (x == ("__debug__" : Str)) = false := by decide)
    (hs : starEach [e] env = [(false, eval e env)] := by rfl) :
    Ev G A L env (.Call (.Name x p) [e] [] pos) m H post := by
  intro s R Q E K
  refine Call_Name1 ?_ hs
  refine Calls.Name_function_global hk hl (Calls.loadGlobal_builtin (hgl ▸ G.g.keeps R.base) hmiss (hbl ▸ G.b.keeps R.base) ((G.builtins x hx).trans hb) ?_) hd
  have h2 : wpAny G.M A (eval e env) (fun v s₁ => wpAny G.M A (call F [v]) Q E s₁) E s :=
    h s R _ _ fun p v m1 H1 h1 t1 y R1 hv S1 => y _ v R1 hv Q E fun r v' m' H' h' tk' hp R' hr S' => K r v' m' H' h' tk' hp R' hr (S1.trans S')
  rcases hF with ⟨id, rfl⟩ | ⟨T, rfl⟩
  · exact callWith_builtin1 h2
  · exact PySem.callWith_type1 h2

theorem ev_len {p pos : Pos} {e : Expr} (hmiss : G.mg "len" = none)
    (h : Ev G A L env e m H fun p m1 H1 => ∃ a xs, p = .ref a ∧ H1 a = some (.list xs) ∧ xs.length < 2 ^ 60 ∧ post (.int xs.length) m1 H1)
    (hk : env.scope.kind = .function := by rfl) (hgl : env.globals = mainGlobals := by rfl) (hbl : env.builtins = builtinsNs := by rfl) (hl : env.kindOf "len" = some .globalImplicit := by rfl) (hs : starEach [e] env = [(false, eval e env)] := by rfl) :
    Ev G A L env (.Call (.Name "len" p) [e] [] pos) m H post := by
  refine ev_builtin1 hmiss boot_len (.inl ⟨_, rfl⟩) (h.mono fun p m1 H1 y => ?_) (by decide) hk hgl hbl hl (by decide) hs
  intro s v R hv Q E K
  obtain ⟨a, xs, rfl, ha, hlt, hp⟩ := y
  cases hv
  obtain ⟨vs, hlist, hvs⟩ := (R.objs a _ ha).isList
  have e1 : vs.toArray.size = xs.length := by simp [hvs.length]
  refine call_len_list hlist (by rw [e1]; have : (2:Int) ^ 60 < 2 ^ 63 := by decide
                                 (first | lia | omega)) ?_
  rw [e1]
  exact K (.int xs.length) _ m1 H1 s.heap _ hp R (.int _ _) (Step.refl ..)

theorem ev_listcopy {p pos : Pos} {e : Expr} (hmiss : G.mg "list" = none)
    (h : Ev G A L env e m H fun p m1 H1 => ∃ a xs, p = .ref a ∧ H1 a = some (.list xs) ∧ xs.length ≤ sizeLine ∧ ∀ b, H1 b = none → post (.ref b) m1 (upd H1 b (.list xs)))
    (hk : env.scope.kind = .function := by rfl) (hgl : env.globals = mainGlobals := by rfl) (hbl : env.builtins = builtinsNs := by rfl) (hl : env.kindOf "list" = some .globalImplicit := by rfl) (hs : starEach [e] env = [(false, eval e env)] := by rfl) :
    Ev G A L env (.Call (.Name "list" p) [e] [] pos) m H post := by
  refine ev_builtin1 hmiss PyProof.Rows.boot_list (.inr ⟨_, rfl⟩) (h.mono fun p m1 H1 y => ?_) (by decide) hk hgl hbl hl (by decide) hs
  intro s v R hv Q E K
  obtain ⟨a, xs, rfl, ha, hlt, hp⟩ := y
  cases hv
  obtain ⟨vs, n, ho, hvs⟩ := R.objs a _ ha
  refine call_list_seq (hsz := by simpa [hvs.length] using hlt) a (.inl rfl) ho rfl rfl fun h' c' hk' hD => ?_
  exact K (.ref s.heap.objs.size) _ m1 (upd H1 s.heap.objs.size (.list xs)) h' s.toks (hp _ (R.fresh (Nat.le_refl _)))
    (R.alloc _ _ hk' (Nat.le_refl _) ⟨vs, c', hD, hvs.mono (tups_of_ext hk')⟩) (.ref _) (Step.alloc _ _ hk' (Nat.le_refl _))

theorem ev_isinstance_int {p pos p2 : Pos} {e : Expr} (hmiss : G.mg "isinstance" = none) (hmiss2 : G.mg "int" = none)
    (h : Ev G A L env e m H fun p m1 H1 => ∃ i, p = .int i ∧ post (.bool true) m1 H1)
    (hk : env.scope.kind = .function := by rfl) (hgl : env.globals = mainGlobals := by rfl) (hbl : env.builtins = builtinsNs := by rfl) (hl : env.kindOf "isinstance" = some .globalImplicit := by rfl) (hl2 : env.kindOf "int" = some .globalImplicit := by rfl)
    (hs : starEach [e, .Name "int" p2] env = [(false, eval e env), (false, eval (.Name "int" p2) env)] := by rfl) :
    Ev G A L env (.Call (.Name "isinstance" p) [e, .Name "int" p2] [] pos) m H post := by
  intro s R Q E K
  refine Call_Name2 ?_ hs
  refine Calls.Name_function_global hk hl (Calls.loadGlobal_builtin (hgl ▸ G.g.keeps R.base) hmiss (hbl ▸ G.b.keeps R.base) ((G.builtins _ (by decide)).trans boot_isinstance) ?_) (by decide)
  refine Calls.callWith_builtin rfl (Calls.evalArgs_plain (Calls.spliced_cons (h s R _ _ fun p v m1 H1 h1 t1 y R1 hv S1 => ?_)))
  refine Calls.spliced_cons (Calls.Name_function_global hk hl2 (Calls.loadGlobal_builtin (hgl ▸ G.g.keeps R1.base) hmiss2 (hbl ▸ G.b.keeps R1.base) ((G.builtins _ (by decide)).trans PyProof.Rows.boot_int) ?_) (by decide))
  obtain ⟨i, rfl, hp⟩ := y
  cases hv
  refine Calls.spliced_nil ?_
  exact call_isinstance_yes (Tx := "int") rfl (by rfl) (by first | rfl | decide | exact same_refl) (K (.bool true) (.bool true) m1 H1 h1 t1 hp R1 (.bool true) S1)
end
end Mine

-- part Rules4
namespace Mine
open PySem PySem.W PySem.Calls PyProof.Rows

theorem wp_setList {prog : Program} {w : World} {A : Around} {E : Value → Shared → Prop} {s : Shared} (l : Addr) (items : Array Value) (n : Nat) {k : Int} (u : Tok) (y : Value) {Q : Unit → Shared → Prop} (h0 : 0 ≤ k) (hj : k < items.size) (hfit : k < 2 ^ 63) (hl : IsL s.heap l items n)
    (h : Q () { s with heap := s.heap.update l (Obj.mapSeq fun xs => xs.setIfInBounds k.toNat y) }) : wpAny (model prog w) A (setItem (.ref l) (.int k u) y) Q E s := by
  unfold setItem
  refine wpAny_holding ?_
  refine wpAny_bind (wpAny_sequenceKey hl.isList.typeIs (by decide) ?_)
  refine wpAny_bind (wpAny_callSpecial?_slot (name := Str.ofString "__setitem__") hl.isList.typeIs slot_list_setitem
    (wpAny_call_entry slot_list_setitem hl.isList.typeIs entry_list_setitem ?_ (args_list_setitem _ _ _)))
  show wpAny _ _ (Builtin.List.listSubscript? (.int k u) >>= _) _ _ s
  refine wpAny_bind (wpAny_listSubscript_int (fitsIndex_of h0 hfit) ?_)
  clear hfit
  obtain ⟨i, rfl⟩ := Int.eq_ofNat_of_zero_le h0
  have hi : i < items.size := Int.ofNat_lt.mp hj
  show wpAny _ _ ((seqItemAt l i >>= fun r => pure (r.map (i, ·))) >>= _) _ _ s
  refine wpAny_bind (wpAny_bind (wpAny_seqItemAt hl rfl (wpAny_pure ?_)))
  rw [show items[i]? = some items[i] from Array.getElem?_eq_getElem hi]
  show wpAny _ _ (setSeqItemAt l i y >>= _) _ _ s
  refine wpAny_bind (wpAny_setSeqItemAt hl rfl ?_)
  first
    | exact wpAny_pure ⟨.none, rfl, wpAny_pure h⟩
    | exact wpAny_bind (wpAny_pure (wpAny_pure ⟨.none, rfl, wpAny_pure h⟩))

/-- dictionaries as lists of pairs -/
noncomputable def ilook {K : Type} [DecidableEq K] (l : List (K × PV)) (k : K) : Option PV := (l.find? fun kv => kv.1 = k).map (·.2)
noncomputable def istore {K : Type} [DecidableEq K] (l : List (K × PV)) (k : K) (v : PV) : List (K × PV) :=
  if l.any (fun kv => kv.1 = k) then l.map (fun kv => if kv.1 = k then (kv.1, v) else kv) else l ++ [(k, v)]
theorem KVRel.look {K : Type} [DecidableEq K] {h : Heap} {k : K} {l : List (K × PV)} {r : List (K × Value)} (x : KVRel h l r) : match ilook l k with | some p => ∃ v, valueAt r k = some v ∧ VRel h p v | none => valueAt r k = none := by
  refine x.ind (P := fun l r => match ilook l k with | some p => ∃ v, valueAt r k = some v ∧ VRel h p v | none => valueAt r k = none) rfl fun {a p v l r} hv _ ih => ?_
  by_cases hk : a = k
  · simp [ilook, valueAt, hk, hv]
  · simp only [ilook, valueAt, List.find?_cons, hk, decide_false] at ih ⊢
    exact ih
theorem KVRel.any {K : Type} [DecidableEq K] {h : Heap} {k : K} {l : List (K × PV)} {r : List (K × Value)} (x : KVRel h l r) : (r.any fun kv => decide (kv.1 = k)) = l.any fun kv => decide (kv.1 = k) :=
  x.ind (P := fun l r => (r.any fun kv => decide (kv.1 = k)) = l.any fun kv => decide (kv.1 = k)) rfl fun _ _ ih => by rw [List.any_cons, List.any_cons, ih]
theorem KVRel.map {K : Type} [DecidableEq K] {h : Heap} {k : K} {p : PV} {v : Value} (hv : VRel h p v) {l : List (K × PV)} {r : List (K × Value)} (x : KVRel h l r) : KVRel h (l.map fun kv => if kv.1 = k then (kv.1, p) else kv) (r.map fun kv => if kv.1 = k then (kv.1, v) else kv) := by
  refine x.ind (P := fun l r => KVRel h (l.map fun kv => if kv.1 = k then (kv.1, p) else kv) (r.map fun kv => if kv.1 = k then (kv.1, v) else kv)) trivial fun {a _ _ _ _} hv' _ ih => ?_
  rw [List.map_cons, List.map_cons]
  by_cases hk : a = k
  · rw [if_pos hk, if_pos hk]; exact ⟨rfl, hv, ih⟩
  · rw [if_neg hk, if_neg hk]; exact ⟨rfl, hv', ih⟩
theorem KVRel.snoc {K : Type} {h : Heap} {k : K} {p : PV} {v : Value} (hv : VRel h p v) {l : List (K × PV)} {r : List (K × Value)} (x : KVRel h l r) : KVRel h (l ++ [(k, p)]) (r ++ [(k, v)]) := by
  refine x.ind (P := fun l r => KVRel h (l ++ [(k, p)]) (r ++ [(k, v)])) ?_ fun hv' _ ih => ?_
  · exact (⟨rfl, hv, trivial⟩ : KVRel h [(k, p)] [(k, v)])
  · rw [List.cons_append, List.cons_append]; exact ⟨rfl, hv', ih⟩
theorem KVRel.store {K : Type} [DecidableEq K] {h : Heap} {k : K} {p : PV} {v : Value} (hv : VRel h p v) {l : List (K × PV)} {r : List (K × Value)} (x : KVRel h l r) : KVRel h (istore l k p) (stored r k v) := by
  unfold istore stored
  rw [x.any (k := k)]
  split
  · exact x.map hv
  · exact x.snoc hv
theorem KVRel.length {K : Type} {h : Heap} {l : List (K × PV)} {r : List (K × Value)} (x : KVRel h l r) : r.length = l.length := x.ind (P := fun l r => r.length = l.length) rfl fun _ _ ih => congrArg Nat.succ ih

section
variable {G : Gd} {A : Around} {L : Addr} {env : Env} {m : Loc} {H : Hp} {post : PV → Loc → Hp → Prop} {fpost : PFlow → Loc → Hp → Prop} {bpost : Bool → Loc → Hp → Prop} {lpost : List PV → Loc → Hp → Prop}

/-- subscripts -/
noncomputable def GetOk (G : Gd) (A : Around) (H : Hp) (p q r : PV) : Prop :=
  ∀ (s : Shared) (v u : Value), RelH G H s.heap → VRel s.heap p v → VRel s.heap q u → (∃ T id, s.TypeIs v T ∧ typeLookup (.type T) "__getitem__" = pure (some (.builtin id))) ∧
    ∀ (Q : Value → Shared → Prop) (E : Value → Shared → Prop), (∀ b tk, VRel s.heap r b → Q b { s with toks := tk }) → wpAny G.M A (getItem v u) Q E s

theorem get_tup {l : List PV} {k : Int} {j : Nat} {x : PV} (hlo : -(2 ^ 63) ≤ k) (hhi : k < 2 ^ 63) (hj : seqIndex? k l.length = some j) (hx : l[j]? = some x) : GetOk G A H (.tup l) (.int k) x := by
  intro s v u R hv hu
  cases hu
  cases hv with
  | tup g r =>
    obtain ⟨y, hy, hr⟩ := r.get hx
    refine ⟨⟨"tuple", _, ⟨_, g, rfl⟩, slot_tuple_getitem.lookup⟩, fun Q E K => ?_⟩
    exact getItem_tuple (j := j) ⟨_, g, rfl, _, rfl⟩ hlo hhi (by simpa [r.length] using hj) (by simpa using hy) (K _ s.toks hr)
theorem get_list {a : Addr} {xs : List PV} {k : Int} {x : PV} (ha : H a = some (.list xs)) (h0 : 0 ≤ k) (hhi : k < 2 ^ 63) (hx : xs[k.toNat]? = some x) : GetOk G A H (.ref a) (.int k) x := by
  intro s v u R hv hu
  cases hu; cases hv
  obtain ⟨vs, hl, hvs⟩ := (R.objs a _ ha).isList
  obtain ⟨y, hy, hr⟩ := hvs.get hx
  exact ⟨⟨"list", _, hl.typeIs, slot_list_getitem.lookup⟩, fun Q E K => wpAny_getItem_list hl h0 hhi (by simpa using hy) (K _ s.toks hr)⟩
theorem get_last {a : Addr} {xs : List PV} {x : PV} (ha : H a = some (.list (xs ++ [x]))) : GetOk G A H (.ref a) (.int (-1)) x := by
  intro s v u R hv hu
  cases hu; cases hv
  obtain ⟨vs, hl, hvs⟩ := (R.objs a _ ha).isList
  have hlen := hvs.length
  simp only [List.length_append, List.length_cons, List.length_nil] at hlen
  obtain ⟨y, hy, hr⟩ := hvs.get (i := xs.length) (x := x) (by simp)
  refine ⟨⟨"list", _, hl.typeIs, slot_list_getitem.lookup⟩, fun Q E K => wpAny_getItem_list_neg hl (by decide) ?_ (by decide) ?_ (K _ s.toks hr)⟩
  · simp only [List.size_toArray, hlen]; (first | lia | omega)
  · have e : (-1 + (vs.toArray.size : Int)).toNat = xs.length := by simp only [List.size_toArray, hlen]; (first | lia | omega)
    rw [e]; simpa using hy
theorem get_idict {a : Addr} {l : List (Int × PV)} {k : Int} {x : PV} (ha : H a = some (.idict l)) (hx : ilook l k = some x) : GetOk G A H (.ref a) (.int k) x := by
  intro s v u R hv hu
  cases hu; cases hv
  obtain ⟨kvs, hd, hr⟩ := R.objs a _ ha
  have z := hr.look (k := k)
  rw [hx] at z
  obtain ⟨y, hy, hv⟩ := z
  exact ⟨⟨"dict", _, hd.typeIs, slot_dict_getitem.lookup⟩, fun Q E K => wpAny_getItem_of (intKind_is _ _ _ _) hd.mapOf hy (K _ (s.toks + 1) hv)⟩
theorem get_sdict {a : Addr} {l : List (Str × PV)} {k : Str} {x : PV} (ha : H a = some (.sdict l)) (hx : ilook l k = some x) : GetOk G A H (.ref a) (.str k) x := by
  intro s v u R hv hu
  cases hu; cases hv
  obtain ⟨kvs, hd, hr⟩ := R.objs a _ ha
  have z := hr.look (k := k)
  rw [hx] at z
  obtain ⟨y, hy, hv⟩ := z
  exact ⟨⟨"dict", _, hd.typeIs, slot_dict_getitem.lookup⟩, fun Q E K => wpAny_getItem_of (strKind_is _ _ _ _) hd.mapOf hy (K _ (s.toks + 1) hv)⟩

@[reducible] noncomputable def KSub2 (G : Gd) (A : Around) (post : PV → Loc → Hp → Prop) (p q : PV) (m : Loc) (H : Hp) : Prop := ∃ r, GetOk G A H p q r ∧ post r m H
@[reducible] noncomputable def KSub1 (G : Gd) (A : Around) (L : Addr) (env : Env) (slice : Expr) (post : PV → Loc → Hp → Prop) (p : PV) (m : Loc) (H : Hp) : Prop := Ev G A L env slice m H (KSub2 G A post p)
theorem get_mk {p q r : PV} (h : GetOk G A H p q r) (k : post r m H) : KSub2 G A post p q m H := ⟨r, h, k⟩
theorem ev_sub {value slice : Expr} {pos : Pos} (h : Ev G A L env value m H (KSub1 G A L env slice post))
    (hs : ∀ o i, subscripted slice false o i = operate [o, i] (getItem o i) := by intro _ _; rfl) : Ev G A L env (.Subscript value slice pos) m H post := by
  intro s R Q E K
  refine Subscript_ (h s R _ _ fun p v m1 H1 h1 t1 x R1 hv S1 => ?_)
  refine x _ R1 _ _ fun q u m2 H2 h2 t2 y R2 hu S2 => ?_
  obtain ⟨z, hz, hp⟩ := y
  obtain ⟨⟨T, id, hT, hlk⟩, g⟩ := hz { s with heap := h2, toks := t2 } v u R2.toRelH (hv.mono (R1.tups S2)) hu
  exact tail_any hT hlk (g _ _ fun b tk hb => K z b m2 H2 h2 tk hp R2 hb (S1.trans S2)) (hs v u)

/-- membership -/
noncomputable def strsOf : List Str → List PV := List.map .str
theorem strsAre_of {h : Heap} {ys : List Str} {vs : List Value} (x : VRels h (strsOf ys) vs) : StrsAre vs ys := by
  refine x.ind (P := fun l vs => ∀ ys, l = strsOf ys → StrsAre vs ys) (fun ys e => ?_) (fun hv _ ih ys e => ?_) ys rfl
  · cases ys with
    | nil => exact .nil
    | cons y ys => cases e
  · cases ys with
    | nil => cases e
    | cons y ys =>
      rw [strsOf, List.map_cons] at e
      injection e with e1 e2
      subst e1
      cases hv
      exact .cons _ _ (ih ys e2)
theorem cmp_in_strs {x : Str} {l : List PV} (ys : List Str) (hl : l = strsOf ys) : CmpOk G A H .In (.str x) (.tup l) (ys.any (· == x)) := by
  intro s v u R hv hu Q E K
  subst hl
  cases hv
  cases hu with
  | tup g r => exact in_tuple_strs ⟨_, g, rfl, _, rfl⟩ (strsAre_of r) (K s.toks)
inductive StrV : List PV → List Str → Prop
  | nil : StrV [] []
  | cons {l : List PV} {ys : List Str} {s : Str} : StrV l ys → StrV (.str s :: l) (s :: ys)
theorem StrV.eq {l : List PV} {ys : List Str} (h : StrV l ys) : l = strsOf ys := by
  induction h with
  | nil => rfl
  | cons _ ih => rw [ih]; rfl
theorem cmp_in_V {x : Str} {l : List PV} {ys : List Str} (h : StrV l ys) : CmpOk G A H .In (.str x) (.tup l) (ys.any (· == x)) := cmp_in_strs ys h.eq
/-- merged rules: tests of a local name against written texts -/
inductive Strs : List Expr → List Str → Prop
  | nil : Strs [] []
  | cons {es : List Expr} {ys : List Str} {s : Str} {k : Nat} {p : Pos} : Strs es ys → Strs (.Constant (.str s) k p :: es) (s :: ys)
theorem evs_strs {pos : Pos} {es : List Expr} {ys : List Str} (h : Strs es ys) : ∀ {lpost : List PV → Loc → Hp → Prop}, lpost (strsOf ys) m H → Evs G A L env pos es m H lpost := by
  induction h with
  | nil => intro lpost k; exact evs_nil k
  | cons _ ih => intro lpost k; exact evs_cons (ev_str (ih k))
theorem tst_name_eq {x s y : Str} {p1 p2 p3 : Pos} {kd : Nat} (hv : lk m x = some (.str y)) (ho : locOk env x = true) (hL : L = env.locals) (k : bpost (y == s) m H) : Tst G A L env (.Compare (.Name x p1) [.Eq] [.Constant (.str s) kd p2] p3) m H bpost :=
  tst_cmp (ev_loc hv ho hL (ev_str (tcm_mk cmp_eq_str k)))
theorem tst_name_in {x y : Str} {ys : List Str} {es : List Expr} {p1 p2 p3 : Pos} {kd : Nat} (hv : lk m x = some (.str y)) (ho : locOk env x = true) (hL : L = env.locals) (hs : Strs es ys) (hl : Nat.ble ys.length 100 = true) (k : bpost (ys.any (· == y)) m H)
    (hm : behindInMarks .In (.Tuple es kd p2) = false := by with_unfolding_all rfl) : Tst G A L env (.Compare (.Name x p1) [.In] [.Tuple es kd p2] p3) m H bpost :=
  tst_cmp (ev_loc hv ho hL (ev_tuple (evs_strs hs (tup_mk (by unfold strsOf; rw [List.length_map]; exact hl) (tcm_mk (cmp_in_strs ys rfl) k))))) hm
theorem if_eq_f {x s y : Str} {p1 p2 p3 p4 : Pos} {kd : Nat} {b o rest : List Stmt} (hv : lk m x = some (.str y)) (ho : locOk env x = true) (hL : L = env.locals) (hc : (y == s) = false) (k : Ex G A L env o m H (KSeq G A L env rest fpost)) :
    Ex G A L env (.If (.Compare (.Name x p1) [.Eq] [.Constant (.str s) kd p2] p3) b o p4 :: rest) m H fpost := ex_cons (ex_if (tst_name_eq hv ho hL (kif_f hc k)))
theorem if_eq_n {x s y : Str} {p1 p2 p3 p4 : Pos} {kd : Nat} {b rest : List Stmt} (hv : lk m x = some (.str y)) (ho : locOk env x = true) (hL : L = env.locals) (hc : (y == s) = false) (k : Ex G A L env rest m H fpost) :
    Ex G A L env (.If (.Compare (.Name x p1) [.Eq] [.Constant (.str s) kd p2] p3) b [] p4 :: rest) m H fpost := ex_cons (ex_if (tst_name_eq hv ho hL (kif_f hc (ex_nil k))))
theorem if_eq_t {x s y : Str} {p1 p2 p3 p4 : Pos} {kd : Nat} {b o rest : List Stmt} (hv : lk m x = some (.str y)) (ho : locOk env x = true) (hL : L = env.locals) (hc : (y == s) = true) (k : Ex G A L env b m H (KSeq G A L env rest fpost)) :
    Ex G A L env (.If (.Compare (.Name x p1) [.Eq] [.Constant (.str s) kd p2] p3) b o p4 :: rest) m H fpost := ex_cons (ex_if (tst_name_eq hv ho hL (kif_t hc k)))
theorem if_in_n {x y : Str} {ys : List Str} {es : List Expr} {p1 p2 p3 p4 : Pos} {kd : Nat} {b rest : List Stmt} (hv : lk m x = some (.str y)) (ho : locOk env x = true) (hL : L = env.locals) (hs : Strs es ys) (hl : Nat.ble ys.length 100 = true) (hc : ys.any (· == y) = false) (k : Ex G A L env rest m H fpost)
    (hm : behindInMarks .In (.Tuple es kd p2) = false := by with_unfolding_all rfl) : Ex G A L env (.If (.Compare (.Name x p1) [.In] [.Tuple es kd p2] p3) b [] p4 :: rest) m H fpost := ex_cons (ex_if (tst_name_in hv ho hL hs hl (kif_f hc (ex_nil k)) hm))
theorem if_in_t {x y : Str} {ys : List Str} {es : List Expr} {p1 p2 p3 p4 : Pos} {kd : Nat} {b o rest : List Stmt} (hv : lk m x = some (.str y)) (ho : locOk env x = true) (hL : L = env.locals) (hs : Strs es ys) (hl : Nat.ble ys.length 100 = true) (hc : ys.any (· == y) = true) (k : Ex G A L env b m H (KSeq G A L env rest fpost))
    (hm : behindInMarks .In (.Tuple es kd p2) = false := by with_unfolding_all rfl) : Ex G A L env (.If (.Compare (.Name x p1) [.In] [.Tuple es kd p2] p3) b o p4 :: rest) m H fpost := ex_cons (ex_if (tst_name_in hv ho hL hs hl (kif_t hc k) hm))
theorem if_skip {t : Expr} {b rest : List Stmt} {p : Pos} (h : Tst G A L env t m H fun c m1 H1 => c = false ∧ m1 = m ∧ H1 = H) (k : Ex G A L env rest m H fpost) : Ex G A L env (.If t b [] p :: rest) m H fpost :=
  ex_cons (ex_if (h.mono fun c m1 H1 e => by obtain ⟨e1, e2, e3⟩ := e; subst e1; subst e2; subst e3; exact kif_f rfl (ex_nil k)))
theorem cmp_in_idict {a : Addr} {l : List (Int × PV)} {k : Int} (ha : H a = some (.idict l)) : CmpOk G A H .In (.int k) (.ref a) (ilook l k).isSome := by
  intro s v u R hv hu Q E K
  cases hu; cases hv
  obtain ⟨kvs, hd, hr⟩ := R.objs a _ ha
  have z := hr.look (k := k)
  refine wpAny_in_of (intKind_is _ _ _ _) (by have := (R.new a _ ha).2; simpa using this) hd.mapOf ?_
  have e : (valueAt kvs k).isSome = (ilook l k).isSome := by
    cases q : ilook l k with
    | none => rw [q] at z; rw [z]; rfl
    | some p => rw [q] at z; obtain ⟨y, hy, _⟩ := z; rw [hy]; rfl
  rw [e]; exact K _
theorem cmp_notIn_idict {a : Addr} {l : List (Int × PV)} {k : Int} (ha : H a = some (.idict l)) : CmpOk G A H .NotIn (.int k) (.ref a) (!(ilook l k).isSome) := by
  intro s v u R hv hu Q E K
  cases hu; cases hv
  obtain ⟨kvs, hd, hr⟩ := R.objs a _ ha
  have z := hr.look (k := k)
  refine wpAny_notIn_of (intKind_is _ _ _ _) (by have := (R.new a _ ha).2; simpa using this) hd.mapOf ?_
  have e : (valueAt kvs k).isSome = (ilook l k).isSome := by
    cases q : ilook l k with
    | none => rw [q] at z; rw [z]; rfl
    | some p => rw [q] at z; obtain ⟨y, hy, _⟩ := z; rw [hy]; rfl
  rw [e]; exact K _

/-- stores -/
theorem ex_setlist {o i e : Expr} {p' pos : Pos} (h : Ev G A L env e m H fun v m1 H1 => Ev G A L env o m1 H1 fun ov m2 H2 => Ev G A L env i m2 H2 fun iv m3 H3 =>
      ∃ a xs k, ov = .ref a ∧ iv = .int k ∧ H3 a = some (.list xs) ∧ 0 ≤ k ∧ k < xs.length ∧ k < 2 ^ 63 ∧ fpost .next m3 (upd H3 a (.list (xs.set k.toNat v))))
    (hs : swapsWith e (some (o.Subscript i p')) pos.line env = pure false := by rfl) : Ex1 G A L env (.Assign [.Subscript o i p'] e pos) m H fpost := by
  intro s R Q E K
  refine wpAny_Assign_Subscript (h s R _ _ fun p v m1 H1 h1 t1 x R1 hv S1 => ?_) hs
  refine x _ R1 _ _ fun p2 v2 m2 H2 h2 t2 x2 R2 hv2 S2 => ?_
  refine x2 _ R2 _ _ fun p3 v3 m3 H3 h3 t3 x3 R3 hv3 S3 => ?_
  obtain ⟨a, xs, k, rfl, rfl, ha, h0, hlt, hfit, hp⟩ := x3
  cases hv2; cases hv3
  obtain ⟨vs, n, hl, hvs⟩ := R3.objs a _ ha
  have hv' := (hv.mono (R1.tups S2)).mono (R2.tups S3)
  refine wp_setList (s := { s with heap := h3, toks := t3 }) a vs.toArray n _ v h0 (by simpa [hvs.length] using hlt) hfit hl ?_
  have hsb : Heap.SameBut a h3 (h3.update a (Obj.mapSeq fun xs => xs.setIfInBounds k.toNat v)) := Heap.SameBut.update ..
  have hq := IsL.update hl (fun xs => xs.setIfInBounds k.toNat v)
  rw [show vs.toArray.setIfInBounds k.toNat v = (vs.set k.toNat v).toArray by simp] at hq
  exact K .next .next m3 _ _ t3 hp (R3.set ha hsb fun kt => ⟨vs.set k.toNat v, _, hq, (hvs.mono kt).set (hv'.mono kt)⟩) .next (S1.trans (S2.trans (S3.trans (Step.set R3 ha hsb))))
theorem ex_setidict {o i e : Expr} {p' pos : Pos} (h : Ev G A L env e m H fun v m1 H1 => Ev G A L env o m1 H1 fun ov m2 H2 => Ev G A L env i m2 H2 fun iv m3 H3 =>
      ∃ a l k, ov = .ref a ∧ iv = .int k ∧ H3 a = some (.idict l) ∧ l.length ≤ sizeLine ∧ fpost .next m3 (upd H3 a (.idict (istore l k v))))
    (hs : swapsWith e (some (o.Subscript i p')) pos.line env = pure false := by rfl) : Ex1 G A L env (.Assign [.Subscript o i p'] e pos) m H fpost := by
  intro s R Q E K
  refine wpAny_Assign_Subscript (h s R _ _ fun p v m1 H1 h1 t1 x R1 hv S1 => ?_) hs
  refine x _ R1 _ _ fun p2 v2 m2 H2 h2 t2 x2 R2 hv2 S2 => ?_
  refine x2 _ R2 _ _ fun p3 v3 m3 H3 h3 t3 x3 R3 hv3 S3 => ?_
  obtain ⟨a, l, k, rfl, rfl, ha, hz, hp⟩ := x3
  cases hv2; cases hv3
  obtain ⟨kvs, hd, hr⟩ := R3.objs a _ ha
  have hv' := (hv.mono (R1.tups S2)).mono (R2.tups S3)
  refine wpAny_setItem_pairs (s := { s with heap := h3, toks := t3 }) (intKind_is _ _ _ _) hd (fun h' hd' hsb => ?_) (by rw [hr.length]; exact hz)
  exact K .next .next m3 _ h' (t3 + 1) hp (R3.set ha hsb fun kt => ⟨_, hd', (hr.mono kt).store (hv'.mono kt)⟩) .next (S1.trans (S2.trans (S3.trans (Step.set R3 ha hsb))))
theorem ex_setsdict {o i e : Expr} {p' pos : Pos} (h : Ev G A L env e m H fun v m1 H1 => Ev G A L env o m1 H1 fun ov m2 H2 => Ev G A L env i m2 H2 fun iv m3 H3 =>
      ∃ a l k, ov = .ref a ∧ iv = .str k ∧ H3 a = some (.sdict l) ∧ l.length ≤ sizeLine ∧ fpost .next m3 (upd H3 a (.sdict (istore l k v))))
    (hs : swapsWith e (some (o.Subscript i p')) pos.line env = pure false := by rfl) : Ex1 G A L env (.Assign [.Subscript o i p'] e pos) m H fpost := by
  intro s R Q E K
  refine wpAny_Assign_Subscript (h s R _ _ fun p v m1 H1 h1 t1 x R1 hv S1 => ?_) hs
  refine x _ R1 _ _ fun p2 v2 m2 H2 h2 t2 x2 R2 hv2 S2 => ?_
  refine x2 _ R2 _ _ fun p3 v3 m3 H3 h3 t3 x3 R3 hv3 S3 => ?_
  obtain ⟨a, l, k, rfl, rfl, ha, hz, hp⟩ := x3
  cases hv2; cases hv3
  obtain ⟨kvs, hd, hr⟩ := R3.objs a _ ha
  have hv' := (hv.mono (R1.tups S2)).mono (R2.tups S3)
  refine wpAny_setItem_pairs (s := { s with heap := h3, toks := t3 }) (strKind_is _ _ _ _) hd (fun h' hd' hsb => ?_) (by rw [hr.length]; exact hz)
  exact K .next .next m3 _ h' (t3 + 1) hp (R3.set ha hsb fun kt => ⟨_, hd', (hr.mono kt).store (hv'.mono kt)⟩) .next (S1.trans (S2.trans (S3.trans (Step.set R3 ha hsb))))

theorem ev_dict0 {pos : Pos} (h : ∀ a, H a = none → post (.ref a) m (upd H a (.idict []))) : Ev G A L env (.Dict [] [] pos) m H post := by
  intro s R Q E K
  refine wpAny_Dict_empty ?_
  have kx : ∀ b o, s.heap.get? b = some o → (s.heap.push { cls := .type "dict", data := .dict #[] }).get? b = some o := fun _ _ e => Heap.get?_push_of_some _ e
  exact K (.ref s.heap.objs.size) _ m (upd H s.heap.objs.size (.idict [])) _ s.toks (h _ (R.fresh (Nat.le_refl _))) (R.alloc _ _ kx (Nat.le_refl _) ⟨[], Heap.DictOf.new _, trivial⟩) (.ref _) (Step.alloc _ _ kx (Nat.le_refl _))

/-- methods of lists -/
theorem noDictAt_of {s : Shared} {a : Addr} {its : Array Value} {n : Nat} (x : IsL s.heap a its n) : s.heap.NoDictAt (.ref a) := ⟨_, x, rfl⟩

namespace TF
theorem list_append : typeOf (.builtin "list.append") = pure (.type "method_descriptor") := by show builtinType _ = _; rw [builtinType_eq_fast]; kernel_rfl
theorem list_pop : typeOf (.builtin "list.pop") = pure (.type "method_descriptor") := by show builtinType _ = _; rw [builtinType_eq_fast]; kernel_rfl
theorem list_reverse : typeOf (.builtin "list.reverse") = pure (.type "method_descriptor") := by show builtinType _ = _; rw [builtinType_eq_fast]; kernel_rfl
end TF

theorem ev_append {o e : Expr} {apos pos : Pos} {pl : Sem Bool}
    (h : Ev G A L env o m H fun ov m1 H1 => ∃ a, ov = .ref a ∧ (∃ ys, H1 a = some (.list ys)) ∧ Ev G A L env e m1 H1 fun v m2 H2 => ∃ xs, H2 a = some (.list xs) ∧ xs.length ≤ sizeLine ∧ post .none m2 (upd H2 a (.list (xs ++ [v]))))
    (he : eval (.Call (.Attribute o "append" apos) [e] [] pos) env = (do
      let ov ← eval o env
      standAt apos.atName
      let (f, first) ← holding [ov] (getMethod ov "append" pl)
      callWith pos f first (backTo pos (starEach [e] env)) []) := by rfl)
    (ht : backTo pos (starEach [e] env) = [(false, eval e env)] := by rfl) :
    Ev G A L env (.Call (.Attribute o "append" apos) [e] [] pos) m H post := by
  intro s R Q E K
  refine MethodCall_ (h s R _ _ fun p v m1 H1 h1 t1 x R1 hv S1 => ?_) he
  obtain ⟨a, rfl, ⟨ys, ha⟩, x⟩ := x
  cases hv
  obtain ⟨vs, n, hl, hvs⟩ := R1.objs a _ ha
  refine getMethod_list_of (s := { s with heap := h1, toks := t1 }) F.slot_list_append TF.list_append hl.isList (noDictAt_of hl) ?_
  dsimp only
  rw [ht]
  refine P.append_list (x _ R1 _ _ fun p2 v2 m2 H2 h2 t2 x2 R2 hv2 S2 => ?_)
  obtain ⟨xs, ha2, hz, hp⟩ := x2
  obtain ⟨vs2, n2, hl2, hvs2⟩ := R2.objs a _ ha2
  refine ⟨vs2.toArray, n2, by simpa [hvs2.length] using hz, hl2, ?_⟩
  have hsb : Heap.SameBut a h2 (h2.update a (Obj.mapSeq fun xs => xs.push v2)) := Heap.SameBut.update ..
  have hq := IsL.update hl2 (fun xs => xs.push v2)
  rw [show vs2.toArray.push v2 = (vs2 ++ [v2]).toArray by simp] at hq
  exact K .none .none m2 _ _ t2 hp (R2.set ha2 hsb fun kt => ⟨vs2 ++ [v2], _, hq, (hvs2.mono kt).snoc (hv2.mono kt)⟩) .none (S1.trans (S2.trans (Step.set R2 ha2 hsb)))
theorem ev_pop {o : Expr} {apos pos : Pos} {pl : Sem Bool}
    (h : Ev G A L env o m H fun ov m1 H1 => ∃ a xs x, ov = .ref a ∧ H1 a = some (.list (xs ++ [x])) ∧ xs.length < sizeLine ∧ post x m1 (upd H1 a (.list xs)))
    (he : eval (.Call (.Attribute o "pop" apos) [] [] pos) env = (do
      let ov ← eval o env
      standAt apos.atName
      let (f, first) ← holding [ov] (getMethod ov "pop" pl)
      callWith pos f first (backTo pos (starEach [] env)) []) := by rfl) :
    Ev G A L env (.Call (.Attribute o "pop" apos) [] [] pos) m H post := by
  intro s R Q E K
  refine MethodCall_ (h s R _ _ fun p v m1 H1 h1 t1 x R1 hv S1 => ?_) he
  obtain ⟨a, xs, y, rfl, ha, hz, hp⟩ := x
  cases hv
  obtain ⟨vs, n, hl, hvs⟩ := R1.objs a _ ha
  refine getMethod_list_of (s := { s with heap := h1, toks := t1 }) F.slot_list_pop TF.list_pop hl.isList (noDictAt_of hl) ?_
  have hlen := hvs.length
  simp only [List.length_append, List.length_cons, List.length_nil] at hlen
  obtain ⟨z, hz1, hz2⟩ := hvs.get (i := xs.length) (x := y) (by simp)
  have e1 : vs.toArray.size - 1 = xs.length := by simp [hlen]
  refine P.pop_list hl (by rw [e1]; simpa using hz1) ?_ (by simp only [List.size_toArray, hlen]; (first | lia | omega))
  rw [e1]
  have hsb : Heap.SameBut a h1 (h1.update a (Obj.mapSeq fun xs' => xs'.eraseIdxIfInBounds xs.length)) := Heap.SameBut.update ..
  have q := IsL.update hl (fun xs' => xs'.eraseIdxIfInBounds xs.length)
  have e2 : vs.toArray.eraseIdxIfInBounds xs.length = (vs.take xs.length).toArray := by
    rw [List.eraseIdxIfInBounds_toArray, List.eraseIdx_eq_take_drop_succ, List.drop_eq_nil_of_le (by (first | lia | omega)), List.append_nil]
  rw [e2] at q
  refine K y z m1 _ _ t1 hp (R1.set ha hsb fun kt => ⟨vs.take xs.length, _, q, ?_⟩) (hz2.mono (R1.tups (Step.set (q := .list xs) R1 ha hsb))) (S1.trans (Step.set R1 ha hsb))
  have := (hvs.mono kt).take xs.length
  simpa using this
theorem ev_reverse {o : Expr} {apos pos : Pos} {pl : Sem Bool}
    (h : Ev G A L env o m H fun ov m1 H1 => ∃ a xs, ov = .ref a ∧ H1 a = some (.list xs) ∧ xs.length ≤ sizeLine ∧ post .none m1 (upd H1 a (.list xs.reverse)))
    (he : eval (.Call (.Attribute o "reverse" apos) [] [] pos) env = (do
      let ov ← eval o env
      standAt apos.atName
      let (f, first) ← holding [ov] (getMethod ov "reverse" pl)
      callWith pos f first (backTo pos (starEach [] env)) []) := by rfl) :
    Ev G A L env (.Call (.Attribute o "reverse" apos) [] [] pos) m H post := by
  intro s R Q E K
  refine MethodCall_ (h s R _ _ fun p v m1 H1 h1 t1 x R1 hv S1 => ?_) he
  obtain ⟨a, xs, rfl, ha, hz, hp⟩ := x
  cases hv
  obtain ⟨vs, n, hl, hvs⟩ := R1.objs a _ ha
  refine getMethod_list_of (s := { s with heap := h1, toks := t1 }) F.slot_list_reverse TF.list_reverse hl.isList (noDictAt_of hl) ?_
  refine P.reverse_list hl ?_ (by simpa [hvs.length] using hz)
  have hsb : Heap.SameBut a h1 (h1.update a (Obj.mapSeq fun x => x.reverse)) := Heap.SameBut.update ..
  have hq := IsL.update hl (fun x => x.reverse)
  rw [show vs.toArray.reverse = vs.reverse.toArray by simp] at hq
  exact K .none .none m1 _ _ t1 hp (R1.set ha hsb fun kt => ⟨vs.reverse, _, hq, (hvs.mono kt).reverse⟩) .none (S1.trans (Step.set R1 ha hsb))
end
end Mine

-- part Rules5
namespace Mine
open PySem PySem.W PySem.Calls PyProof.Rows

section
variable {G : Gd} {A : Around} {L : Addr} {env : Env} {m : Loc} {H : Hp} {post : PV → Loc → Hp → Prop} {fpost : PFlow → Loc → Hp → Prop} {bpost : Bool → Loc → Hp → Prop} {lpost : List PV → Loc → Hp → Prop}

/-- a op b op c -/
@[reducible] noncomputable def KCc3 (G : Gd) (A : Around) (L : Addr) (env : Env) (o2 : CmpOp) (r2 : Expr) (post : PV → Loc → Hp → Prop) (q : PV) (z : Bool) (m : Loc) (H : Hp) : Prop := if z = true then Ev G A L env r2 m H (KCmp2 G A o2 post q) else post (.bool false) m H
@[reducible] noncomputable def KCc2 (G : Gd) (A : Around) (L : Addr) (env : Env) (o1 o2 : CmpOp) (r2 : Expr) (post : PV → Loc → Hp → Prop) (p q : PV) (m : Loc) (H : Hp) : Prop := ∃ z, CmpOk G A H o1 p q z ∧ KCc3 G A L env o2 r2 post q z m H
@[reducible] noncomputable def KCc1 (G : Gd) (A : Around) (L : Addr) (env : Env) (o1 o2 : CmpOp) (r1 r2 : Expr) (post : PV → Loc → Hp → Prop) (p : PV) (m : Loc) (H : Hp) : Prop := Ev G A L env r1 m H (KCc2 G A L env o1 o2 r2 post p)
@[reducible] noncomputable def KTc3 (G : Gd) (A : Around) (L : Addr) (env : Env) (o2 : CmpOp) (r2 : Expr) (bpost : Bool → Loc → Hp → Prop) (q : PV) (z : Bool) (m : Loc) (H : Hp) : Prop := if z = true then Ev G A L env r2 m H (KTst2 G A o2 bpost q) else bpost false m H
@[reducible] noncomputable def KTc2 (G : Gd) (A : Around) (L : Addr) (env : Env) (o1 o2 : CmpOp) (r2 : Expr) (bpost : Bool → Loc → Hp → Prop) (p q : PV) (m : Loc) (H : Hp) : Prop := ∃ z, CmpOk G A H o1 p q z ∧ KTc3 G A L env o2 r2 bpost q z m H
@[reducible] noncomputable def KTc1 (G : Gd) (A : Around) (L : Addr) (env : Env) (o1 o2 : CmpOp) (r1 r2 : Expr) (bpost : Bool → Loc → Hp → Prop) (p : PV) (m : Loc) (H : Hp) : Prop := Ev G A L env r1 m H (KTc2 G A L env o1 o2 r2 bpost p)
theorem ev_chain {l r1 r2 : Expr} {o1 o2 : CmpOp} {pos : Pos}
    (h : Ev G A L env l m H (KCc1 G A L env o1 o2 r1 r2 post))
    (hm : lastMarks [o1, o2] [r1, r2] = false := by with_unfolding_all rfl) : Ev G A L env (.Compare l [o1, o2] [r1, r2] pos) m H post := by
  intro s R Q E K
  refine Compare_chain (h s R _ _ fun p v m1 H1 h1 t1 x R1 hv S1 => ?_) hm
  refine chain_link (x _ R1 _ _ fun q u m2 H2 h2 t2 y R2 hu S2 => ?_)
  obtain ⟨z, hz, hp⟩ := y
  refine hz _ v u R2.toRelH (hv.mono (R1.tups S2)) hu _ _ fun tk => wpAny_truthy_bool ?_
  cases z with
  | false => exact K (.bool false) _ m2 H2 h2 tk hp R2 (.bool false) (S1.trans S2)
  | true =>
    refine chain_last (hp { s with heap := h2, toks := tk } R2 _ _ fun r c m3 H3 h3 t3 y3 R3 hc S3 => ?_)
    obtain ⟨z3, hz3, hp3⟩ := y3
    exact hz3 _ u c R3.toRelH (hu.mono (R2.tups S3)) hc _ _ fun tk3 => K (.bool z3) _ m3 H3 h3 tk3 hp3 R3 (.bool z3) (S1.trans (S2.trans S3))
theorem tst_chain {l r1 r2 : Expr} {o1 o2 : CmpOp} {pos : Pos}
    (h : Ev G A L env l m H (KTc1 G A L env o1 o2 r1 r2 bpost))
    (hm : lastMarks [o1, o2] [r1, r2] = false := by with_unfolding_all rfl) : Tst G A L env (.Compare l [o1, o2] [r1, r2] pos) m H bpost := by
  intro s R Q E K
  refine PyProof.Rows.isTrue_chain (h s R _ _ fun p v m1 H1 h1 t1 x R1 hv S1 => ?_) hm
  refine test_link (x _ R1 _ _ fun q u m2 H2 h2 t2 y R2 hu S2 => ?_)
  obtain ⟨z, hz, hp⟩ := y
  refine hz _ v u R2.toRelH (hv.mono (R1.tups S2)) hu _ _ fun tk => wpAny_truthy_bool ?_
  cases z with
  | false => exact K false _ m2 H2 h2 tk hp R2 rfl (S1.trans S2)
  | true =>
    refine test_last (hp { s with heap := h2, toks := tk } R2 _ _ fun r c m3 H3 h3 t3 y3 R3 hc S3 => ?_)
    obtain ⟨z3, hz3, hp3⟩ := y3
    exact hz3 _ u c R3.toRelH (hu.mono (R2.tups S3)) hc _ _ fun tk3 => wpAny_truthy_bool (K z3 _ m3 H3 h3 tk3 hp3 R3 rfl (S1.trans (S2.trans S3)))
end

theorem ite_i {c : Prop} [Decidable c] {a b : Prop} (h1 : c → a) (h2 : ¬c → b) : if c then a else b := by
  by_cases h : c
  · rw [if_pos h]; exact h1 h
  · rw [if_neg h]; exact h2 h
theorem ite_p {c : Prop} [Decidable c] {a b : Prop} (hc : c) (h1 : a) : if c then a else b := by rw [if_pos hc]; exact h1
theorem ite_n {c : Prop} [Decidable c] {a b : Prop} (hc : ¬c) (h1 : b) : if c then a else b := by rw [if_neg hc]; exact h1
theorem ite_t {b : Bool} {x y : Prop} (hb : b = true) (h : x) : if b = true then x else y := by rw [if_pos hb]; exact h
theorem ite_f {b : Bool} {x y : Prop} (hb : b = false) (h : y) : if b = true then x else y := by subst hb; exact h
theorem pe {α β : Sort _} {post : α → β → Prop} {a a' : α} {b b' : β} (h : post a b) (ha : a = a') (hb : b = b') : post a' b' := by subst ha; subst hb; exact h

set_option genInjectivity false in
structure Prog (G : Gd) where
  fa : Nat → Addr
  at_ : ∀ k name args body dec ret tp scope ts bind pos, Challenge.pw_pb0347_01.main.body[k]? = some (.FunctionDef name args body dec ret tp scope ts bind pos) → args.defaults = [] →
    G.mg name = some (.ref (fa k)) ∧ FnAt G (fa k) name args body scope .none .none
  free : ∀ x : String, x ∈ ["len", "range", "list", "isinstance", "sorted", "sum", "int"] → G.mg (Str.ofString x) = none

section
variable {G : Gd} (P : Prog G)
theorem Prog.fn {k : Nat} {name : Str} {args : Arguments} {body : List Stmt} {dec : List Expr} {ret : Option Expr} {tp : List TypeParam} {scope : Scope} {ts : Option Scope} {bind : Str} {pos : Pos}
    (h : Challenge.pw_pb0347_01.main.body[k]? = some (.FunctionDef name args body dec ret tp scope ts bind pos)) (h2 : args.defaults = []) : FnAt G (P.fa k) name args body scope .none .none := (P.at_ k _ _ _ _ _ _ _ _ _ _ h h2).2
theorem Prog.glob {k : Nat} {name : Str} {args : Arguments} {body : List Stmt} {dec : List Expr} {ret : Option Expr} {tp : List TypeParam} {scope : Scope} {ts : Option Scope} {bind : Str} {pos : Pos}
    (h : Challenge.pw_pb0347_01.main.body[k]? = some (.FunctionDef name args body dec ret tp scope ts bind pos)) (h2 : args.defaults = []) : G.mg name = some (.ref (P.fa k)) := (P.at_ k _ _ _ _ _ _ _ _ _ _ h h2).1

theorem allS {α : Type} {n : Nat} {p : List α → Prop} (h : ∀ a vs, vs.length = n → p (a :: vs)) (vs : List α) (e : vs.length = n + 1) : p vs := by
  cases vs with
  | nil => cases e
  | cons a vs => exact h a vs (Nat.succ.inj e)
theorem all1 {α : Type} {p : List α → Prop} (h : ∀ a, p [a]) : ∀ vs, vs.length = 1 → p vs := allS fun a vs e => by rw [List.eq_nil_of_length_eq_zero e]; exact h a
theorem all2 {α : Type} {p : List α → Prop} (h : ∀ a b, p [a, b]) : ∀ vs, vs.length = 2 → p vs := allS fun a => all1 (p := fun vs => p (a :: vs)) (h a)
theorem all3 {α : Type} {p : List α → Prop} (h : ∀ a b c, p [a, b, c]) : ∀ vs, vs.length = 3 → p vs := allS fun a => all2 (p := fun vs => p (a :: vs)) (h a)
theorem all4 {α : Type} {p : List α → Prop} (h : ∀ a b c d, p [a, b, c, d]) : ∀ vs, vs.length = 4 → p vs := allS fun a => all3 (p := fun vs => p (a :: vs)) (h a)
theorem all5 {α : Type} {p : List α → Prop} (h : ∀ a b c d e, p [a, b, c, d, e]) : ∀ vs, vs.length = 5 → p vs := allS fun a => all4 (p := fun vs => p (a :: vs)) (h a)

/-- the intro of a contract: args by names -/
theorem fn_go {A : Around} {k : Nat} {name : Str} {params : Arguments} {body : List Stmt} {dec : List Expr} {ret : Option Expr} {tp : List TypeParam} {scope : Scope} {ts : Option Scope} {bind : Str} {pos : Pos} {args : List PV} {H : Hp} {post : PV → Hp → Prop} {d : Nat}
    (hk : Challenge.pw_pb0347_01.main.body[k]? = some (.FunctionDef name params body dec ret tp scope ts bind pos)) (hdf : params.defaults = []) (hA : Room (d + 1) A) (xs : List Str)
    (hlen : args.length = xs.length)
    (hbind : ∀ nm doc pm an cdv ct vs, vs.length = xs.length → bindArgs (fnOf nm name params body scope .none .none doc pm an cdv ct) ⟨vs, []⟩ = pure (xs.zip vs))
    (hloc : ∀ x ∈ xs, scope.names.lookup x = some .local) (hnd : xs.Nodup)
    (hbody : ∀ A' L cd, Room d A' → H L = none → Ex G A' L (envOf name scope L (P.fa k) cd) body (xs.zip args) H (KFn post))
    (hcell : ∀ x ∈ scope.names, x.2 ≠ .cell := by decide) (hco : scope.isCoroutine = false := by rfl) (hgen : scope.isGenerator = false := by rfl) (hk2 : scope.kind = .function := by rfl) : FnW G A (P.fa k) args H post :=
  fn_intro (P.fn hk hdf) hA xs hlen (fun _ _ _ _ _ _ _ _ _ hv => BindsTo.of_eq (hbind _ _ _ _ _ _ _ hv)) hloc hnd hbody hcell hco hgen hk2
end
end Mine

-- part Ins
namespace Mine
open PySem PySem.W PySem.Calls PyProof.Rows

inductive ROp where | eq | ne | lt | le | gt | ge
inductive AOp where | add | sub | mul | div | mod
inductive SOp where | union | diff | inter | sym
inductive Ins where
  | const (n : Int) | arith (op : AOp) (sp : Int) | rel (op : ROp) | neg (sp : Int) | byte (sp : Int) | dup | drop
  | jump (t : Nat) | unl (t : Nat) | whn (t : Nat) | trap (a b : Int) | ret | not | inn (sp : Int) | setrel (ge : Bool) | compl | single (sp : Int) | range (sp : Int) | setop (op : SOp)

noncomputable def ROp.s : ROp → Str
  | eq => Str.ofString "=" | ne => Str.ofString "#" | lt => Str.ofString "<" | le => Str.ofString "<=" | gt => Str.ofString ">" | ge => Str.ofString ">="
noncomputable def AOp.s : AOp → Str
  | add => Str.ofString "+" | sub => Str.ofString "-" | mul => Str.ofString "*" | div => Str.ofString "DIV" | mod => Str.ofString "MOD"
noncomputable def SOp.s : SOp → Str
  | union => Str.ofString "s+" | diff => Str.ofString "s-" | inter => Str.ofString "s*" | sym => Str.ofString "s/"
noncomputable def geS : Bool → Str
  | true => Str.ofString "s>=" | false => Str.ofString "s<="

noncomputable def Ins.parts : Ins → List PV
  | const n => [.str (Str.ofString "const"), .int n]
  | arith op sp => [.str (Str.ofString "arith"), .str op.s, .int sp]
  | rel op => [.str (Str.ofString "rel"), .str op.s, .str (Str.ofString "number")]
  | neg sp => [.str (Str.ofString "neg"), .int sp]
  | byte sp => [.str (Str.ofString "byte"), .int sp]
  | dup => [.str (Str.ofString "dup")]
  | drop => [.str (Str.ofString "drop")]
  | jump t => [.str (Str.ofString "jump"), .int t]
  | unl t => [.str (Str.ofString "unless"), .int t]
  | whn t => [.str (Str.ofString "when"), .int t]
  | trap a b => [.str (Str.ofString "trap"), .int a, .int b]
  | ret => [.str (Str.ofString "return")]
  | not => [.str (Str.ofString "not")]
  | inn sp => [.str (Str.ofString "in"), .int sp]
  | setrel ge => [.str (Str.ofString "setrel"), .str (geS ge)]
  | compl => [.str (Str.ofString "compl")]
  | single sp => [.str (Str.ofString "single"), .int sp]
  | range sp => [.str (Str.ofString "range"), .int sp]
  | setop op => [.str (Str.ofString "setop"), .str op.s]
noncomputable def Ins.enc (i : Ins) : PV := .tup i.parts
noncomputable def enco : Option Ins → PV
  | none => .none
  | some i => i.enc

noncomputable def ROp.ev : ROp → Int → Int → Bool
  | eq, a, b => a == b
  | ne, a, b => a != b
  | lt, a, b => decide (a < b)
  | le, a, b => decide (a ≤ b)
  | gt, a, b => decide (b < a)
  | ge, a, b => decide (b ≤ a)
noncomputable def b2i (b : Bool) : Int := if b = true then 1 else 0

noncomputable def fitsI (n : Int) : Bool := decide (-2147483648 ≤ n ∧ n ≤ 2147483647)
noncomputable def full : Int := 4294967295
noncomputable def SOp.fold : SOp → Int → Int → Int
  | union, a, b => Builtin.bitOr a b
  | diff, a, b => Builtin.bitAnd a (Builtin.bitXor full b)
  | inter, a, b => Builtin.bitAnd a b
  | sym, a, b => Builtin.bitXor a b
noncomputable def setRel (ge : Bool) (a b : Int) : Int :=
  let (x, y) := if ge = true then (b, a) else (a, b)
  b2i (Builtin.bitAnd x (Builtin.bitXor full y) == 0)
noncomputable def rangeMask (lo hi : Int) : Int := if hi < lo then 0 else 1 * 2 ^ (hi + 1).toNat - 1 * 2 ^ lo.toNat

noncomputable def Ins.isJump : Ins → Bool
  | jump _ | unl _ | whn _ => true
  | _ => false
noncomputable def Ins.endsWay : Ins → Bool
  | jump _ | ret | trap _ _ => true
  | _ => false
noncomputable def Ins.tgt : Ins → Nat
  | jump t | unl t | whn t => t
  | _ => 0
noncomputable def Ins.eff : Ins → Int × Int
  | const _ => (0, 1)
  | jump _ | trap _ _ => (0, 0)
  | dup => (1, 2)
  | unl _ | whn _ | drop | ret => (1, 0)
  | arith _ _ | setop _ | setrel _ | inn _ | rel _ | range _ => (2, 1)
  | neg _ | byte _ | not | compl | single _ => (1, 1)

noncomputable def foldArith (op : AOp) (x y : Int) : Option Int := match op with
  | .div => if y ≤ 0 then none else some (x.fdiv y)
  | .mod => if y ≤ 0 then none else some (x.fmod y)
  | .add => if fitsI (x + y) = true then some (x + y) else none
  | .sub => if fitsI (x - y) = true then some (x - y) else none
  | .mul => if fitsI (x * y) = true then some (x * y) else none
noncomputable def foldPair : Ins → Int → Int → Option Int
  | .arith op _, x, y => foldArith op x y
  | .rel op, x, y => some (b2i (op.ev x y))
  | .setop op, x, y => some (op.fold x y)
  | .setrel ge, x, y => some (setRel ge x y)
  | .inn _, x, y => if 0 ≤ x ∧ x ≤ 31 then some (Builtin.bitAnd (y.fdiv (2 ^ x.toNat)) 1) else none
  | .range _, x, y => if (0 ≤ x ∧ x ≤ 31) ∧ (0 ≤ y ∧ y ≤ 31) then some (rangeMask x y) else none
  | _, _, _ => none
noncomputable def foldSingle : Ins → Int → Option Int
  | .neg _, x => if fitsI (-x) = true then some (-x) else none
  | .not, x => some (if x = 0 then 1 else 0)
  | .compl, x => some (Builtin.bitXor full x)
  | .single _, x => if 0 ≤ x ∧ x ≤ 31 then some (1 * 2 ^ x.toNat) else none
  | .byte _, x => if 0 ≤ x ∧ x ≤ 255 then some x else none
  | _, _ => none
noncomputable def isCo : Option Ins → Bool
  | some (.const _) => true
  | _ => false
noncomputable def ov : Option Int → PV
  | none => .none
  | some n => .int n
noncomputable def Small (a : Int) : Prop := -(2 ^ 33) ≤ a ∧ a ≤ 2 ^ 33
theorem Small.nat {a : Int} (h : Small a) : a.natAbs < 2 ^ 40 := by
  obtain ⟨h1, h2⟩ := h
  have : (2:Int) ^ 33 = 8589934592 := by decide
  have : (2:Nat) ^ 40 = 1099511627776 := by decide
  (first | lia | omega)

end Mine

-- part Rules6
namespace Mine
open PySem PySem.W PySem.Calls PyProof.Rows

section
variable {G : Gd} {A : Around} {L : Addr} {env : Env} {m : Loc} {H : Hp} {post : PV → Loc → Hp → Prop} {fpost : PFlow → Loc → Hp → Prop} {bpost : Bool → Loc → Hp → Prop} {lpost : List PV → Loc → Hp → Prop}

theorem ext_of_fresh {h h' : Heap} (x : Heap.ExtBut h.objs.size h h') : ∀ b o, h.get? b = some o → h'.get? b = some o :=
  fun b o e => x b o (Nat.ne_of_lt (Heap.lt_size e)) e

theorem vrels_two {h : Heap} {p q : PV} {vs : List Value} (r : VRels h [p, q] vs) : ∃ v1 v2, vs = [v1, v2] ∧ VRel h p v1 ∧ VRel h q v2 := by
  cases r with
  | cons r1 r =>
    cases r with
    | cons r2 r => cases r; exact ⟨_, _, rfl, r1, r2⟩
theorem ex_pair {x y : Str} {p1 p2 tpos pos : Pos} {k : Nat} {e : Expr} (hh : A.handled = none) (h : Ev G A L env e m H fun v m1 H1 => ∃ p q, v = .tup [p, q] ∧ fpost .next (setl y q (setl x p m1)) H1)
    (hs : swapsWithSole [.Tuple [.Name x p1, .Name y p2] k tpos] e pos.line env = pure false := by rfl)
    (hw : swappedStores [.Tuple [.Name x p1, .Name y p2] k tpos] e env = pure none := by rfl)
    (hL : env.locals = L := by rfl) (hl : env.kindOf x = some .local := by rfl) (hl2 : env.kindOf y = some .local := by rfl) (hp : (env.scope.kind == .class || (env.scope.kind == .module && env.locals != env.globals)) = false := by rfl) :
    Ex1 G A L env (.Assign [.Tuple [.Name x p1, .Name y p2] k tpos] e pos) m H fpost := by
  intro s R Q E K
  refine PyProof.Rows.Assign_Tuple (h s R _ _ fun p v m1 H1 h1 t1 y1 R1 hv S1 => ?_) hs hw
  obtain ⟨p, q, rfl, hp'⟩ := y1
  cases hv with
  | @tup _ vs a n g r =>
    obtain ⟨v1, v2, rfl, r1, r2⟩ := vrels_two r
    refine PyProof.Rows.assign_Tuple_tuple hh ⟨_, g, rfl, _, rfl⟩ rfl rfl fun h' he => ?_
    have kx := ext_of_fresh he
    have R2 : Rel G L m1 H1 h' := R1.ext kx
    have S2 : Step L H1 h1 H1 h' := Step.ext kx
    have kt := tups_of_ext kx
    refine PyProof.Rows.assignInOrder_cons (t := assign (.Name x p1) env) (ts := [assign (.Name y p2) env]) ?_
    refine wpAny_assign_Name (store_local (s := { s with heap := h', toks := t1 }) R2 (r1.mono kt) (fun h3 tk3 R3 S3 => ?_) hL hl hp)
    refine PyProof.Rows.assignInOrder_cons ?_
    refine wpAny_assign_Name (store_local (s := { s with heap := h3, toks := tk3 }) R3 ((r2.mono kt).mono (R2.tups S3)) (fun h4 tk4 R4 S4 => ?_) hL hl2 hp)
    exact PyProof.Rows.assignInOrder_nil (K .next .next _ H1 h4 tk4 hp' R4 .next (S1.trans (S2.trans (S3.trans S4))))
theorem ex_pair_swap {x y : Str} {p1 p2 tpos pos : Pos} {k : Nat} {e : Expr} (hh : A.handled = none) (h : Ev G A L env e m H fun v m1 H1 => ∃ p q, v = .tup [p, q] ∧ fpost .next (setl x p (setl y q m1)) H1)
    (hs : swapsWithSole [.Tuple [.Name x p1, .Name y p2] k tpos] e pos.line env = pure false := by rfl)
    (hw : swappedStores [.Tuple [.Name x p1, .Name y p2] k tpos] e env = pure (some [x, y]) := by rfl)
    (hL : env.locals = L := by rfl) (hl : env.kindOf x = some .local := by rfl) (hl2 : env.kindOf y = some .local := by rfl) (hp : (env.scope.kind == .class || (env.scope.kind == .module && env.locals != env.globals)) = false := by rfl) :
    Ex1 G A L env (.Assign [.Tuple [.Name x p1, .Name y p2] k tpos] e pos) m H fpost := by
  intro s R Q E K
  refine PyProof.Rows.Assign_Tuple_swapped (h s R _ _ fun p v m1 H1 h1 t1 y1 R1 hv S1 => ?_) hs hw
  obtain ⟨p, q, rfl, hp'⟩ := y1
  cases hv with
  | @tup _ vs a n g r =>
    obtain ⟨v1, v2, rfl, r1, r2⟩ := vrels_two r
    refine PyProof.Rows.unpackItems_tuple (items := #[v1, v2]) hh ⟨_, g, rfl, _, rfl⟩ fun h' he => ?_
    have kx := ext_of_fresh he
    have R2 : Rel G L m1 H1 h' := R1.ext kx
    have S2 : Step L H1 h1 H1 h' := Step.ext kx
    have kt := tups_of_ext kx
    refine PyProof.Rows.assignInOrder_cons (t := fun v => bindName env y v) (ts := [fun v => bindName env x v]) (x := v2) (xs := [v1]) ?_
    refine wpAny_bindName (store_local (s := { s with heap := h', toks := t1 }) R2 (r2.mono kt) (fun h3 tk3 R3 S3 => ?_) hL hl2 hp)
    refine PyProof.Rows.assignInOrder_cons ?_
    refine wpAny_bindName (store_local (s := { s with heap := h3, toks := tk3 }) R3 ((r1.mono kt).mono (R2.tups S3)) (fun h4 tk4 R4 S4 => ?_) hL hl hp)
    exact PyProof.Rows.assignInOrder_nil (K .next .next _ H1 h4 tk4 hp' R4 .next (S1.trans (S2.trans (S3.trans S4))))

/-- a range loop -/
theorem ex_for_range {x : Str} {px rp rpos pos : Pos} {e : Expr} {body : List Stmt} (hh : A.handled = none) (hmiss : G.mg "range" = none) (J : Nat → Loc → Hp → Prop)
    (h : Ev G A L env e m H fun p m1 H1 => ∃ n : Nat, p = .int n ∧ n < 2 ^ 60 ∧ J 0 m1 H1 ∧
      (∀ i m2 H2, i < n → J i m2 H2 → Ex G A L env body (setl x (.int i) m2) H2 (Turn fpost (J (i + 1)))) ∧ (∀ m2 H2, J n m2 H2 → fpost .next m2 H2))
    (hs : ∀ v, foldedSetIterable (.Call (.Name "range" rp) [e] [] rpos) env v = pure v := by intro _; rfl)
    (hk : env.scope.kind = .function := by rfl) (hgl : env.globals = mainGlobals := by rfl) (hbl : env.builtins = builtinsNs := by rfl) (hlr : env.kindOf "range" = some .globalImplicit := by rfl) (hse : starEach [e] env = [(false, eval e env)] := by rfl)
    (hL : env.locals = L := by rfl) (hl : env.kindOf x = some .local := by rfl) (hp : (env.scope.kind == .class || (env.scope.kind == .module && env.locals != env.globals)) = false := by rfl) :
    Ex1 G A L env (.For (.Name x px) (.Call (.Name "range" rp) [e] [] rpos) body [] pos) m H fpost := by
  intro s R Q E K
  refine wpAny_For ?_ hs
  refine Call_Name1 ?_ hse
  refine Calls.Name_function_global hk hlr (Calls.loadGlobal_builtin (hgl ▸ G.g.keeps R.base) hmiss (hbl ▸ G.b.keeps R.base) ((G.builtins _ (by decide)).trans boot_range) ?_) (by decide)
  refine PySem.callWith_type1 (h s R _ _ fun p v m1 H1 h1 t1 y R1 hv S1 => ?_)
  obtain ⟨n, rfl, hn, hJ, turn, done⟩ := y
  cases hv
  refine call_range_1 (s := { s with heap := h1, toks := t1 }) ?_
  have hsz : Builtin.Range.rangeSize 0 n 1 = n := by
    rw [rangeSize_one]; split <;> (first | lia | omega)
  have hsmall : Builtin.Range.small 0 n 1 = true := small_one (by decide) (by decide) (by omega) (by have : (2:Int) ^ 60 < 2 ^ 62 := by decide
                                                                                                     (first | lia | omega))
  generalize hro : ({ cls := .type "range", data := .fields #[.int 0 t1, .int (n : Int) _, .int 1 (t1 + 1)] } : Obj) = ro
  have hrange : (h1.push ro).get? h1.objs.size = some ro := Heap.get?_push_size _ (by rw [← hro]; rfl)
  have k1 : ∀ b o, h1.get? b = some o → (h1.push ro).get? b = some o := fun _ _ e => Heap.get?_push_of_some _ e
  have Ra : Rel G L m1 H1 (h1.push ro) := R1.ext k1
  have Sa : Step L H1 h1 H1 (h1.push ro) := Step.ext k1
  refine wpAny_pyIter_range (s := { s with heap := h1.push ro, toks := t1 + 1 + 1 }) (by rw [← hro] at hrange ⊢; exact hrange) hsmall ?_
  rw [hsz]
  generalize hio : ({ cls := .type "range_iterator", data := .fields #[rawInt 0, rawInt (n : Int), rawInt 1] } : Obj) = io
  generalize hI : (h1.push ro).objs.size = I
  have hnew : (h1.push ro).get? I = none := hI ▸ get_none_size _ (Nat.le_refl _)
  have kx : ∀ b o, (h1.push ro).get? b = some o → ((h1.push ro).push io).get? b = some o := fun _ _ e => Heap.get?_push_of_some _ e
  have hitL : I ≠ L := fun z => absurd Ra.lt (by rw [hI, z]; exact Nat.lt_irrefl _)
  have hit0 : G.h₀.get? I = none := by
    cases q : G.h₀.get? I with
    | none => rfl
    | some o => rw [Ra.base _ _ q] at hnew; cases hnew
  refine codeAny_forLoop (fun k s' => ∃ i m' H' h' tk', k = n - i ∧ i ≤ n ∧ s' = { s with heap := h', toks := tk' } ∧ J i m' H' ∧ Rel G L m' H' h' ∧ Step L H1 (h1.push ro) H' h' ∧
    IsRangeIter h' I i ((n : Int) - i) 1 ∧ H' I = none) (fun k s' hI' => ?_) n
    ⟨0, m1, H1, _, t1 + 1 + 1, by simp, Nat.zero_le _, rfl, hJ, Ra.ext kx, Step.ext kx, ?_, Ra.fresh (by rw [hI]; exact Nat.le_refl _)⟩
  · obtain ⟨i, m', H', h', tk', hk', hi, rfl, hj, R', S', hit, hHit⟩ := hI'
    have htup : ∀ vs n, h'.get? I ≠ some (tupObj vs n) := fun vs n e => by
      rw [hit] at e; simp at e
    rcases Nat.lt_or_ge i n with hlt | hge
    · refine wpAny_pyNext_range_item (s := { s with heap := h', toks := tk' }) hit (by (first | lia | omega)) fun h'' hit'' hsb => ?_
      have eb := extBut_of_same hsb
      have R'' := R'.hid eb hHit hitL hit0 htup
      have S'' : Step L H1 (h1.push ro) H' h'' := S'.hid eb hnew hitL
      refine wpAny_assign_Name ?_
      refine store_local (s := { s with heap := h'', toks := tk' + 1 }) R'' (.int _ _) (fun h3 tk3 R3 S3 => ?_) hL hl hp
      refine turn i m' H' hlt hj { s with heap := h3, toks := tk3 } R3 _ _ fun f g m4 H4 h4 tk4 hp4 R4 hg S4 => ?_
      have hstep : Step L H1 (h1.push ro) H4 h4 := S''.trans (S3.trans S4)
      have hH4 : H4 I = none := by
        cases q : H4 I with
        | none => rfl
        | some p =>
          rcases (S3.trans S4).fresh _ p q with ⟨r, hr'⟩ | hn'
          · rw [hHit] at hr'; cases hr'
          · rw [hit''] at hn'; cases hn'
      have hit4 : IsRangeIter h4 I ((i + 1 : Nat) : Int) ((n : Int) - ((i + 1 : Nat) : Int)) 1 := by
        have := (S3.trans S4).keep _ _ hit'' hitL hHit
        rw [show ((i + 1 : Nat) : Int) = (i : Int) + 1 by (first | lia | omega), show (n : Int) - ((i : Int) + 1) = (n : Int) - i - 1 by (first | lia | omega)]
        exact this
      cases hg with
      | next => exact ⟨n - (i + 1), by (first | lia | omega), i + 1, m4, H4, h4, tk4, rfl, hlt, rfl, hp4, R4, hstep, hit4, hH4⟩
      | cont => exact ⟨n - (i + 1), by (first | lia | omega), i + 1, m4, H4, h4, tk4, rfl, hlt, rfl, hp4, R4, hstep, hit4, hH4⟩
      | brk => exact K .next .next m4 H4 h4 tk4 hp4 R4 .next (S1.trans (Sa.trans hstep))
      | ret r => exact K (.ret _) (.ret _) m4 H4 h4 tk4 hp4 R4 (.ret r) (S1.trans (Sa.trans hstep))
    · have hi' : i = n := Nat.le_antisymm hi hge
      subst hi'
      refine wpAny_pyNext_range_end (s := { s with heap := h', toks := tk' }) hh hit (by (first | lia | omega)) fun h'' eb => ?_
      have R'' := R'.hid eb hHit hitL hit0 htup
      have S'' : Step L H1 (h1.push ro) H' h'' := S'.hid eb hnew hitL
      exact wpAny_execs_nil (K .next .next m' H' h'' tk' (done m' H' hj) R'' .next (S1.trans (Sa.trans S'')))
  · have : ((h1.push ro).push io).get? I = some io := hI ▸ Heap.get?_push_size _ (by rw [← hio]; rfl)
    rw [← hio] at this ⊢
    simpa using this
end
end Mine

-- part Rules7
namespace Mine
open PySem PySem.W PySem.Calls PyProof.Rows

theorem upd_upd (H : Hp) (a : Addr) (x y : PObj) : upd (upd H a x) a y = upd H a y := by
  funext b; unfold upd; split <;> rfl
theorem upd_comm (H : Hp) {a b : Addr} (h : a ≠ b) (x y : PObj) : upd (upd H a x) b y = upd (upd H b y) a x := by
  funext c; unfold upd
  by_cases h1 : c = b
  · subst h1
    have : ¬ c = a := fun e => h e.symm
    simp [this]
  · simp [h1]
theorem upd_id (H : Hp) (a : Addr) (x : PObj) (h : H a = some x) : upd H a x = H := by
  funext b; unfold upd; split
  · rename_i e; rw [e, h]
  · rfl

section
variable {G : Gd} {A : Around} {L : Addr} {env : Env} {m : Loc} {H : Hp} {post : PV → Loc → Hp → Prop} {fpost : PFlow → Loc → Hp → Prop} {bpost : Bool → Loc → Hp → Prop} {lpost : List PV → Loc → Hp → Prop}
noncomputable abbrev Bo (G : Gd) (A : Around) (L : Addr) (env : Env) (pos : Pos) (es : List Expr) (m : Loc) (H : Hp) (post : PV → Loc → Hp → Prop) : Prop := W G A L VRel (boolOp pos .And (evalEach es env)) m H post
theorem ev_and {es : List Expr} {pos : Pos} (h : Bo G A L env pos es m H post) (he : eval (.BoolOp .And es pos) env = boolOp pos .And (evalEach es env) := by rfl) : Ev G A L env (.BoolOp .And es pos) m H post := by
  show W G A L VRel (eval (.BoolOp .And es pos) env) m H post
  rw [he]; exact h
theorem bo_one {e : Expr} {pos : Pos} (h : Ev G A L env e m H post) (he : evalEach [e] env = [eval e env] := by rfl) : Bo G A L env pos [e] m H post := by
  show W G A L VRel (boolOp pos .And (evalEach [e] env)) m H post
  rw [he]; exact h
@[reducible] noncomputable def KBo2 (G : Gd) (A : Around) (L : Addr) (env : Env) (pos : Pos) (es : List Expr) (post : PV → Loc → Hp → Prop) (p : PV) (z : Bool) (m : Loc) (H : Hp) : Prop := if z = true then Bo G A L env pos es m H post else post p m H
@[reducible] noncomputable def KBo1 (G : Gd) (A : Around) (L : Addr) (env : Env) (pos : Pos) (es : List Expr) (post : PV → Loc → Hp → Prop) (p : PV) (m : Loc) (H : Hp) : Prop := ∃ z, TrueOk G A p z ∧ KBo2 G A L env pos es post p z m H
theorem bo_cons {e e2 : Expr} {es : List Expr} {pos : Pos} (h : Ev G A L env e m H (KBo1 G A L env pos (e2 :: es) post))
    (he : boolOp pos .And (evalEach (e :: e2 :: es) env) = (do
      let v ← eval e env
      standAt pos
      let t ← holding [v] (truthy v)
      match BoolOp.And, t with
      | .And, false | .Or, true => pure v
      | _, _ => boolOp pos .And (evalEach (e2 :: es) env)) := by rfl) : Bo G A L env pos (e :: e2 :: es) m H post := by
  show W G A L VRel (boolOp pos .And (evalEach (e :: e2 :: es) env)) m H post
  rw [he]
  intro s R Q E K
  refine wpAny_bind (h s R _ _ fun p v m1 H1 h1 t1 x R1 hv S1 => ?_)
  obtain ⟨z, hz, hp⟩ := x
  refine wpAny_bind (wpAny_standAt (wpAny_bind (wpAny_holding (hz _ v hv _ _ fun tk => ?_))))
  cases z with
  | false => exact wpAny_pure (K p v m1 H1 h1 tk hp R1 hv S1)
  | true => exact hp { s with heap := h1, toks := tk } R1 _ _ fun b c m2 H2 h2 t2 y R2 hc S2 => K b c m2 H2 h2 t2 y R2 hc (S1.trans S2)
end

noncomputable def Ins.name : Ins → Str
  | const _ => Str.ofString "const" | arith _ _ => Str.ofString "arith" | rel _ => Str.ofString "rel" | neg _ => Str.ofString "neg" | byte _ => Str.ofString "byte" | dup => Str.ofString "dup" | drop => Str.ofString "drop"
  | jump _ => Str.ofString "jump" | unl _ => Str.ofString "unless" | whn _ => Str.ofString "when" | trap _ _ => Str.ofString "trap" | ret => Str.ofString "return" | not => Str.ofString "not" | inn _ => Str.ofString "in" | setrel _ => Str.ofString "setrel"
  | compl => Str.ofString "compl" | single _ => Str.ofString "single" | range _ => Str.ofString "range" | setop _ => Str.ofString "setop"
theorem get_name {G : Gd} {A : Around} {H : Hp} (i : Ins) : GetOk G A H i.enc (.int 0) (.str i.name) := by
  cases i <;> exact get_tup (j := 0) (by decide) (by decide) rfl rfl
theorem get_tgt {G : Gd} {A : Around} {H : Hp} {i : Ins} (h : i.isJump = true) : GetOk G A H i.enc (.int 1) (.int i.tgt) := by
  cases i <;> first | exact get_tup (j := 1) (by decide) (by decide) rfl rfl | cases h
theorem get_row {G : Gd} {A : Around} {H : Hp} {a : Addr} {c : List PV} {i : Nat} {x : PV} (ha : H a = some (.list c)) (hx : c[i]? = some x) (hi : i < 2 ^ 60) : GetOk G A H (.ref a) (.int i) x :=
  get_list ha (Int.natCast_nonneg i) (by have : (2:Int) ^ 60 < 2 ^ 63 := by decide
                                         (first | lia | omega)) (by simpa using hx)
end Mine

-- part Rules8
namespace Mine
open PySem PySem.W PySem.Calls PyProof.Rows

noncomputable def Has (m l : Loc) : Prop := ∀ q ∈ l, lk m q.1 = some q.2
theorem has_nil {m : Loc} : Has m [] := fun _ h => nomatch h
theorem has_cons {m l : Loc} {x : Str} {p : PV} (h : lk m x = some p) (r : Has m l) : Has m ((x, p) :: l) := fun q hq => by
  rcases List.mem_cons.mp hq with rfl | hq
  · exact h
  · exact r q hq
theorem lk_mem : ∀ {l : Loc} {x : Str} {p : PV}, lk l x = some p → (x, p) ∈ l
  | (y, v) :: r, x, p, e => by
    simp only [lk] at e
    split at e
    · rename_i h; cases e; subst h; exact List.mem_cons_self
    · exact List.mem_cons_of_mem _ (lk_mem e)
theorem Has.sub {m l : Loc} (h : Has m l) : ∀ x p, lk l x = some p → lk m x = some p := fun _ _ e => h _ (lk_mem e)
theorem Has.setl {m l : Loc} (h : Has m l) (x : Str) (v : PV) : ∀ y p, lk (setl x v l) y = some p → lk (setl x v m) y = some p := fun y p e => by
  rw [lk_setl] at e ⊢
  split at e
  · rename_i hy; rw [if_pos hy]; exact e
  · rename_i hy; rw [if_neg hy]; exact h.sub _ _ e

section
variable {G : Gd} {A : Around} {L : Addr} {env : Env} {m : Loc} {H : Hp}
theorem w_has {α β : Type} {rel : Heap → α → β → Prop} {t : Sem β} {P : α → Loc → Hp → Prop} {l : Loc} (h : Has m l) (k : W G A L rel t l H P) : W G A L rel t m H P :=
  W.less h.sub (fun _ _ e => e) k
theorem w_hasS {α β : Type} {rel : Heap → α → β → Prop} {t : Sem β} {P : α → Loc → Hp → Prop} {l : Loc} {x : Str} {v : PV} (h : Has m l) (k : W G A L rel t (setl x v l) H P) : W G A L rel t (setl x v m) H P :=
  W.less (h.setl x v) (fun _ _ e => e) k
end

theorem ilook_istore {K : Type} [DecidableEq K] (l : List (K × PV)) (k j : K) (v : PV) : ilook (istore l k v) j = if j = k then some v else ilook l j := by
  unfold istore
  split
  · rename_i h
    induction l with
    | nil => simp at h
    | cons q r ih =>
      obtain ⟨a, p⟩ := q
      simp only [List.map_cons, ilook, List.find?_cons]
      by_cases ha : a = k
      · subst ha
        simp only [if_true]
        by_cases hj : j = a
        · subst hj; simp
        · have h1 : ¬ a = j := fun e => hj e.symm
          simp only [h1, decide_false, hj, if_false]
          by_cases hany : r.any fun kv => decide (kv.1 = a)
          · have := ih hany
            simp only [ilook, hj, if_false] at this
            exact this
          · have e1 : (r.map fun kv => if kv.1 = a then (kv.1, v) else kv) = r := by
              conv => rhs; rw [← List.map_id r]
              refine List.map_congr_left fun q hq => ?_
              have : ¬ q.1 = a := fun e => hany (List.any_eq_true.mpr ⟨q, hq, by simpa using e⟩)
              simp [this]
            rw [e1]
      · simp only [ha, if_false]
        have hany : (r.any fun kv => decide (kv.1 = k)) = true := by simpa [ha] using h
        have := ih hany
        by_cases haj : a = j
        · subst haj; simp [ha]
        · simp only [haj, decide_false]
          simpa [ilook] using this
  · rename_i h
    simp only [ilook, List.find?_append]
    by_cases hj : j = k
    · subst hj
      have : (l.find? fun kv => decide (kv.1 = j)) = none := by
        rw [List.find?_eq_none]
        intro x hx hx'
        exact h (List.any_eq_true.mpr ⟨x, hx, hx'⟩)
      simp [this]
    · have h1 : ¬ k = j := fun e => hj e.symm
      simp [hj, h1]
theorem istore_len {K : Type} [DecidableEq K] (l : List (K × PV)) (k : K) (v : PV) : (istore l k v).length ≤ l.length + 1 := by
  unfold istore; split <;> simp
end Mine

-- part Rules9
namespace Mine
open PySem PySem.W PySem.Calls PyProof.Rows

theorem get_rowK {G : Gd} {A : Around} {H : Hp} {a : Addr} {c : List PV} {i : Nat} {k : Int} {x : PV} (ha : H a = some (.list c)) (hk : k = i) (hx : c[i]? = some x) (hi : i < 2 ^ 60) : GetOk G A H (.ref a) (.int k) x := by
  subst hk; exact get_row ha hx hi
section
variable {α : Type} {P : List α} {a b c v : α} {r : List α} {n : Nat}
theorem at0 (h : P.length = n) : (P ++ a :: r)[n]? = some a := by subst h; simp
theorem at1 (h : P.length = n) : (P ++ a :: b :: r)[n + 1]? = some b := by subst h; simp
theorem at2 (h : P.length = n) : (P ++ a :: b :: c :: r)[n + 2]? = some c := by subst h; simp
theorem set0 (h : P.length = n) : (P ++ a :: r).set n v = P ++ v :: r := by subst h; simp
theorem set1 (h : P.length = n) : (P ++ a :: b :: r).set (n + 1) v = P ++ a :: v :: r := by subst h; simp
theorem set2 (h : P.length = n) : (P ++ a :: b :: c :: r).set (n + 2) v = P ++ a :: b :: v :: r := by subst h; simp
end

section
variable {G : Gd} {A : Around} {L : Addr} {env : Env} {m : Loc} {H : Hp} {fpost : PFlow → Loc → Hp → Prop}
/-- a store into a list at a place that is known -/
theorem ex_setat {o i e : Expr} {p' pos : Pos} (h : Ev G A L env e m H fun v m1 H1 => Ev G A L env o m1 H1 fun ov m2 H2 => Ev G A L env i m2 H2 fun iv m3 H3 =>
      ∃ a xs k, ∃ j : Nat, ov = .ref a ∧ iv = .int k ∧ k = j ∧ H3 a = some (.list xs) ∧ j < xs.length ∧ j < 2 ^ 60 ∧ fpost .next m3 (upd H3 a (.list (xs.set j v))))
    (hs : swapsWith e (some (o.Subscript i p')) pos.line env = pure false := by rfl) : Ex1 G A L env (.Assign [.Subscript o i p'] e pos) m H fpost := by
  refine ex_setlist (h.mono fun v m1 H1 h1 => h1.mono fun ov m2 H2 h2 => h2.mono fun iv m3 H3 h3 => ?_) hs
  obtain ⟨a, xs, k, j, e1, e2, e3, ha, hj, hb, hp⟩ := h3
  subst e3
  have : (2:Int) ^ 60 < 2 ^ 63 := by decide
  exact ⟨a, xs, j, e1, e2, ha, Int.natCast_nonneg j, by (first | lia | omega), by (first | lia | omega), by simpa using hp⟩
end

noncomputable def Ins.retarget (f : Nat → Nat) : Ins → Ins
  | .jump t => .jump (f t)
  | .unl t => .unl (f t)
  | .whn t => .whn (f t)
  | i => i
theorem enc_retarget {i : Ins} (f : Nat → Nat) (h : i.isJump = true) : (i.retarget f).enc = .tup [.str i.name, .int (f i.tgt)] := by
  cases i <;> first | rfl | cases h
theorem retarget_of_not {i : Ins} (f : Nat → Nat) (h : i.isJump = false) : i.retarget f = i := by
  cases i <;> first | rfl | cases h
noncomputable def cnt (l : List (Option Ins)) : Nat := (l.filter Option.isSome).length
noncomputable def place (l : List (Option Ins)) (t : Nat) : Nat := cnt (l.take t)
noncomputable def compactW (f : Nat → Nat) (l : List (Option Ins)) : List Ins := l.filterMap fun o => o.map (Ins.retarget f)
noncomputable def compactF (l : List (Option Ins)) : List Ins := compactW (place l) l
theorem compactW_snoc_none (f : Nat → Nat) (l : List (Option Ins)) : compactW f (l ++ [none]) = compactW f l := by simp [compactW]
theorem compactW_snoc_some (f : Nat → Nat) (l : List (Option Ins)) (i : Ins) : compactW f (l ++ [some i]) = compactW f l ++ [i.retarget f] := by simp [compactW]
theorem cnt_snoc_none (l : List (Option Ins)) : cnt (l ++ [none]) = cnt l := by simp [cnt]
theorem cnt_snoc_some (l : List (Option Ins)) (i : Ins) : cnt (l ++ [some i]) = cnt l + 1 := by simp [cnt]
theorem take_snoc {α : Type} {l : List α} {i : Nat} {x : α} (h : l[i]? = some x) : l.take (i + 1) = l.take i ++ [x] := by
  rw [List.take_add_one, h]; rfl
theorem compactW_len (f : Nat → Nat) (l : List (Option Ins)) : (compactW f l).length ≤ l.length := List.length_filterMap_le _ _
theorem compactF_len (l : List (Option Ins)) : (compactF l).length ≤ l.length := compactW_len _ _

noncomputable def Led (c : List Ins) (l : List (Int × PV)) : Prop := l.length ≤ c.length ∧ ∀ k : Int, (ilook l k).isSome = c.any fun i => i.isJump && decide ((i.tgt : Int) = k)
end Mine

-- part Rules10
namespace Mine
open PySem PySem.W PySem.Calls PyProof.Rows

noncomputable def testMade (i : Ins) (x : Int) : Option Nat := match i with
  | .unl t => if x = 0 then some t else none
  | .whn t => if x = 0 then none else some t
  | _ => none
noncomputable def foldPairs (e2 : Bool) (x : Int) : Ins → List Ins → Option (List (Option Ins))
  | .const y, c :: rest => if e2 = true then none else (match foldPair c x y with
    | some v => some (none :: none :: some (.const v) :: rest.map some)
    | none => none)
  | _, _ => none
noncomputable def foldElse (e2 : Bool) (x : Int) (b : Ins) (rest : List Ins) : Option (List (Option Ins)) := match foldSingle b x with
  | some v => some (none :: some (.const v) :: rest.map some)
  | none => foldPairs e2 x b rest
/-- one fold at the head of what is left; e1, e2: is the next row, the one behind it led to -/
noncomputable def foldHead (e1 e2 : Bool) : List Ins → Option (List (Option Ins))
  | .const x :: b :: rest => if e1 = true then none else match b with
    | .drop => some (none :: none :: rest.map some)
    | .unl t => some (none :: (testMade (.unl t) x).map Ins.jump :: rest.map some)
    | .whn t => some (none :: (testMade (.whn t) x).map Ins.jump :: rest.map some)
    | b => foldElse e2 x b rest
  | _ => none
noncomputable def SmallC (c : List Ins) : Prop := ∀ n, Ins.const n ∈ c → Small n
noncomputable def isOne : Ins → Bool
  | .neg _ | .byte _ | .single _ | .not | .compl => true
  | _ => false
noncomputable def isTwo : Ins → Bool
  | .arith _ _ | .rel _ | .setop _ | .setrel _ | .inn _ | .range _ => true
  | _ => false
end Mine

-- part Rules11
namespace Mine
open PySem PySem.W PySem.Calls PyProof.Rows

mutual
inductive DRel (H : Hp) : PV → PyData → Prop
  | none : DRel H .none .none
  | bool (b : Bool) : DRel H (.bool b) (.bool b)
  | int (i : Int) : DRel H (.int i) (.int i)
  | str (x : Str) : DRel H (.str x) (.str x)
  | tup {l : List PV} {ds : List PyData} : DRels H l ds → DRel H (.tup l) (.tuple ds)
  | list {a : Addr} {l : List PV} {ds : List PyData} : H a = some (.list l) → DRels H l ds → DRel H (.ref a) (.list ds)
inductive DRels (H : Hp) : List PV → List PyData → Prop
  | nil : DRels H [] []
  | cons {p : PV} {d : PyData} {l : List PV} {ds : List PyData} : DRel H p d → DRels H l ds → DRels H (p :: l) (d :: ds)
end
section
variable {G : Gd} {H : Hp} {h : Heap}
theorem DRel.reads (R : RelH G H h) {p : PV} {d : PyData} (x : DRel H p d) : ∀ {v : Value}, VRel h p v → ∃ as, Reads h v d as := by
  refine fun {v} => @DRel.rec H (fun p d _ => ∀ v, VRel h p v → ∃ as, Reads h v d as) (fun p d _ => ∀ v, VRels h p v → ∃ as, ReadsAll h v d as)
    (fun _ hv => ?_) (fun b _ hv => ?_) (fun i _ hv => ?_) (fun x _ hv => ?_) (fun _ ih _ hv => ?_) (fun {a _ _} ha _ ih _ hv => ?_) (fun _ hv => ?_) (fun _ _ i1 i2 _ hv => ?_) p d x v
  · cases hv; exact ⟨_, Reads.none⟩
  · cases hv; exact ⟨_, Reads.bool b⟩
  · cases hv with | int _ t => exact ⟨_, Reads.int i t⟩
  · cases hv with | str _ t => exact ⟨_, Reads.str x t⟩
  · cases hv with
    | tup g r =>
    obtain ⟨as, z⟩ := ih _ r
    exact ⟨as, reads_tuple_at g rfl rfl (by simpa using z)⟩
  · cases hv
    obtain ⟨vs, n, h1, h2⟩ := R.objs a _ ha
    obtain ⟨as, z⟩ := ih _ h2
    exact ⟨_, reads_list_at h1 rfl rfl (by simpa using z)⟩
  · cases hv; exact ⟨_, ReadsAll.nil⟩
  · cases hv with
    | cons b t =>
    obtain ⟨as, x⟩ := i1 _ b
    obtain ⟨bs, y⟩ := i2 _ t
    exact ⟨_, ReadsAll.cons x y⟩
end
section
variable {G : Gd} {A : Around} {H : Hp} {p q : PV} {d e : PyData}
theorem cmp_eq_data (dp : DRel H p d) (dq : DRel H q e) (hd : PySem.SeqAt.shaped d = true) (he : PySem.SeqAt.shaped e = true) (hu : A.units + 64 < cLine) : CmpOk G A H .Eq p q (PyData.eqv d e) := by
  intro s v u R hv hu' Q E K
  obtain ⟨as, x⟩ := dp.reads R hv
  obtain ⟨bs, y⟩ := dq.reads R hu'
  exact eq_dataH x y hd he hu (K s.toks)
theorem cmp_ne_data (dp : DRel H p d) (dq : DRel H q e) (hd : PySem.SeqAt.shaped d = true) (he : PySem.SeqAt.shaped e = true) (hu : A.units + 64 < cLine) : CmpOk G A H .NotEq p q (!PyData.eqv d e) := by
  intro s v u R hv hu' Q E K
  obtain ⟨as, x⟩ := dp.reads R hv
  obtain ⟨bs, y⟩ := dq.reads R hu'
  exact ne_dataH x y hd he hu (K s.toks)
end

/-- rows as data -/
noncomputable def partD : PV → PyData
  | .int i => .int i
  | .str x => .str x
  | _ => .none
noncomputable def Ins.dat (i : Ins) : PyData := .tuple (i.parts.map partD)
theorem parts_drel {H : Hp} (i : Ins) : DRels H i.parts (i.parts.map partD) := by
  cases i <;> simp only [Ins.parts, List.map_cons, List.map_nil, partD] <;> repeat (first | exact .nil | refine .cons (by first | exact .str _ | exact .int _) ?_)
theorem enc_drel {H : Hp} (i : Ins) : DRel H i.enc i.dat := .tup (parts_drel i)
theorem encs_drel {H : Hp} : ∀ c : List Ins, DRels H (c.map Ins.enc) (c.map Ins.dat)
  | [] => .nil
  | i :: c => .cons (enc_drel i) (encs_drel c)
theorem strOk_ofString : ∀ x ∈ ["const", "arith", "rel", "neg", "byte", "dup", "drop", "jump", "unless", "when", "trap", "return", "not", "in", "setrel", "compl", "single", "range", "setop", "=", "#", "<", "<=", ">", ">=", "+", "-", "*", "DIV", "MOD", "s+", "s-", "s*", "s/", "s>=", "s<=", "number", "value", "endless"], PyData.strOk (Str.ofString x) = true := by decide +kernel
theorem dat_can (i : Ins) : i.dat.canLay0 = true ∧ i.dat.depth ≤ 1 := by
  have ok := strOk_ofString
  cases i <;> simp only [Ins.dat, Ins.parts, List.map_cons, List.map_nil, partD, PyData.canLay0, PyData.canLayAll0, PyData.depth, PyData.depthAll, Bool.and_true, Bool.and_eq_true, AOp.s, ROp.s, SOp.s, geS]
  all_goals (refine ⟨?_, by decide⟩)
  all_goals (repeat' (first | refine ⟨?_, ?_⟩ | exact ok _ (by decide) | (split <;> exact ok _ (by decide))))
theorem dats_can : ∀ c : List Ins, PyData.canLayAll0 (c.map Ins.dat) = true ∧ PyData.depthAll (c.map Ins.dat) ≤ 1
  | [] => by simp [PyData.canLayAll0, PyData.depthAll]
  | i :: c => by
    have h1 := dat_can i
    have h2 := dats_can c
    simp only [List.map_cons, PyData.canLayAll0, PyData.depthAll, h1.1, h2.1, Bool.and_self, true_and]
    have := h1.2; have := h2.2; (first | lia | omega)
noncomputable def codeD (c : List Ins) : PyData := .list (c.map Ins.dat)
theorem codeD_shaped (c : List Ins) : PySem.SeqAt.shaped (codeD c) = true := by
  have := dats_can c
  simp only [SeqAt.shaped, codeD, PyData.canLay0, PyData.depth, this.1, Bool.true_and, decide_eq_true_eq]
  have := this.2; (first | lia | omega)
theorem eqv_same {d : PyData} (h : SeqAt.shaped d = true) : PyData.eqv d d = true := by
  simp only [SeqAt.shaped, Bool.and_eq_true] at h
  exact SeqAt.eqv_refl d h.1
end Mine

-- part Rules12
namespace Mine
open PySem PySem.W PySem.Calls PyProof.Rows

/-- the frame of a comprehension is let go -/
theorem comp_leave {G : Gd} {L C D : Addr} {m1 mC : Loc} {H1 : Hp} {h1 h3 h4 : Heap} {acc : List Value} {l : List PV} {mm : Str → Option Value} (R1 : Rel G L m1 H1 h1) (hC : h1.objs.size ≤ C) (hD : h1.objs.size ≤ D) (hCD : D ≠ C)
    (R3 : Rel G C mC H1 h3) (S3 : Step C H1 h1 H1 h3) (hD3 : Heap.PlainList h3 D (List.toArray acc)) (hacc : VRels h3 l acc) (hs4 : Heap.SameBut C h3 h4) (hns3 : h3.Ns C mm) :
    Rel G L m1 (upd H1 D (.list l)) h4 ∧ Step L H1 h1 (upd H1 D (.list l)) h4 := by
  have fr : ∀ b : Nat, h1.objs.size ≤ b → h1.get? b = none ∧ H1 b = none := fun b hb => ⟨get_none_size h1 hb, R1.fresh hb⟩
  have fr0 : ∀ b : Nat, h1.objs.size ≤ b → G.h₀.get? b = none := fun b hb => by
    cases q : G.h₀.get? b with
    | none => rfl
    | some o => have z := (fr b hb).1; rw [R1.base _ _ q] at z; cases z
  have hC1 := (fr C hC).1
  have eb4 := extBut_of_same hs4
  have kt4 : TupKept h3 h4 := fun b vs n e => eb4 b _ (fun z => ns_noTup hns3 (z ▸ e)) e
  have SH : StepH H1 h1 H1 h4 := ⟨fun b o e hn => eb4 b o (fun z => by rw [z, hC1] at e; cases e) (S3.keep b o e (fun z => by rw [z, hC1] at e; cases e) hn), fun b p e => .inl ⟨_, e⟩⟩
  have RH : RelH G H1 h4 := by
    refine ⟨fun b o e => eb4 b o (fun z => by rw [z, fr0 C hC] at e; cases e) (R3.base b o e), fun b p e => ?_, R3.new⟩
    have z := R3.objs b p e
    obtain ⟨o, ho, _⟩ := z.there
    have hb : b ≠ C := fun z => by rw [z, (fr C hC).2] at e; cases e
    exact z.mono kt4 ((eb4 b o hb ho).trans ho.symm)
  have R4 : Rel G L m1 H1 h4 := R1.after RH SH
  obtain ⟨n', hD4⟩ := hD3.extBut eb4 hCD
  have S14 : Step L H1 h1 H1 h4 := SH.step R1
  have hacc4 := hacc.mono kt4
  have HL : L ≠ D := fun z => Nat.lt_irrefl _ (Nat.lt_of_lt_of_le (z ▸ R1.lt) hD)
  refine ⟨⟨⟨RH.base, fun b p e => ?_, fun b p e => ?_⟩, R4.ns, ?_, R4.newL⟩, S14.keep, fun b p e => ?_, S14.there⟩
  · unfold upd at e
    split at e
    · rename_i hb; subst hb; cases e; exact ⟨acc, n', hD4, hacc4⟩
    · exact RH.objs b p e
  · unfold upd at e
    split at e
    · rename_i hb; subst hb; exact ⟨fr0 b hD, (R1.toRelH.newAt hD).2⟩
    · exact RH.new b p e
  · rw [upd_ne HL]; exact R4.notL
  · unfold upd at e
    split at e
    · rename_i hb; subst hb; exact .inr (fr b hD).1
    · exact .inl ⟨_, e⟩
section
variable {G : Gd} {A : Around} {L : Addr} {env : Env} {m : Loc} {H : Hp} {post : PV → Loc → Hp → Prop} {fpost : PFlow → Loc → Hp → Prop} {bpost : Bool → Loc → Hp → Prop} {lpost : List PV → Loc → Hp → Prop}

theorem ev_cell {x : Str} {pos : Pos} {c : Addr} {p : PV} (hH : H c = some (.cell p)) (h : post p m H) (hc : env.cells.lookup x = some c := by rfl) (hk : env.scope.kind = .function := by rfl) (hl : env.kindOf x = some .cell := by rfl) (hd : (x == ("__debug__" : Str)) = false := by decide) :
    Ev G A L env (.Name x pos) m H post := by
  intro s R Q E K
  obtain ⟨o, v, ho, hdt, hv⟩ := R.objs c _ hH
  exact wpAny_Name (wpAny_loadName_cell hk hl hc ⟨o, ho, hdt⟩ (K p v m H s.heap s.toks h R hv (Step.refl ..))) hd

theorem neA {a b : Nat} (h : a ≠ b) : @Ne Addr a b := h
theorem ev_listcomp {elt iter : Expr} {x : Str} {px pos : Pos} {scope : Scope} {cl : List (Str × Addr)} (f : Nat → PV)
    (h : Ev G A L env iter m H fun p m1 H1 => ∃ a xs, p = .ref a ∧ H1 a = some (.list xs) ∧ xs.length ≤ sizeLine ∧
      (∀ i y C, xs[i]? = some y → H1 C = none → Ev G A C (compEnvC scope cl C env) elt [(x, y)] H1 fun q _ H' => q = f i ∧ ∀ a p, H1 a = some p → H' a = some p) ∧
      ∀ b, H1 b = none → post (.ref b) m1 (upd H1 b (.list ((List.range xs.length).map f))))
    (hh : A.handled = none)
    (hs : ∀ v, foldedSetIterable iter env v = pure v := by intro _; rfl)
    (hclos : closureFor scope env = pure cl := by rfl) (hcell : ∀ y ∈ scope.names, y.2 ≠ .cell := by decide) (hkind : scope.kind = .function := by rfl)
    (hnames : ∀ y ∈ scope.names, y.2 = .local → scope.names.lookup y.1 = some .local := by decide) (hx : scope.names.lookup x = some .local := by rfl) :
    Ev G A L env (.ListComp elt [⟨.Name x px, iter, [], 0⟩] scope pos) m H post := by
  intro s R Q E K
  rw [eval_ListComp]
  refine wpAny_comprehension_free (use := none) rfl hs hclos hkind hnames (h s R _ _ fun p v m1 H1 h1 t1 y R1 hv S1 => ?_)
  obtain ⟨a, xs, rfl, ha, hz, turn, done⟩ := y
  cases hv
  obtain ⟨vs, hlist, hvs⟩ := (R1.objs a _ ha).isList
  refine wpAny_pyIter_list (s := { s with heap := h1, toks := t1 }) hlist ?_
  refine wpAny_newObj_type (wpAny_newFunctionEnv hcell (by intro y hy; simp at hy) (fun h2 hns2 hsb2 => ?_) hkind)
  dsimp only at hns2 hsb2 ⊢
  generalize hI : h1.objs.size = I at hns2 hsb2 ⊢
  generalize hit : ({ cls := .type "list_iterator", data := .fields #[.ref a, .int 0 0] } : Obj) = itO at hns2 hsb2 ⊢
  generalize hD : (h1.push itO).objs.size = D at hns2 hsb2 ⊢
  generalize hlo : ({ cls := .type "list", dict := none, data := .seq ([] : List Value).toArray } : Obj) = lO at hns2 hsb2 ⊢
  generalize hC : ((h1.push itO).push lO).objs.size = C at hns2 hsb2 ⊢
  have eD : D = I + 1 := by rw [← hD, Heap.size_push, hI]
  have eC : C = I + 2 := by rw [← hC, Heap.size_push, hD, eD]
  have fr : ∀ b : Nat, I ≤ b → h1.get? b = none ∧ H1 b = none := fun b hb => ⟨get_none_size h1 (hI ▸ hb), R1.fresh (hI ▸ hb)⟩
  have fr0 : ∀ b : Nat, I ≤ b → G.h₀.get? b = none := fun b hb => by
    cases q : G.h₀.get? b with
    | none => rfl
    | some o => have z := (fr b hb).1; rw [R1.base _ _ q] at z; cases z
  have k2 : ∀ b o, h1.get? b = some o → h2.get? b = some o := fun b o e => by
    have : (b : Nat) < I := hI ▸ Heap.lt_size e
    exact hsb2.extBut b o (neA (a := b) (b := C) (by rw [eC]; exact Nat.ne_of_lt (Nat.lt_of_lt_of_le this (Nat.le_add_right _ _)))) (Heap.get?_push_of_some _ (Heap.get?_push_of_some _ (Heap.get?_push_of_some _ e)))
  have hit2 : Heap.IsListIter h2 I a 0 := ⟨itO, hsb2.extBut _ _ (neA (by (first | lia | omega))) (Heap.get?_push_of_some _ (Heap.get?_push_of_some _ (by rw [← hI]; exact Heap.get?_push_size _ (by rw [← hit]; rfl)))), by rw [← hit], by rw [← hit]; rfl⟩
  have hD2 : Heap.PlainList h2 D #[] := ⟨_, hsb2.extBut _ _ (neA (by (first | lia | omega))) (Heap.get?_push_of_some _ (by rw [← hD, ← hlo]; exact Heap.get?_push_size _ rfl))⟩
  have R2 : Rel G C [] H1 h2 := ⟨R1.toRelH.ext k2, ⟨_, hns2, fun x p e => by simp [lk] at e⟩, (fr C (by (first | lia | omega))).2, fr0 C (by (first | lia | omega))⟩
  have S2 : Step C H1 h1 H1 h2 := Step.ext k2
  have hC1 := (fr C (by (first | lia | omega))).1
  have loop : ∀ s3 : Shared, s3 = { s with heap := h2, toks := t1 + ([] : List (Str × Value)).length } →
      codeAny G.M A (.compLoop (.ListComp elt [⟨.Name x px, iter, [], 0⟩] scope pos) 0 (.ref I) (.ref D) (compEnvC scope cl C env)) (compPost G.M A E none Q (.ref D) C) s3 := by
    rintro s3 rfl
    refine codeAny_compLoop_tests (fun n s' => ∃ i mC h' tk' acc, n = xs.length - i ∧ i ≤ xs.length ∧ s' = { s with heap := h', toks := tk' } ∧ Rel G C mC H1 h' ∧ Step C H1 h1 H1 h' ∧
      Heap.IsListIter h' I a i ∧ Heap.PlainList h' D (List.toArray acc) ∧ VRels h' ((List.range i).map f) acc) (fun n s' hI' => ?_) xs.length ⟨0, [], h2, _, [], by simp, Nat.zero_le _, rfl, R2, S2, hit2, hD2, .nil⟩
    obtain ⟨i, mC, h', tk', acc, hn, hi, rfl, R', S', hit', hD', hacc⟩ := hI'
    have tupI : ∀ vs n, h'.get? I ≠ some (tupObj vs n) := fun vs n e => by
      obtain ⟨o, ho, hc, hd⟩ := hit'
      rw [ho] at e; cases e; cases hd
    obtain ⟨vs', hlist', hvs'⟩ := (R'.objs a _ ha).isList
    rcases Nat.lt_or_ge i xs.length with hlt | hge
    · obtain ⟨y, hy⟩ : ∃ y, xs[i]? = some y := ⟨_, List.getElem?_eq_getElem hlt⟩
      obtain ⟨v, hv, hr⟩ := hvs'.get hy
      refine wpAny_pyNext_list_item (s := { s with heap := h', toks := tk' }) hit' hlist' (by simpa using hv) fun h3 hit3 hsb => ?_
      have eb := extBut_of_same hsb
      have R3 := R'.hid eb (fr I (by (first | lia | omega))).2 (neA (by (first | lia | omega))) (fr0 I (by (first | lia | omega))) tupI
      have S3 : Step C H1 h1 H1 h3 := S'.hid eb (fr I (by (first | lia | omega))).1 (neA (by (first | lia | omega)))
      have kt : TupKept h' h3 := fun b vs n e => eb b _ (fun z => tupI vs n (z ▸ e)) e
      refine wpAny_assign_Name ?_
      refine store_local (env := compEnvC scope cl C env) (s := { s with heap := h3, toks := tk' }) R3 (hr.mono kt) (fun h4 tk4 R4 S4 => ?_) rfl (lookup_relabel_local hx) (by simp [compEnvC, relabel, hkind])
      refine wpAny_tests_nil ?_
      simp only [if_true]
      have tn := turn i y C hy (fr C (by (first | lia | omega))).2
      have R4' : Rel G C [(x, y)] H1 h4 := R4.less (fun z p e => by
        simp only [lk] at e
        rw [lk_setl]
        split at e
        · rename_i hz; rw [if_pos hz.symm]; exact e
        · cases e) (fun _ _ e => e)
      refine tn { s with heap := h4, toks := tk4 } R4' _ _ fun q u m5 H5 h5 tk5 hp5 R5 hu S5 => ?_
      obtain ⟨rfl, hsub⟩ := hp5
      have R5' : Rel G C m5 H1 h5 := R5.less (fun _ _ e => e) hsub
      have S5' : Step C H1 h4 H1 h5 := S5.less hsub
      have S45 : Step C H1 h3 H1 h5 := S4.trans S5'
      have S15 : Step C H1 h1 H1 h5 := S3.trans S45
      have hD5 : Heap.PlainList h5 D (List.toArray acc) := (hD'.extBut eb (neA (by (first | lia | omega)))).at fun o e => S45.keep D o e (neA (by (first | lia | omega))) (fr D (by (first | lia | omega))).2
      have hit5 : Heap.IsListIter h5 I a (i + 1) := by
        obtain ⟨o, ho, r⟩ := hit3
        exact ⟨o, S45.keep I o ho (neA (by (first | lia | omega))) (fr I (by (first | lia | omega))).2, r⟩
      have hacc5 : VRels h5 ((List.range i).map f) acc := (hacc.mono kt).mono (R3.tups S45)
      refine wpAny_list_append_plain (s := { s with heap := h5, toks := tk5 }) hD5 (fun h6 hD6 hs6 => ?_) (by have := hacc.length; simp at this; simp [this]; (first | lia | omega))
      have eb6 := extBut_of_same hs6
      have tupD : ∀ vs n, h5.get? D ≠ some (tupObj vs n) := fun vs n e => by
        obtain ⟨n', ho⟩ := hD5
        rw [ho] at e; simp at e
      have kt6 : TupKept h5 h6 := fun b vs n e => eb6 b _ (fun z => tupD vs n (z ▸ e)) e
      refine ⟨xs.length - (i + 1), by (first | lia | omega), i + 1, m5, h6, tk5, acc ++ [u], rfl, hlt, rfl, R5'.hid eb6 (fr D (by (first | lia | omega))).2 (neA (by (first | lia | omega))) (fr0 D (by (first | lia | omega))) tupD, S15.hid eb6 (fr D (by (first | lia | omega))).1 (neA (by (first | lia | omega))), ?_, by simpa using hD6, ?_⟩
      · obtain ⟨o, ho, r⟩ := hit5
        exact ⟨o, eb6 I o (neA (by (first | lia | omega))) ho, r⟩
      · rw [List.range_succ, List.map_append]
        exact (hacc5.mono kt6).snoc (hu.mono kt6)
    · have hi' : i = xs.length := Nat.le_antisymm hi hge
      subst hi'
      refine wpAny_pyNext_list_end (s := { s with heap := h', toks := tk' }) hh hit' hlist' (by simp [hvs'.length]) fun h3 eb => ?_
      have R3 := R'.hid eb (fr I (by (first | lia | omega))).2 (neA (by (first | lia | omega))) (fr0 I (by (first | lia | omega))) tupI
      have S3 : Step C H1 h1 H1 h3 := S'.hid eb (fr I (by (first | lia | omega))).1 (neA (by (first | lia | omega)))
      have kt : TupKept h' h3 := fun b vs n e => eb b _ (fun z => tupI vs n (z ▸ e)) e
      have hD3 : Heap.PlainList h3 D (List.toArray acc) := hD'.extBut eb (neA (by (first | lia | omega)))
      obtain ⟨mm, hns3, _⟩ := R3.ns
      refine ⟨mm, hns3, fun h4 hs4 => ?_⟩
      obtain ⟨R5, S15⟩ := comp_leave (l := (List.range xs.length).map f) R1 (by rw [hI]; (first | lia | omega)) (by rw [hI]; (first | lia | omega)) (neA (by (first | lia | omega))) R3 S3 hD3 (hacc.mono kt) hs4 hns3
      exact K (.ref D) (.ref D) m1 _ h4 tk' (done D (fr D (by (first | lia | omega))).2) R5 (.ref _) (S1.trans S15)
  refine codeAny_compStart_list (loop _ rfl) (wpAny_pyIter_listiter hit2 (loop _ rfl))
end

/-- a def whose one parameter is a cell -/
theorem fn_introC {G : Gd} {A : Around} {f : Addr} {qual : Str} {params : Arguments} {body : List Stmt} {scope : Scope} {arg : PV} {H : Hp} {post : PV → Hp → Prop} {d : Nat} {dV kV : Value} (F : FnAt G f qual params body scope dV kV) (hA : Room (d + 1) A) (x : Str)
    (hbind : ∀ nm doc pm an cdv ct v, bindArgs (fnOf nm qual params body scope dV kV doc pm an cdv ct) ⟨[v], []⟩ = pure [(x, v)])
    (hloc : scope.names.lookup x = some .cell) (hcells : ∀ n, cellsFrom n scope.names [] = [(x, n)])
    (hbody : ∀ A' L cd, Room d A' → H L = none → H (L + 1) = none → Ex G A' L (newEnv scope L mainGlobals [(x, L + 1)] (qual ++ ".<locals>.") (some f) cd none builtinsNs) body [] (upd H (L + 1) (.cell arg)) (KFn post))
    (hco : scope.isCoroutine = false := by rfl) (hgen : scope.isGenerator = false := by rfl) (hk : scope.kind = .function := by rfl) : FnW G A f [arg] H post := by
  intro s vs R hv Q E K
  obtain ⟨name, doc, pm, an, cdv, ct, o, ho, hd, hcd⟩ := F.at_
  cases hv with
  | @cons _ v _ _ hv0 hn0 =>
  cases hn0
  refine wpAny_call ?_
  have hlk : ∀ L : Addr, (cellsFrom (L + 1) scope.names []).lookup x = some (L + 1) := fun L => by rw [hcells]; simp [List.lookup]
  refine codeAny_call_cells (fd := fnOf name qual params body scope dV kV doc pm an cdv ct) (body := body) (binds := [(x, v)]) hA.limit (R.base _ _ ho) hd (G.nolimit.keeps R.base) (hcd.keeps R.base) rfl
    (hbind _ _ _ _ _ _ _) rfl (fun y hy => ?_) (fun s1 x1 => ?_) hco hgen hk
  · rw [List.mem_singleton] at hy; subst hy
    exact .inr ⟨hloc, by rw [hlk]; rfl⟩
  have hfr : ∀ b, s.heap.objs.size ≤ b → H b = none := fun b hb => R.fresh hb
  obtain ⟨h1, tk1, rfl⟩ := x1.toInCall.same
  have hk1 := x1.toInCall.keep
  generalize hL : s.heap.objs.size = L at x1 hfr ⊢
  have hE : callEnvC (fnOf name qual params body scope dV kV doc pm an cdv ct) L f = newEnv scope L mainGlobals [(x, L + 1)] (qual ++ ".<locals>.") (some f) cdv none builtinsNs := by
    show newEnv scope L mainGlobals (cellsFrom (L + 1) scope.names []) _ _ _ _ _ = _
    rw [hcells]
  rw [hE] at x1 ⊢
  have hn : ∀ b, L ≤ b → s.heap.get? b = none := fun b hb => get_none_size _ (hL ▸ hb)
  have h0 : ∀ b, L ≤ b → G.h₀.get? b = none := fun b hb => by
    cases q : G.h₀.get? b with
    | none => rfl
    | some o => have := R.base _ _ q; rw [hn b hb] at this; cases this
  obtain ⟨oc, hoc, hdc⟩ := x1.cell x (L + 1) (by simp [newEnv, List.lookup])
  have hkx : Env.kindOf (newEnv scope L mainGlobals [(x, L + 1)] (qual ++ ".<locals>.") (some f) cdv none builtinsNs) x = some .cell := hloc
  have hdc' : oc.data = .cell (some v) := by
    rw [hdc]; simp [bindC, hkx]
  have R1 : Rel G L [] (upd H (L + 1) (.cell arg)) h1 := by
    refine ⟨⟨fun b o e => hk1 b o (R.base b o e), fun b p e => ?_, fun b p e => ?_⟩, ⟨_, x1.toInCall.ns, fun x p e => by simp [lk] at e⟩, ?_, h0 L (Nat.le_refl _)⟩
    · unfold upd at e
      split at e
      · rename_i hb; subst hb; cases e; exact ⟨oc, v, hoc, hdc', hv0.mono (tups_of_ext hk1)⟩
      · exact (R.ext hk1).objs b p e
    · unfold upd at e
      split at e
      · rename_i hb; subst hb; exact ⟨h0 _ (Nat.le_succ _), (R.newAt (by (first | lia | omega))).2⟩
      · exact R.new b p e
    · rw [upd_ne (Nat.ne_of_lt (Nat.lt_succ_self _))]; exact hfr L (Nat.le_refl _)
  refine hbody _ L cdv (hA.deeper _) (hfr _ (Nat.le_refl _)) (hfr _ (Nat.le_succ _)) { s with heap := h1, toks := tk1 } R1 _ _ fun fl fl' m' H' h' tk' hp R' hr S' => ?_
  have S : StepH H s.heap H' h' := by
    refine ⟨fun a o e hn' => S'.keep a o (hk1 _ _ e) (fun z => ?_) ?_, fun a p e => ?_⟩
    · rw [z, hn L (Nat.le_refl _)] at e; cases e
    · have : a ≠ L + 1 := fun z => by rw [z, hn _ (Nat.le_succ _)] at e; cases e
      rw [upd_ne this]; exact hn'
    · rcases S'.fresh a p e with ⟨q, hq⟩ | hq
      · unfold upd at hq
        split at hq
        · rename_i hb; subst hb; exact .inr (hn _ (Nat.le_succ _))
        · exact .inl ⟨q, hq⟩
      · refine .inr ?_
        cases q : s.heap.get? a with
        | none => rfl
        | some o => have := hk1 _ _ q; rw [hq] at this; cases this
  cases hr with
  | ret hv' => exact K _ _ H' h' tk' hp R'.toRelH hv' S
  | next => exact K .none _ H' h' tk' hp R'.toRelH .none S
  | brk => exact K .none _ H' h' tk' hp R'.toRelH .none S
  | cont => exact K .none _ H' h' tk' hp R'.toRelH .none S
end Mine

-- part Rules13
namespace Mine
open PySem PySem.W PySem.Calls PyProof.Rows

noncomputable def Sub (H H' : Hp) : Prop := ∀ a p, H a = some p → H' a = some p
theorem Sub.refl (H : Hp) : Sub H H := fun _ _ e => e
theorem Sub.trans {H H' H'' : Hp} (a : Sub H H') (b : Sub H' H'') : Sub H H'' := fun x p e => b x p (a x p e)
theorem Sub.upd {H H' : Hp} (h : Sub H H') (a : Addr) (x : PObj) : Sub (upd H a x) (upd H' a x) := fun b p e => by
  unfold Mine.upd at e ⊢
  split at e
  · rename_i z; rw [if_pos z]; exact e
  · rename_i z; rw [if_neg z]; exact h b p e
theorem Sub.new {H H' : Hp} (h : Sub H H') {a : Addr} (ha : H a = none) (x : PObj) : Sub H (Mine.upd H' a x) := fun b p e => by
  have : b ≠ a := fun z => by rw [z, ha] at e; cases e
  rw [upd_ne this]; exact h b p e
theorem FnW.drop {G : Gd} {A : Around} {f : Addr} {args : List PV} {H : Hp} {post : PV → Hp → Prop} (h : FnW G A f args H fun v H' => ∃ H'', Sub H'' H' ∧ post v H'') : FnW G A f args H post := by
  intro s vs R hv Q E K
  refine h s vs R hv Q E fun p v H' h' tk' x R' hr S => ?_
  obtain ⟨H'', hs, hp⟩ := x
  exact K p v H'' h' tk' hp ⟨R'.base, fun a p e => R'.objs a p (hs a p e), fun a p e => R'.new a p (hs a p e)⟩ hr ⟨S.keep, fun a p e => S.fresh a p (hs a p e)⟩
noncomputable def ledTo (c : List Ins) (k : Nat) : Bool := c.any fun i => i.isJump && decide (i.tgt = k)
theorem led_nat {c : List Ins} {l : List (Int × PV)} (h : Led c l) {k : Int} (n : Nat) (hk : k = n) : (ilook l k).isSome = ledTo c n := by
  subst hk
  rw [h.2]
  unfold ledTo
  congr 1
  funext i
  congr 1
  simp only [decide_eq_decide]
  (first | lia | omega)
noncomputable def stepK : List (Option Ins) → Nat
  | _ :: none :: _ :: _ => 3
  | _ => 2
theorem stepK_pos (l : List (Option Ins)) : 2 ≤ stepK l := by unfold stepK; split <;> (first | lia | omega)
noncomputable def foldRunF (led : Nat → Bool) : Nat → Nat → List Ins → List (Option Ins)
  | 0, _, _ => []
  | _ + 1, _, [] => []
  | k + 1, n, i :: rest => match foldHead (led (n + 1)) (led (n + 2)) (i :: rest) with
    | some l => l.take (stepK l) ++ foldRunF led k (n + stepK l) ((i :: rest).drop (stepK l))
    | none => some i :: foldRunF led k (n + 1) rest
theorem foldRunF_fuel (led : Nat → Bool) : ∀ (k k' n : Nat) (suf : List Ins), suf.length ≤ k → suf.length ≤ k' → foldRunF led k n suf = foldRunF led k' n suf := by
  intro k
  induction k with
  | zero =>
    intro k' n suf h h'
    cases suf with
    | nil => cases k' <;> rfl
    | cons i rest => simp at h
  | succ k ih =>
    intro k' n suf h h'
    cases suf with
    | nil => cases k' <;> rfl
    | cons i rest =>
      cases k' with
      | zero => simp at h'
      | succ k' =>
        have h1 : rest.length ≤ k := by simpa using h
        have h2 : rest.length ≤ k' := by simpa using h'
        simp only [foldRunF]
        cases foldHead (led (n + 1)) (led (n + 2)) (i :: rest) with
        | none => dsimp only; rw [ih k' _ _ h1 h2]
        | some l =>
          dsimp only
          have hk := stepK_pos l
          have h3 : ((i :: rest).drop (stepK l)).length ≤ rest.length := by rw [List.length_drop, List.length_cons]; (first | lia | omega)
          rw [ih k' _ _ (Nat.le_trans h3 h1) (Nat.le_trans h3 h2)]
theorem foldRunF_eq (led : Nat → Bool) (k n : Nat) (suf : List Ins) (h : suf.length ≤ k) : foldRunF led k n suf = foldRunF led suf.length n suf := foldRunF_fuel led k _ n suf h (Nat.le_refl _)
noncomputable def foldRun (led : Nat → Bool) (n : Nat) (suf : List Ins) : List (Option Ins) := foldRunF led suf.length n suf
theorem foldRun_nil (led : Nat → Bool) (n : Nat) : foldRun led n [] = [] := rfl
theorem foldRun_cons (led : Nat → Bool) (n : Nat) (i : Ins) (rest : List Ins) : foldRun led n (i :: rest) = match foldHead (led (n + 1)) (led (n + 2)) (i :: rest) with
    | some l => l.take (stepK l) ++ foldRun led (n + stepK l) ((i :: rest).drop (stepK l))
    | none => some i :: foldRun led (n + 1) rest := by
  unfold foldRun
  rw [List.length_cons, foldRunF]
  cases foldHead (led (n + 1)) (led (n + 2)) (i :: rest) with
  | none => rfl
  | some l =>
    have hk := stepK_pos l
    exact congrArg (l.take (stepK l) ++ ·) (foldRunF_eq led rest.length _ _ (by rw [List.length_drop, List.length_cons]; (first | lia | omega)))
noncomputable def foldF (c : List Ins) : List Ins := compactF (foldRun (ledTo c) 0 c)

/-- what a fold leaves behind -/
theorem foldHead_spec {e1 e2 : Bool} {suf : List Ins} {l : List (Option Ins)} (h : foldHead e1 e2 suf = some l) : 2 ≤ l.length ∧ l.length = suf.length ∧ l = l.take (stepK l) ++ (suf.drop (stepK l)).map some := by
  unfold foldHead at h
  split at h
  · rename_i x b rest
    split at h
    · cases h
    · split at h
      · cases h; exact ⟨by simp, by simp, by cases rest <;> simp [stepK]⟩
      · rename_i t; cases h; exact ⟨by simp, by simp, by cases testMade (.unl t) x <;> cases rest <;> simp [stepK]⟩
      · rename_i t; cases h; exact ⟨by simp, by simp, by cases testMade (.whn t) x <;> cases rest <;> simp [stepK]⟩
      · unfold foldElse at h
        split at h
        · cases h; exact ⟨by simp, by simp, by simp [stepK]⟩
        · unfold foldPairs at h
          split at h
          · split at h
            · cases h
            · split at h
              · cases h; exact ⟨by simp, by simp, by simp [stepK]⟩
              · cases h
          · cases h
  · cases h
/-- the last target of a chain of forward jumps -/
noncomputable def Fwd (c : List Ins) : Prop := ∀ (i : Nat) (ins : Ins), c[i]? = some ins → ins.isJump = true → i < ins.tgt ∧ ins.tgt < c.length
noncomputable def lastTF (c : List Ins) : Nat → Nat → Nat
  | 0, i => i
  | k + 1, i => match c[i]? with
    | some (.jump t) => if i < t ∧ i < c.length then lastTF c k t else i
    | _ => i
noncomputable def lastT (c : List Ins) (i : Nat) : Nat := lastTF c c.length i
theorem lastTF_jump {c : List Ins} {k i t : Nat} (h : c[i]? = some (.jump t)) (hf : Fwd c) : lastTF c (k + 1) i = lastTF c k t := by
  have hi : i < c.length := (List.getElem?_eq_some_iff.mp h).1
  have := hf i _ h rfl
  simp only [lastTF, h]
  rw [if_pos ⟨this.1, hi⟩]
theorem lastTF_stop {c : List Ins} {k i : Nat} (hb : ∀ t, c[i]? ≠ some (.jump t)) : lastTF c k i = i := by
  cases k with
  | zero => rfl
  | succ k =>
    rw [lastTF.eq_2]
    split
    · rename_i t h; exact absurd h (hb t)
    · rfl
theorem lastTF_fuel {c : List Ins} (hf : Fwd c) : ∀ (k k' i : Nat), c.length - i ≤ k → c.length - i ≤ k' → lastTF c k i = lastTF c k' i := by
  intro k
  induction k with
  | zero =>
    intro k' i h h'
    rw [lastTF_stop (fun t e => by have := (List.getElem?_eq_some_iff.mp e).1; (first | lia | omega)), lastTF_stop (fun t e => by have := (List.getElem?_eq_some_iff.mp e).1; (first | lia | omega))]
  | succ k ih =>
    intro k' i h h'
    by_cases hj : ∃ t, c[i]? = some (.jump t)
    · obtain ⟨t, ht⟩ := hj
      have hi : i < c.length := (List.getElem?_eq_some_iff.mp ht).1
      have hft := hf i _ ht rfl
      simp only [Ins.tgt] at hft
      cases k' with
      | zero => (first | lia | omega)
      | succ k' =>
        rw [lastTF_jump ht hf, lastTF_jump ht hf]
        exact ih k' t (by (first | lia | omega)) (by (first | lia | omega))
    · have hb : ∀ t, c[i]? ≠ some (.jump t) := fun t e => hj ⟨t, e⟩
      rw [lastTF_stop hb, lastTF_stop hb]
theorem lastT_jump {c : List Ins} {i t : Nat} (h : c[i]? = some (.jump t)) (hf : Fwd c) : lastT c i = lastT c t := by
  have hi : i < c.length := (List.getElem?_eq_some_iff.mp h).1
  have hft := hf i _ h rfl
  simp only [Ins.tgt] at hft
  unfold lastT
  rw [lastTF_fuel hf c.length (c.length + 1) i (by (first | lia | omega)) (by (first | lia | omega)), lastTF_jump h hf]
theorem lastT_stop {c : List Ins} {i : Nat} {b : Ins} (h : c[i]? = some b) (hb : ∀ t, b ≠ .jump t) : lastT c i = i :=
  lastTF_stop fun t e => hb t (by rw [h] at e; exact Option.some.inj e)
noncomputable def threadF (c : List Ins) : List Ins := c.map fun i => if i.isJump = true then i.retarget (fun _ => lastT c i.tgt) else i
end Mine

-- part Rules14
namespace Mine
open PySem PySem.W PySem.Calls PyProof.Rows

theorem Rel.adopt {G : Gd} {L : Addr} {m : Loc} {H : Hp} {h : Heap} {D : Addr} {p : PObj} (R : Rel G L m H h) (hL : D ≠ L) (h0 : G.h₀.get? D = none) (hs : D ≠ sysModules) (ho : ORel G h D p) : Rel G L m (upd H D p) h := by
  refine ⟨⟨R.base, fun b q e => ?_, fun b q e => ?_⟩, R.ns, ?_, R.newL⟩
  · unfold upd at e
    split at e
    · rename_i z; subst z; cases e; exact ho
    · exact R.objs b q e
  · unfold upd at e
    split at e
    · rename_i z; subst z; exact ⟨h0, hs⟩
    · exact R.new b q e
  · rw [upd_ne (Ne.symm hL)]; exact R.notL
theorem Step.adopt {L : Addr} {H H' : Hp} {h h' : Heap} {D : Addr} {p : PObj} (S : Step L H h H' h') (hn : h.get? D = none) : Step L H h (upd H' D p) h' :=
  ⟨S.keep, fun b q e => by
    unfold upd at e
    split at e
    · rename_i z; subst z; exact .inr hn
    · exact S.fresh b q e, S.there⟩

section
variable {G : Gd} {A : Around} {L : Addr} {env : Env} {m : Loc} {H : Hp} {post : PV → Loc → Hp → Prop}

noncomputable def PRel (h : Heap) (ps : List (PV × PV)) (vs : List (Value × Value)) : Prop := VRels h (ps.map (·.1)) (vs.map (·.1)) ∧ VRels h (ps.map (·.2)) (vs.map (·.2))
noncomputable abbrev Prs (G : Gd) (A : Around) (L : Addr) (env : Env) (pos : Pos) (ks : List (Option Expr)) (vs : List Expr) (m : Loc) (H : Hp) (post : List (PV × PV) → Loc → Hp → Prop) : Prop :=
  W G A L PRel (evalPairs (pairTrees ks vs env pos)) m H post
variable {lpost : List (PV × PV) → Loc → Hp → Prop}
theorem prs_nil {pos : Pos} (h : lpost [] m H) : Prs G A L env pos [] [] m H lpost :=
  fun s R Q E K => pairTrees_nil_walk (K [] [] m H s.heap s.toks h R ⟨.nil, .nil⟩ (Step.refl ..))
@[reducible] noncomputable def KPrs3 (lpost : List (PV × PV) → Loc → Hp → Prop) (k v : PV) (r : List (PV × PV)) (m : Loc) (H : Hp) : Prop := lpost ((k, v) :: r) m H
@[reducible] noncomputable def KPrs2 (G : Gd) (A : Around) (L : Addr) (env : Env) (pos : Pos) (ks : List (Option Expr)) (vs : List Expr) (lpost : List (PV × PV) → Loc → Hp → Prop) (k v : PV) (m : Loc) (H : Hp) : Prop := Prs G A L env pos ks vs m H (KPrs3 lpost k v)
@[reducible] noncomputable def KPrs1 (G : Gd) (A : Around) (L : Addr) (env : Env) (pos : Pos) (ks : List (Option Expr)) (ve : Expr) (vs : List Expr) (lpost : List (PV × PV) → Loc → Hp → Prop) (k : PV) (m : Loc) (H : Hp) : Prop := Ev G A L env ve m H (KPrs2 G A L env pos ks vs lpost k)
theorem prs_cons {pos : Pos} {k v : Expr} {ks : List (Option Expr)} {vs : List Expr} (h : Ev G A L env k m H (KPrs1 G A L env pos ks v vs lpost)) :
    Prs G A L env pos (some k :: ks) (v :: vs) m H lpost := by
  intro s R Q E K
  refine pairTrees_cons_walk (h s R _ _ fun kp kv m1 H1 h1 t1 x R1 hk S1 => ?_)
  refine x _ R1 _ _ fun vp vv m2 H2 h2 t2 y R2 hv S2 => ?_
  refine y _ R2 _ _ fun r rs m3 H3 h3 t3 z R3 hr S3 => ?_
  have k2 := R1.tups S2
  have k3 := R2.tups S3
  exact K ((kp, vp) :: r) ((kv, vv) :: rs) m3 H3 h3 t3 z R3 ⟨.cons ((hk.mono k2).mono k3) hr.1, .cons (hv.mono k3) hr.2⟩ (S1.trans (S2.trans S3))

theorem carries_gen {prog : Program} {w : World} {h : Heap} {K : Type} [DecidableEq K] {knd : PySem.KeyKind prog w K} {mk : K → PV} (hk : ∀ k kv, VRel h (mk k) kv → knd.is k kv = true) :
    ∀ {kps : List (K × PV)} {vs : List (Value × Value)}, PRel h (kps.map fun q => (mk q.1, q.2)) vs → ∃ kvs, Carries knd vs kvs ∧ KVRel h kps kvs := by
  intro kps
  induction kps with
  | nil =>
    intro vs x
    cases vs with
    | nil => exact ⟨[], trivial, trivial⟩
    | cons v vs => exact nomatch x.1
  | cons q l ih =>
    intro vs x
    obtain ⟨x, y⟩ := x
    cases vs with
    | nil => cases x
    | cons v r =>
      simp only [List.map_cons] at x y
      cases x with | cons a b =>
      cases y with | cons c d =>
      obtain ⟨kvs, h1, h2⟩ := ih ⟨b, d⟩
      exact ⟨(q.1, v.2) :: kvs, ⟨hk _ _ a, rfl, h1⟩, rfl, c, h2⟩
theorem carries_str {prog : Program} {w : World} {h : Heap} {kps : List (Str × PV)} {vs : List (Value × Value)} (x : PRel h (kps.map fun q => (.str q.1, q.2)) vs) : ∃ kvs, Carries (PySem.strKind prog w) vs kvs ∧ KVRel h kps kvs :=
  carries_gen (mk := .str) (fun _ _ hv => by cases hv; exact strKind_is _ _ _ _) x
theorem carries_int {prog : Program} {w : World} {h : Heap} {kps : List (Int × PV)} {vs : List (Value × Value)} (x : PRel h (kps.map fun q => (.int q.1, q.2)) vs) : ∃ kvs, Carries (intKind prog w) vs kvs ∧ KVRel h kps kvs :=
  carries_gen (mk := .int) (fun _ _ hv => by cases hv; exact intKind_is _ _ _ _) x
theorem kvrel_merged {K : Type} [DecidableEq K] {h : Heap} {kps l : List (K × PV)} {kvs r : List (K × Value)} (x : KVRel h l r) (y : KVRel h kps kvs) : KVRel h (kps.foldl (fun l q => istore l q.1 q.2) l) (merged r kvs) :=
  y.ind (P := fun (kps : List (K × PV)) (kvs : List (K × Value)) => ∀ (l : List (K × PV)) (r : List (K × Value)), KVRel h l r → KVRel h (kps.foldl (fun (l : List (K × PV)) (q : K × PV) => istore l q.1 q.2) l) (merged r kvs)) (fun _ _ x => x) (fun {k _ _ _ _} hv _ ih _ _ x => ih _ _ (x.store (k := k) hv)) l r x

theorem ev_dict_gen {keys : List (Option Expr)} {values : List Expr} {pos : Pos} {K : Type} [DecidableEq K] (knd : PySem.KeyKind G.prog G.w K) (mk : K → PV) (ob : List (K × PV) → PObj)
    (hob : ∀ h a l kvs, h.DictOf knd a kvs → KVRel h l kvs → ORel G h a (ob l))
    (hca : ∀ {h : Heap} {kps : List (K × PV)} {vs : List (Value × Value)}, PRel h (kps.map fun q => (mk q.1, q.2)) vs → ∃ kvs, Carries knd vs kvs ∧ KVRel h kps kvs)
    (h : Prs G A L env pos keys values m H fun ps m1 H1 => ∃ kps : List (K × PV), ps = kps.map (fun q => (mk q.1, q.2)) ∧ ∀ d, H1 d = none → post (.ref d) m1 (upd H1 d (ob (kps.foldl (fun l q => istore l q.1 q.2) []))))
    (hall : keys.all (·.isSome) = true) (hl : keys.length = values.length) (h0 : keys ≠ []) (hlen : keys.length ≤ 15) : Ev G A L env (.Dict keys values pos) m H post := by
  intro s R Q E K
  have hD := R.fresh (Nat.le_refl s.heap.objs.size)
  have hnew := R.toRelH.newAt (Nat.le_refl s.heap.objs.size)
  have hDL : s.heap.objs.size ≠ L := fun z => absurd R.lt (by rw [z]; exact Nat.lt_irrefl _)
  have h00 : G.h₀.get? s.heap.objs.size = none := by
    cases q : G.h₀.get? s.heap.objs.size with
    | none => rfl
    | some o => have := R.base _ _ q; rw [hnew.1] at this; cases this
  refine wpAny_Dict_walk (knd := knd) hall hl h0 hlen (h _ (R.push _) _ _ fun ps vs m1 H1 h1 t1 x R1 hr S1 => ?_)
  obtain ⟨kps, rfl, x⟩ := x
  obtain ⟨kvs, hc, hk⟩ := hca hr
  have hDo : (s.heap.push { cls := .type "dict", data := .dict #[] }).get? s.heap.objs.size = some { cls := .type "dict", data := .dict #[] } := Heap.get?_push_size _ rfl
  have hD1 := S1.keep _ _ hDo hDL hD
  have hH1 : H1 s.heap.objs.size = none := by
    cases q : H1 s.heap.objs.size with
    | none => rfl
    | some p =>
      rcases S1.fresh _ p q with ⟨r, hr⟩ | hn
      · rw [hD] at hr; cases hr
      · rw [hDo] at hn; cases hn
  have hdict : h1.DictOf knd s.heap.objs.size [] := dictOf_same (Heap.DictOf.new _) (hD1.trans hDo.symm)
  refine ⟨kvs, hc, hdict, fun h' hd' hsb => ?_⟩
  have eb := extBut_of_same hsb
  have tupD : ∀ vs n, h1.get? s.heap.objs.size ≠ some (tupObj vs n) := fun vs n e => by rw [hD1] at e; simp at e
  have kt : TupKept h1 h' := fun b vs n e => eb b _ (fun z => tupD vs n (z ▸ e)) e
  have R2 := R1.hid eb hH1 hDL h00 tupD
  have S01 : Step L H s.heap H1 h1 := (Step.push _).trans S1
  have S2 := S01.hid eb hnew.1 hDL
  exact K (.ref _) _ m1 _ h' _ (x _ hH1) (R2.adopt hDL h00 hnew.2 (hob _ _ _ _ hd' (kvrel_merged (l := []) (r := []) trivial (hk.mono kt)))) (.ref _) (S2.adopt hnew.1)
theorem ev_dictS {keys : List (Option Expr)} {values : List Expr} {pos : Pos}
    (h : Prs G A L env pos keys values m H fun ps m1 H1 => ∃ kps : List (Str × PV), ps = kps.map (fun q => (.str q.1, q.2)) ∧ ∀ d, H1 d = none → post (.ref d) m1 (upd H1 d (.sdict (kps.foldl (fun l q => istore l q.1 q.2) []))))
    (hall : keys.all (·.isSome) = true := by rfl) (hl : keys.length = values.length := by rfl) (h0 : keys ≠ [] := by simp) (hlen : keys.length ≤ 15 := by decide) : Ev G A L env (.Dict keys values pos) m H post :=
  ev_dict_gen (PySem.strKind G.prog G.w) .str .sdict (fun _ _ _ _ a b => ⟨_, a, b⟩) carries_str h hall hl h0 hlen
theorem ev_dictI {keys : List (Option Expr)} {values : List Expr} {pos : Pos}
    (h : Prs G A L env pos keys values m H fun ps m1 H1 => ∃ kps : List (Int × PV), ps = kps.map (fun q => (.int q.1, q.2)) ∧ ∀ d, H1 d = none → post (.ref d) m1 (upd H1 d (.idict (kps.foldl (fun l q => istore l q.1 q.2) []))))
    (hall : keys.all (·.isSome) = true := by rfl) (hl : keys.length = values.length := by rfl) (h0 : keys ≠ [] := by simp) (hlen : keys.length ≤ 15 := by decide) : Ev G A L env (.Dict keys values pos) m H post :=
  ev_dict_gen (intKind G.prog G.w) .int .idict (fun _ _ _ _ a b => ⟨_, a, b⟩) carries_int h hall hl h0 hlen

theorem ev_sorted0 {p pos : Pos} {e : Expr} (hmiss : G.mg "sorted" = none)
    (h : Ev G A L env e m H fun p m1 H1 => ∃ a, p = .ref a ∧ H1 a = some (.list []) ∧ ∀ b, H1 b = none → post (.ref b) m1 (upd H1 b (.list [])))
    (hk : env.scope.kind = .function := by rfl) (hgl : env.globals = mainGlobals := by rfl) (hbl : env.builtins = builtinsNs := by rfl) (hl : env.kindOf "sorted" = some .globalImplicit := by rfl) (hs : starEach [e] env = [(false, eval e env)] := by rfl) :
    Ev G A L env (.Call (.Name "sorted" p) [e] [] pos) m H post := by
  refine ev_builtin1 hmiss boot_sorted (.inl ⟨_, rfl⟩) (h.mono fun p m1 H1 y => ?_) (by decide) hk hgl hbl hl (by decide) hs
  intro s v R hv Q E K
  obtain ⟨a, rfl, ha, hp⟩ := y
  cases hv
  obtain ⟨vs, hl, hvs⟩ := (R.objs a _ ha).isList
  cases hvs
  refine sorted_ints (vs := []) (ns := []) hl .nil (by decide) fun out ns' h1 h2 h3 => ?_
  have hns : ns' = [] := by simpa using h2
  subst hns
  have hout : out.toList = [] := by generalize out.toList = o at h1; cases h1; rfl
  obtain ⟨n, hn⟩ := sortedAll_at s.heap [] out
  have k : ∀ b o, s.heap.get? b = some o → (sortedAll s.heap [] out).get? b = some o := fun _ _ e => sortedAll_old e
  have e2 : out = List.toArray [] := by rw [← hout]
  exact K (.ref (s.heap.objs.size + 1)) _ m1 (upd H1 (s.heap.objs.size + 1) (.list [])) _ s.toks (hp _ (R.fresh (Nat.le_succ _)))
    (R.alloc _ _ k (Nat.le_succ _) ⟨[], n, by rw [← e2]; exact hn, .nil⟩) (.ref _) (Step.alloc _ _ k (Nat.le_succ _))
end
end Mine

-- part Rules15
namespace Mine
open PySem PySem.W PySem.Calls PyProof.Rows

set_option genInjectivity false in
structure ProgO (G : Gd) where
  opt : Addr
  dT : Addr
  dv : Value
  n : Nat
  dAt : G.h₀.get? dT = some (tupObj [dv] n)
  at_ : ∀ name args body dec ret tp scope ts bind pos, Challenge.pw_pb0347_01.main.body[35]? = some (.FunctionDef name args body dec ret tp scope ts bind pos) →
    G.mg name = some (.ref opt) ∧ FnAt G opt name args body scope (.ref dT) .none
section
variable {G : Gd} (O : ProgO G)
theorem ProgO.fn {name : Str} {args : Arguments} {body : List Stmt} {dec : List Expr} {ret : Option Expr} {tp : List TypeParam} {scope : Scope} {ts : Option Scope} {bind : Str} {pos : Pos}
    (h : Challenge.pw_pb0347_01.main.body[35]? = some (.FunctionDef name args body dec ret tp scope ts bind pos)) : FnAt G O.opt name args body scope (.ref O.dT) .none := (O.at_ _ _ _ _ _ _ _ _ _ _ h).2
theorem ProgO.glob {name : Str} {args : Arguments} {body : List Stmt} {dec : List Expr} {ret : Option Expr} {tp : List TypeParam} {scope : Scope} {ts : Option Scope} {bind : Str} {pos : Pos}
    (h : Challenge.pw_pb0347_01.main.body[35]? = some (.FunctionDef name args body dec ret tp scope ts bind pos)) : G.mg name = some (.ref O.opt) := (O.at_ _ _ _ _ _ _ _ _ _ _ h).1
end
end Mine

-- part Rules16
namespace Mine
open PySem PySem.W PySem.Calls PyProof.Rows

noncomputable def LAt (G : Gd) (H : Hp) (a : Addr) (xs : List PV) : Prop := ∀ h, RelH G H h → ∃ vs, h.IsList a (List.toArray vs) ∧ VRels h xs vs
theorem lat_of {G : Gd} {H : Hp} {a : Addr} {xs : List PV} (h : H a = some (.list xs)) : LAt G H a xs := fun _ R => (R.objs a _ h).isList
section
variable {G : Gd} {A : Around} {L : Addr} {env : Env} {m : Loc} {H : Hp} {post : PV → Loc → Hp → Prop}
theorem ev_sliceTo {value upper : Expr} {p pos : Pos}
    (h : Ev G A L env value m H fun o m1 H1 => Ev G A L env upper m1 H1 fun u m2 H2 => ∃ (a : Addr) (k : Nat) (xs : List PV), o = .ref a ∧ u = .int k ∧ LAt G H2 a xs ∧ xs.length ≤ sizeLine ∧ ∀ b, H2 b = none → post (.ref b) m2 (upd H2 b (.list (xs.take k))))
    (ht : ∀ o r, letTemporaryGo value o r = pure () := by intro _ _; rfl) :
    Ev G A L env (.Subscript value (.Slice none (some upper) none p) pos) m H post := by
  intro s R Q E K
  refine wpAny_Subscript_list_slice (h s R _ _ fun o ov m1 H1 h1 t1 x R1 ho S1 => ?_) ht
  rw [evalPart_none]
  refine wpAny_pure ?_
  rw [evalPart_some]
  refine x { s with heap := h1, toks := t1 } R1 _ _ fun u uv m2 H2 h2 t2 y R2 hu S2 => ?_
  obtain ⟨a, k, xs, rfl, rfl, hl, hz, hp⟩ := y
  cases ho; cases hu
  obtain ⟨vs, hl1, hvs⟩ := hl h2 R2.toRelH
  refine ⟨a, vs.toArray, none, some (k : Int), rfl, hl1, by simpa [hvs.length] using hz, .none, .int _ _, ?_⟩
  rw [slicePick_upto']
  dsimp only
  generalize ({ cls := .type "slice", data := .fields #[.none, .int (k : Int) _, .none] } : Obj) = so
  have k1 : ∀ b o, h2.get? b = some o → ((h2.push so).push { cls := .type "list", data := .seq (vs.toArray.toList.take k).toArray }).get? b = some o := fun _ _ e => Heap.get?_push_of_some _ (Heap.get?_push_of_some _ e)
  have e : (h2.push so).objs.size = h2.objs.size + 1 := Heap.size_push ..
  refine K (.ref (h2.objs.size + 1)) _ m2 (upd H2 (h2.objs.size + 1) (.list (xs.take k))) _ t2 (hp _ (R2.fresh (Nat.le_succ _))) (R2.alloc _ _ k1 (Nat.le_succ _) ⟨vs.take k, 0, ?_, ?_⟩) (.ref _) (S1.trans (S2.trans (Step.alloc _ _ k1 (Nat.le_succ _))))
  · rw [← e]
    exact Heap.get?_push_size _ rfl
  · exact (hvs.take k).mono (tups_of_ext k1)
end
end Mine

-- part Rules17
namespace Mine
open PySem PySem.W PySem.Calls PyProof.Rows
section
variable {G : Gd} {A : Around} {L : Addr} {env : Env} {m : Loc} {H : Hp} {post : PV → Loc → Hp → Prop}
theorem ev_listcomp_range {elt e1 e2 : Expr} {x : Str} {px rp rpos pos : Pos} {scope : Scope} {cl : List (Str × Addr)} (f : Nat → PV)
    (hmiss : G.mg "range" = none)
    (h : Ev G A L env e1 m H fun p1 m0 H0 => Ev G A L env e2 m0 H0 fun p2 m1 H1 => ∃ lo hi : Int, ∃ n : Nat, p1 = .int lo ∧ p2 = .int hi ∧ n = (hi - lo).toNat ∧ -(2 ^ 60) ≤ lo ∧ lo < 2 ^ 60 ∧ -(2 ^ 60) ≤ hi ∧ hi < 2 ^ 60 ∧ n ≤ sizeLine ∧
      (∀ i C, i < n → H1 C = none → Ev G A C (compEnvC scope cl C env) elt [(x, .int (lo + i))] H1 fun q _ H' => q = f i ∧ ∀ a p, H1 a = some p → H' a = some p) ∧
      ∀ b, H1 b = none → post (.ref b) m1 (upd H1 b (.list ((List.range n).map f))))
    (hh : A.handled = none)
    (hs : ∀ v, foldedSetIterable (.Call (.Name "range" rp) [e1, e2] [] rpos) env v = pure v := by intro _; rfl)
    (hk : env.scope.kind = .function := by rfl) (hgl : env.globals = mainGlobals := by rfl) (hbl : env.builtins = builtinsNs := by rfl) (hlr : env.kindOf "range" = some .globalImplicit := by rfl) (hse : starEach [e1, e2] env = [(false, eval e1 env), (false, eval e2 env)] := by rfl)
    (hclos : closureFor scope env = pure cl := by rfl) (hcell : ∀ y ∈ scope.names, y.2 ≠ .cell := by decide) (hkind : scope.kind = .function := by rfl)
    (hnames : ∀ y ∈ scope.names, y.2 = .local → scope.names.lookup y.1 = some .local := by decide) (hx : scope.names.lookup x = some .local := by rfl) :
    Ev G A L env (.ListComp elt [⟨.Name x px, .Call (.Name "range" rp) [e1, e2] [] rpos, [], 0⟩] scope pos) m H post := by
  intro s R Q E K
  rw [eval_ListComp]
  refine wpAny_comprehension_free (use := none) rfl hs hclos hkind hnames ?_
  refine Call_Name2 ?_ hse
  refine Calls.Name_function_global hk hlr (Calls.loadGlobal_builtin (hgl ▸ G.g.keeps R.base) hmiss (hbl ▸ G.b.keeps R.base) ((G.builtins _ (by decide)).trans boot_range) ?_) (by decide)
  refine PySem.callWith_type rfl (Calls.evalArgs_plain ?_)
  refine (Calls.spliced_cons (h s R _ _ fun p1 v1 m0 H0 h0 t0 x0 R0 hv0 S0 => ?_))
  refine Calls.spliced_cons (x0 { s with heap := h0, toks := t0 } R0 _ _ fun p2 v2 m1 H1 h1 t1 y R1 hv1 S1' => ?_)
  have S1 := S0.trans S1'
  refine Calls.spliced_nil ?_
  obtain ⟨lo, hi, n, rfl, rfl, hn, hlo1, hlo2, hhi1, hhi2, hz, turn, done⟩ := y
  cases hv0; cases hv1
  have e60 : (2:Int) ^ 60 = 1152921504606846976 := by decide
  have e62 : (2:Int) ^ 62 = 4611686018427387904 := by decide
  show wpAny _ _ (call (.type "range") [.int lo _, .int hi _]) _ _ _
  refine call_range_2 ?_
  have hrs : Builtin.Range.rangeSize lo hi 1 = n := by
    rw [rangeSize_one]; split <;> (first | lia | omega)
  have hsmall : Builtin.Range.small lo hi 1 = true := small_one (by (first | lia | omega)) (by (first | lia | omega)) (by (first | lia | omega)) (by (first | lia | omega))
  dsimp only
  generalize hro : ({ cls := .type "range", data := .fields #[.int lo _, .int hi _, .int 1 _] } : Obj) = ro
  generalize hR0 : h1.objs.size = R0a
  have hrange : (h1.push ro).get? R0a = some ro := hR0 ▸ Heap.get?_push_size _ (by rw [← hro]; rfl)
  have kp : ∀ b o, h1.get? b = some o → (h1.push ro).get? b = some o := fun _ _ e => Heap.get?_push_of_some _ e
  refine wpAny_pyIter_range (a := lo) (b := hi) (c := 1) (s := { s with heap := h1.push ro, toks := _ }) (by rw [← hro] at hrange ⊢; exact hrange) hsmall ?_
  rw [hrs]
  replace R1 := R1.ext kp
  replace S1 := S1.trans (Step.ext (H := H1) kp)
  generalize h1.push ro = h1 at R1 S1 ⊢
  clear kp hrange
  refine wpAny_newObj_type (wpAny_newFunctionEnv hcell (by intro y hy; simp at hy) (fun h2 hns2 hsb2 => ?_) hkind)
  dsimp only at hns2 hsb2 ⊢
  generalize hI : h1.objs.size = I at hns2 hsb2 ⊢
  generalize hit : ({ cls := .type "range_iterator", data := .fields #[rawInt lo, rawInt (n : Int), rawInt 1] } : Obj) = itO at hns2 hsb2 ⊢
  generalize hD : (h1.push itO).objs.size = D at hns2 hsb2 ⊢
  generalize hlo : ({ cls := .type "list", dict := none, data := .seq ([] : List Value).toArray } : Obj) = lO at hns2 hsb2 ⊢
  generalize hC : ((h1.push itO).push lO).objs.size = C at hns2 hsb2 ⊢
  have eD : D = I + 1 := by rw [← hD, Heap.size_push, hI]
  have eC : C = I + 2 := by rw [← hC, Heap.size_push, hD, eD]
  have fr : ∀ b : Nat, I ≤ b → h1.get? b = none ∧ H1 b = none := fun b hb => ⟨get_none_size h1 (hI ▸ hb), R1.fresh (hI ▸ hb)⟩
  have fr0 : ∀ b : Nat, I ≤ b → G.h₀.get? b = none := fun b hb => by
    cases q : G.h₀.get? b with
    | none => rfl
    | some o => have z := (fr b hb).1; rw [R1.base _ _ q] at z; cases z
  have k2 : ∀ b o, h1.get? b = some o → h2.get? b = some o := fun b o e => by
    have : (b : Nat) < I := hI ▸ Heap.lt_size e
    exact hsb2.extBut b o (neA (a := b) (b := C) (by rw [eC]; exact Nat.ne_of_lt (Nat.lt_of_lt_of_le this (Nat.le_add_right _ _)))) (Heap.get?_push_of_some _ (Heap.get?_push_of_some _ (Heap.get?_push_of_some _ e)))
  have hit2 : IsRangeIter h2 I (lo + (0 : Nat)) ((n : Int) - (0 : Nat)) 1 := by
    have : h2.get? I = some itO := hsb2.extBut _ _ (neA (by (first | lia | omega))) (Heap.get?_push_of_some _ (Heap.get?_push_of_some _ (by rw [← hI]; exact Heap.get?_push_size _ (by rw [← hit]; rfl))))
    rw [← hit] at this
    simpa using this
  have hD2 : Heap.PlainList h2 D #[] := ⟨_, hsb2.extBut _ _ (neA (by (first | lia | omega))) (Heap.get?_push_of_some _ (by rw [← hD, ← hlo]; exact Heap.get?_push_size _ rfl))⟩
  have R2 : Rel G C [] H1 h2 := ⟨R1.toRelH.ext k2, ⟨_, hns2, fun x p e => by simp [lk] at e⟩, (fr C (by (first | lia | omega))).2, fr0 C (by (first | lia | omega))⟩
  have S2 : Step C H1 h1 H1 h2 := Step.ext k2
  have hC1 := (fr C (by (first | lia | omega))).1
  have loop : ∀ (tk0 : Nat) (s3 : Shared), s3 = { s with heap := h2, toks := tk0 } →
      codeAny G.M A (.compLoop (.ListComp elt [⟨.Name x px, .Call (.Name "range" rp) [e1, e2] [] rpos, [], 0⟩] scope pos) 0 (.ref I) (.ref D) (compEnvC scope cl C env)) (compPost G.M A E none Q (.ref D) C) s3 := by
    rintro tk0 s3 rfl
    refine codeAny_compLoop_tests (fun k s' => ∃ i mC h' tk' acc, k = n - i ∧ i ≤ n ∧ s' = { s with heap := h', toks := tk' } ∧ Rel G C mC H1 h' ∧ Step C H1 h1 H1 h' ∧
      IsRangeIter h' I (lo + (i : Nat)) ((n : Int) - (i : Nat)) 1 ∧ Heap.PlainList h' D (List.toArray acc) ∧ VRels h' ((List.range i).map f) acc) (fun k s' hI' => ?_) n ⟨0, [], h2, _, [], by simp, Nat.zero_le _, rfl, R2, S2, hit2, hD2, .nil⟩
    obtain ⟨i, mC, h', tk', acc, hkn, hi', rfl, R', S', hit', hD', hacc⟩ := hI'
    have tupI : ∀ vs n, h'.get? I ≠ some (tupObj vs n) := fun vs n e => by
      rw [hit'] at e; simp at e
    rcases Nat.lt_or_ge i n with hlt | hge
    · refine wpAny_pyNext_range_item (s := { s with heap := h', toks := tk' }) hit' (by (first | lia | omega)) fun h3 hit3 hsb => ?_
      have eb := extBut_of_same hsb
      have R3 := R'.hid eb (fr I (by (first | lia | omega))).2 (neA (by (first | lia | omega))) (fr0 I (by (first | lia | omega))) tupI
      have S3 : Step C H1 h1 H1 h3 := S'.hid eb (fr I (by (first | lia | omega))).1 (neA (by (first | lia | omega)))
      have kt : TupKept h' h3 := fun b vs n e => eb b _ (fun z => tupI vs n (z ▸ e)) e
      refine wpAny_assign_Name ?_
      refine store_local (env := compEnvC scope cl C env) (s := { s with heap := h3, toks := tk' + 1 }) R3 (.int (lo + (i : Nat)) _) (fun h4 tk4 R4 S4 => ?_) rfl (lookup_relabel_local hx) (by simp [compEnvC, relabel, hkind])
      refine wpAny_tests_nil ?_
      simp only [if_true]
      have tn := turn i C hlt (fr C (by (first | lia | omega))).2
      have R4' : Rel G C [(x, .int (lo + (i : Nat)))] H1 h4 := R4.less (fun z p e => by
        simp only [lk] at e
        rw [lk_setl]
        split at e
        · rename_i hz; rw [if_pos hz.symm]; exact e
        · cases e) (fun _ _ e => e)
      refine tn { s with heap := h4, toks := tk4 } R4' _ _ fun q u m5 H5 h5 tk5 hp5 R5 hu S5 => ?_
      obtain ⟨rfl, hsub⟩ := hp5
      have R5' : Rel G C m5 H1 h5 := R5.less (fun _ _ e => e) hsub
      have S5' : Step C H1 h4 H1 h5 := S5.less hsub
      have S45 : Step C H1 h3 H1 h5 := S4.trans S5'
      have S15 : Step C H1 h1 H1 h5 := S3.trans S45
      have hD5 : Heap.PlainList h5 D (List.toArray acc) := (hD'.extBut eb (neA (by (first | lia | omega)))).at fun o e => S45.keep D o e (neA (by (first | lia | omega))) (fr D (by (first | lia | omega))).2
      have hit5 : IsRangeIter h5 I (lo + ((i + 1 : Nat) : Int)) ((n : Int) - ((i + 1 : Nat) : Int)) 1 := by
        have := S45.keep I _ hit3 (neA (by (first | lia | omega))) (fr I (by (first | lia | omega))).2
        rw [show lo + ((i + 1 : Nat) : Int) = lo + (i : Nat) + 1 by (first | lia | omega), show (n : Int) - ((i + 1 : Nat) : Int) = (n : Int) - (i : Nat) - 1 by (first | lia | omega)]
        exact this
      have hacc5 : VRels h5 ((List.range i).map f) acc := (hacc.mono kt).mono (R3.tups S45)
      refine wpAny_list_append_plain (s := { s with heap := h5, toks := tk5 }) hD5 (fun h6 hD6 hs6 => ?_) (by have := hacc.length; simp at this; simp [this]; (first | lia | omega))
      have eb6 := extBut_of_same hs6
      have tupD : ∀ vs n, h5.get? D ≠ some (tupObj vs n) := fun vs n e => by
        obtain ⟨n', ho⟩ := hD5
        rw [ho] at e; simp at e
      have kt6 : TupKept h5 h6 := fun b vs n e => eb6 b _ (fun z => tupD vs n (z ▸ e)) e
      refine ⟨n - (i + 1), by (first | lia | omega), i + 1, m5, h6, tk5, acc ++ [u], rfl, hlt, rfl, R5'.hid eb6 (fr D (by (first | lia | omega))).2 (neA (by (first | lia | omega))) (fr0 D (by (first | lia | omega))) tupD, S15.hid eb6 (fr D (by (first | lia | omega))).1 (neA (by (first | lia | omega))), ?_, by simpa using hD6, ?_⟩
      · exact eb6 I _ (neA (by (first | lia | omega))) hit5
      · rw [List.range_succ, List.map_append]
        exact (hacc5.mono kt6).snoc (hu.mono kt6)
    · have hi2 : i = n := Nat.le_antisymm hi' hge
      subst hi2
      refine wpAny_pyNext_range_end (s := { s with heap := h', toks := tk' }) hh hit' (by (first | lia | omega)) fun h3 eb => ?_
      have R3 := R'.hid eb (fr I (by (first | lia | omega))).2 (neA (by (first | lia | omega))) (fr0 I (by (first | lia | omega))) tupI
      have S3 : Step C H1 h1 H1 h3 := S'.hid eb (fr I (by (first | lia | omega))).1 (neA (by (first | lia | omega)))
      have kt : TupKept h' h3 := fun b vs n e => eb b _ (fun z => tupI vs n (z ▸ e)) e
      have hD3 : Heap.PlainList h3 D (List.toArray acc) := hD'.extBut eb (neA (by (first | lia | omega)))
      obtain ⟨mm, hns3, _⟩ := R3.ns
      refine ⟨mm, hns3, fun h4 hs4 => ?_⟩
      obtain ⟨R5, S15⟩ := comp_leave (l := (List.range i).map f) R1 (by rw [hI]; (first | lia | omega)) (by rw [hI]; (first | lia | omega)) (neA (by (first | lia | omega))) R3 S3 hD3 (hacc.mono kt) hs4 hns3
      exact K (.ref D) (.ref D) m1 _ h4 tk' (done D (fr D (by (first | lia | omega))).2) R5 (.ref _) (S1.trans S15)
  refine codeAny_compStart_list (loop _ _ rfl) (wpAny_pyIter_rangeiter hit2 (loop _ _ rfl))

theorem vrels_ints {h : Heap} : ∀ {ns : List Int} {vs : List Value}, VRels h (ns.map PV.int) vs → IntsAre vs ns := by
  intro ns
  induction ns with
  | nil => intro vs x; cases x; exact .nil
  | cons n ns ih =>
    intro vs x
    rw [List.map_cons] at x
    cases x with
    | cons a r => cases a; exact .cons _ _ (ih r)
theorem ev_sum {p pos : Pos} {e : Expr} (hh : A.handled = none) (hmiss : G.mg "sum" = none)
    (h : Ev G A L env e m H fun p m1 H1 => ∃ a, ∃ ns : List Int, p = .ref a ∧ H1 a = some (.list (ns.map PV.int)) ∧ post (.int ns.sum) m1 H1)
    (hk : env.scope.kind = .function := by rfl) (hgl : env.globals = mainGlobals := by rfl) (hbl : env.builtins = builtinsNs := by rfl) (hl : env.kindOf "sum" = some .globalImplicit := by rfl) (hs : starEach [e] env = [(false, eval e env)] := by rfl) :
    Ev G A L env (.Call (.Name "sum" p) [e] [] pos) m H post := by
  refine ev_builtin1 hmiss boot_sum (.inl ⟨_, rfl⟩) (h.mono fun p m1 H1 y => ?_) (by decide) hk hgl hbl hl (by decide) hs
  intro s v R hv Q E K
  obtain ⟨a, ns, rfl, ha, hp⟩ := y
  cases hv
  obtain ⟨vs, hl, hvs⟩ := (R.objs a _ ha).isList
  have hi := vrels_ints hvs
  obtain ⟨xs, hx⟩ := hi.allInts.items
  have hl' : s.heap.IsList a (intItems xs) := hx ▸ hl
  refine sum_intListG hh hl' fun h' tk t' hk => ?_
  have e1 : ns = xs.toList.map (·.1) := by
    rw [← nums_intItems, ← hx]
    exact (show numsOf vs.toArray.toList = ns from hi.numsOf).symm
  have e2 : preSum (numAt xs) xs.size = ns.sum := by
    rw [preSum_eq, List.take_of_length_le (by simp), e1]
  rw [e2]
  exact K (.int ns.sum) _ m1 H1 h' tk hp (R.ext hk) (.int _ _) (Step.ext hk)
end
end Mine

-- part Rules18
namespace Mine
open PySem PySem.W PySem.Calls PyProof.Rows

/-- the attributes of an object of a class -/
theorem arel_look {P : Params} {h : Heap} {x : Str} : ∀ {l : List (Str × PV)} {es : List DictEntry}, ARel P h l es → match lk l x with | some p => ∃ v, getL x es = some (some v) ∧ VRel h p v | none => getL x es = some none ∧ es.any (·.refKey) = false
  | [], [], _ => by simp [lk, getL]
  | [], _ :: _, x => x.elim
  | _ :: _, [], x => x.elim
  | a :: l, e :: r, x => by
    obtain ⟨y, p⟩ := a
    obtain ⟨⟨t, ht⟩, _, hv, hr⟩ := x
    have ih := arel_look (x := x) hr
    have hk : e.key.isStr x = (y == x) := by rw [ht]; rfl
    have hrf : e.refKey = false := by unfold DictEntry.refKey; rw [ht]
    simp only [lk]
    by_cases hy : y = x
    · rw [if_pos hy]
      refine ⟨e.val, ?_, hv⟩
      unfold getL
      rw [List.find?_cons, hk, show (y == x) = true by simpa using hy]
    · rw [if_neg hy]
      have hb : (y == x) = false := by simpa using hy
      have hf : (e :: r).find? (·.key.isStr x) = r.find? (·.key.isStr x) := by rw [List.find?_cons, hk, hb]
      have ha : (e :: r).any (·.refKey) = r.any (·.refKey) := by rw [List.any_cons, hrf, Bool.false_or]
      have hg : getL x (e :: r) = getL x r := by unfold getL; rw [hf, ha]
      rw [hg, ha]
      exact ih
theorem arel_put {P : Params} {h : Heap} {x : Str} {t : Tok} {p : PV} {v : Value} (hv : VRel h p v) : ∀ {l : List (Str × PV)} {es : List DictEntry}, ARel P h l es → ARel P h (setl x p l) (putL x (PyData.keyHash P x) (.str x t) v es)
  | [], [], _ => ⟨⟨t, rfl⟩, rfl, hv, trivial⟩
  | [], _ :: _, x => x.elim
  | _ :: _, [], x => x.elim
  | a :: l, e :: r, x => by
    obtain ⟨y, q⟩ := a
    obtain ⟨⟨u, hu⟩, hh, hq, hr⟩ := x
    have ih := arel_put (x := x) (t := t) hv hr
    have hk : e.key.isStr x = (y == x) := by rw [hu]; rfl
    simp only [setl, putL, hk]
    by_cases hy : y = x
    · rw [if_pos hy, if_pos (by simpa using hy)]
      exact ⟨⟨u, by rw [hu, hy]⟩, by rw [hh, hy], hv, hr⟩
    · rw [if_neg hy, if_neg (by simpa using hy)]
      exact ⟨⟨u, hu⟩, hh, hq, ih⟩
theorem arel_len {P : Params} {h : Heap} : ∀ {l : List (Str × PV)} {es : List DictEntry}, ARel P h l es → es.length = l.length
  | [], [], _ => rfl
  | [], _ :: _, x => x.elim
  | _ :: _, [], x => x.elim
  | a :: l, e :: r, x => by
    obtain ⟨y, q⟩ := a
    simp [arel_len x.2.2.2]
theorem setl_len (x : Str) (v : PV) : ∀ l : Loc, (setl x v l).length ≤ l.length + 1
  | [] => by simp [setl]
  | (y, u) :: r => by
    simp only [setl]
    split
    · simp
    · have := setl_len x v r; simp; (first | lia | omega)

set_option genInjectivity false in
structure SCls (G : Gd) where
  K : Frag
  inK : K.In G.h₀
  C : Addr
  glob : G.mg "SCode" = some (.ref C)
  keep : keepIn K (.ref C) = true
  made : makesIn K C = true
  setattr : findIn K (.ref C) "__setattr__" = some (some (.builtin "object.__setattr__"))
  getattr : findIn K (.ref C) "__getattribute__" = some (some (.builtin "object.__getattribute__"))
  getattr2 : findIn K (.ref C) "__getattr__" = some none
  over : plainOver K C = true
  hasDict : hasDictIn K C = true
  free : ∀ x ∈ ["module", "label", "level", "slots", "rows"], findIn K (.ref C) (Str.ofString x) = some none ∧ takerIn K C (Str.ofString x) = some none

section
variable {G : Gd} (S : SCls G) {A : Around} {L : Addr} {env : Env} {m : Loc} {H : Hp} {post : PV → Loc → Hp → Prop} {fpost : PFlow → Loc → Hp → Prop}
theorem inst_at {h : Heap} (R : RelH G H h) {x C dx : Addr} {l : List (Str × PV)} (hx : H x = some (.inst C dx)) (hd : H dx = some (.attrs l)) :
    ∃ es n, InstAt h x ⟨.ref C, some dx, .plain, #[]⟩ C (some (dictOf es n)) ∧ h.get? dx = some (dictOf es n) ∧ ARel G.w.params h l es := by
  have h1 : h.get? x = some ⟨.ref C, some dx, .plain, #[]⟩ := R.objs x _ hx
  obtain ⟨es, n, h2, h3⟩ := R.objs dx _ hd
  exact ⟨es, n, ⟨h1, rfl, rfl, h2⟩, h2, h3⟩
theorem handed_vrel {h : Heap} {p : PV} {v : Value} (hv : VRel h p v) : handedIn v = true := by cases hv <;> rfl

theorem ev_attr {o : Expr} {name : Str} {pos : Pos}
    (h : Ev G A L env o m H fun ov m1 H1 => ∃ x dx l p, ov = .ref x ∧ H1 x = some (.inst S.C dx) ∧ H1 dx = some (.attrs l) ∧ lk l name = some p ∧ findIn S.K (.ref S.C) name = some none ∧ post p m1 H1)
    (he : eval (.Attribute o name pos) env = (do
      let ov ← eval o env
      standAt pos.atName
      let r ← holding [ov] (getAttr ov name true)
      letTemporaryGo o ov r
      pure r) := by with_unfolding_all rfl) : Ev G A L env (.Attribute o name pos) m H post := by
  intro s R Q E K
  refine Attribute_any_ (h s R _ _ fun ov v m1 H1 h1 t1 y R1 hv S1 => ?_) he
  obtain ⟨x, dx, l, p, rfl, hx, hd, hl, hf, hp⟩ := y
  cases hv
  obtain ⟨es, n, I, _, har⟩ := inst_at R1.toRelH hx hd
  have z := arel_look (x := name) har
  rw [hl] at z
  obtain ⟨v, hg, hr⟩ := z
  exact get_value (s := { s with heap := h1, toks := t1 }) (S.inK.keeps R1.base) I S.getattr (findObj_own S.hasDict hf (by rfl) hg) (handed_vrel hr) (K p v m1 H1 h1 _ hp R1 hr S1)

theorem osa_own {s : Shared} {x dx C : Addr} {K : Frag} {name : Str} {tk : Tok} {v : Value} {es : List DictEntry} {n : Nat} {R : Result → Shared → Prop} {prog : Program} {w : World} {A : Around} (X : K.In s.heap)
    (I : InstAt s.heap x ⟨.ref C, some dx, .plain, #[]⟩ C (some (dictOf es n))) (hD : s.heap.get? dx = some (dictOf es n)) (hp : plainOver K C = true) (ht : takerIn K C name = some none) (hh : hasDictIn K C = true)
    (hl : (getL name es).isSome = true) (hz : (putL name (PyData.keyHash w.params name) (.str name s.toks) v es).length ≤ 1000)
    (h : ∀ h', h'.get? dx = some (dictOf (putL name (PyData.keyHash w.params name) (.str name s.toks) v es) (putN name es n)) → Heap.SameBut dx s.heap h' → R (.ok (.ret .none)) { s with heap := h', toks := s.toks + 1 }) :
    codeAny (model prog w) A (.call (.builtin "object.__setattr__") ⟨[.ref x, .str name tk, v], []⟩) R s := by
  refine osa_open X I hp ht fun b => ?_
  obtain ⟨cd, hc, hd'⟩ := any_some hh
  have e : Obj.putName name (PyData.keyHash w.params name) (.str name s.toks) v (dictOf es n) = dictOf (putL name (PyData.keyHash w.params name) (.str name s.toks) v es) (putN name es n) := putName_dict ..
  have D' : (s.heap.update dx (Obj.putName name (PyData.keyHash w.params name) (.str name s.toks) v)).get? dx = some (dictOf (putL name (PyData.keyHash w.params name) (.str name s.toks) v es) (putN name es n)) := by
    rw [Heap.get?_update_self _ hD (by rw [e]; rfl), e]
  have hx := I.at_
  refine wpAny_bind (wpAny_pure (wpAny_bind (wpAny_bind (wpAny_loadPart hx (wpAny_bind ((looks_clsIn X hc).here ?_))))))
  rw [hd']
  refine wpAny_pure (a := some dx) (wpAny_bind (wpAny_pure (wpAny_bind ?_)))
  unfold nsSet
  refine wpAny_bind (wpAny_bind (wpAny_askSetting (wpAny_pure (wpAny_bind (wpAny_mkText (wpAny_bind (wpAny_loadPart hD ?_)))))))
  dsimp only
  have c : (!es.toArray.any (·.key.isStr name) && es.toArray.any (·.refKey)) = false := by
    rw [← Array.any_toList, ← Array.any_toList]
    unfold getL at hl
    split at hl
    · rename_i en he
      rw [List.any_eq_true.mpr ⟨en, List.mem_of_find?_eq_some he, List.find?_some he⟩]; rfl
    · split at hl
      · cases hl
      · rename_i z; rw [Bool.not_eq_true] at z; rw [z, Bool.and_false]
  rw [aRefKeyMayBeTheName_at, c]
  refine wpAny_updatePart hD ?_
  refine wpAny_bind (wpAny_lookBehind D' (pastItsLine_dict (by rw [List.size_toArray, sizeLine_eq]; (first | lia | omega))) ?_)
  exact wpAny_pure (h _ D' (Heap.SameBut.update ..))

theorem ex_setattr {o e : Expr} {name : Str} {p' pos : Pos}
    (h : Ev G A L env e m H fun v m1 H1 => Ev G A L env o m1 H1 fun ov m2 H2 => ∃ x dx l, ov = .ref x ∧ H2 x = some (.inst S.C dx) ∧ H2 dx = some (.attrs l) ∧ takerIn S.K S.C name = some none ∧ l.length ≤ 900 ∧ fpost .next m2 (upd H2 dx (.attrs (setl name v l))))
    (hs : swapsWith e (some (.Attribute o name p')) pos.line env = pure false := by rfl) : Ex1 G A L env (.Assign [.Attribute o name p'] e pos) m H fpost := by
  intro s R Q E K
  refine plainObj_wpAny_Assign_Attribute (h s R _ _ fun v vv m1 H1 h1 t1 y R1 hv S1 => ?_) hs
  refine y _ R1 _ _ fun ov ovv m2 H2 h2 t2 z R2 ho S2 => ?_
  obtain ⟨x, dx, l, rfl, hx, hd, ht, hz, hp⟩ := z
  cases ho
  obtain ⟨es, n, I, hD, har⟩ := inst_at R2.toRelH hx hd
  have hv2 := hv.mono (R1.tups S2)
  have zl := arel_look (x := name) har
  have hsome : (getL name es).isSome = true := by
    cases q : lk l name with
    | none => rw [q] at zl; rw [zl.1]; rfl
    | some p => rw [q] at zl; obtain ⟨v, hg, _⟩ := zl; rw [hg]; rfl
  have har2 := arel_put (x := name) (t := t2 + 1) hv2 har
  refine set_plain (s := { s with heap := h2, toks := t2 }) (S.inK.keeps R2.base) I S.setattr ?_
  refine osa_own (s := { s with heap := h2, toks := t2 + 1 }) (S.inK.keeps R2.base) I hD S.over ht S.hasDict hsome ?_ fun h' hD' hsb => ?_
  · have e1 := arel_len har2
    have e2 := setl_len name v l
    show (putL name (PyData.keyHash G.w.params name) (.str name (t2 + 1)) vv es).length ≤ 1000
    (first | lia | omega)
  · exact K .next .next m2 _ h' _ hp (R2.set hd hsb fun kt => ⟨_, _, hD', har2.mono kt⟩) .next (S1.trans (S2.trans (Step.set R2 hd hsb)))

theorem ev_method {o e : Expr} {es : List Expr} {name : Str} {apos pos : Pos} {pl : Sem Bool} {f : Addr}
    (hm : findIn S.K (.ref S.C) name = some (some (.ref f))) (hfn : isFn S.K (.ref f) = true) (hf : ∃ fd o, G.h₀.get? f = some o ∧ o.data = .func fd)
    (h : Ev G A L env o m H fun ov m1 H1 => ∃ x dx l, ov = .ref x ∧ H1 x = some (.inst S.C dx) ∧ H1 dx = some (.attrs l) ∧ lk l name = none ∧
      Evs G A L env pos (e :: es) m1 H1 fun ps m2 H2 => FnW G A f (.ref x :: ps) H2 fun r H3 => post r m2 H3)
    (he : eval (.Call (.Attribute o name apos) (e :: es) [] pos) env = (do
      let ov ← eval o env
      standAt apos.atName
      let (f, first) ← holding [ov] (getMethod ov name pl)
      callWith pos f first (backTo pos (starEach (e :: es) env)) []) := by rfl)
    (hse : starEach (e :: es) env = (false, eval e env) :: starEach es env := by rfl) (hplain : (backTo pos (starEach es env)).any (·.1) = false := by rfl) :
    Ev G A L env (.Call (.Attribute o name apos) (e :: es) [] pos) m H post := by
  obtain ⟨fd, hf⟩ := hf
  intro s R Q E K
  refine MethodCall_ (h s R _ _ fun ov v m1 H1 h1 t1 y R1 hv S1 => ?_) he
  obtain ⟨x, dx, l, rfl, hx, hd, hl, y⟩ := y
  cases hv
  obtain ⟨es', n, I, hD, har⟩ := inst_at R1.toRelH hx hd
  have zl := arel_look (x := name) har
  rw [hl] at zl
  refine method_fn (s := { s with heap := h1, toks := t1 }) (S.inK.keeps R1.base) I S.getattr S.getattr2 hm (beq_iff_eq.mp hfn) (by show (lookIn name (dictOf es' n)).map _ = _; rw [lookIn_dict, zl.1]; rfl) ?_
  dsimp only
  rw [hse]
  have h2 := y { s with heap := h1, toks := t1 } R1 (fun vs s₁ => (∃ o, s₁.heap.get? f = some o ∧ o.data = .func fd) ∧ wpAny G.M A (call (.ref f) ([.ref x] ++ vs)) Q E s₁) E (fun ps vs m2 H2 h2 t2 x2 R2 hvs S2 => by
    refine ⟨?_, ?_⟩
    · obtain ⟨o, ho, hd⟩ := hf
      exact ⟨o, R2.base _ _ ho, hd⟩
    · exact x2 _ _ R2.toRelH (.cons (.ref x) hvs) _ _ fun r v H3 h3 t3 x3 R3 hr S3 =>
        have R4 := R2.after R3 S3
        K r v m2 H3 h3 t3 x3 R4 hr (S1.trans (S2.trans (S3.step R2))))
  rw [hse] at h2
  exact callWith_of (by show ((false || (backTo pos (starEach es env)).any (·.1)) || false) = false; rw [hplain]; rfl) (keep_fn G.M) (evalArgs_plain h2)
end

/-- a call as a code: for what a class's making calls -/
noncomputable def FnC (G : Gd) (A : Around) (f : Addr) (args : List PV) (H : Hp) (post : PV → Hp → Prop) : Prop :=
  ∀ (s : Shared) (vs : List Value), RelH G H s.heap → VRels s.heap args vs → ∀ (R : Result → Shared → Prop),
    (∀ p v H' h' tk', post p H' → RelH G H' h' → VRel h' p v → StepH H s.heap H' h' → R (.ok (.ret v)) { s with heap := h', toks := tk' }) →
    codeAny G.M A (.call (.ref f) ⟨vs, []⟩) R s

section
variable {G : Gd} (S : SCls G) {A : Around} {L : Addr} {env : Env} {m : Loc} {H : Hp} {post : PV → Loc → Hp → Prop}
theorem room_under {d : Nat} {A : Around} (r : Room (d + 1) A) (C : Addr) (vs : List Value) : Room d (A.under (.builtin "type.__call__" ⟨.ref C :: vs, []⟩)) := by
  have e1 : (Code.builtin "type.__call__" ⟨.ref C :: vs, []⟩).weight = 1 := by kernel_rfl
  have e2 : (Code.builtin "type.__call__" ⟨.ref C :: vs, []⟩).cUnits = 1 := by kernel_rfl
  obtain ⟨a, b, c⟩ := r
  refine ⟨a, ?_, ?_⟩
  · show A.depth + (Code.builtin "type.__call__" ⟨.ref C :: vs, []⟩).weight + d ≤ 900
    rw [e1]; (first | lia | omega)
  · show A.units + (Code.builtin "type.__call__" ⟨.ref C :: vs, []⟩).cUnits + 10 * d + 200 ≤ 9900
    rw [e2]; (first | lia | omega)
theorem ev_new {p pos : Pos} {e : Expr} {es : List Expr} {fI : Addr} {d : Nat} (hA : Room (d + 1) A)
    (hi : findIn S.K (.ref S.C) "__init__" = some (some (.ref fI))) (hf : isFn S.K (.ref fI) = true)
    (h : Evs G A L env pos (e :: es) m H fun ps m1 H1 => ∀ x dx A1, Room d A1 → H1 x = none → H1 dx = none → x ≠ dx →
      FnC G A1 fI (.ref x :: ps) (upd (upd H1 dx (.attrs [])) x (.inst S.C dx)) fun r H2 => r = .none ∧ post (.ref x) m1 H2)
    (hk : env.scope.kind = .function := by rfl) (hgl : env.globals = mainGlobals := by rfl) (hl : env.kindOf "SCode" = some .globalImplicit := by rfl)
    (he : starEach (e :: es) env = (false, eval e env) :: starEach es env := by rfl) (hplain : (backTo pos (starEach es env)).any (·.1) = false := by rfl) :
    Ev G A L env (.Call (.Name "SCode" p) (e :: es) [] pos) m H post := by
  refine (?_ : Ev G A L env (.Call (.Name "SCode" p) (e :: es) [] pos) m H post)
  intro s R Q E K
  have hn : Ev G A L env (.Name "SCode" p) m H fun v m0 H0 => v = .ref S.C ∧ m0 = m ∧ H0 = H := ev_global S.glob ⟨rfl, rfl, rfl⟩ hk hgl hl (by decide)
  refine Call_Name rfl (hn s R _ _ fun v u m0 H0 h0 t0 x0 R0 hv S0 => ?_)
  obtain ⟨rfl, rfl, rfl⟩ := x0
  cases hv
  rw [he]
  have h2 := h { s with heap := h0, toks := t0 } R0 (fun vs s₁ => S.K.In s₁.heap ∧ wpAny G.M A (call (.ref S.C) ([] ++ vs)) Q E s₁) E (fun ps vs m1 H1 h1 t1 x1 R1 hvs S1 => by
    refine ⟨S.inK.keeps R1.base, ?_⟩
    refine wpAny_call ?_
    have X := S.inK.keeps R1.base
    refine make_core (rest := vs) (makes_of X S.made) (looks_findIn X hi) (fun self => bind_fn X self (beq_iff_eq.mp hf)) (.inl rfl) ?_
    have kx : ∀ b o, h1.get? b = some o → ((h1.push emptyDict).push (instObj S.C h1.objs.size)).get? b = some o := fun _ _ e => Heap.get?_push_of_some _ (Heap.get?_push_of_some _ e)
    have hsz : (h1.push emptyDict).objs.size = h1.objs.size + 1 := Heap.size_push ..
    have gx : ((h1.push emptyDict).push (instObj S.C h1.objs.size)).get? (h1.objs.size + 1) = some (instObj S.C h1.objs.size) := by rw [← hsz]; exact Heap.get?_push_size _ rfl
    have gd : ((h1.push emptyDict).push (instObj S.C h1.objs.size)).get? h1.objs.size = some emptyDict := Heap.get?_push_of_some _ (Heap.get?_push_size _ rfl)
    have fx : H1 (h1.objs.size + 1) = none := R1.fresh (Nat.le_succ _)
    have fd : H1 h1.objs.size = none := R1.fresh (Nat.le_refl _)
    have nx := R1.toRelH.newAt (Nat.le_succ h1.objs.size)
    have nd := R1.toRelH.newAt (Nat.le_refl h1.objs.size)
    have z0 : ∀ a : Addr, h1.get? a = none → G.h₀.get? a = none := fun a ha => by
      cases q : G.h₀.get? a with
      | none => rfl
      | some o => have := R1.base _ _ q; rw [ha] at this; cases this
    have nxL : h1.objs.size + 1 ≠ L := fun z => Nat.lt_irrefl _ (Nat.lt_trans (Nat.lt_succ_self _) (z ▸ R1.lt : h1.objs.size + 1 < h1.objs.size))
    have ndL : h1.objs.size ≠ L := fun z => Nat.lt_irrefl _ (z ▸ R1.lt : h1.objs.size < h1.objs.size)
    have Rm : Rel G L m1 H1 ((h1.push emptyDict).push (instObj S.C h1.objs.size)) := R1.ext kx
    have Sm : Step L H1 h1 H1 ((h1.push emptyDict).push (instObj S.C h1.objs.size)) := Step.ext kx
    have R2 := Rm.adopt (D := h1.objs.size) (p := .attrs []) ndL (z0 _ nd.1) nd.2 ⟨[], 0, gd, trivial⟩
    have S2 := Sm.adopt (D := h1.objs.size) (p := .attrs []) nd.1
    have R3 := R2.adopt (D := h1.objs.size + 1) (p := .inst S.C h1.objs.size) nxL (z0 _ nx.1) nx.2 gx
    have S3 := S2.adopt (D := h1.objs.size + 1) (p := .inst S.C h1.objs.size) nx.1
    refine x1 (h1.objs.size + 1) h1.objs.size _ (room_under hA _ _) fx fd (Nat.succ_ne_self _) ⟨_, _, _, _, _⟩ (.ref (h1.objs.size + 1) :: vs) R3.toRelH (.cons (.ref _) (hvs.mono (tups_of_ext kx))) _ fun p v H4 h4 t4 hp R4 hr S4 => ?_
    obtain ⟨rfl, hp⟩ := hp
    cases hr
    refine ⟨rfl, ?_⟩
    have R5 := R3.after R4 S4
    exact K (.ref (h1.objs.size + 1)) _ m1 H4 h4 t4 hp R5 (.ref _) (S0.trans (S1.trans (S3.trans (S4.step R3)))))
  rw [he] at h2
  refine callWith_of (P := fun h => S.K.In h) (by show ((false || (backTo pos (starEach es env)).any (·.1)) || false) = false; rw [hplain]; rfl) (fun h X => ?_) (evalArgs_plain h2)
  obtain ⟨k, hk, hl⟩ := looks_keep (M := G.M) S.keep X
  exact ⟨k, hk.elim (fun a => .inl a) (fun a => .inr (.inl a)), hl⟩
end
end Mine

-- part Rules19
namespace Mine
open PySem PySem.W PySem.Calls PyProof.Rows

set_option genInjectivity false in
structure SMeth {G : Gd} (S : SCls G) where
  mf : Nat → Addr
  at_ : ∀ j name args body dec ret tp scope ts bind pos, j ∈ [0, 1, 3] → meth j = some (.FunctionDef name args body dec ret tp scope ts bind pos) →
    findIn S.K (.ref S.C) name = some (some (.ref (mf j))) ∧ isFn S.K (.ref (mf j)) = true ∧ FnAt G (mf j) (Str.ofString "SCode." ++ name) args body scope .none .none
section
variable {G : Gd} {S : SCls G} (M : SMeth S)
theorem SMeth.fn {j : Nat} {name : Str} {args : Arguments} {body : List Stmt} {dec : List Expr} {ret : Option Expr} {tp : List TypeParam} {scope : Scope} {ts : Option Scope} {bind : Str} {pos : Pos}
    (hj : j ∈ [0, 1, 3]) (h : meth j = some (.FunctionDef name args body dec ret tp scope ts bind pos)) : FnAt G (M.mf j) (Str.ofString "SCode." ++ name) args body scope .none .none := (M.at_ j _ _ _ _ _ _ _ _ _ _ hj h).2.2
theorem SMeth.find {j : Nat} {name : Str} {args : Arguments} {body : List Stmt} {dec : List Expr} {ret : Option Expr} {tp : List TypeParam} {scope : Scope} {ts : Option Scope} {bind : Str} {pos : Pos}
    (hj : j ∈ [0, 1, 3]) (h : meth j = some (.FunctionDef name args body dec ret tp scope ts bind pos)) : findIn S.K (.ref S.C) name = some (some (.ref (M.mf j))) := (M.at_ j _ _ _ _ _ _ _ _ _ _ hj h).1
theorem SMeth.isfn {j : Nat} {name : Str} {args : Arguments} {body : List Stmt} {dec : List Expr} {ret : Option Expr} {tp : List TypeParam} {scope : Scope} {ts : Option Scope} {bind : Str} {pos : Pos}
    (hj : j ∈ [0, 1, 3]) (h : meth j = some (.FunctionDef name args body dec ret tp scope ts bind pos)) : isFn S.K (.ref (M.mf j)) = true := (M.at_ j _ _ _ _ _ _ _ _ _ _ hj h).2.1
end

theorem fnc_intro {G : Gd} {A : Around} {f : Addr} {qual : Str} {params : Arguments} {body : List Stmt} {scope : Scope} {args : List PV} {H : Hp} {post : PV → Hp → Prop} {d : Nat} {dV kV : Value} (F : FnAt G f qual params body scope dV kV) (hA : Room (d + 1) A) (xs : List Str)
    (hlen : args.length = xs.length)
    (hbind : ∀ s name doc pm an cdv ct vs, RelH G H s.heap → vs.length = xs.length → BindsTo s (fnOf name qual params body scope dV kV doc pm an cdv ct) ⟨vs, []⟩ (xs.zip vs))
    (hloc : ∀ x ∈ xs, scope.names.lookup x = some .local) (hnd : xs.Nodup)
    (hbody : ∀ A' L cd, Room d A' → H L = none → Ex G A' L (envOf qual scope L f cd) body (xs.zip args) H (KFn post))
    (hcell : ∀ x ∈ scope.names, x.2 ≠ .cell := by decide) (hco : scope.isCoroutine = false := by rfl) (hgen : scope.isGenerator = false := by rfl) (hk : scope.kind = .function := by rfl) : FnC G A f args H post := by
  intro s vs R hv Q K
  obtain ⟨name, doc, pm, an, cdv, ct, o, ho, hd, hcd⟩ := F.at_
  refine codeAny_call_def (fd := fnOf name qual params body scope dV kV doc pm an cdv ct) (body := body) (binds := xs.zip vs) hA.limit (R.base _ _ ho) hd (G.nolimit.keeps R.base) (hcd.keeps R.base) rfl
    (hbind _ _ _ _ _ _ _ _ R (by rw [hv.length, hlen])) hcell (fun x hx => hloc _ (List.of_mem_zip hx).1) (fun h₁ hns hk₁ => ?_) hco hgen hk
  have hfr : H s.heap.objs.size = none := R.fresh (Nat.le_refl _)
  have R₁ : Rel G s.heap.objs.size (xs.zip args) H h₁ := by
    refine ⟨R.ext hk₁, ⟨_, hns, ?_⟩, hfr, ?_⟩
    · exact lrel_zip hnd (hv.mono (tups_of_ext hk₁))
    · cases q : G.h₀.get? s.heap.objs.size with
      | none => rfl
      | some o => exact absurd (Heap.lt_size (R.base _ _ q)) (Nat.lt_irrefl _)
  refine hbody _ s.heap.objs.size cdv (hA.deeper _) hfr { s with heap := h₁, toks := s.toks + (xs.zip vs).length } R₁ _ _ fun fl fl' m' H' h' tk' hp R' hr S' => ?_
  have S : StepH H s.heap H' h' := by
    refine ⟨fun a o e hn => S'.keep a o (hk₁ _ _ e) (Nat.ne_of_lt (Heap.lt_size e)) hn, fun a p e => ?_⟩
    rcases S'.fresh a p e with x | x
    · exact .inl x
    · refine .inr ?_
      cases q : s.heap.get? a with
      | none => rfl
      | some o => have := hk₁ _ _ q; rw [x] at this; cases this
  cases hr with
  | ret hv' => exact K _ _ H' h' tk' hp R'.toRelH hv' S
  | next => exact K .none _ H' h' tk' hp R'.toRelH .none S
  | brk => exact K .none _ H' h' tk' hp R'.toRelH .none S
  | cont => exact K .none _ H' h' tk' hp R'.toRelH .none S
end Mine

-- part Rules20
namespace Mine
open PySem PySem.W PySem.Calls PyProof.Rows
section
variable {G : Gd} {A : Around} {L : Addr} {env : Env} {m : Loc} {H : Hp} {post : PV → Loc → Hp → Prop}
theorem ev_callE {fe : Expr} {pos : Pos} {e : Expr} {es : List Expr}
    (h : Ev G A L env fe m H fun v m0 H0 => ∃ f, v = .ref f ∧ (∃ fd o, G.h₀.get? f = some o ∧ o.data = .func fd) ∧ Evs G A L env pos (e :: es) m0 H0 fun ps m1 H1 => FnW G A f ps H1 fun r H2 => post r m1 H2)
    (hce : eval (.Call fe (e :: es) [] pos) env = (do callWith pos (← eval fe env) [] (backTo pos (starEach (e :: es) env)) (backToKw pos (keywordEach [] env))) := by rfl)
    (he : starEach (e :: es) env = (false, eval e env) :: starEach es env := by rfl) (hplain : (backTo pos (starEach es env)).any (·.1) = false := by rfl) :
    Ev G A L env (.Call fe (e :: es) [] pos) m H post := by
  intro s R Q E K
  refine Call_ (h s R _ _ fun v u m0 H0 h0 t0 x0 R0 hv S0 => ?_) hce
  obtain ⟨f, rfl, ⟨fd, hf⟩, x0⟩ := x0
  cases hv
  rw [he]
  have h2 := x0 { s with heap := h0, toks := t0 } R0 (fun vs s₁ => (∃ o, s₁.heap.get? f = some o ∧ o.data = .func fd) ∧ wpAny G.M A (call (.ref f) ([] ++ vs)) Q E s₁) E (fun ps vs m1 H1 h1 t1 x1 R1 hvs S1 => by
    refine ⟨?_, ?_⟩
    · obtain ⟨o, ho, hd⟩ := hf
      exact ⟨o, R1.base _ _ ho, hd⟩
    · exact x1 _ _ R1.toRelH hvs _ _ fun r v H2 h2 t2 x2 R2 hr S2 =>
        have R3 := R1.after R2 S2
        K r v m1 H2 h2 t2 x2 R3 hr (S0.trans (S1.trans (S2.step R1))))
  rw [he] at h2
  exact callWith_of (by show ((false || (backTo pos (starEach es env)).any (·.1)) || false) = false; rw [hplain]; rfl) (keep_fn G.M) (evalArgs_plain h2)
end
end Mine

-- part W1
namespace Mine
open PySem PySem.W PySem.Calls PyProof.Rows
set_option maxHeartbeats 4000000
local macro_rules | `(tactic| walk_at "tt") => `(tactic| ((fail_if_success (fail_if_success decide +kernel)); kernel_rfl))
local macro_rules | `(tactic| walk_at "lk") => `(tactic| (first | rfl | (simp only [lk, lk_setl, ofString_inj, String.reduceEq, if_true, if_false, reduceCtorEq]; try rfl)))
local macro_rules | `(tactic| walk_at "get") => `(tactic| first
  | exact get_tup (j := 0) (by decide) (by decide) rfl rfl
  | exact get_tup (j := 1) (by decide) (by decide) rfl rfl
  | exact get_tup (j := 2) (by decide) (by decide) rfl rfl)
local macro_rules | `(tactic| walk_at "cmp") => `(tactic| first
  | with_reducible first | exact cmp_eq_str | exact cmp_eq_int | exact cmp_ne_int | exact cmp_lt_int | exact cmp_le_int | exact cmp_gt_int | exact cmp_ge_int | exact cmp_eq_bool | exact cmp_is_none | exact cmp_isNot_none
  | (with_reducible refine' cmp_in_V ?s9); (case s9 => repeat (first | exact StrV.nil | apply StrV.cons)))
local macro_rules | `(tactic| walk_at "bin") => `(tactic| with_reducible first | exact bin_add | exact bin_sub | exact bin_and | exact bin_or | exact bin_xor)
local macro_rules | `(tactic| walk_at "fn") => `(tactic| (first
  | (intro _ _ _ _ _ _; first | (refine all1 ?_; intros; rfl) | (refine all2 ?_; intros; rfl) | (refine all3 ?_; intros; rfl) | (refine all4 ?_; intros; rfl) | (refine all5 ?_; intros; rfl))))
local macro_rules | `(tactic| walk_at "ol") => `(tactic| ((case o9 => exact Eq.refl true); (case L9 => exact Eq.refl _); (case v9 => walk_at "lk")))
local macro_rules | `(tactic| walk_at "sl") => `(tactic| ((case s9 => repeat (first | exact Strs.nil | apply Strs.cons)); (case l9 => exact Eq.refl true); (case m9 => with_unfolding_all rfl)))
local macro_rules | `(tactic| walk_at "go1") => `(tactic| first
  | ((with_reducible refine' (?_ : W _ _ _ VRel _ _ _ _)); first
      | (with_reducible refine' ev_loc ?v9 ?o9 ?L9 ?_); walk_at "ol"
      | with_reducible first | refine ev_int ?_ | refine ev_str ?_
      | (with_reducible refine ev_sub ?_ ?hs9); (case hs9 => (intro _ _; rfl))
      | with_reducible first | refine ev_bin ?_ | refine ev_tuple ?_
      | (with_reducible refine ev_cmp ?_ ?hm9); (case hm9 => with_unfolding_all rfl)
      | with_reducible first | refine ev_none ?_ | refine ev_bool ?_ | refine ev_un ?_ | refine ev_if ?_ | refine ev_list ?_
      | (with_reducible refine ev_chain ?_ ?hm9); (case hm9 => with_unfolding_all rfl)
      | with_reducible refine ev_dict0 ?_)
  | ((with_reducible refine' (?_ : W _ _ _ FRel (execs _ _) _ _ _)); first
      | with_reducible refine ex_nil ?_
      | (with_reducible refine' if_eq_n ?v9 ?o9 ?L9 ?c9 ?_); walk_at "ol"; (case c9 => walk_at "tt")
      | (with_reducible refine' if_eq_f ?v9 ?o9 ?L9 ?c9 ?_); walk_at "ol"; (case c9 => walk_at "tt")
      | (with_reducible refine' if_eq_t ?v9 ?o9 ?L9 ?c9 ?_); walk_at "ol"; (case c9 => walk_at "tt")
      | (with_reducible refine' if_in_n ?v9 ?o9 ?L9 ?s9 ?l9 ?c9 ?_ ?m9); walk_at "ol"; walk_at "sl"; (case c9 => walk_at "tt")
      | (with_reducible refine' if_in_t ?v9 ?o9 ?L9 ?s9 ?l9 ?c9 ?_ ?m9); walk_at "ol"; walk_at "sl"; (case c9 => walk_at "tt")
      | with_reducible refine ex_cons ?_)
  | ((with_reducible refine' (?_ : W _ _ _ FRel (exec _ _) _ _ _)); first
      | with_reducible refine ex_ret ?_
      | (with_reducible refine ex_assign ?_ ?hs9 ?hL9 ?hl9 ?hp9); (case hs9 => rfl); (case hL9 => rfl); (case hl9 => rfl); (case hp9 => rfl)
      | with_reducible refine ex_if ?_
      | (with_reducible refine ex_expr ?_ ?hi9 ?hs9); (case hi9 => rfl); (case hs9 => rfl)
      | (with_reducible refine' ex_aug ?k19 ?_ ?hk9 ?hL9 ?hl9 ?hp9); (case hk9 => rfl); (case hL9 => rfl); (case hl9 => rfl); (case hp9 => rfl); (case k19 => walk_at "lk"))
  | ((with_reducible refine' (?_ : W _ _ _ VRels _ _ _ _)); first
      | (with_reducible refine evs_cons ?_ ?he9); (case he9 => rfl)
      | with_reducible refine evs_nil ?_)
  | ((with_reducible refine' (?_ : W _ _ _ BRel (isTrue _ _ _) _ _ _)); first
      | (with_reducible refine' tst_name_eq ?v9 ?o9 ?L9 ?_); walk_at "ol"
      | (with_reducible refine' tst_name_in ?v9 ?o9 ?L9 ?s9 ?l9 ?_ ?m9); walk_at "ol"; walk_at "sl"
      | (with_reducible refine tst_cmp ?_ ?hm9); (case hm9 => with_unfolding_all rfl)
      | with_reducible first | refine tst_not ?_ | refine tst_bool ?_
      | (with_reducible refine tst_chain ?_ ?hm9); (case hm9 => with_unfolding_all rfl)
      | (with_reducible refine tst_plain ?_ ?he9); (case he9 => rfl))
  | ((with_reducible refine' (?_ : W _ _ _ BRel (allTrue _ _ _) _ _ _)); first
      | with_reducible first | refine all_and_cons ?_ | refine all_or_cons ?_ | refine all_and_nil ?_ | refine all_or_nil ?_)
  | (with_reducible refine' (?_ : KTst2 _ _ _ _ _ _ _ _)); refine tcm_mk (by walk_at "cmp") ?_
  | (with_reducible refine' (?_ : KCmp2 _ _ _ _ _ _ _ _)); refine cmp_mk (by walk_at "cmp") ?_
  | (with_reducible refine' (?_ : KSub2 _ _ _ _ _ _ _)); refine get_mk (by walk_at "get") ?_
  | (with_reducible refine' (?_ : KBin2 _ _ _ _ _ _ _ _)); refine bin_mk (by walk_at "bin") ?_
  | with_reducible first | refine tru_mk true_bool ?_ | refine un_mk un_neg ?_
  | (with_reducible first | refine tup_mk ?t9 ?_ | refine lst_mk ?t9 ?_); (case t9 => rfl)
  | (with_reducible first | refine kif_t ?t9 ?_ | refine kand_t ?t9 ?_ | refine kor_t ?t9 ?_ | refine kife_t ?t9 ?_); (case t9 => walk_at "tt")
  | (with_reducible first | refine kif_f ?t9 ?_ | refine kand_f ?t9 ?_ | refine kor_f ?t9 ?_ | refine kife_f ?t9 ?_); (case t9 => walk_at "tt")
  | (with_reducible refine ite_p ?c9 ?_); (case c9 => decide)
  | (with_reducible refine ite_n ?c9 ?_); (case c9 => decide)
  | (with_reducible refine ite_t ?c9 ?_); (case c9 => rfl)
  | (with_reducible refine ite_f ?c9 ?_); (case c9 => rfl)
  | (refine And.intro (Nat.le_of_ble_eq_true rfl) ?_))
theorem log_small {n : Nat} {k : Nat} (hk : 0 < k) (h : n < 2 ^ k) : n.log2 < k := by
  by_cases h0 : n = 0
  · subst h0; simpa using hk
  · exact (Nat.log2_lt h0).mpr h
theorem mulok {a b : Int} (h : a.natAbs < 2 ^ 40) : IntMulOk a b := by
  refine .of_left ?_
  unfold Builtin.Int.intBits
  have := log_small (by decide) h
  split <;> (first | lia | omega)
theorem pylong_ok {a b : Int} (h : b.natAbs < 2 ^ 40) : Builtin.divisionGoesByPylong a b = false :=
  PyProof.noPylong_of_log2 (Nat.lt_trans (log_small (by decide) h) (by decide))
section
variable {G : Gd} (P : Prog G)
theorem c_fits {A : Around} (hA : Room 1 A) {H : Hp} {n : Int} {post : PV → Hp → Prop} (h : post (.bool (fitsI n)) H) : FnW G A (P.fa 3) [.int n] H post := by
  refine fn_go P (k := 3) rfl rfl hA [Str.ofString "n"] rfl (by walk_at "fn") (by decide) (by decide) fun A' L cd hA' hL => ?_
  repeat walk_at "go1"
  refine ite_i (fun h1 => ?_) (fun h1 => ?_)
  · repeat walk_at "go1"
    refine pe (post := post) h ?_ rfl
    simp only [fitsI, decide_eq_true_eq] at *
    simp [h1]
  · refine pe (post := post) h ?_ rfl
    simp only [fitsI, decide_eq_true_eq] at *
    simp [h1]
theorem c_ordered {A : Around} (hA : Room 1 A) {H : Hp} {op : ROp} {a b : Int} {post : PV → Hp → Prop} (h : post (.bool (op.ev a b)) H) : FnW G A (P.fa 9) [.str op.s, .int a, .int b] H post := by
  refine fn_go P (k := 9) rfl rfl hA [Str.ofString "op", Str.ofString "a", Str.ofString "b"] rfl (by walk_at "fn") (by decide) (by decide) fun A' L cd hA' hL => ?_
  cases op
  all_goals (repeat walk_at "go1"); exact h
theorem c_relation {A : Around} (hA : Room 2 A) {H : Hp} {op : ROp} {a b : Int} {post : PV → Hp → Prop} (h : post (.int (b2i (op.ev a b))) H) : FnW G A (P.fa 10) [.str op.s, .str (Str.ofString "number"), .int a, .int b] H post := by
  refine fn_go P (k := 10) rfl rfl hA [Str.ofString "op", Str.ofString "kind", Str.ofString "a", Str.ofString "b"] rfl (by walk_at "fn") (by decide) (by decide) fun A' L cd hA' hL => ?_
  repeat walk_at "go1"
  refine ev_call (P.glob (k := 9) rfl rfl) (P.fn (k := 9) rfl rfl).ex ?_
  repeat walk_at "go1"
  refine c_ordered P hA' ?_
  refine ⟨_, true_bool, ?_⟩
  cases q : op.ev a b
  all_goals (repeat walk_at "go1"); rw [q] at h; exact h
theorem c_set_value {A : Around} (hA : Room 1 A) {H : Hp} {op : SOp} {a b : Int} {post : PV → Hp → Prop} (h : post (.int (op.fold a b)) H) : FnW G A (P.fa 11) [.str op.s, .int a, .int b] H post := by
  refine fn_go P (k := 11) rfl rfl hA [Str.ofString "op", Str.ofString "a", Str.ofString "b"] rfl (by walk_at "fn") (by decide) (by decide) fun A' L cd hA' hL => ?_
  cases op
  all_goals (repeat walk_at "go1"); exact h
theorem c_set_relation {A : Around} (hA : Room 1 A) {H : Hp} {ge : Bool} {a b : Int} {post : PV → Hp → Prop} (h : post (.int (setRel ge a b)) H) : FnW G A (P.fa 12) [.str (geS ge), .int a, .int b] H post := by
  refine fn_go P (k := 12) rfl rfl hA [Str.ofString "op", Str.ofString "a", Str.ofString "b"] rfl (by walk_at "fn") (by decide) (by decide) fun A' L cd hA' hL => ?_
  cases ge
  · repeat walk_at "go1"
    refine ite_i (fun h1 => ?_) (fun h1 => ?_)
    all_goals (repeat walk_at "go1"); refine pe (post := post) h ?_ rfl; simp [setRel, b2i, full, h1]
    all_goals (simp at h1; simp [h1])
  · repeat walk_at "go1"
    refine ex_pair_swap hA'.1 ?_
    repeat walk_at "go1"
    refine ⟨_, _, rfl, ?_⟩
    repeat walk_at "go1"
    refine ite_i (fun h1 => ?_) (fun h1 => ?_)
    all_goals (repeat walk_at "go1"); refine pe (post := post) h ?_ rfl; simp [setRel, b2i, full, h1]
    all_goals (simp at h1; simp [h1])
theorem c_range_mask {A : Around} (hA : Room 1 A) {H : Hp} {a b : Int} {post : PV → Hp → Prop} (ha : 0 ≤ a) (ha' : a ≤ 31) (hb : 0 ≤ b) (hb' : b ≤ 31) (h : post (.int (rangeMask a b)) H) : FnW G A (P.fa 13) [.int a, .int b] H post := by
  refine fn_go P (k := 13) rfl rfl hA [Str.ofString "low", Str.ofString "high"] rfl (by walk_at "fn") (by decide) (by decide) fun A' L cd hA' hL => ?_
  repeat walk_at "go1"
  refine ite_i (fun h1 => ?_) (fun h1 => ?_)
  · repeat walk_at "go1"
    refine pe (post := post) h ?_ rfl
    simp only [decide_eq_true_eq] at h1
    simp [rangeMask, h1]
  · simp only [decide_eq_true_eq] at h1
    repeat walk_at "go1"
    refine ⟨_, bin_shl (by (first | lia | omega)) (by (first | lia | omega)) (by decide), ?_⟩
    repeat walk_at "go1"
    refine ⟨_, bin_shl (by (first | lia | omega)) (by (first | lia | omega)) (by decide), ?_⟩
    repeat walk_at "go1"
    refine pe (post := post) h ?_ rfl
    simp [rangeMask, h1]
theorem c_is_jump {A : Around} (hA : Room 1 A) {H : Hp} {i : Ins} {post : PV → Hp → Prop} (h : post (.bool i.isJump) H) : FnW G A (P.fa 16) [i.enc] H post := by
  refine fn_go P (k := 16) rfl rfl hA [Str.ofString "row"] rfl (by walk_at "fn") (by decide) (by decide) fun A' L cd hA' hL => ?_
  repeat walk_at "go1"
  refine get_mk (get_name i) ?_
  repeat walk_at "go1"
  refine pe (post := post) h ?_ rfl
  cases i <;> rfl
theorem c_ends_way {A : Around} (hA : Room 1 A) {H : Hp} {i : Ins} {post : PV → Hp → Prop} (h : post (.bool i.endsWay) H) : FnW G A (P.fa 17) [i.enc] H post := by
  refine fn_go P (k := 17) rfl rfl hA [Str.ofString "row"] rfl (by walk_at "fn") (by decide) (by decide) fun A' L cd hA' hL => ?_
  repeat walk_at "go1"
  refine get_mk (get_name i) ?_
  repeat walk_at "go1"
  refine pe (post := post) h ?_ rfl
  cases i <;> rfl
theorem c_effect {A : Around} (hA : Room 1 A) {H : Hp} {i : Ins} {post : PV → Hp → Prop} (h : post (.tup [.int i.eff.1, .int i.eff.2]) H) : FnW G A (P.fa 18) [i.enc] H post := by
  refine fn_go P (k := 18) rfl rfl hA [Str.ofString "row"] rfl (by walk_at "fn") (by decide) (by decide) fun A' L cd hA' hL => ?_
  cases i
  all_goals (repeat walk_at "go1"); exact h
end

-- part W2
section
variable {G : Gd} (P : Prog G)
theorem c_joined_arith {A : Around} (hA : Room 2 A) {H : Hp} {op : AOp} {x y : Int} {post : PV → Hp → Prop} (hx : Small x) (hy : Small y) (h : post (ov (foldArith op x y)) H) : FnW G A (P.fa 25) [.str op.s, .int x, .int y] H post := by
  refine fn_go P (k := 25) rfl rfl hA [Str.ofString "op", Str.ofString "x", Str.ofString "y"] rfl (by walk_at "fn") (by decide) (by decide) fun A' L cd hA' hL => ?_
  cases op
  case div =>
    repeat walk_at "go1"
    refine ite_i (fun h1 => ?_) (fun h1 => ?_) <;> simp only [decide_eq_true_eq] at h1
    · repeat walk_at "go1"
      refine pe (post := post) h ?_ rfl; simp [foldArith, h1, ov]
    · repeat walk_at "go1"
      refine ⟨_, bin_fdiv (by (first | lia | omega)) (pylong_ok hy.nat), ?_⟩
      refine pe (post := post) h ?_ rfl; simp [foldArith, h1, ov]
  case mod =>
    repeat walk_at "go1"
    refine ite_i (fun h1 => ?_) (fun h1 => ?_) <;> simp only [decide_eq_true_eq] at h1
    · repeat walk_at "go1"
      refine pe (post := post) h ?_ rfl; simp [foldArith, h1, ov]
    · repeat walk_at "go1"
      refine ⟨_, bin_mod (by (first | lia | omega)), ?_⟩
      refine pe (post := post) h ?_ rfl; simp [foldArith, h1, ov]
  case mul =>
    repeat walk_at "go1"
    refine ⟨_, bin_mul (mulok hx.nat), ?_⟩
    repeat walk_at "go1"
    refine ev_call (P.glob (k := 3) rfl rfl) (P.fn (k := 3) rfl rfl).ex ?_
    repeat walk_at "go1"
    refine c_fits P hA' ?_
    refine ⟨_, true_bool, ?_⟩
    refine ite_i (fun h1 => ?_) (fun h1 => ?_)
    all_goals (repeat walk_at "go1"); refine pe (post := post) h ?_ rfl; simp [foldArith, h1, ov]
  all_goals
    repeat walk_at "go1"
    refine ev_call (P.glob (k := 3) rfl rfl) (P.fn (k := 3) rfl rfl).ex ?_
    repeat walk_at "go1"
    refine c_fits P hA' ?_
    refine ⟨_, true_bool, ?_⟩
    refine ite_i (fun h1 => ?_) (fun h1 => ?_)
    all_goals (repeat walk_at "go1"); refine pe (post := post) h ?_ rfl; simp [foldArith, h1, ov]
theorem c_is_number {A : Around} (hA : Room 1 A) {H : Hp} {o : Option Ins} {post : PV → Hp → Prop} (h : post (.bool (isCo o)) H) : FnW G A (P.fa 24) [enco o] H post := by
  refine fn_go P (k := 24) rfl rfl hA [Str.ofString "row"] rfl (by walk_at "fn") (by decide) (by decide) fun A' L cd hA' hL => ?_
  cases o with
  | none =>
    repeat walk_at "go1"
    refine ev_and (bo_cons ?_)
    repeat walk_at "go1"
    exact h
  | some i =>
    by_cases hc : ∃ n, i = .const n
    · obtain ⟨n, rfl⟩ := hc
      repeat walk_at "go1"
      refine ev_and (bo_cons ?_)
      repeat walk_at "go1"
      refine bo_cons ?_
      repeat walk_at "go1"
      refine bo_one ?_
      refine ev_isinstance_int (P.free "isinstance" (by simp)) (P.free "int" (by simp)) ?_
      repeat walk_at "go1"
      exact ⟨_, rfl, h⟩
    · have hn : (i.name == Str.ofString "const") = false := by cases i <;> first | rfl | exact absurd ⟨_, rfl⟩ hc
      have hco : isCo (some i) = false := by cases i <;> first | rfl | exact absurd ⟨_, rfl⟩ hc
      repeat walk_at "go1"
      refine ev_and (bo_cons ?_)
      repeat walk_at "go1"
      refine bo_cons ?_
      repeat walk_at "go1"
      refine get_mk (get_name i) ?_
      repeat walk_at "go1"
      refine ite_f hn ?_
      rw [hco] at h
      rw [hn]
      exact h
theorem one_other {i : Ins} {x : Int} (h : isOne i = false) : (i.name == Str.ofString "neg") = false ∧ (i.name == Str.ofString "not") = false ∧ (i.name == Str.ofString "compl") = false ∧ (i.name == Str.ofString "single") = false ∧ (i.name == Str.ofString "byte") = false ∧ foldSingle i x = none := by
  cases i <;> first | (cases h; done) | exact ⟨rfl, rfl, rfl, rfl, rfl, rfl⟩
theorem c_joined_single {A : Around} (hA : Room 2 A) {H : Hp} {i : Ins} {x : Int} {post : PV → Hp → Prop} (hx : Small x) (h : post (ov (foldSingle i x)) H) : FnW G A (P.fa 27) [i.enc, .int x] H post := by
  refine fn_go P (k := 27) rfl rfl hA [Str.ofString "row", Str.ofString "x"] rfl (by walk_at "fn") (by decide) (by decide) fun A' L cd hA' hL => ?_
  cases ho : isOne i with
  | false =>
    obtain ⟨q1, q2, q3, q4, q5, q6⟩ := one_other (x := x) ho
    rw [q6] at h
    repeat walk_at "go1"
    refine get_mk (get_name i) ?_
    repeat walk_at "go1"
    refine kif_f q1 ?_
    repeat walk_at "go1"
    refine kif_f q2 ?_
    repeat walk_at "go1"
    refine kif_f q3 ?_
    repeat walk_at "go1"
    refine kif_f q4 ?_
    repeat walk_at "go1"
    refine kif_f q5 ?_
    repeat walk_at "go1"
    exact h
  | true =>
  cases i <;> first | (cases ho; done) | skip
  case neg sp =>
    repeat walk_at "go1"
    refine ev_call (P.glob (k := 3) rfl rfl) (P.fn (k := 3) rfl rfl).ex ?_
    repeat walk_at "go1"
    refine c_fits P hA' ?_
    refine ⟨_, true_bool, ?_⟩
    refine ite_i (fun h1 => ?_) (fun h1 => ?_)
    all_goals (repeat walk_at "go1"); refine pe (post := post) h ?_ rfl; simp [foldSingle, h1, ov]
  case not =>
    repeat walk_at "go1"
    refine ite_i (fun h1 => ?_) (fun h1 => ?_)
    all_goals (repeat walk_at "go1"); refine pe (post := post) h ?_ rfl; simp at h1; simp [foldSingle, h1, ov]
  case single sp =>
    repeat walk_at "go1"
    refine ite_i (fun h1 => ?_) (fun h1 => ?_)
    · simp only [decide_eq_true_eq] at h1
      repeat walk_at "go1"
      refine ite_i (fun h2 => ?_) (fun h2 => ?_)
      · simp only [decide_eq_true_eq] at h2
        repeat walk_at "go1"
        refine ⟨_, bin_shl h1 (by (first | lia | omega)) (by decide), ?_⟩
        refine pe (post := post) h ?_ rfl; simp [foldSingle, h1, h2, ov]
      · simp only [decide_eq_true_eq] at h2
        repeat walk_at "go1"
        refine pe (post := post) h ?_ rfl; simp [foldSingle, h1, h2, ov]
    · simp only [decide_eq_true_eq] at h1
      repeat walk_at "go1"
      refine pe (post := post) h ?_ rfl; simp [foldSingle, h1, ov]
  case byte sp =>
    repeat walk_at "go1"
    refine ite_i (fun h1 => ?_) (fun h1 => ?_)
    · simp only [decide_eq_true_eq] at h1
      repeat walk_at "go1"
      refine ite_i (fun h2 => ?_) (fun h2 => ?_)
      · simp only [decide_eq_true_eq] at h2
        repeat walk_at "go1"
        refine pe (post := post) h ?_ rfl; simp [foldSingle, h1, h2, ov]
      · simp only [decide_eq_true_eq] at h2
        repeat walk_at "go1"
        refine pe (post := post) h ?_ rfl; simp [foldSingle, h1, h2, ov]
    · simp only [decide_eq_true_eq] at h1
      repeat walk_at "go1"
      refine pe (post := post) h ?_ rfl; simp [foldSingle, h1, ov]
  all_goals
    repeat walk_at "go1"
    exact h
end

-- part W3
noncomputable def nexts (ins : Ins) (i : Nat) : List PV := (if ins.endsWay = true then [] else [.int ((i : Int) + 1)]) ++ (if ins.isJump = true then [.int ins.tgt] else [])
noncomputable def code (c : List Ins) : PObj := .list (c.map Ins.enc)
theorem code_get {c : List Ins} {i : Nat} {ins : Ins} (h : c[i]? = some ins) : (c.map Ins.enc)[i]? = some ins.enc := by simp [h]

section
variable {G : Gd} (P : Prog G)
theorem two_other {i : Ins} {x y : Int} (h : isTwo i = false) : (i.name == Str.ofString "arith") = false ∧ (i.name == Str.ofString "rel") = false ∧ (i.name == Str.ofString "setop") = false ∧ (i.name == Str.ofString "setrel") = false ∧ (i.name == Str.ofString "in") = false ∧ (i.name == Str.ofString "range") = false ∧ foldPair i x y = none := by
  cases i <;> first | (cases h; done) | exact ⟨rfl, rfl, rfl, rfl, rfl, rfl, rfl⟩
theorem c_joined_pair {A : Around} (hA : Room 3 A) {H : Hp} {i : Ins} {x y : Int} {post : PV → Hp → Prop} (hx : Small x) (hy : Small y) (h : post (ov (foldPair i x y)) H) : FnW G A (P.fa 26) [i.enc, .int x, .int y] H post := by
  refine fn_go P (k := 26) rfl rfl hA [Str.ofString "row", Str.ofString "x", Str.ofString "y"] rfl (by walk_at "fn") (by decide) (by decide) fun A' L cd hA' hL => ?_
  cases ho : isTwo i with
  | false =>
    obtain ⟨q1, q2, q3, q4, q5, q6, q7⟩ := two_other (x := x) (y := y) ho
    rw [q7] at h
    repeat walk_at "go1"
    refine get_mk (get_name i) ?_
    repeat walk_at "go1"
    refine kif_f q1 ?_
    repeat walk_at "go1"
    refine kand_f q2 ?_
    repeat walk_at "go1"
    refine kif_f q3 ?_
    repeat walk_at "go1"
    refine kif_f q4 ?_
    repeat walk_at "go1"
    refine kand_f q5 ?_
    repeat walk_at "go1"
    refine kand_f q6 ?_
    repeat walk_at "go1"
    exact h
  | true =>
  cases i <;> first | (cases ho; done) | skip
  case arith op sp =>
    repeat walk_at "go1"
    refine ev_call (P.glob (k := 25) rfl rfl) (P.fn (k := 25) rfl rfl).ex ?_
    repeat walk_at "go1"
    exact c_joined_arith P hA' hx hy h
  case rel op =>
    repeat walk_at "go1"
    refine ev_call (P.glob (k := 10) rfl rfl) (P.fn (k := 10) rfl rfl).ex ?_
    repeat walk_at "go1"
    exact c_relation P (hA'.le (by decide)) h
  case setop op =>
    repeat walk_at "go1"
    refine ev_call (P.glob (k := 11) rfl rfl) (P.fn (k := 11) rfl rfl).ex ?_
    repeat walk_at "go1"
    exact c_set_value P (hA'.le (by decide)) h
  case setrel ge =>
    repeat walk_at "go1"
    refine ev_call (P.glob (k := 12) rfl rfl) (P.fn (k := 12) rfl rfl).ex ?_
    repeat walk_at "go1"
    exact c_set_relation P (hA'.le (by decide)) h
  case inn sp =>
    repeat walk_at "go1"
    refine ite_i (fun h1 => ?_) (fun h1 => ?_) <;> simp only [decide_eq_true_eq] at h1
    · repeat walk_at "go1"
      refine ite_i (fun h2 => ?_) (fun h2 => ?_) <;> simp only [decide_eq_true_eq] at h2
      · repeat walk_at "go1"
        refine ⟨_, bin_shr h1, ?_⟩
        repeat walk_at "go1"
        refine pe (post := post) h ?_ rfl; simp [foldPair, h1, h2, ov]
      · repeat walk_at "go1"
        refine pe (post := post) h ?_ rfl; simp [foldPair, h1, h2, ov]
    · repeat walk_at "go1"
      refine pe (post := post) h ?_ rfl; simp [foldPair, h1, ov]
  case range sp =>
    repeat walk_at "go1"
    refine ite_i (fun h1 => ?_) (fun h1 => ?_) <;> simp only [decide_eq_true_eq] at h1
    · repeat walk_at "go1"
      refine ite_i (fun h2 => ?_) (fun h2 => ?_) <;> simp only [decide_eq_true_eq] at h2
      · repeat walk_at "go1"
        refine ite_i (fun h3 => ?_) (fun h3 => ?_) <;> simp only [decide_eq_true_eq] at h3
        · repeat walk_at "go1"
          refine ite_i (fun h4 => ?_) (fun h4 => ?_) <;> simp only [decide_eq_true_eq] at h4
          · repeat walk_at "go1"
            refine ev_call (P.glob (k := 13) rfl rfl) (P.fn (k := 13) rfl rfl).ex ?_
            repeat walk_at "go1"
            refine c_range_mask P (hA'.le (by decide)) h1 h2 h3 h4 ?_
            refine pe (post := post) h ?_ rfl; simp [foldPair, h1, h2, h3, h4, ov]
          · repeat walk_at "go1"
            refine pe (post := post) h ?_ rfl; simp [foldPair, h1, h2, h3, h4, ov]
        · repeat walk_at "go1"
          refine pe (post := post) h ?_ rfl; simp [foldPair, h1, h2, h3, ov]
      · repeat walk_at "go1"
        refine pe (post := post) h ?_ rfl; simp [foldPair, h1, h2, ov]
    · repeat walk_at "go1"
      refine pe (post := post) h ?_ rfl; simp [foldPair, h1, ov]
  all_goals
    repeat walk_at "go1"
    exact h
theorem c_test {A : Around} (hA : Room 1 A) {H : Hp} {i : Ins} {x : Int} {post : PV → Hp → Prop} (hi : (∃ t, i = .unl t) ∨ ∃ t, i = .whn t)
    (h : post (match testMade i x with | some t => (Ins.jump t).enc | none => .tup []) H) : FnW G A (P.fa 28) [i.enc, .int x] H post := by
  refine fn_go P (k := 28) rfl rfl hA [Str.ofString "row", Str.ofString "x"] rfl (by walk_at "fn") (by decide) (by decide) fun A' L cd hA' hL => ?_
  by_cases hx : x = 0
  · rcases hi with ⟨t, rfl⟩ | ⟨t, rfl⟩ <;> simp only [testMade, hx, if_true] at h <;> subst hx
    all_goals (repeat walk_at "go1"); exact h
  · rcases hi with ⟨t, rfl⟩ | ⟨t, rfl⟩ <;> simp only [testMade, hx, if_false] at h
    all_goals
      repeat walk_at "go1"
      have e : (x == 0) = false := by simpa using hx
      rw [e]
      repeat walk_at "go1"
      exact h
theorem c_next_rows {A : Around} (hA : Room 2 A) {H : Hp} {r : Addr} {c : List Ins} {i : Nat} {ins : Ins} {post : PV → Hp → Prop} (hr : H r = some (code c)) (hi : c[i]? = some ins) (hb : i < 2 ^ 60)
    (h : ∀ b, H b = none → post (.ref b) (upd H b (.list (nexts ins i)))) : FnW G A (P.fa 19) [.ref r, .int i] H post := by
  refine fn_go P (k := 19) rfl rfl hA [Str.ofString "rows", Str.ofString "index"] rfl (by walk_at "fn") (by decide) (by decide) fun A' L cd hA' hL => ?_
  repeat walk_at "go1"
  refine ⟨_, get_row hr (code_get hi) hb, ?_⟩
  repeat walk_at "go1"
  intro b hb'
  repeat walk_at "go1"
  refine ev_call (P.glob (k := 17) rfl rfl) (P.fn (k := 17) rfl rfl).ex ?_
  repeat walk_at "go1"
  refine c_ends_way P (hA'.le (by decide)) ?_
  refine ⟨_, true_bool, ?_⟩
  have h0 := h b hb'
  cases he : ins.endsWay
  · refine ite_p (by rfl) ?_
    repeat walk_at "go1"
    refine ev_append ?_
    repeat walk_at "go1"
    refine ⟨b, rfl, ⟨_, upd_self ..⟩, ?_⟩
    repeat walk_at "go1"
    refine ⟨_, upd_self .., sz100 (Nat.le_of_ble_eq_true rfl), ?_⟩
    rw [upd_upd]
    repeat walk_at "go1"
    refine ev_call (P.glob (k := 16) rfl rfl) (P.fn (k := 16) rfl rfl).ex ?_
    repeat walk_at "go1"
    refine c_is_jump P (hA'.le (by decide)) ?_
    refine ⟨_, true_bool, ?_⟩
    cases hj : ins.isJump
    · repeat walk_at "go1"
      simpa [nexts, he, hj] using h0
    · repeat walk_at "go1"
      refine ev_append ?_
      repeat walk_at "go1"
      refine ⟨b, rfl, ⟨_, upd_self ..⟩, ?_⟩
      repeat walk_at "go1"
      refine ⟨_, get_tgt hj, ?_⟩
      refine ⟨_, upd_self .., sz100 (Nat.le_of_ble_eq_true rfl), ?_⟩
      rw [upd_upd]
      repeat walk_at "go1"
      simpa [nexts, he, hj] using h0
  · refine ite_n (by simp) ?_
    repeat walk_at "go1"
    refine ev_call (P.glob (k := 16) rfl rfl) (P.fn (k := 16) rfl rfl).ex ?_
    repeat walk_at "go1"
    refine c_is_jump P (hA'.le (by decide)) ?_
    refine ⟨_, true_bool, ?_⟩
    cases hj : ins.isJump
    · repeat walk_at "go1"
      simpa [nexts, he, hj] using h0
    · repeat walk_at "go1"
      refine ev_append ?_
      repeat walk_at "go1"
      refine ⟨b, rfl, ⟨_, upd_self ..⟩, ?_⟩
      repeat walk_at "go1"
      refine ⟨_, get_tgt hj, ?_⟩
      refine ⟨_, upd_self .., sz100 (Nat.le_of_ble_eq_true rfl), ?_⟩
      rw [upd_upd]
      repeat walk_at "go1"
      simpa [nexts, he, hj] using h0
end

-- part W4
local macro_rules | `(tactic| walk_at "has") => `(tactic| (repeat (first | exact has_nil | refine has_cons (by first | rfl | simp only [lk_setl, lk, ofString_inj, String.reduceEq, if_true, if_false]) ?_)))
theorem sz20 {n : Nat} (h : n ≤ 2 ^ 20) : n ≤ sizeLine := Nat.le_trans h (by decide)
section
variable {G : Gd} (P : Prog G)
theorem c_targets {A : Around} (hA : Room 2 A) {H : Hp} {r : Addr} {c : List Ins} {post : PV → Hp → Prop} (hr : H r = some (code c)) (hc : c.length ≤ 2 ^ 20)
    (h : ∀ b l, H b = none → Led c l → post (.ref b) (upd H b (.idict l))) : FnW G A (P.fa 23) [.ref r] H post := by
  refine fn_go P (k := 23) rfl rfl hA [Str.ofString "rows"] rfl (by walk_at "fn") (by decide) (by decide) fun A' L cd hA' hL => ?_
  repeat walk_at "go1"
  intro b hb
  have hrb : r ≠ b := by first | exact ne_hp hr hb | exact ne_hp hb hr | exact (fun e => by rw [e, hb] at hr; cases hr)
  repeat walk_at "go1"
  refine ex_for_list hA'.1 (fun i m H' => Has m [(Str.ofString "rows", .ref r), (Str.ofString "found", .ref b)] ∧ ∃ l, H' = upd H b (.idict l) ∧ Led (c.take i) l) ?_
  repeat walk_at "go1"
  refine ⟨r, _, rfl, (upd_ne hrb).trans hr, ⟨by walk_at "has", [], rfl, by simp [Led, ilook]⟩, ?_, ?_⟩
  · rintro i y m2 H2 hy ⟨hm, l, rfl, hl⟩
    refine ⟨(upd_ne hrb).trans hr, w_hasS hm ?_⟩
    simp only [List.getElem?_map, Option.map_eq_some_iff] at hy
    obtain ⟨ins, hi, rfl⟩ := hy
    have ht := take_snoc hi
    repeat walk_at "go1"
    refine ev_call (P.glob (k := 16) rfl rfl) (P.fn (k := 16) rfl rfl).ex ?_
    repeat walk_at "go1"
    refine c_is_jump P (hA'.le (by decide)) ?_
    refine ⟨_, true_bool, ?_⟩
    cases hj : ins.isJump
    · repeat walk_at "go1"
      refine ⟨by walk_at "has", l, rfl, ?_⟩
      rw [ht]
      refine ⟨by have h1 := hl.1; simp only [List.length_append, List.length_cons, List.length_nil]; (first | lia | omega), fun k => ?_⟩
      rw [hl.2 k]; simp [hj]
    · repeat walk_at "go1"
      refine ex_setidict ?_
      repeat walk_at "go1"
      refine ⟨_, get_tgt hj, ?_⟩
      have hlen : l.length ≤ 2 ^ 20 := Nat.le_trans hl.1 (Nat.le_trans (List.length_take_le' i c) hc)
      refine ⟨b, l, _, rfl, rfl, upd_self .., sz20 hlen, ?_⟩
      rw [upd_upd]
      repeat walk_at "go1"
      refine ⟨by walk_at "has", _, rfl, ?_⟩
      rw [ht]
      refine ⟨?_, fun k => ?_⟩
      · have h1 := istore_len l (ins.tgt : Int) (.bool true)
        have h2 := hl.1
        simp only [List.length_append, List.length_cons, List.length_nil]
        (first | lia | omega)
      · rw [ilook_istore, List.any_append]
        by_cases hk : k = (ins.tgt : Int)
        · simp [hk, hj]
        · have : ¬ (ins.tgt : Int) = k := fun e => hk e.symm
          simp [hk, this, hl.2 k]
  · rintro m2 H2 ⟨hm, l, rfl, hl⟩
    refine ⟨(upd_ne hrb).trans hr, w_has hm ?_⟩
    repeat walk_at "go1"
    refine h b l hb ?_
    simpa using hl
theorem c_compacted {A : Around} (hA : Room 2 A) {H : Hp} {r : Addr} {l : List (Option Ins)} {post : PV → Hp → Prop} (hr : H r = some (.list (l.map enco))) (hl : l.length ≤ 2 ^ 20)
    (ht : ∀ (i : Nat) (ins : Ins), l[i]? = some (some ins) → ins.isJump = true → ins.tgt < l.length)
    (h : ∀ b, H b = none → post (.ref b) (upd H b (code (compactF l)))) : FnW G A (P.fa 29) [.ref r] H post := by
  refine fn_go P (k := 29) rfl rfl hA [Str.ofString "rows"] rfl (by walk_at "fn") (by decide) (by decide) fun A' L cd hA' hL => ?_
  repeat walk_at "go1"
  intro p hp
  have hrp : r ≠ p := by first | exact ne_hp hr hp | exact ne_hp hp hr | exact (fun e => by rw [e, hp] at hr; cases hr)
  repeat walk_at "go1"
  refine ex_for_list hA'.1 (fun i m H' => Has m [(Str.ofString "rows", .ref r), (Str.ofString "places", .ref p), (Str.ofString "count", .int (cnt (l.take i)))] ∧ H' = upd H p (.list ((List.range i).map fun j => .int (place l j)))) ?_
  repeat walk_at "go1"
  refine ⟨r, _, rfl, (upd_ne hrp).trans hr, ⟨by walk_at "has", rfl⟩, ?_, ?_⟩
  · rintro i y m2 H2 hy ⟨hm, rfl⟩
    refine ⟨(upd_ne hrp).trans hr, w_hasS hm ?_⟩
    simp only [List.getElem?_map, Option.map_eq_some_iff] at hy
    obtain ⟨o, hi, rfl⟩ := hy
    have hil : i < l.length := (List.getElem?_eq_some_iff.mp hi).1
    have htk := take_snoc hi
    repeat walk_at "go1"
    refine ev_append ?_
    repeat walk_at "go1"
    refine ⟨p, rfl, ⟨_, upd_self ..⟩, ?_⟩
    repeat walk_at "go1"
    refine ⟨_, upd_self .., sz20 (by simp; (first | lia | omega)), ?_⟩
    rw [upd_upd]
    have hP : ((List.range i).map fun j => PV.int (place l j)) ++ [.int (cnt (l.take i))] = (List.range (i + 1)).map fun j => PV.int (place l j) := by
      simp [List.range_succ, place]
    rw [hP]
    repeat walk_at "go1"
    cases o with
    | none =>
      repeat walk_at "go1"
      refine ⟨?_, rfl⟩
      rw [htk, cnt_snoc_none]; walk_at "has"
    | some ins =>
      repeat walk_at "go1"
      refine ⟨_, rfl, ?_⟩
      repeat walk_at "go1"
      refine ⟨?_, rfl⟩
      rw [htk, cnt_snoc_some]; walk_at "has"
  · rintro m2 H2 ⟨hm, rfl⟩
    refine ⟨(upd_ne hrp).trans hr, w_has hm ?_⟩
    repeat walk_at "go1"
    intro b hb
    have hbp : b ≠ p := by first | exact (upd_none hb).1 | exact (upd_none hb).1.symm | exact (upd_none (upd_none hb).2).1 | exact (upd_none (upd_none hb).2).1.symm | exact (fun e => by rw [e, upd_self] at hb; cases hb)
    have hb0 : H b = none := by first | exact (upd_none hb).2 | exact (upd_none (upd_none hb).2).2 | (rw [upd_ne hbp] at hb; exact hb)
    have hrb : r ≠ b := by first | exact ne_hp hr hb0 | exact ne_hp hb0 hr | exact (fun e => by rw [e, hb0] at hr; cases hr)
    repeat walk_at "go1"
    simp only [List.length_map]
    refine ex_for_list hA'.1 (fun i m H' => Has m [(Str.ofString "rows", .ref r), (Str.ofString "places", .ref p), (Str.ofString "found", .ref b)] ∧ H' = upd (upd H p (.list ((List.range l.length).map fun j => .int (place l j)))) b (code (compactW (place l) (l.take i)))) ?_
    repeat walk_at "go1"
    have hrow : ∀ o, upd (upd H p (.list ((List.range l.length).map fun j => .int (place l j)))) b o r = some (.list (l.map enco)) := fun o => by rw [upd_ne hrb, upd_ne hrp]; exact hr
    refine ⟨r, _, rfl, hrow _, ⟨by walk_at "has", rfl⟩, ?_, ?_⟩
    · rintro i y m2 H2 hy ⟨hm, rfl⟩
      refine ⟨hrow _, w_hasS hm ?_⟩
      simp only [List.getElem?_map, Option.map_eq_some_iff] at hy
      obtain ⟨o, hi, rfl⟩ := hy
      have hil : i < l.length := (List.getElem?_eq_some_iff.mp hi).1
      have htk := take_snoc hi
      have hlen : (compactW (place l) (l.take i)).length ≤ 2 ^ 20 := Nat.le_trans (compactW_len (place l) (l.take i)) (Nat.le_trans (List.length_take_le' i l) hl)
      cases o with
      | none =>
        repeat walk_at "go1"
        refine ⟨by walk_at "has", ?_⟩
        rw [htk, compactW_snoc_none]
      | some ins =>
        repeat walk_at "go1"
        refine ev_append ?_
        repeat walk_at "go1"
        refine ⟨b, rfl, ⟨_, upd_self ..⟩, ?_⟩
        repeat walk_at "go1"
        refine ev_call (P.glob (k := 16) rfl rfl) (P.fn (k := 16) rfl rfl).ex ?_
        repeat walk_at "go1"
        refine c_is_jump P (hA'.le (by decide)) ?_
        refine ⟨_, true_bool, ?_⟩
        cases hj : ins.isJump
        · repeat walk_at "go1"
          refine ⟨_, upd_self .., sz20 (by simpa using hlen), ?_⟩
          rw [upd_upd]
          repeat walk_at "go1"
          refine ⟨by walk_at "has", ?_⟩
          rw [htk, compactW_snoc_some, retarget_of_not _ hj]
          simp [code, enco]
        · repeat walk_at "go1"
          refine ⟨_, get_name ins, ?_⟩
          repeat walk_at "go1"
          refine ⟨_, get_tgt hj, ?_⟩
          have htg := ht i ins hi hj
          refine ⟨_, get_row (c := (List.range l.length).map fun j => .int (place l j)) (x := .int (place l ins.tgt)) ((upd_ne hbp.symm).trans (upd_self ..)) (by simp [htg]) (by (first | lia | omega)), ?_⟩
          repeat walk_at "go1"
          refine ⟨_, upd_self .., sz20 (by simpa using hlen), ?_⟩
          rw [upd_upd]
          repeat walk_at "go1"
          refine ⟨by walk_at "has", ?_⟩
          rw [htk, compactW_snoc_some]
          simp [code, enc_retarget _ hj]
    · rintro m2 H2 ⟨hm, rfl⟩
      refine ⟨hrow _, W.less (H' := upd H b (code (compactF l))) hm.sub (fun a q e => ?_) ?_⟩
      · unfold upd at e ⊢
        split at e
        · rename_i hab; simp only [hab, if_true]; rw [← e]; simp [compactF]
        · rename_i hab
          simp only [hab, if_false]
          by_cases hap : a = p
          · subst hap; rw [hp] at e; cases e
          · simp [hap, e]
      · repeat walk_at "go1"
        exact h b hb0
end

-- part W5
theorem dat_shaped (i : Ins) : PySem.SeqAt.shaped i.dat = true := by
  have := dat_can i
  simp only [SeqAt.shaped, this.1, Bool.true_and, decide_eq_true_eq]
  have := this.2; (first | lia | omega)
theorem cmp_ne_unit {G : Gd} {A : Around} {H : Hp} (t : Nat) (hu : A.units + 64 < cLine) : CmpOk G A H .NotEq (Ins.jump t).enc (.tup []) true := by
  have := cmp_ne_data (G := G) (A := A) (H := H) (enc_drel (Ins.jump t)) (.tup .nil) (dat_shaped _) (by rfl) hu
  simpa [Ins.dat, Ins.parts, partD, PyData.eqv, PyData.eqvAll] using this
theorem if_cut_t {G : Gd} {A : Around} {L : Addr} {env : Env} {fpost : PFlow → Loc → Hp → Prop} {m : Loc} {H : Hp} {t : Expr} {b o rest : List Stmt} {p : Pos} (h : Tst G A L env t m H fun c m1 H1 => c = true ∧ m1 = m ∧ H1 = H)
    (k : Ex G A L env b m H (KSeq G A L env rest fpost)) : Ex G A L env (.If t b o p :: rest) m H fpost :=
  ex_cons (ex_if (h.mono fun c m1 H1 e => by obtain ⟨e1, e2, e3⟩ := e; subst e1; subst e2; subst e3; exact kif_t rfl k))
section
variable {G : Gd} (P : Prog G)
theorem name_drop (b : Ins) (h : b ≠ .drop) : (b.name == Str.ofString "drop") = false := by cases b <;> first | exact absurd rfl h | rfl
theorem name_unl (b : Ins) (h : ∀ t, b ≠ .unl t) : (b.name == Str.ofString "unless") = false := by cases b <;> first | exact absurd rfl (h _) | rfl
theorem name_whn (b : Ins) (h : ∀ t, b ≠ .whn t) : (b.name == Str.ofString "when") = false := by cases b <;> first | exact absurd rfl (h _) | rfl

theorem foldHead_else {e2 : Bool} {x : Int} {b : Ins} {rest : List Ins} (h1 : b ≠ .drop) (h2 : ∀ t, b ≠ .unl t) (h3 : ∀ t, b ≠ .whn t) : foldHead false e2 (.const x :: b :: rest) = foldElse e2 x b rest := by
  cases b <;> first | exact absurd rfl h1 | exact absurd rfl (h2 _) | exact absurd rfl (h3 _) | rfl

theorem c_fold_at {A : Around} (hA : Room 4 A) {H : Hp} {r d : Addr} {pre : List (Option Ins)} {suf : List Ins} {ld : List (Int × PV)} {n : Nat} {post : PV → Hp → Prop}
    (hr : H r = some (.list ((pre ++ suf.map some).map enco))) (hd : H d = some (.idict ld)) (hn : pre.length = n) (hb : n + suf.length < 2 ^ 20) (hs : suf ≠ []) (hsm : SmallC suf)
    (h : match foldHead (ilook ld ((n : Int) + 1)).isSome (ilook ld ((n : Int) + 2)).isSome suf with
      | some l => post (.bool true) (upd H r (.list ((pre ++ l).map enco)))
      | none => post (.bool false) H) : FnW G A (P.fa 30) [.ref r, .ref d, .int n] H post := by
  refine fn_go P (k := 30) rfl rfl hA [Str.ofString "rows", Str.ofString "led", Str.ofString "index"] rfl (by walk_at "fn") (by decide) (by decide) fun A' L cd hA' hL => ?_
  obtain ⟨i0, rest, rfl⟩ := List.exists_cons_of_ne_nil hs
  have hP : (pre.map enco).length = n := by simpa using hn
  have hrd : r ≠ d := by first | exact ne_hp hr hd | exact ne_hp hd hr | exact (fun e => by rw [e, hd] at hr; cases hr)
  simp only [List.map_append, List.map_cons] at hr
  simp only [List.length_cons] at hb
  repeat walk_at "go1"
  refine ev_call (P.glob (k := 24) rfl rfl) (P.fn (k := 24) rfl rfl).ex ?_
  repeat walk_at "go1"
  refine ⟨_, get_rowK hr rfl (at0 hP) (by (first | lia | omega)), ?_⟩
  repeat walk_at "go1"
  refine c_is_number P (hA'.le (by decide)) ?_
  refine ⟨_, true_bool, ?_⟩
  by_cases hc0 : ∃ x, i0 = .const x
  · obtain ⟨x, rfl⟩ := hc0
    have hx : Small x := hsm x (by simp)
    repeat walk_at "go1"
    refine ev_len (P.free "len" (by simp)) ?_
    repeat walk_at "go1"
    refine ⟨r, _, rfl, hr, by simp [hP]; (first | lia | omega), ?_⟩
    repeat walk_at "go1"
    cases rest with
    | nil =>
      refine ite_t (by simp [hP]) ?_
      repeat walk_at "go1"
      exact h
    | cons b rest =>
      simp only [List.map_cons] at hr
      simp only [List.length_cons] at hb
      refine ite_f (by simp [hP]; (first | lia | omega)) ?_
      repeat walk_at "go1"
      refine ⟨_, cmp_in_idict hd, ?_⟩
      cases he1 : (ilook ld ((n : Int) + 1)).isSome
      · rw [he1] at h
        repeat walk_at "go1"
        refine ⟨_, get_rowK hr rfl (at0 hP) (by (first | lia | omega)), ?_⟩
        repeat walk_at "go1"
        refine ⟨_, get_rowK hr (i := n + 1) (by simp) (at1 hP) (by (first | lia | omega)), ?_⟩
        repeat walk_at "go1"
        by_cases hbd : b = .drop
        · subst hbd
          repeat walk_at "go1"
          refine ex_setat ?_
          repeat walk_at "go1"
          refine ⟨r, _, _, n, rfl, rfl, rfl, hr, by simp; (first | lia | omega), by (first | lia | omega), ?_⟩
          rw [set0 hP]
          repeat walk_at "go1"
          refine ex_setat ?_
          repeat walk_at "go1"
          refine ⟨r, _, _, n + 1, rfl, rfl, by simp, upd_self .., by simp; (first | lia | omega), by (first | lia | omega), ?_⟩
          rw [set1 hP, upd_upd]
          repeat walk_at "go1"
          simpa [foldHead, enco] using h
        · refine ⟨_, get_name b, ?_⟩
          repeat walk_at "go1"
          refine kif_f (name_drop b hbd) (ex_nil ?_)
          by_cases hbu : (∃ t, b = .unl t) ∨ ∃ t, b = .whn t
          · have hh : post (.bool true) (upd H r (.list ((pre ++ none :: (testMade b x).map Ins.jump :: rest.map some).map enco))) := by
              rcases hbu with ⟨t, rfl⟩ | ⟨t, rfl⟩ <;> simpa [foldHead] using h
            simp only [List.map_append, List.map_cons, enco] at hh
            refine if_cut_t (by
              repeat walk_at "go1"
              refine get_mk (get_name b) ?_
              repeat walk_at "go1"
              rcases hbu with ⟨t, rfl⟩ | ⟨t, rfl⟩
              · exact kor_t rfl ⟨rfl, rfl, rfl⟩
              · refine kor_f rfl ?_
                repeat walk_at "go1"
                exact ⟨rfl, rfl, rfl⟩) ?_
            repeat walk_at "go1"
            refine ev_call (P.glob (k := 28) rfl rfl) (P.fn (k := 28) rfl rfl).ex ?_
            repeat walk_at "go1"
            refine c_test P (hA'.le (by decide)) hbu ?_
            repeat walk_at "go1"
            refine ex_setat ?_
            repeat walk_at "go1"
            refine ⟨r, _, _, n, rfl, rfl, rfl, hr, by simp; (first | lia | omega), by (first | lia | omega), ?_⟩
            rw [set0 hP]
            repeat walk_at "go1"
            refine ex_setat ?_
            repeat walk_at "go1"
            cases hm : testMade b x with
            | none =>
              rw [hm] at hh
              refine ⟨_, cmp_ne_data (.tup .nil) (.tup .nil) rfl rfl hA'.units, ?_⟩
              repeat walk_at "go1"
              refine ⟨r, _, _, n + 1, rfl, rfl, by simp, upd_self .., by simp; (first | lia | omega), by (first | lia | omega), ?_⟩
              rw [set1 hP, upd_upd]
              repeat walk_at "go1"
              exact hh
            | some t' =>
              rw [hm] at hh
              refine ⟨_, cmp_ne_unit t' hA'.units, ?_⟩
              repeat walk_at "go1"
              refine ⟨r, _, _, n + 1, rfl, rfl, by simp, upd_self .., by simp; (first | lia | omega), by (first | lia | omega), ?_⟩
              rw [set1 hP, upd_upd]
              repeat walk_at "go1"
              exact hh
          · have hu : ∀ t, b ≠ .unl t := fun t e => hbu (.inl ⟨t, e⟩)
            have hw : ∀ t, b ≠ .whn t := fun t e => hbu (.inr ⟨t, e⟩)
            rw [foldHead_else hbd hu hw] at h
            repeat walk_at "go1"
            refine ⟨_, get_name b, ?_⟩
            repeat walk_at "go1"
            refine ite_f (name_unl b hu) ?_
            repeat walk_at "go1"
            refine ⟨_, get_name b, ?_⟩
            repeat walk_at "go1"
            refine ite_f (name_whn b hw) ?_
            repeat walk_at "go1"
            refine ev_call (P.glob (k := 27) rfl rfl) (P.fn (k := 27) rfl rfl).ex ?_
            repeat walk_at "go1"
            refine c_joined_single P (hA'.le (by decide)) hx ?_
            unfold foldElse at h
            cases hf : foldSingle b x with
            | some v =>
              rw [hf] at h
              repeat walk_at "go1"
              refine ex_setat ?_
              repeat walk_at "go1"
              refine ⟨r, _, _, n, rfl, rfl, rfl, hr, by simp; (first | lia | omega), by (first | lia | omega), ?_⟩
              rw [set0 hP]
              repeat walk_at "go1"
              refine ex_setat ?_
              repeat walk_at "go1"
              refine ⟨r, _, _, n + 1, rfl, rfl, by simp, upd_self .., by simp; (first | lia | omega), by (first | lia | omega), ?_⟩
              rw [set1 hP, upd_upd]
              repeat walk_at "go1"
              simpa [enco, Ins.enc, Ins.parts, ov] using h
            | none =>
              rw [hf] at h
              dsimp only at h
              repeat walk_at "go1"
              refine ev_call (P.glob (k := 24) rfl rfl) (P.fn (k := 24) rfl rfl).ex ?_
              repeat walk_at "go1"
              refine c_is_number P (hA'.le (by decide)) ?_
              refine ⟨_, true_bool, ?_⟩
              by_cases hc : ∃ y, b = .const y
              · obtain ⟨y, rfl⟩ := hc
                have hy : Small y := hsm y (by simp)
                repeat walk_at "go1"
                refine ev_len (P.free "len" (by simp)) ?_
                repeat walk_at "go1"
                refine ⟨r, _, rfl, hr, by simp [hP]; (first | lia | omega), ?_⟩
                repeat walk_at "go1"
                cases rest with
                | nil =>
                  refine ite_t (by simp [hP]) ?_
                  repeat walk_at "go1"
                  exact h
                | cons c rest =>
                  simp only [List.map_cons] at hr
                  simp only [List.length_cons] at hb
                  refine ite_f (by simp [hP]; (first | lia | omega)) ?_
                  repeat walk_at "go1"
                  refine ⟨_, cmp_in_idict hd, ?_⟩
                  cases he2 : (ilook ld ((n : Int) + 2)).isSome
                  · rw [he2] at h
                    simp only [foldPairs, Bool.false_eq_true, if_false] at h
                    repeat walk_at "go1"
                    refine ev_call (P.glob (k := 26) rfl rfl) (P.fn (k := 26) rfl rfl).ex ?_
                    repeat walk_at "go1"
                    refine ⟨_, get_rowK hr (i := n + 2) (by simp) (at2 hP) (by (first | lia | omega)), ?_⟩
                    repeat walk_at "go1"
                    refine c_joined_pair P (hA'.le (by decide)) hx hy ?_
                    cases hfp : foldPair c x y with
                    | none =>
                      rw [hfp] at h
                      repeat walk_at "go1"
                      exact h
                    | some v =>
                      rw [hfp] at h
                      repeat walk_at "go1"
                      refine ex_setat ?_
                      repeat walk_at "go1"
                      refine ⟨r, _, _, n, rfl, rfl, rfl, hr, by simp; (first | lia | omega), by (first | lia | omega), ?_⟩
                      rw [set0 hP]
                      repeat walk_at "go1"
                      refine ex_setat ?_
                      repeat walk_at "go1"
                      refine ⟨r, _, _, n + 1, rfl, rfl, by simp, upd_self .., by simp; (first | lia | omega), by (first | lia | omega), ?_⟩
                      rw [set1 hP, upd_upd]
                      repeat walk_at "go1"
                      refine ex_setat ?_
                      repeat walk_at "go1"
                      refine ⟨r, _, _, n + 2, rfl, rfl, by simp, upd_self .., by simp; (first | lia | omega), by (first | lia | omega), ?_⟩
                      rw [set2 hP, upd_upd]
                      repeat walk_at "go1"
                      simpa [enco, Ins.enc, Ins.parts, ov] using h
                  · rw [he2] at h
                    simp only [foldPairs, if_true] at h
                    repeat walk_at "go1"
                    exact h
              · refine ite_t (by cases b <;> first | exact absurd ⟨_, rfl⟩ hc | rfl) ?_
                repeat walk_at "go1"
                have h' : post (.bool false) H := by
                  cases b <;> first | exact absurd ⟨_, rfl⟩ hc | exact h
                exact h'
      · rw [he1] at h
        repeat walk_at "go1"
        exact h
  · have hn : isCo (some i0) = false ∧ ∀ e1 e2, foldHead e1 e2 (i0 :: rest) = none := by
      cases i0 <;> first | exact absurd ⟨_, rfl⟩ hc0 | exact ⟨rfl, fun _ _ => rfl⟩
    rw [hn.2] at h
    rw [hn.1]
    repeat walk_at "go1"
    exact h
end

-- part W6
theorem two_more {α : Type} {l : List (Option α)} (h : 2 ≤ l.length) : (∃ a, l = [a, none]) ∨ (∃ a b l3, l = a :: none :: b :: l3) ∨ ∃ a b l3, l = a :: some b :: l3 := by
  cases l with
  | nil => cases h
  | cons a l =>
    cases l with
    | nil => cases Nat.le_of_succ_le_succ h
    | cons b l =>
      cases b with
      | some b => exact .inr (.inr ⟨a, b, l, rfl⟩)
      | none =>
        cases l with
        | nil => exact .inl ⟨a, rfl⟩
        | cons c l => exact .inr (.inl ⟨a, c, l, rfl⟩)
section
variable {G : Gd} (P : Prog G)
theorem c_fold_constants {A : Around} (hA : Room 5 A) {H : Hp} {r : Addr} {c : List Ins} {post : PV → Hp → Prop} (hr : H r = some (code c)) (hc : c.length < 2 ^ 20) (hsm : SmallC c)
    (ht : ∀ (i : Nat) (ins : Ins), (foldRun (ledTo c) 0 c)[i]? = some (some ins) → ins.isJump = true → ins.tgt < c.length)
    (hlen : (foldRun (ledTo c) 0 c).length = c.length)
    (h : ∀ b, H b = none → post (.ref b) (upd H b (code (foldF c)))) : FnW G A (P.fa 31) [.ref r] H post := by
  refine FnW.drop (fn_go P (k := 31) rfl rfl hA [Str.ofString "rows"] rfl (by walk_at "fn") (by decide) (by decide) fun A' L cd hA' hL => ?_)
  repeat walk_at "go1"
  refine ev_call (P.glob (k := 23) rfl rfl) (P.fn (k := 23) rfl rfl).ex ?_
  repeat walk_at "go1"
  refine c_targets P (hA'.le (by decide)) hr (by (first | lia | omega)) fun d l hd hl => ?_
  have hrd : r ≠ d := by first | exact ne_hp hr hd | exact ne_hp hd hr | exact (fun e => by rw [e, hd] at hr; cases hr)
  repeat walk_at "go1"
  refine ev_listcopy (P.free "list" (by simp)) ?_
  repeat walk_at "go1"
  refine ⟨r, _, rfl, (upd_ne hrd).trans hr, sz20 (by simpa using Nat.le_of_lt hc), fun f hf => ?_⟩
  have hfd : f ≠ d := by first | exact (upd_none hf).1 | exact (upd_none hf).1.symm | exact (upd_none (upd_none hf).2).1 | exact (upd_none (upd_none hf).2).1.symm | exact (fun e => by rw [e, upd_self] at hf; cases hf)
  have hf0 : H f = none := by first | exact (upd_none hf).2 | exact (upd_none (upd_none hf).2).2 | (rw [upd_ne hfd] at hf; exact hf)
  have hdl : ∀ x, upd (upd H d (.idict l)) f x d = some (.idict l) := fun x => by rw [upd_ne hfd.symm, upd_self]
  repeat walk_at "go1"
  refine ex_while (fun k m' H' => ∃ pre suf, Has m' [(Str.ofString "rows", .ref r), (Str.ofString "led", .ref d), (Str.ofString "found", .ref f), (Str.ofString "index", .int (pre.length : Nat))] ∧
      H' = upd (upd H d (.idict l)) f (.list ((pre ++ suf.map some).map enco)) ∧ suf.length = k ∧ pre ++ foldRun (ledTo c) pre.length suf = foldRun (ledTo c) 0 c ∧ pre.length + suf.length = c.length ∧ SmallC suf) c.length
    ⟨[], c, by walk_at "has", by simp [enco, Function.comp_def], rfl, by simp, by simp, hsm⟩ ?_
  · rintro k m2 H2 ⟨pre, suf, hm, rfl, hk, he, hlen2, hsm2⟩
    refine w_has hm ?_
    repeat walk_at "go1"
    refine ev_len (P.free "len" (by simp)) ?_
    repeat walk_at "go1"
    refine ⟨f, _, rfl, upd_self .., by simp; (first | lia | omega), ?_⟩
    refine ⟨_, cmp_lt_int, ?_⟩
    cases suf with
    | nil =>
      refine ite_f (by simp) ?_
      rw [foldRun_nil] at he
      simp only [List.append_nil, List.map_nil] at he ⊢
      repeat walk_at "go1"
      refine ev_call (P.glob (k := 29) rfl rfl) (P.fn (k := 29) rfl rfl).ex ?_
      repeat walk_at "go1"
      have hpl : pre.length = c.length := by simpa using hlen2
      refine c_compacted P (hA'.le (by decide)) (upd_self ..) (by (first | lia | omega)) (fun i ins hi hj => by rw [he] at hi; rw [hpl]; exact ht i ins hi hj) fun b hb => ?_
      have hbf : b ≠ f := by first | exact (upd_none hb).1 | exact (upd_none hb).1.symm | exact (upd_none (upd_none hb).2).1 | exact (upd_none (upd_none hb).2).1.symm | exact (fun e => by rw [e, upd_self] at hb; cases hb)
      have hbd : b ≠ d := by first | exact ne_hp hb hdl | exact ne_hp hdl hb | exact (fun e => by rw [e, hdl] at hb; cases hb)
      have hb0 : H b = none := by first | exact (upd_none hb).2 | exact (upd_none (upd_none hb).2).2 | (rw [upd_ne hbf, upd_ne hbd] at hb; exact hb)
      rw [he]
      exact ⟨_, (((Sub.refl H).new hd _).new hf0 _).upd b _, h b hb0⟩
    | cons i rest =>
      refine ite_t (by simp; (first | lia | omega)) ?_
      repeat walk_at "go1"
      refine ev_call (P.glob (k := 30) rfl rfl) (P.fn (k := 30) rfl rfl).ex ?_
      repeat walk_at "go1"
      simp only [List.length_cons] at hlen2 hk
      refine c_fold_at P (hA'.le (by decide)) (pre := pre) (suf := i :: rest) (upd_self ..) (hdl _) rfl (by simp; (first | lia | omega)) (by simp) hsm2 ?_
      rw [led_nat hl (pre.length + 1) (by simp), led_nat hl (pre.length + 2) (by simp)]
      rw [foldRun_cons] at he
      cases hf : foldHead (ledTo c (pre.length + 1)) (ledTo c (pre.length + 2)) (i :: rest) with
      | some l2 =>
        rw [hf] at he
        obtain ⟨h2, hl2, hsplit⟩ := foldHead_spec hf
        dsimp only at he ⊢
        rw [upd_upd]
        simp only [List.length_cons] at hl2
        have fin : ∀ k0, stepK l2 = k0 → ∃ k', k' < k ∧ ∃ pre' suf', Has [(Str.ofString "rows", .ref r), (Str.ofString "led", .ref d), (Str.ofString "found", .ref f), (Str.ofString "index", .int ((pre.length : Int) + k0))]
              [(Str.ofString "rows", .ref r), (Str.ofString "led", .ref d), (Str.ofString "found", .ref f), (Str.ofString "index", .int (pre'.length : Nat))] ∧
            upd (upd H d (.idict l)) f (.list ((pre ++ l2).map enco)) = upd (upd H d (.idict l)) f (.list ((pre' ++ suf'.map some).map enco)) ∧ suf'.length = k' ∧ pre' ++ foldRun (ledTo c) pre'.length suf' = foldRun (ledTo c) 0 c ∧
            pre'.length + suf'.length = c.length ∧ SmallC suf' := by
          intro k0 hk0
          have hk2 := stepK_pos l2
          have hkl : stepK l2 ≤ l2.length := by
            unfold stepK; split
            · simp
            · exact h2
          have htl : (l2.take (stepK l2)).length = stepK l2 := by rw [List.length_take]; (first | lia | omega)
          have epl : (pre ++ l2.take (stepK l2)).length = pre.length + stepK l2 := by rw [List.length_append, htl]
          refine ⟨_, ?_, pre ++ l2.take (stepK l2), (i :: rest).drop (stepK l2), ?_, ?_, rfl, ?_, ?_, ?_⟩
          · rw [List.length_drop, List.length_cons]; (first | lia | omega)
          · have e1 : ((pre ++ l2.take (stepK l2)).length : Int) = (pre.length : Int) + k0 := by rw [epl, hk0]; simp
            rw [e1]; walk_at "has"
          · rw [List.append_assoc, ← hsplit]
          · rw [epl, List.append_assoc]; exact he
          · rw [epl, List.length_drop, List.length_cons]; (first | lia | omega)
          · exact fun n hn => hsm2 n (List.mem_of_mem_drop hn)
        clear he hf hsplit
        rcases two_more h2 with ⟨a, rfl⟩ | ⟨a, b, l3, rfl⟩ | ⟨a, b, l3, rfl⟩
        · repeat walk_at "go1"
          refine ⟨_, get_rowK (upd_self ..) (i := pre.length + 1) (x := .none) (by simp) (by simp [enco]) (by (first | lia | omega)), ?_⟩
          repeat walk_at "go1"
          refine ev_len (P.free "len" (by simp)) ?_
          repeat walk_at "go1"
          refine ⟨f, _, rfl, upd_self .., by simp; (first | lia | omega), ?_⟩
          refine ⟨_, cmp_lt_int, ?_⟩
          refine ite_f (by simp) ?_
          repeat walk_at "go1"
          refine ⟨_, rfl, ?_⟩
          repeat walk_at "go1"
          exact fin 2 rfl
        · repeat walk_at "go1"
          refine ⟨_, get_rowK (upd_self ..) (i := pre.length + 1) (x := .none) (by simp) (by simp [enco]) (by (first | lia | omega)), ?_⟩
          repeat walk_at "go1"
          refine ev_len (P.free "len" (by simp)) ?_
          repeat walk_at "go1"
          simp only [List.length_cons] at hl2
          refine ⟨f, _, rfl, upd_self .., by simp; (first | lia | omega), ?_⟩
          refine ⟨_, cmp_lt_int, ?_⟩
          refine ite_t (by simp; (first | lia | omega)) ?_
          repeat walk_at "go1"
          refine ⟨_, rfl, ?_⟩
          repeat walk_at "go1"
          exact fin 3 rfl
        · repeat walk_at "go1"
          refine ⟨_, get_rowK (upd_self ..) (i := pre.length + 1) (x := b.enc) (by simp) (by simp [enco]) (by (first | lia | omega)), ?_⟩
          repeat walk_at "go1"
          refine ⟨_, rfl, ?_⟩
          repeat walk_at "go1"
          exact fin 2 rfl
      | none =>
        rw [hf] at he
        dsimp only at he ⊢
        repeat walk_at "go1"
        refine ⟨_, rfl, ?_⟩
        repeat walk_at "go1"
        refine ⟨k - 1, by (first | lia | omega), pre ++ [some i], rest, ?_, ?_, by (first | lia | omega), ?_, by simp; (first | lia | omega), fun n hn => hsm2 n (by simp [hn])⟩
        · have e1 : ((pre ++ [some i]).length : Int) = (pre.length : Int) + 1 := by simp
          rw [e1]; walk_at "has"
        · simp
        · simpa using he
end

-- part W7
theorem name_jump (b : Ins) (h : ¬ ∃ t, b = .jump t) : (b.name == Str.ofString "jump") = false := by
  cases b <;> first | exact absurd ⟨_, rfl⟩ h | simp [Ins.name, ofString_inj]
section
variable {G : Gd} (P : Prog G)
theorem c_last_target {A : Around} (hA : Room 2 A) {H : Hp} {r : Addr} {c : List Ins} {i : Nat} {post : PV → Hp → Prop} (hr : H r = some (code c)) (hc : c.length < 2 ^ 20) (hf : Fwd c) (hi : i < c.length)
    (h : post (.int (lastT c i)) H) : FnW G A (P.fa 32) [.ref r, .int i] H post := by
  refine FnW.drop (fn_go P (k := 32) rfl rfl hA [Str.ofString "rows", Str.ofString "index"] rfl (by walk_at "fn") (by decide) (by decide) fun A' L cd hA' hL => ?_)
  repeat walk_at "go1"
  intro d hd
  have hrd : r ≠ d := by first | exact ne_hp hr hd | exact ne_hp hd hr | exact (fun e => by rw [e, hd] at hr; cases hr)
  repeat walk_at "go1"
  have hr' : ∀ x, upd H d x r = some (code c) := fun x => (upd_ne hrd).trans hr
  refine ex_while (fun k m' H' => ∃ (j : Nat) (l : List (Int × PV)), Has m' [(Str.ofString "rows", .ref r), (Str.ofString "index", .int i), (Str.ofString "seen", .ref d), (Str.ofString "at", .int j)] ∧ H' = upd H d (.idict l) ∧
      j < c.length ∧ k = c.length - j ∧ lastT c i = lastT c j ∧ l.length ≤ j ∧ ∀ q : Int, j ≤ q → ilook l q = none) (c.length - i)
    ⟨i, [], by walk_at "has", rfl, hi, rfl, rfl, by simp, fun q _ => rfl⟩ ?_
  rintro k m2 H2 ⟨j, l, hm, rfl, hj, rfl, he, hl, hq⟩
  refine w_has hm ?_
  obtain ⟨b, hb⟩ : ∃ b, c[j]? = some b := ⟨_, List.getElem?_eq_getElem hj⟩
  have hget : (c.map Ins.enc)[j]? = some b.enc := by simp [hb]
  repeat walk_at "go1"
  refine ⟨_, get_row (hr' _) hget (by (first | lia | omega)), ?_⟩
  repeat walk_at "go1"
  refine ⟨_, get_name b, ?_⟩
  repeat walk_at "go1"
  by_cases hbj : ∃ t, b = .jump t
  · obtain ⟨t, rfl⟩ := hbj
    have hft := hf j _ hb rfl
    simp only [Ins.tgt] at hft
    repeat walk_at "go1"
    refine ⟨_, cmp_notIn_idict (upd_self ..), ?_⟩
    rw [hq j (Int.le_refl _)]
    repeat walk_at "go1"
    refine ex_setidict ?_
    repeat walk_at "go1"
    refine ⟨d, l, _, rfl, rfl, upd_self .., sz20 (by (first | lia | omega)), ?_⟩
    rw [upd_upd]
    repeat walk_at "go1"
    refine ⟨_, get_row (hr' _) hget (by (first | lia | omega)), ?_⟩
    repeat walk_at "go1"
    refine ⟨c.length - t, by (first | lia | omega), t, _, by walk_at "has", rfl, hft.2, rfl, he.trans (lastT_jump hb hf), ?_, fun q hq' => ?_⟩
    · have := istore_len l (j : Int) (.bool true); (first | lia | omega)
    · rw [ilook_istore]
      have : ¬ q = (j : Int) := by (first | lia | omega)
      rw [if_neg this]; exact hq q (by (first | lia | omega))
  · refine ite_f (name_jump b hbj) ?_
    repeat walk_at "go1"
    refine ⟨_, cmp_in_idict (upd_self ..), ?_⟩
    rw [hq j (Int.le_refl _)]
    repeat walk_at "go1"
    refine ⟨H, (Sub.refl H).new hd _, ?_⟩
    rw [he, lastT_stop hb (fun t e => hbj ⟨t, e⟩)] at h
    exact h
noncomputable def thrI (c : List Ins) (i : Ins) : Ins := if i.isJump = true then i.retarget (fun _ => lastT c i.tgt) else i
theorem threadF_eq (c : List Ins) : threadF c = c.map (thrI c) := rfl
theorem c_thread_jumps {A : Around} (hA : Room 4 A) {H : Hp} {r : Addr} {c : List Ins} {post : PV → Hp → Prop} (hr : H r = some (code c)) (hc : c.length < 2 ^ 20) (hf : Fwd c)
    (h : ∀ b, H b = none → post (.ref b) (upd H b (code (threadF c)))) : FnW G A (P.fa 33) [.ref r] H post := by
  refine FnW.drop (fn_introC (P.fn (k := 33) rfl rfl) hA (Str.ofString "rows") (fun _ _ _ _ _ _ _ => rfl) rfl (fun _ => rfl) fun A' L cd hA' hL hL1 => ?_)
  have hrc : r ≠ L + 1 := by first | exact ne_hp hr hL1 | exact ne_hp hL1 hr | exact (fun e => by rw [e, hL1] at hr; cases hr)
  repeat walk_at "go1"
  refine ev_listcomp (cl := [(Str.ofString "rows", L + 1)]) (fun i => match c[i]? with | some ins => (thrI c ins).enc | none => .none) ?_ hA'.1
  refine ev_cell (c := L + 1) (p := .ref r) (upd_self ..) ?_
  refine ⟨r, _, rfl, (upd_ne hrc).trans hr, sz20 (by simp; (first | lia | omega)), ?_, fun b hb => ?_⟩
  · intro i y C hy hC
    simp only [List.getElem?_map, Option.map_eq_some_iff] at hy
    obtain ⟨ins, hi, rfl⟩ := hy
    have hil : i < c.length := (List.getElem?_eq_some_iff.mp hi).1
    rw [hi]
    repeat walk_at "go1"
    refine ev_call (P.glob (k := 16) rfl rfl) (P.fn (k := 16) rfl rfl).ex ?_
    repeat walk_at "go1"
    refine c_is_jump P (hA'.le (by decide)) ?_
    refine ⟨_, true_bool, ?_⟩
    cases hj : ins.isJump
    · repeat walk_at "go1"
      refine ⟨by simp [thrI, hj], Sub.refl _⟩
    · have hft := hf i _ hi hj
      repeat walk_at "go1"
      refine ⟨_, get_name ins, ?_⟩
      repeat walk_at "go1"
      refine ev_call (P.glob (k := 32) rfl rfl) (P.fn (k := 32) rfl rfl).ex ?_
      repeat walk_at "go1"
      refine ev_cell (c := L + 1) (p := .ref r) (upd_self ..) ?_
      repeat walk_at "go1"
      refine ⟨_, get_tgt hj, ?_⟩
      repeat walk_at "go1"
      refine c_last_target P (hA'.le (by decide)) ((upd_ne hrc).trans hr) hc hf hft.2 ?_
      repeat walk_at "go1"
      refine ⟨?_, Sub.refl _⟩
      simp only [thrI, hj, if_true]
      rw [enc_retarget _ hj]
  · have hbc : b ≠ L + 1 := by first | exact (upd_none hb).1 | exact (upd_none hb).1.symm | exact (upd_none (upd_none hb).2).1 | exact (upd_none (upd_none hb).2).1.symm | exact (fun e => by rw [e, upd_self] at hb; cases hb)
    have hb0 : H b = none := by first | exact (upd_none hb).2 | exact (upd_none (upd_none hb).2).2 | (rw [upd_ne hbc] at hb; exact hb)
    repeat walk_at "go1"
    have e : (List.range (c.map Ins.enc).length).map (fun i => match c[i]? with | some ins => (thrI c ins).enc | none => PV.none) = (threadF c).map Ins.enc := by
      refine List.ext_getElem? fun i => ?_
      rw [threadF_eq]
      simp only [List.getElem?_map, List.length_map]
      rcases Nat.lt_or_ge i c.length with hlt | hge
      · simp [List.getElem?_range hlt, List.getElem?_eq_getElem hlt]
      · rw [List.getElem?_eq_none (by simpa using hge), List.getElem?_eq_none hge]; rfl
    rw [e]
    exact ⟨_, ((Sub.refl H).new hL1 _).upd b _, h b hb0⟩
end

-- part W8
noncomputable def nextsN (ins : Ins) (i : Nat) : List Nat := (if ins.endsWay = true then [] else [i + 1]) ++ (if ins.isJump = true then [ins.tgt] else [])
theorem nexts_eq (ins : Ins) (i : Nat) : nexts ins i = (nextsN ins i).map fun t : Nat => PV.int (t : Int) := by
  unfold nexts nextsN
  cases ins.endsWay <;> cases ins.isJump <;> simp
set_option genInjectivity false in
structure Hts (c : List Ins) (T : Nat → Option Int) : Prop where
  zero : T 0 = some 0
  at_ : ∀ i h, T i = some h → ∃ ins, c[i]? = some ins ∧ ins.eff.1 ≤ h ∧ (ins = .ret → h = 1) ∧ ∀ t ∈ nextsN ins i, T t = some (h - ins.eff.1 + ins.eff.2)
set_option genInjectivity false in
structure Reached (c : List Ins) (T : Nat → Option Int) (S : Nat → Bool) : Prop where
  zero : S 0 = true
  closed : ∀ i ins, S i = true → c[i]? = some ins → ∀ t ∈ nextsN ins i, S t = true
  in_ : ∀ i, S i = true → (T i).isSome = true

theorem filter_lt {p q : Nat → Bool} (hqp : ∀ x, q x = true → p x = true) : ∀ {l : List Nat}, (∃ x ∈ l, p x = true ∧ q x = false) → (l.filter q).length + 1 ≤ (l.filter p).length
  | [], h => by obtain ⟨x, hx, _⟩ := h; cases hx
  | y :: l, h => by
    have le : ∀ l : List Nat, (l.filter q).length ≤ (l.filter p).length := by
      intro l
      induction l with
      | nil => simp
      | cons z l ih =>
        simp only [List.filter_cons]
        cases hq : q z
        · cases p z <;> simp <;> (first | lia | omega)
        · simp only [hqp z hq, if_true, List.length_cons]; (first | lia | omega)
    have hle := le l
    simp only [List.filter_cons]
    obtain ⟨x, hx, hp, hq⟩ := h
    rcases List.mem_cons.mp hx with rfl | hx
    · rw [hp, hq]; simp; (first | lia | omega)
    · have ih := filter_lt hqp (l := l) ⟨x, hx, hp, hq⟩
      cases hqy : q y
      · cases p y <;> simp <;> (first | lia | omega)
      · simp only [hqp y hqy, if_true, List.length_cons]; (first | lia | omega)
noncomputable def unf (n : Nat) (l : List (Int × PV)) : Nat := ((List.range n).filter fun j : Nat => (ilook l (j : Int)).isNone).length
theorem unf_store {n : Nat} {l : List (Int × PV)} {t : Nat} {v : PV} (ht : t < n) (hn : ilook l (t : Int) = none) : unf n (istore l (t : Int) v) + 1 ≤ unf n l := by
  refine filter_lt (fun x hx => ?_) ⟨t, List.mem_range.mpr ht, by simp [hn], by simp [ilook_istore]⟩
  rw [ilook_istore] at hx
  split at hx
  · simp at hx
  · exact hx

noncomputable def hs3 (H : Hp) (a b c : Addr) (x y z : PObj) : Hp := upd (upd (upd H a x) b y) c z
section
variable {H : Hp} {a b c d : Addr} {x y z o w : PObj}
theorem hs3_none (h : hs3 H a b c x y z d = none) : d ≠ a ∧ d ≠ b ∧ d ≠ c ∧ H d = none :=
  ⟨(upd_none (upd_none (upd_none h).2).2).1, (upd_none (upd_none h).2).1, (upd_none h).1, (upd_none (upd_none (upd_none h).2).2).2⟩
theorem hs3_a (h1 : a ≠ b) (h2 : a ≠ c) : hs3 H a b c x y z a = some x := by unfold hs3; rw [upd_ne h2, upd_ne h1, upd_self]
theorem hs3_b (h1 : b ≠ c) : hs3 H a b c x y z b = some y := by unfold hs3; rw [upd_ne h1, upd_self]
theorem hs3_c : hs3 H a b c x y z c = some z := by unfold hs3; rw [upd_self]
theorem hs3_o (h1 : d ≠ a) (h2 : d ≠ b) (h3 : d ≠ c) : hs3 H a b c x y z d = H d := by unfold hs3; rw [upd_ne h3, upd_ne h2, upd_ne h1]
theorem hs3_ua (h1 : a ≠ b) (h2 : a ≠ c) : upd (hs3 H a b c x y z) a w = hs3 H a b c w y z := by
  unfold hs3; rw [upd_comm _ h2.symm, upd_comm _ h1.symm, upd_upd]
theorem hs3_uc : upd (hs3 H a b c x y z) c w = hs3 H a b c x y w := by unfold hs3; rw [upd_upd]
theorem hs3_uda (hd : d ≠ a) (h1 : a ≠ b) (h2 : a ≠ c) : upd (upd (hs3 H a b c x y z) d o) a w = upd (hs3 H a b c w y z) d o := by rw [upd_comm _ hd, hs3_ua h1 h2]
theorem hs3_udc (hd : d ≠ c) : upd (upd (hs3 H a b c x y z) d o) c w = upd (hs3 H a b c x y w) d o := by rw [upd_comm _ hd, hs3_uc]
end
section
variable {G : Gd} (P : Prog G)
set_option genInjectivity false in
structure HInv (c : List Ins) (T : Nat → Option Int) (l : List (Int × PV)) (w : List PV) : Prop where
  typed : ∀ q v, ilook l q = some v → ∃ n h, q = ((n : Nat) : Int) ∧ T n = some h ∧ v = .int h
  wait : ∀ x ∈ w, ∃ n : Nat, x = .int n ∧ (ilook l (n : Int)).isSome = true
  zero : (ilook l 0).isSome = true
  le1 : w.length ≤ l.length
  le2 : l.length + unf c.length l ≤ c.length
noncomputable def Done (c : List Ins) (l : List (Int × PV)) (n : Nat) : Prop := ∀ ins, c[n]? = some ins → ∀ t ∈ nextsN ins n, (ilook l (t : Int)).isSome = true
theorem HInv.add {c : List Ins} {T : Nat → Option Int} {l : List (Int × PV)} {w : List PV} (I : HInv c T l w) {t : Nat} {h : Int} (ht : T t = some h) (hlt : t < c.length) (hn : ilook l (t : Int) = none) : HInv c T (istore l (t : Int) (.int h)) (w ++ [.int t]) := by
  have hlen := istore_len l (t : Int) (.int h)
  have hu := unf_store (n := c.length) (v := .int h) hlt hn
  have hadd : (istore l (t : Int) (.int h)).length = l.length + 1 := by
    unfold istore
    split
    · rename_i hany
      exfalso
      simp only [List.any_eq_true, decide_eq_true_eq] at hany
      obtain ⟨kv, hkv, he⟩ := hany
      have : (l.find? fun kv => decide (kv.1 = (t : Int))).isSome = true := List.find?_isSome.mpr ⟨kv, hkv, by simpa using he⟩
      unfold ilook at hn
      rw [Option.map_eq_none_iff] at hn
      rw [hn] at this; cases this
    · simp
  have h1 := I.le1
  have h2 := I.le2
  refine ⟨fun q v e => ?_, fun x hx => ?_, ?_, ?_, by (first | lia | omega)⟩
  · rw [ilook_istore] at e
    split at e
    · rename_i hq; cases e; exact ⟨t, h, hq, ht, rfl⟩
    · exact I.typed q v e
  · rw [List.mem_append, List.mem_singleton] at hx
    rcases hx with hx | rfl
    · obtain ⟨n, rfl, hn'⟩ := I.wait x hx
      refine ⟨n, rfl, ?_⟩
      rw [ilook_istore]; split
      · rfl
      · exact hn'
    · exact ⟨t, rfl, by rw [ilook_istore, if_pos rfl]; rfl⟩
  · rw [ilook_istore]; split
    · rfl
    · exact I.zero
  · simp only [List.length_append, List.length_cons, List.length_nil]; (first | lia | omega)
theorem Done.add {c : List Ins} {l : List (Int × PV)} {n : Nat} (h : Done c l n) (k : Int) (v : PV) : Done c (istore l k v) n := fun ins hi t ht => by
  rw [ilook_istore]; split
  · rfl
  · exact h ins hi t ht
theorem c_heights {A : Around} (hA : Room 3 A) {H : Hp} {r : Addr} {c : List Ins} {T : Nat → Option Int} {post : PV → Hp → Prop} (hr : H r = some (code c)) (hc : c.length < 2 ^ 20) (hT : Hts c T)
    (h : ∀ a b l, H a = none → H b = none → a ≠ b → Reached c T (fun n => (ilook l (n : Int)).isSome) → post (.tup [.ref a, .ref b]) (upd (upd H a (.idict l)) b (.list []))) : FnW G A (P.fa 20) [.ref r] H post := by
  refine FnW.drop (fn_go P (k := 20) rfl rfl hA [Str.ofString "rows"] rfl (by walk_at "fn") (by decide) (by decide) fun A' L cd hA' hL => ?_)
  have hpos : 0 < c.length := by
    obtain ⟨ins, hi, _⟩ := hT.at_ 0 0 hT.zero
    exact (List.getElem?_eq_some_iff.mp hi).1
  repeat walk_at "go1"
  with_reducible refine ev_dictI (hall := ?a1) (hl := ?a2) (h0 := ?a3) (hlen := ?a4) ?_
  case a1 => rfl
  case a2 => rfl
  case a3 => simp
  case a4 => decide
  with_reducible refine prs_cons ?_
  repeat walk_at "go1"
  refine prs_nil ⟨[(0, .int 0)], rfl, fun fo hfo => ?_⟩
  repeat walk_at "go1"
  intro fa hfa
  repeat walk_at "go1"
  intro wa hwa
  have ne1 : fo ≠ fa := by first | exact (upd_none hfa).1 | exact (upd_none hfa).1.symm | exact (upd_none (upd_none hfa).2).1 | exact (upd_none (upd_none hfa).2).1.symm | exact (fun e => by rw [← e, upd_self] at hfa; cases hfa)
  have ne2 : fo ≠ wa := by first | exact (upd_none hwa).1 | exact (upd_none hwa).1.symm | exact (upd_none (upd_none hwa).2).1 | exact (upd_none (upd_none hwa).2).1.symm | exact (fun e => by rw [← e, upd_ne ne1, upd_self] at hwa; cases hwa)
  have ne3 : fa ≠ wa := by first | exact (upd_none hwa).1 | exact (upd_none hwa).1.symm | exact (upd_none (upd_none hwa).2).1 | exact (upd_none (upd_none hwa).2).1.symm | exact (fun e => by rw [← e, upd_self] at hwa; cases hwa)
  have hfa0 : H fa = none := by first | exact (upd_none hfa).2 | exact (upd_none (upd_none hfa).2).2 | exact (hs3_none hfa).2.2.2 | (rw [upd_ne ne1.symm] at hfa; exact hfa)
  have hwa0 : H wa = none := by first | exact (upd_none hwa).2 | exact (upd_none (upd_none hwa).2).2 | exact (hs3_none hwa).2.2.2 | (rw [upd_ne ne3.symm, upd_ne ne2.symm] at hwa; exact hwa)
  have hr1 : r ≠ fo := by first | exact ne_hp hr hfo | exact ne_hp hfo hr | exact (fun e => by rw [e, hfo] at hr; cases hr)
  have hr2 : r ≠ fa := by first | exact ne_hp hr hfa0 | exact ne_hp hfa0 hr | exact (fun e => by rw [e, hfa0] at hr; cases hr)
  have hr3 : r ≠ wa := by first | exact ne_hp hr hwa0 | exact ne_hp hwa0 hr | exact (fun e => by rw [e, hwa0] at hr; cases hr)
  have e0 : upd (upd (upd H fo (.idict (([((0 : Int), PV.int 0)]).foldl (fun l q => istore l q.1 q.2) []))) fa (.list [])) wa (.list [PV.int 0]) = hs3 H fo fa wa (.idict [(0, .int 0)]) (.list []) (.list [.int 0]) := rfl
  have hrr : ∀ x z, hs3 H fo fa wa x (.list []) z r = some (code c) := fun x z => (hs3_o hr1 hr2 hr3).trans hr
  refine W.hp e0 ?_
  clear e0
  repeat walk_at "go1"
  refine ev_len (P.free "len" (by simp)) ?_
  repeat walk_at "go1"
  refine ⟨r, _, rfl, hrr _ _, by simp; (first | lia | omega), ?_⟩
  repeat walk_at "go1"
  refine ite_f (by have : c ≠ [] := fun e => by rw [e] at hpos; simp at hpos
                   simp [this]) ?_
  repeat walk_at "go1"
  refine ex_while (fun k m' H' => ∃ l w, Has m' [(Str.ofString "rows", .ref r), (Str.ofString "found", .ref fo), (Str.ofString "faults", .ref fa), (Str.ofString "waiting", .ref wa)] ∧
      H' = hs3 H fo fa wa (.idict l) (.list []) (.list w) ∧ HInv c T l w ∧ (∀ n : Nat, (ilook l (n : Int)).isSome = true → (PV.int n ∈ w) ∨ Done c l n) ∧ k = 2 * unf c.length l + w.length) (2 * unf c.length [((0 : Int), .int 0)] + 1)
    ⟨[(0, .int 0)], [.int 0], by walk_at "has", rfl, ?_, fun n hn => .inl ?_, rfl⟩ ?_
  · refine ⟨fun q v e => ?_, fun x hx => ?_, rfl, by simp, ?_⟩
    · simp only [ilook, List.find?_cons, List.find?_nil] at e
      split at e
      · rename_i hq
        simp at hq e
        exact ⟨0, 0, hq.symm, hT.zero, e.symm⟩
      · simp at e
    · simp at hx; exact ⟨0, hx, rfl⟩
    · have := unf_store (n := c.length) (l := []) (t := 0) (v := .int 0) hpos rfl
      have e : istore ([] : List (Int × PV)) ((0 : Nat) : Int) (.int 0) = [(0, .int 0)] := rfl
      rw [e] at this
      have : unf c.length [] ≤ c.length := by unfold unf; exact Nat.le_trans (List.length_filter_le _ _) (by simp)
      simp; (first | lia | omega)
  · by_cases h0 : n = 0
    · subst h0; simp
    · simp [ilook] at hn; exact absurd hn.symm (by (first | lia | omega))
  rintro k m2 H2 ⟨l, w, hm, rfl, I, hdone, rfl⟩
  refine w_has hm ?_
  repeat walk_at "go1"
  refine ev_len (P.free "len" (by simp)) ?_
  repeat walk_at "go1"
  have hl20 : l.length ≤ 2 ^ 20 := by have := I.le2; (first | lia | omega)
  have hw20 : w.length ≤ 2 ^ 20 := Nat.le_trans I.le1 hl20
  refine ⟨wa, _, rfl, hs3_c, by (first | lia | omega), ?_⟩
  repeat walk_at "go1"
  rcases List.eq_nil_or_concat w with rfl | ⟨w, x, rfl⟩
  · refine ite_f (by simp) ?_
    repeat walk_at "go1"
    refine ev_sorted0 (P.free "sorted" (by simp)) ?_
    repeat walk_at "go1"
    refine ⟨fa, rfl, hs3_b ne3, fun b hb => ?_⟩
    repeat walk_at "go1"
    have hb1 : b ≠ fo := by first | exact (hs3_none hb).1 | exact (hs3_none hb).2.1 | exact (hs3_none hb).2.2.1 | exact (fun e => by rw [e, hs3_a ne1 ne2] at hb; cases hb)
    have hb2 : b ≠ fa := by first | exact (hs3_none hb).1 | exact (hs3_none hb).2.1 | exact (hs3_none hb).2.2.1 | exact (fun e => by rw [e, hs3_b ne3] at hb; cases hb)
    have hb3 : b ≠ wa := by first | exact (hs3_none hb).1 | exact (hs3_none hb).2.1 | exact (hs3_none hb).2.2.1 | exact (fun e => by rw [e, hs3_c] at hb; cases hb)
    have hb0 : H b = none := by first | exact (upd_none hb).2 | exact (upd_none (upd_none hb).2).2 | exact (hs3_none hb).2.2.2 | (rw [hs3_o hb1 hb2 hb3] at hb; exact hb)
    refine ⟨_, ?_, h fo b l hfo hb0 hb1.symm ⟨I.zero, fun i ins hi hc' t ht => ?_, fun i hi => ?_⟩⟩
    · unfold hs3
      exact (((Sub.refl _).new (by rw [upd_ne ne1.symm]; exact hfa0) _).new (by rw [upd_ne ne2.symm]; exact hwa0) _).upd b _
    · rcases hdone i hi with hx | hx
      · cases hx
      · exact hx ins hc' t ht
    · cases q : ilook l (i : Int) with
      | none => rw [q] at hi; cases hi
      | some v =>
        obtain ⟨n, hh, e1, e2, _⟩ := I.typed _ _ q
        have : i = n := by (first | lia | omega)
        subst this; rw [e2]; rfl
  · rw [List.concat_eq_append] at *
    refine ite_t (by simp <;> (first | lia | omega)) ?_
    obtain ⟨n, rfl, hn⟩ := I.wait x (by simp)
    have hn' := hn
    obtain ⟨v, hv⟩ := Option.isSome_iff_exists.mp hn
    obtain ⟨n', hh, e1, hTn, rfl⟩ := I.typed _ _ hv
    have : n = n' := by (first | lia | omega)
    subst this
    obtain ⟨ins, hi, hle, hret, hnx⟩ := hT.at_ n hh hTn
    have hnl : n < c.length := (List.getElem?_eq_some_iff.mp hi).1
    repeat walk_at "go1"
    refine ev_pop ?_
    repeat walk_at "go1"
    have h20 : (2:Nat) ^ 20 < sizeLine := by decide
    refine ⟨wa, w, _, rfl, hs3_c, by simp at hw20; (first | lia | omega), ?_⟩
    rw [hs3_uc]
    repeat walk_at "go1"
    refine ex_pair hA'.1 ?_
    repeat walk_at "go1"
    refine ev_call (P.glob (k := 18) rfl rfl) (P.fn (k := 18) rfl rfl).ex ?_
    repeat walk_at "go1"
    refine ⟨_, get_row (hrr _ _) (code_get hi) (by (first | lia | omega)), ?_⟩
    repeat walk_at "go1"
    refine c_effect P (hA'.le (by decide)) ⟨_, _, rfl, ?_⟩
    repeat walk_at "go1"
    refine ⟨_, get_idict (hs3_a ne1 ne2) hv, ?_⟩
    repeat walk_at "go1"
    refine kif_f (by simp; (first | lia | omega)) (ex_nil ?_)
    refine if_skip ?_ ?_
    · repeat walk_at "go1"
      refine ⟨_, get_row (hrr _ _) (code_get hi) (by (first | lia | omega)), ?_⟩
      repeat walk_at "go1"
      refine ⟨_, get_name ins, ?_⟩
      repeat walk_at "go1"
      by_cases hrt : ins = .ret
      · have h1 := hret hrt
        have h2 : ins.eff.1 = 1 := by rw [hrt]; rfl
        refine kand_t (by rw [hrt]; rfl) ?_
        repeat walk_at "go1"
        refine kand_f (by simp [h1, h2]) ⟨rfl, rfl, rfl⟩
      · exact kand_f (by cases ins <;> first | exact absurd rfl hrt | simp [Ins.name, ofString_inj]) ⟨rfl, rfl, rfl⟩
    repeat walk_at "go1"
    refine ex_for_listJ hA'.1 ?_
    repeat walk_at "go1"
    refine ev_call (P.glob (k := 19) rfl rfl) (P.fn (k := 19) rfl rfl).ex ?_
    repeat walk_at "go1"
    refine c_next_rows P (hA'.le (by decide)) (hrr _ _) hi (by (first | lia | omega)) fun b hb => ?_
    have hb1 : b ≠ fo := by first | exact (hs3_none hb).1 | exact (hs3_none hb).2.1 | exact (hs3_none hb).2.2.1 | exact (fun e => by rw [e, hs3_a ne1 ne2] at hb; cases hb)
    have hb2 : b ≠ fa := by first | exact (hs3_none hb).1 | exact (hs3_none hb).2.1 | exact (hs3_none hb).2.2.1 | exact (fun e => by rw [e, hs3_b ne3] at hb; cases hb)
    have hb3 : b ≠ wa := by first | exact (hs3_none hb).1 | exact (hs3_none hb).2.1 | exact (hs3_none hb).2.2.1 | exact (fun e => by rw [e, hs3_c] at hb; cases hb)
    have hb0 : H b = none := by first | exact (upd_none hb).2 | exact (upd_none (upd_none hb).2).2 | exact (hs3_none hb).2.2.2 | (rw [hs3_o hb1 hb2 hb3] at hb; exact hb)
    have hrb : r ≠ b := by first | exact ne_hp hr hb0 | exact ne_hp hb0 hr | exact (fun e => by rw [e, hb0] at hr; cases hr)
    have hIle2 := I.le2
    have hIle1 := I.le1
    simp only [List.length_append, List.length_cons, List.length_nil] at hIle1
    refine ⟨b, _, fun j m' H' => ∃ l' w', Has m' [(Str.ofString "rows", .ref r), (Str.ofString "found", .ref fo), (Str.ofString "faults", .ref fa), (Str.ofString "waiting", .ref wa), (Str.ofString "height", .int (hh - ins.eff.1)), (Str.ofString "given", .int ins.eff.2)] ∧
      H' = upd (hs3 H fo fa wa (.idict l') (.list []) (.list w')) b (.list (nexts ins n)) ∧ HInv c T l' w' ∧ (∀ q : Nat, (ilook l' (q : Int)).isSome = true → (PV.int q ∈ w') ∨ Done c l' q ∨ q = n) ∧
      (∀ t ∈ (nextsN ins n).take j, (ilook l' (t : Int)).isSome = true) ∧ 2 * unf c.length l' + w'.length < 2 * unf c.length l + (w ++ [PV.int n]).length, rfl, upd_self .., ?_, ?_, ?_⟩
    · refine ⟨l, w, by walk_at "has", rfl, ⟨I.typed, fun x hx => I.wait x (by simp [hx]), I.zero, by (first | lia | omega), I.le2⟩, fun q hq => ?_, by simp, by simp⟩
      rcases hdone q hq with hx | hx
      · rw [List.mem_append, List.mem_singleton] at hx
        rcases hx with hx | hx
        · exact .inl hx
        · cases hx; exact .inr (.inr (by (first | lia | omega)))
      · exact .inr (.inl hx)
    · rintro j y m3 H3 hy ⟨l', w', hm3, rfl, I', hd', htk, hms⟩
      refine ⟨upd_self .., w_hasS hm3 ?_⟩
      rw [nexts_eq, List.getElem?_map, Option.map_eq_some_iff] at hy
      obtain ⟨t, ht, rfl⟩ := hy
      have htm : t ∈ nextsN ins n := List.mem_of_getElem? ht
      have hTt := hnx t htm
      obtain ⟨ins', hi', _⟩ := hT.at_ _ _ hTt
      have htl : t < c.length := (List.getElem?_eq_some_iff.mp hi').1
      have hl20' : l'.length ≤ 2 ^ 20 := by have := I'.le2; (first | lia | omega)
      have hw20' : w'.length ≤ 2 ^ 20 := Nat.le_trans I'.le1 hl20'
      repeat walk_at "go1"
      refine ev_len (P.free "len" (by simp)) ?_
      repeat walk_at "go1"
      refine ⟨r, _, rfl, (upd_ne hrb).trans (hrr _ _), by simp; (first | lia | omega), ?_⟩
      repeat walk_at "go1"
      refine ite_f (by simp; (first | lia | omega)) ?_
      repeat walk_at "go1"
      have hfoS : ∀ x z, upd (hs3 H fo fa wa x (.list []) z) b (.list (nexts ins n)) fo = some x := fun x z => (upd_ne hb1.symm).trans (hs3_a ne1 ne2)
      have hwaS : ∀ x z, upd (hs3 H fo fa wa x (.list []) z) b (.list (nexts ins n)) wa = some z := fun x z => (upd_ne hb3.symm).trans hs3_c
      have htk' : (nextsN ins n).take (j + 1) = (nextsN ins n).take j ++ [t] := take_snoc ht
      refine ⟨_, cmp_notIn_idict (hfoS _ _), ?_⟩
      cases hlt : ilook l' (t : Int) with
      | none =>
        repeat walk_at "go1"
        refine ex_setidict ?_
        repeat walk_at "go1"
        refine ⟨fo, l', _, rfl, rfl, hfoS _ _, sz20 hl20', ?_⟩
        rw [hs3_uda hb1 ne1 ne2]
        repeat walk_at "go1"
        refine ev_append ?_
        repeat walk_at "go1"
        refine ⟨wa, rfl, ⟨_, hwaS _ _⟩, ?_⟩
        repeat walk_at "go1"
        refine ⟨_, hwaS _ _, sz20 hw20', ?_⟩
        rw [hs3_udc hb3]
        repeat walk_at "go1"
        have hu := unf_store (n := c.length) (v := .int (hh - ins.eff.1 + ins.eff.2)) htl hlt
        refine ⟨_, _, by walk_at "has", rfl, I'.add hTt htl hlt, fun q hq => ?_, fun t' ht' => ?_, by simp only [List.length_append, List.length_cons, List.length_nil] at hms ⊢; (first | lia | omega)⟩
        · rw [ilook_istore] at hq
          split at hq
          · rename_i hqt; have : q = t := by (first | lia | omega)
            subst this; exact .inl (by simp)
          · rcases hd' q hq with hx | hx | hx
            · exact .inl (by simp [hx])
            · exact .inr (.inl (hx.add _ _))
            · exact .inr (.inr hx)
        · rw [htk', List.mem_append, List.mem_singleton] at ht'
          rw [ilook_istore]
          split
          · rfl
          · rename_i hne
            rcases ht' with hx | rfl
            · exact htk t' hx
            · exact absurd rfl hne
      | some v =>
        obtain ⟨t2, h2, e2, hT2, rfl⟩ := I'.typed _ _ hlt
        have : t = t2 := by (first | lia | omega)
        subst this
        rw [hTt] at hT2; cases hT2
        repeat walk_at "go1"
        refine ⟨_, get_idict (hfoS _ _) hlt, ?_⟩
        repeat walk_at "go1"
        refine ite_f (by simp) ?_
        repeat walk_at "go1"
        refine ⟨l', w', by walk_at "has", rfl, I', hd', fun t' ht' => ?_, hms⟩
        rw [htk', List.mem_append, List.mem_singleton] at ht'
        rcases ht' with hx | rfl
        · exact htk t' hx
        · rw [hlt]; rfl
    · rintro m3 H3 ⟨l', w', hm3, rfl, I', hd', htk, hms⟩
      refine ⟨upd_self .., W.less (H' := hs3 H fo fa wa (.idict l') (.list []) (.list w')) hm3.sub ((Sub.refl _).new (by rw [hs3_o hb1 hb2 hb3]; exact hb0) _) ?_⟩
      repeat walk_at "go1"
      refine ⟨_, hms, l', w', by walk_at "has", rfl, I', fun q hq => ?_, rfl⟩
      rcases hd' q hq with hx | hx | rfl
      · exact .inl hx
      · exact .inr hx
      · refine .inr fun ins2 hi2 t ht => ?_
        rw [hi] at hi2; cases hi2
        rw [nexts_eq, List.length_map, List.take_length] at htk
        exact htk t ht
end

-- part W9
open Classical in
noncomputable def dropRun (S led : Nat → Bool) : Nat → Bool → List Ins → List (Option Ins)
  | _, _, [] => []
  | n, gone, i :: rest =>
    if S n = false then none :: dropRun S led (n + 1) false rest
    else if gone = true then none :: dropRun S led (n + 1) false rest
    else match i with
      | .jump t => (if t = n + 1 then none else some (.jump t)) :: dropRun S led (n + 1) false rest
      | .dup => if rest.head? = some .drop ∧ led (n + 1) = false then none :: dropRun S led (n + 1) true rest else some .dup :: dropRun S led (n + 1) false rest
      | i => some i :: dropRun S led (n + 1) false rest
open Classical in
theorem dropRun_cons (S led : Nat → Bool) (n : Nat) (gone : Bool) (i : Ins) (rest : List Ins) : dropRun S led n gone (i :: rest) =
    if S n = false then none :: dropRun S led (n + 1) false rest
    else if gone = true then none :: dropRun S led (n + 1) false rest
    else match i with
      | .jump t => (if t = n + 1 then none else some (.jump t)) :: dropRun S led (n + 1) false rest
      | .dup => if rest.head? = some .drop ∧ led (n + 1) = false then none :: dropRun S led (n + 1) true rest else some .dup :: dropRun S led (n + 1) false rest
      | i => some i :: dropRun S led (n + 1) false rest := by
  cases i <;> rfl
noncomputable def dropF (S : Nat → Bool) (c : List Ins) : List Ins := compactF (dropRun S (ledTo c) 0 false c)
theorem dropRun_len (S led : Nat → Bool) : ∀ (suf : List Ins) (n : Nat) (gone : Bool), (dropRun S led n gone suf).length = suf.length
  | [], _, _ => rfl
  | i :: rest, n, gone => by
    have ih := fun g => dropRun_len S led rest (n + 1) g
    unfold dropRun
    split
    · simp [ih]
    · split
      · simp [ih]
      · split
        · simp [ih]
        · split <;> simp [ih]
        · simp [ih]
theorem dropRun_get (S led : Nat → Bool) : ∀ (suf : List Ins) (n : Nat) (gone : Bool) (j : Nat) (ins : Ins), (dropRun S led n gone suf)[j]? = some (some ins) → suf[j]? = some ins
  | [], _, _, j, ins, h => by simp [dropRun] at h
  | i :: rest, n, gone, j, ins, h => by
    have ih := fun g j => dropRun_get S led rest (n + 1) g j ins
    unfold dropRun at h
    cases j with
    | zero =>
      split at h
      · simp at h
      · split at h
        · simp at h
        · split at h
          · simp at h
            rw [← h.2]; rfl
          · split at h
            · simp at h
            · simpa using h
          · simpa using h
    | succ j =>
      split at h
      · simpa using ih _ j (by simpa using h)
      · split at h
        · simpa using ih _ j (by simpa using h)
        · split at h
          · simpa using ih _ j (by simpa using h)
          · split at h
            · simpa using ih _ j (by simpa using h)
            · simpa using ih _ j (by simpa using h)
          · simpa using ih _ j (by simpa using h)
noncomputable def curD (gone : Bool) : List Ins → List (Option Ins)
  | [] => []
  | i :: rest => (if gone = true then none else some i) :: rest.map some
theorem curD_len (gone : Bool) (l : List Ins) : (curD gone l).length = l.length := by cases l <;> simp [curD]
section
variable {G : Gd} (P : Prog G)
theorem c_drop_rows {A : Around} (hA : Room 4 A) {H : Hp} {r : Addr} {c : List Ins} {T : Nat → Option Int} {post : PV → Hp → Prop} (hr : H r = some (code c)) (hc : c.length < 2 ^ 20) (hf : Fwd c) (hT : Hts c T)
    (h : ∀ S b, Reached c T S → H b = none → post (.ref b) (upd H b (code (dropF S c)))) : FnW G A (P.fa 34) [.ref r] H post := by
  refine FnW.drop (fn_go P (k := 34) rfl rfl hA [Str.ofString "rows"] rfl (by walk_at "fn") (by decide) (by decide) fun A' L cd hA' hL => ?_)
  repeat walk_at "go1"
  refine ev_call (P.glob (k := 20) rfl rfl) (P.fn (k := 20) rfl rfl).ex ?_
  repeat walk_at "go1"
  refine c_heights P (hA'.le (by decide)) hr hc hT fun q e l0 hq he hqe hS => ?_
  have hrq : r ≠ q := by first | exact ne_hp hr hq | exact ne_hp hq hr | exact (fun e => by rw [e, hq] at hr; cases hr)
  generalize hSd : (fun n : Nat => (ilook l0 (n : Int)).isSome) = S at hS
  have hSn : ∀ n : Nat, (ilook l0 (n : Int)).isSome = S n := fun n => by rw [← hSd]
  refine W.less (H' := upd H q (.idict l0)) (fun _ _ e => e) ((Sub.refl _).new (by rw [upd_ne hqe.symm]; exact he) _) ?_
  repeat walk_at "go1"
  refine ev_call (P.glob (k := 23) rfl rfl) (P.fn (k := 23) rfl rfl).ex ?_
  repeat walk_at "go1"
  refine c_targets P (hA'.le (by decide)) ((upd_ne hrq).trans hr) (by (first | lia | omega)) fun d l hd hl => ?_
  have hdq : d ≠ q := by first | exact (upd_none hd).1 | exact (upd_none hd).1.symm | exact (upd_none (upd_none hd).2).1 | exact (upd_none (upd_none hd).2).1.symm | exact (fun e => by rw [e, upd_self] at hd; cases hd)
  have hd0 : H d = none := by first | exact (upd_none hd).2 | exact (upd_none (upd_none hd).2).2 | exact (hs3_none hd).2.2.2 | (rw [upd_ne hdq] at hd; exact hd)
  have hrd : r ≠ d := by first | exact ne_hp hr hd0 | exact ne_hp hd0 hr | exact (fun e => by rw [e, hd0] at hr; cases hr)
  repeat walk_at "go1"
  refine ev_listcopy (P.free "list" (by simp)) ?_
  repeat walk_at "go1"
  refine ⟨r, _, rfl, (upd_ne hrd).trans ((upd_ne hrq).trans hr), sz20 (by simpa using Nat.le_of_lt hc), fun f hf' => ?_⟩
  have hfd : f ≠ d := by first | exact (upd_none hf').1 | exact (upd_none hf').1.symm | exact (upd_none (upd_none hf').2).1 | exact (upd_none (upd_none hf').2).1.symm | exact (fun e => by rw [e, upd_self] at hf'; cases hf')
  have hfq : f ≠ q := by first | exact (upd_none hf').1 | exact (upd_none hf').1.symm | exact (upd_none (upd_none hf').2).1 | exact (upd_none (upd_none hf').2).1.symm | exact (fun e => by rw [e, upd_ne hdq.symm, upd_self] at hf'; cases hf')
  have hf0 : H f = none := by first | exact (upd_none hf').2 | exact (upd_none (upd_none hf').2).2 | exact (hs3_none hf').2.2.2 | (rw [upd_ne hfd, upd_ne hfq] at hf'; exact hf')
  have e0 : upd (upd (upd H q (.idict l0)) d (.idict l)) f (.list (c.map Ins.enc)) = hs3 H q d f (.idict l0) (.idict l) (.list ((curD false c).map enco)) := by
    unfold hs3; congr 2
    cases c <;> simp [curD, enco, Function.comp_def]
  refine W.hp e0 ?_
  clear e0
  repeat walk_at "go1"
  refine ex_for_range hA'.1 (P.free "range" (by simp)) (fun j m' H' => ∃ pre gone suf, Has m' [(Str.ofString "rows", .ref r), (Str.ofString "reached", .ref q), (Str.ofString "led", .ref d), (Str.ofString "found", .ref f)] ∧
      H' = hs3 H q d f (.idict l0) (.idict l) (.list ((pre ++ curD gone suf).map enco)) ∧ pre.length = j ∧ pre.length + suf.length = c.length ∧ pre ++ dropRun S (ledTo c) j gone suf = dropRun S (ledTo c) 0 false c) ?_
  repeat walk_at "go1"
  refine ev_len (P.free "len" (by simp)) ?_
  repeat walk_at "go1"
  refine ⟨f, _, rfl, hs3_c, by simp [curD_len]; (first | lia | omega), ?_⟩
  refine ⟨_, rfl, by simp [curD_len]; (first | lia | omega), ⟨[], false, c, by walk_at "has", rfl, rfl, by simp, rfl⟩, ?_, ?_⟩
  · rintro j m2 H2 hj ⟨pre, gone, suf, hm, rfl, hpj, hlen, hrun⟩
    refine w_hasS hm ?_
    simp only [List.length_map, curD_len] at hj
    cases suf with
    | nil => simp at hlen; (first | lia | omega)
    | cons i rest =>
      subst hpj
      have hP : (pre.map enco).length = pre.length := by simp
      simp only [List.length_cons] at hlen
      have hcur : (pre ++ curD gone (i :: rest)).map enco = pre.map enco ++ enco (if gone = true then none else some i) :: rest.map (enco ∘ some) := by simp [curD]
      rw [hcur]
      repeat walk_at "go1"
      refine ⟨_, get_rowK hs3_c rfl (at0 hP) (by (first | lia | omega)), ?_⟩
      repeat walk_at "go1"
      refine ⟨_, cmp_notIn_idict (hs3_a hdq.symm hfq.symm), ?_⟩
      rw [hSn]
      have fin : ∀ (o : Option Ins) (gone' : Bool) (m' : Loc) (ls : List PV), Has m' [(Str.ofString "rows", .ref r), (Str.ofString "reached", .ref q), (Str.ofString "led", .ref d), (Str.ofString "found", .ref f)] →
          ls = pre.map enco ++ enco o :: (curD gone' rest).map enco → dropRun S (ledTo c) pre.length gone (i :: rest) = o :: dropRun S (ledTo c) (pre.length + 1) gone' rest →
          ∃ pre' gone'' suf', Has m' [(Str.ofString "rows", .ref r), (Str.ofString "reached", .ref q), (Str.ofString "led", .ref d), (Str.ofString "found", .ref f)] ∧
            hs3 H q d f (.idict l0) (.idict l) (.list ls) = hs3 H q d f (.idict l0) (.idict l) (.list ((pre' ++ curD gone'' suf').map enco)) ∧ pre'.length = pre.length + 1 ∧
              pre'.length + suf'.length = c.length ∧ pre' ++ dropRun S (ledTo c) (pre.length + 1) gone'' suf' = dropRun S (ledTo c) 0 false c := by
        intro o gone' m' ls hm' hls he
        refine ⟨pre ++ [o], gone', rest, hm', by rw [hls]; simp, by simp, by simp; (first | lia | omega), ?_⟩
        rw [← hrun, he]; simp
      cases hSp : S pre.length
      · repeat walk_at "go1"
        refine ex_setat ?_
        repeat walk_at "go1"
        refine ⟨f, _, _, pre.length, rfl, rfl, rfl, hs3_c, by simp, by (first | lia | omega), ?_⟩
        rw [set0 hP, hs3_uc]
        repeat walk_at "go1"
        refine fin none false _ _ ?_ ?_ ?_
        · walk_at "has"
        · cases rest <;> simp [curD, enco, Function.comp_def]
        · rw [dropRun_cons]; simp [hSp]
      · cases gone
        · by_cases hij : ∃ t, i = .jump t
          · obtain ⟨t, rfl⟩ := hij
            repeat walk_at "go1"
            by_cases htn : t = pre.length + 1
            · refine ite_t (by simp [htn]) ?_
              repeat walk_at "go1"
              refine ex_setat ?_
              repeat walk_at "go1"
              refine ⟨f, _, _, pre.length, rfl, rfl, rfl, hs3_c, by simp, by (first | lia | omega), ?_⟩
              rw [set0 hP, hs3_uc]
              repeat walk_at "go1"
              refine fin none false _ _ ?_ ?_ ?_
              · walk_at "has"
              · cases rest <;> simp [curD, enco, Function.comp_def]
              · rw [dropRun_cons]; simp [hSp, htn]
            · refine ite_f (by simp; (first | lia | omega)) ?_
              repeat walk_at "go1"
              refine fin (some (.jump t)) false _ _ ?_ ?_ ?_
              · walk_at "has"
              · cases rest <;> simp [curD, enco, Function.comp_def]
              · rw [dropRun_cons]; simp [hSp, htn]
          · by_cases hid : i = .dup
            · subst hid
              repeat walk_at "go1"
              refine ev_len (P.free "len" (by simp)) ?_
              repeat walk_at "go1"
              refine ⟨f, _, rfl, hs3_c, by simp; (first | lia | omega), ?_⟩
              repeat walk_at "go1"
              cases rest with
              | nil =>
                refine ite_f (by simp) ?_
                repeat walk_at "go1"
                refine fin (some .dup) false _ _ ?_ ?_ ?_
                · walk_at "has"
                · simp [curD, enco, Function.comp_def]
                · rw [dropRun_cons]; simp [hSp]
              | cons i2 rest =>
                simp only [List.length_cons] at hlen
                refine ite_t (by simp; (first | lia | omega)) ?_
                repeat walk_at "go1"
                refine ⟨_, cmp_notIn_idict (hs3_b hfd.symm), ?_⟩
                rw [led_nat hl (pre.length + 1) (by simp)]
                cases hld : ledTo c (pre.length + 1)
                · repeat walk_at "go1"
                  refine ⟨_, get_rowK hs3_c (i := pre.length + 1) (by simp) (at1 hP) (by (first | lia | omega)), ?_⟩
                  repeat walk_at "go1"
                  refine ⟨_, get_name i2, ?_⟩
                  repeat walk_at "go1"
                  by_cases h2 : i2 = .drop
                  · refine ite_t (by rw [h2]; rfl) ?_
                    repeat walk_at "go1"
                    refine ex_setat ?_
                    repeat walk_at "go1"
                    refine ⟨f, _, _, pre.length, rfl, rfl, rfl, hs3_c, by simp, by (first | lia | omega), ?_⟩
                    rw [set0 hP, hs3_uc]
                    repeat walk_at "go1"
                    refine ex_setat ?_
                    repeat walk_at "go1"
                    refine ⟨f, _, _, pre.length + 1, rfl, rfl, by simp, hs3_c, by simp, by (first | lia | omega), ?_⟩
                    rw [List.map_cons, set1 hP, hs3_uc]
                    repeat walk_at "go1"
                    refine fin none true _ _ ?_ ?_ ?_
                    · walk_at "has"
                    · simp [curD, enco, Function.comp_def]
                    · rw [dropRun_cons]; simp [hSp, hld, h2]
                  · refine ite_f (by cases i2 <;> first | exact absurd rfl h2 | simp [Ins.name, ofString_inj]) ?_
                    repeat walk_at "go1"
                    refine fin (some .dup) false _ _ ?_ ?_ ?_
                    · walk_at "has"
                    · simp [curD, enco, Function.comp_def]
                    · rw [dropRun_cons]; simp [hSp, hld, h2]
                · repeat walk_at "go1"
                  refine fin (some .dup) false _ _ ?_ ?_ ?_
                  · walk_at "has"
                  · simp [curD, enco, Function.comp_def]
                  · rw [dropRun_cons]; simp [hSp, hld]
            · have hrc : dropRun S (ledTo c) pre.length false (i :: rest) = some i :: dropRun S (ledTo c) (pre.length + 1) false rest := by
                rw [dropRun_cons]
                simp only [hSp, Bool.true_eq_false, if_false, Bool.false_eq_true]
                cases i <;> first | exact absurd rfl hid | exact absurd ⟨_, rfl⟩ hij | rfl
              repeat walk_at "go1"
              refine ⟨_, get_name i, ?_⟩
              repeat walk_at "go1"
              refine ite_f (name_jump i hij) ?_
              repeat walk_at "go1"
              refine ⟨_, get_name i, ?_⟩
              repeat walk_at "go1"
              refine ite_f (by cases i <;> first | exact absurd rfl hid | simp [Ins.name, ofString_inj]) ?_
              repeat walk_at "go1"
              refine fin (some i) false _ _ ?_ ?_ ?_
              · walk_at "has"
              · cases rest <;> simp [curD, enco]
              · exact hrc
        · repeat walk_at "go1"
          refine fin none false _ _ ?_ ?_ ?_
          · walk_at "has"
          · cases rest <;> simp [curD, enco]
          · rw [dropRun_cons]; simp [hSp]
  · rintro m2 H2 ⟨pre, gone, suf, hm, rfl, hpj, hlen, hrun⟩
    refine w_has hm ?_
    have hsuf : suf = [] := List.length_eq_zero_iff.mp (by simp [curD_len] at hpj; (first | lia | omega))
    subst hsuf
    have hrun' : pre = dropRun S (ledTo c) 0 false c := by simpa [dropRun] using hrun
    simp only [curD, List.append_nil]
    repeat walk_at "go1"
    refine ev_call (P.glob (k := 29) rfl rfl) (P.fn (k := 29) rfl rfl).ex ?_
    repeat walk_at "go1"
    have hpl : pre.length = c.length := by simpa using hlen
    refine c_compacted P (hA'.le (by decide)) hs3_c (by (first | lia | omega)) (fun i ins hi hj => by rw [hrun'] at hi; rw [hpl]; exact (hf i ins (dropRun_get _ _ _ _ _ _ _ hi) hj).2) fun b hb => ?_
    have hb1 : b ≠ q := by first | exact (hs3_none hb).1 | exact (hs3_none hb).2.1 | exact (hs3_none hb).2.2.1 | exact (fun e => by rw [e, hs3_a hdq.symm hfq.symm] at hb; cases hb)
    have hb2 : b ≠ d := by first | exact (hs3_none hb).1 | exact (hs3_none hb).2.1 | exact (hs3_none hb).2.2.1 | exact (fun e => by rw [e, hs3_b hfd.symm] at hb; cases hb)
    have hb3 : b ≠ f := by first | exact (hs3_none hb).1 | exact (hs3_none hb).2.1 | exact (hs3_none hb).2.2.1 | exact (fun e => by rw [e, hs3_c] at hb; cases hb)
    have hb0 : H b = none := by first | exact (upd_none hb).2 | exact (upd_none (upd_none hb).2).2 | exact (hs3_none hb).2.2.2 | (rw [hs3_o hb1 hb2 hb3] at hb; exact hb)
    rw [hrun']
    refine ⟨_, ?_, h S b hS hb0⟩
    unfold hs3
    exact ((((Sub.refl _).new hq _).new hd0 _).new hf0 _).upd b _
end

-- part W10
set_option genInjectivity false in
structure PassOk (Good : List Ins → Prop) : Prop where
  len : ∀ c, Good c → c.length < 2 ^ 20
  small : ∀ c, Good c → SmallC c
  fold1 : ∀ c, Good c → ∀ (i : Nat) (ins : Ins), (foldRun (ledTo c) 0 c)[i]? = some (some ins) → ins.isJump = true → ins.tgt < c.length
  fold2 : ∀ c, Good c → (foldRun (ledTo c) 0 c).length = c.length
  fold3 : ∀ c, Good c → Fwd (foldF c) ∧ (foldF c).length < 2 ^ 20
  thr : ∀ c, Good c → Fwd (threadF (foldF c)) ∧ (threadF (foldF c)).length < 2 ^ 20 ∧ ∃ T, Hts (threadF (foldF c)) T ∧ ∀ S, Reached (threadF (foldF c)) T S → Good (dropF S (threadF (foldF c)))
section
variable {G : Gd} (P : Prog G) (O : ProgO G)
include P
theorem c_optimise {A : Around} (hA : Room 6 A) {Good : List Ins → Prop} (ok : PassOk Good) {H : Hp} {r : Addr} {c : List Ins} {k : Nat} {post : PV → Hp → Prop} (hr : H r = some (code c)) (hg : Good c) (hk : k < 100)
    (h : ∀ c' b, Good c' → H b = none → post (.ref b) (upd H b (code c'))) : FnW G A O.opt [.ref r, .int (k + 1 : Nat)] H post := by
  refine FnW.drop (fn_intro (O.fn rfl) hA [Str.ofString "rows", Str.ofString "turns"] rfl (fun s nm doc pm an cdv ct vs R hv => ?_) (by decide) (by decide) fun A' L cd hA' hL => ?_)
  · revert hv; revert vs; refine all2 fun a b => ?_
    exact BindsTo.of_defaults rfl (R.base _ _ O.dAt) rfl rfl rfl
  repeat walk_at "go1"
  refine ex_for_range hA'.1 (P.free "range" (by simp)) (fun j m' H' => ∃ ρ cc, Has m' [(Str.ofString "rows", .ref ρ), (Str.ofString "turns", .int (k + 1 : Nat))] ∧ Good cc ∧ ((j = 0 ∧ ρ = r ∧ cc = c ∧ H' = H) ∨ (0 < j ∧ H ρ = none ∧ H' = upd H ρ (code cc)))) ?_
  repeat walk_at "go1"
  refine ⟨k + 1, rfl, by have : (2:Nat) ^ 60 = 1152921504606846976 := by decide
                         (first | lia | omega), ⟨r, c, by walk_at "has", hg, .inl ⟨rfl, rfl, rfl, rfl⟩⟩, ?_, ?_⟩
  · rintro j m2 H2 hj ⟨ρ, cc, hm, hgc, hH⟩
    refine w_hasS hm ?_
    have hρ : H2 ρ = some (code cc) := by
      rcases hH with ⟨_, rfl, rfl, rfl⟩ | ⟨_, _, rfl⟩
      · exact hr
      · exact upd_self ..
    have hsub : Sub H H2 := by
      rcases hH with ⟨_, rfl, rfl, rfl⟩ | ⟨_, h0, rfl⟩
      · exact Sub.refl _
      · exact (Sub.refl _).new h0 _
    have hnone : ∀ b, H2 b = none → H b = none := fun b hb => by
      cases q : H b with
      | none => rfl
      | some p => have := hsub _ _ q; rw [hb] at this; cases this
    obtain ⟨ht1, ht2, T, hT, hgood⟩ := ok.thr cc hgc
    repeat walk_at "go1"
    refine ev_call (P.glob (k := 34) rfl rfl) (P.fn (k := 34) rfl rfl).ex ?_
    repeat walk_at "go1"
    refine ev_call (P.glob (k := 33) rfl rfl) (P.fn (k := 33) rfl rfl).ex ?_
    repeat walk_at "go1"
    refine ev_call (P.glob (k := 31) rfl rfl) (P.fn (k := 31) rfl rfl).ex ?_
    repeat walk_at "go1"
    refine c_fold_constants P (hA'.le (by decide)) hρ (ok.len _ hgc) (ok.small _ hgc) (ok.fold1 _ hgc) (ok.fold2 _ hgc) fun b1 hb1 => ?_
    repeat walk_at "go1"
    refine c_thread_jumps P (hA'.le (by decide)) (upd_self ..) (ok.fold3 _ hgc).2 (ok.fold3 _ hgc).1 fun b2 hb2 => ?_
    repeat walk_at "go1"
    refine c_drop_rows P (hA'.le (by decide)) (upd_self ..) ht2 ht1 hT fun S b3 hS hb3 => ?_
    have n21 : b2 ≠ b1 := by first | exact (upd_none hb2).1 | exact (upd_none hb2).1.symm | exact (upd_none (upd_none hb2).2).1 | exact (upd_none (upd_none hb2).2).1.symm | exact (fun e => by rw [e, upd_self] at hb2; cases hb2)
    have n32 : b3 ≠ b2 := by first | exact (upd_none hb3).1 | exact (upd_none hb3).1.symm | exact (upd_none (upd_none hb3).2).1 | exact (upd_none (upd_none hb3).2).1.symm | exact (fun e => by rw [e, upd_self] at hb3; cases hb3)
    have n31 : b3 ≠ b1 := by first | exact (upd_none hb3).1 | exact (upd_none hb3).1.symm | exact (upd_none (upd_none hb3).2).1 | exact (upd_none (upd_none hb3).2).1.symm | exact (fun e => by rw [e, upd_ne n21.symm, upd_self] at hb3; cases hb3)
    have hb2' : H2 b2 = none := by first | exact (upd_none hb2).2 | exact (upd_none (upd_none hb2).2).2 | exact (hs3_none hb2).2.2.2 | (rw [upd_ne n21] at hb2; exact hb2)
    have hb3' : H2 b3 = none := by first | exact (upd_none hb3).2 | exact (upd_none (upd_none hb3).2).2 | exact (hs3_none hb3).2.2.2 | (rw [upd_ne n32, upd_ne n31] at hb3; exact hb3)
    have hρ3 : ρ ≠ b3 := by first | exact ne_hp hρ hb3' | exact ne_hp hb3' hρ | exact (fun e => by rw [e, hb3'] at hρ; cases hρ)
    have hg3 := hgood S hS
    refine W.less (H' := upd H2 b3 (code (dropF S (threadF (foldF cc))))) (fun _ _ e => e) (((((Sub.refl H2).new hb1 _).new hb2' _)).upd b3 _) ?_
    repeat walk_at "go1"
    refine ⟨_, cmp_eq_data (.list (upd_self ..) (encs_drel _)) (.list ((upd_ne hρ3).trans hρ) (encs_drel _)) (codeD_shaped _) (codeD_shaped _) hA'.units, ?_⟩
    have hs2 : Sub (upd H b3 (code (dropF S (threadF (foldF cc))))) (upd H2 b3 (code (dropF S (threadF (foldF cc))))) := hsub.upd b3 _
    refine ite_i (fun _ => ?_) (fun _ => ?_)
    · repeat walk_at "go1"
      exact ⟨_, hs2, h _ b3 hg3 (hnone _ hb3')⟩
    · refine W.less (H' := upd H b3 (code (dropF S (threadF (foldF cc))))) (fun _ _ e => e) hs2 ?_
      repeat walk_at "go1"
      exact ⟨b3, _, by walk_at "has", hg3, .inr ⟨Nat.succ_pos _, hnone _ hb3', rfl⟩⟩
  · rintro m2 H2 ⟨ρ, cc, hm, hgc, hH⟩
    refine w_has hm ?_
    repeat walk_at "go1"
    rcases hH with ⟨h0, _⟩ | ⟨_, h0, rfl⟩
    · (first | lia | omega)
    · exact ⟨_, Sub.refl _, h cc ρ hgc h0⟩
end

-- part W11
theorem slt20 {n : Nat} (h : n ≤ 2 ^ 20) : n < sizeLine := Nat.lt_of_le_of_lt h (by decide)
theorem eqv_snoc_nil : ∀ (l : List PyData) (x : PyData), PyData.eqvAll (l ++ [x]) [] = false
  | [], _ => rfl
  | _ :: _, _ => rfl
theorem ints_drel {H : Hp} : ∀ l : List Int, DRels H (l.map PV.int) (l.map PyData.int)
  | [] => .nil
  | i :: l => .cons (.int i) (ints_drel l)
theorem ints_lay : ∀ l : List Int, PyData.canLayAll0 (l.map PyData.int) = true ∧ PyData.depthAll (l.map PyData.int) = 0
  | [] => by simp [PyData.canLayAll0, PyData.depthAll]
  | i :: l => by
    have h2 := ints_lay l
    simp [PyData.canLayAll0, PyData.depthAll, PyData.canLay0, PyData.depth, h2.1, h2.2]
theorem ints_shaped (l : List Int) : PySem.SeqAt.shaped (.list (l.map PyData.int)) = true := by
  have := ints_lay l
  simp [SeqAt.shaped, PyData.canLay0, PyData.depth, this.1, this.2]
noncomputable def rowO (l : List Int) : PObj := .list (l.reverse.map PV.int)
section
variable {G : Gd} (P : Prog G)
theorem c_next {A : Around} (hA : Room 1 A) {H : Hp} {r : Addr} {l : List Int} {post : PV → Hp → Prop} (hr : H r = some (rowO l)) (hl : l.length < 2 ^ 20)
    (h : post (.int (l.headD 0)) (upd H r (rowO l.tail))) : FnW G A (P.fa 38) [.ref r] H post := by
  refine FnW.drop (fn_go P (k := 38) rfl rfl hA [Str.ofString "row"] rfl (by walk_at "fn") (by decide) (by decide) fun A' L cd hA' hL => ?_)
  repeat walk_at "go1"
  intro b hb
  have hrb : r ≠ b := by first | exact ne_hp hr hb | exact ne_hp hb hr | exact (fun e => by rw [e, hb] at hr; cases hr)
  refine ⟨_, cmp_ne_data (.list ((upd_ne hrb).trans hr) (ints_drel _)) (.list (upd_self ..) .nil) (ints_shaped _) (by rfl) hA'.units, ?_⟩
  cases l with
  | nil =>
    refine ite_f (by rfl) ?_
    repeat walk_at "go1"
    refine ⟨H, (Sub.refl H).new hb _, ?_⟩
    rw [upd_id _ _ _ (by simpa using hr)] at h
    exact h
  | cons x l =>
    refine ite_t (by simp [PyData.eqv, eqv_snoc_nil]) ?_
    refine W.less (H' := H) (fun _ _ e => e) ((Sub.refl H).new hb _) ?_
    repeat walk_at "go1"
    refine ev_pop ?_
    repeat walk_at "go1"
    refine ⟨r, l.reverse.map .int, .int x, rfl, by simpa [rowO] using hr, slt20 (by simp at hl ⊢; (first | lia | omega)), ?_⟩
    repeat walk_at "go1"
    exact ⟨_, Sub.refl _, h⟩
noncomputable def boxO (n : Int) : PObj := .sdict [(Str.ofString "spot", .int n)]
theorem c_spot {A : Around} (hA : Room 1 A) {H : Hp} {b : Addr} {n : Int} {post : PV → Hp → Prop} (hb : H b = some (boxO n))
    (h : post (.int (n + 1)) (upd H b (boxO (n + 1)))) : FnW G A (P.fa 39) [.ref b] H post := by
  refine fn_go P (k := 39) rfl rfl hA [Str.ofString "box"] rfl (by walk_at "fn") (by decide) (by decide) fun A' L cd hA' hL => ?_
  repeat walk_at "go1"
  refine ex_setsdict ?_
  repeat walk_at "go1"
  refine ⟨_, get_sdict (k := Str.ofString "spot") hb rfl, ?_⟩
  repeat walk_at "go1"
  refine ⟨b, _, _, rfl, rfl, hb, sz20 (by simp), ?_⟩
  repeat walk_at "go1"
  refine ⟨_, get_sdict (k := Str.ofString "spot") (x := .int (n + 1)) (upd_self ..) (by simp [istore, ilook]), ?_⟩
  repeat walk_at "go1"
  have e : istore [(Str.ofString "spot", PV.int n)] (Str.ofString "spot") (.int (n + 1)) = [(Str.ofString "spot", .int (n + 1))] := by simp [istore]
  rw [e]
  exact h
noncomputable def Cells (l : List Int) : Prop := ∀ x ∈ l, 0 ≤ x ∧ x < 991
theorem Cells.snoc {l : List Int} (h : Cells l) (x : Int) : Cells (l ++ [x.fmod 991]) := fun y hy => by
  rw [List.mem_append, List.mem_singleton] at hy
  rcases hy with hy | rfl
  · exact h y hy
  · exact ⟨Int.fmod_nonneg_of_pos _ (by decide), Int.fmod_lt_of_pos _ (by decide)⟩
theorem c_row {A : Around} (hA : Room 1 A) {H : Hp} {a : Addr} {ns : List Int} {post : PV → Hp → Prop} (hs : LAt G H a (ns.map .int)) (hn : ns.length ≤ sizeLine)
    (hs2 : ∀ b o, H b = none → LAt G (upd H b o) a (ns.map .int))
    (h : ∀ b l, H b = none → Cells l → l.length ≤ 60 → post (.ref b) (upd H b (rowO l))) : FnW G A (P.fa 37) [.ref a] H post := by
  refine FnW.drop (fn_go P (k := 37) rfl rfl hA [Str.ofString "script"] rfl (by walk_at "fn") (by decide) (by decide) fun A' L cd hA' hL => ?_)
  repeat walk_at "go1"
  intro b hb
  repeat walk_at "go1"
  refine ex_for_listJ hA'.1 ?_
  refine ev_sliceTo ?_
  repeat walk_at "go1"
  refine ⟨a, 40, ns.map .int, rfl, rfl, hs2 b _ hb, by simpa using hn, fun q hq => ?_⟩
  have hqb : q ≠ b := by first | exact (upd_none hq).1 | exact (upd_none hq).1.symm | exact (upd_none (upd_none hq).2).1 | exact (upd_none (upd_none hq).2).1.symm | exact (fun e => by rw [e, upd_self] at hq; cases hq)
  have hq0 : H q = none := by first | exact (upd_none hq).2 | exact (upd_none (upd_none hq).2).2 | exact (hs3_none hq).2.2.2 | (rw [upd_ne hqb] at hq; exact hq)
  refine ⟨q, _, fun i m' H' => ∃ l, Has m' [(Str.ofString "script", .ref a), (Str.ofString "row", .ref b)] ∧ H' = upd (upd H b (.list (l.map PV.int))) q (.list ((ns.map PV.int).take 40)) ∧ Cells l ∧ l.length ≤ 31 * i, rfl, upd_self .., ⟨[], by walk_at "has", rfl, fun _ h => (nomatch h), by simp⟩, ?_, ?_⟩
  · rintro i y m2 H2 hy ⟨l, hm, rfl, hc, hlen⟩
    refine ⟨upd_self .., w_hasS hm ?_⟩
    have hi : i < 40 := by
      have := (List.getElem?_eq_some_iff.mp hy).1
      simp at this; (first | lia | omega)
    obtain ⟨x, rfl⟩ : ∃ x, y = .int x := by
      have := List.mem_of_getElem? hy
      obtain ⟨x, _, hx⟩ := List.mem_map.mp (List.mem_of_mem_take this)
      exact ⟨x, hx.symm⟩
    have hbq : ∀ l : List PV, upd (upd H b (.list l)) q (.list ((ns.map PV.int).take 40)) b = some (.list l) := fun l => by rw [upd_ne hqb.symm, upd_self]
    have hbu : ∀ l l' : List PV, upd (upd (upd H b (.list l)) q (.list ((ns.map PV.int).take 40))) b (.list l') = upd (upd H b (.list l')) q (.list ((ns.map PV.int).take 40)) := fun l l' => by rw [upd_comm _ hqb, upd_upd]
    repeat walk_at "go1"
    refine ite_i (fun _ => ?_) (fun _ => ?_)
    all_goals
      repeat walk_at "go1"
      refine ev_append ?_
      repeat walk_at "go1"
      refine ⟨b, rfl, ⟨_, hbq _⟩, ?_⟩
      repeat walk_at "go1"
      refine ⟨_, bin_mod (by decide), ?_⟩
      refine ⟨_, hbq _, sz20 (by simp; (first | lia | omega)), ?_⟩
      rw [hbu, show ∀ (l : List Int) (v : Int), l.map PV.int ++ [PV.int v] = (l ++ [v]).map PV.int from fun l v => by simp]
      repeat walk_at "go1"
      refine ⟨_, bin_fdiv (by decide) (PyProof.noPylong_small (by decide)), ?_⟩
      repeat walk_at "go1"
      refine ex_for_range hA'.1 (P.free "range" (by simp)) (fun j m' H' => ∃ f l', Has m' [(Str.ofString "script", .ref a), (Str.ofString "row", .ref b), (Str.ofString "figure", .int f)] ∧ H' = upd (upd H b (.list (l'.map PV.int))) q (.list ((ns.map PV.int).take 40)) ∧ Cells l' ∧ l'.length ≤ 31 * i + 1 + j) ?_
      repeat walk_at "go1"
      refine ⟨30, rfl, by decide, ⟨_, _, by walk_at "has", rfl, hc.snoc _, by simp; (first | lia | omega)⟩, ?_, ?_⟩
      · rintro j m3 H3 hj ⟨f, l', hm3, rfl, hc', hlen'⟩
        refine w_hasS hm3 ?_
        repeat walk_at "go1"
        refine ite_i (fun _ => ?_) (fun _ => ?_)
        · repeat walk_at "go1"
          refine ev_append ?_
          repeat walk_at "go1"
          refine ⟨b, rfl, ⟨_, hbq _⟩, ?_⟩
          repeat walk_at "go1"
          refine ⟨_, bin_mod (by decide), ?_⟩
          refine ⟨_, hbq _, sz20 (by simp; (first | lia | omega)), ?_⟩
          rw [hbu, show ∀ (l : List Int) (v : Int), l.map PV.int ++ [PV.int v] = (l ++ [v]).map PV.int from fun l v => by simp]
          repeat walk_at "go1"
          refine ⟨_, bin_fdiv (by decide) (PyProof.noPylong_small (by decide)), ?_⟩
          repeat walk_at "go1"
          exact ⟨_, _, by walk_at "has", rfl, hc'.snoc _, by simp; (first | lia | omega)⟩
        · repeat walk_at "go1"
          exact ⟨_, _, by walk_at "has", rfl, hc', by (first | lia | omega)⟩
      · rintro m3 H3 ⟨f, l', hm3, rfl, hc', hlen'⟩
        refine w_has hm3 ?_
        repeat walk_at "go1"
        exact ⟨_, by walk_at "has", rfl, hc', by (first | lia | omega)⟩
  · rintro m2 H2 ⟨l, hm, rfl, hc, hlen⟩
    refine ⟨upd_self .., w_has hm ?_⟩
    refine W.less (H' := upd H b (.list (l.map PV.int))) (fun _ _ e => e) ((Sub.refl _).new (by rw [upd_ne hqb]; exact hq0) _) ?_
    have hl40 : l.length ≤ 1240 := by simp at hlen; (first | lia | omega)
    repeat walk_at "go1"
    refine ev_sliceTo ?_
    repeat walk_at "go1"
    refine ⟨b, 60, _, rfl, rfl, lat_of (upd_self ..), sz20 (by simp; (first | lia | omega)), fun w hw => ?_⟩
    have hwb : w ≠ b := by first | exact (upd_none hw).1 | exact (upd_none hw).1.symm | exact (upd_none (upd_none hw).2).1 | exact (upd_none (upd_none hw).2).1.symm | exact (fun e => by rw [e, upd_self] at hw; cases hw)
    have hw0 : H w = none := by first | exact (upd_none hw).2 | exact (upd_none (upd_none hw).2).2 | exact (hs3_none hw).2.2.2 | (rw [upd_ne hwb] at hw; exact hw)
    repeat walk_at "go1"
    refine ev_reverse ?_
    repeat walk_at "go1"
    refine ⟨w, _, rfl, upd_self .., sz20 (by simp; (first | lia | omega)), ?_⟩
    rw [upd_upd]
    repeat walk_at "go1"
    refine ⟨_, ?_, h w (l.take 60) hw0 (fun x hx => hc x (List.mem_of_mem_take hx)) (by simp; (first | lia | omega))⟩
    have e : rowO (l.take 60) = .list ((l.map PV.int).take 60).reverse := by simp [rowO]
    rw [e]
    exact ((Sub.refl _).new hb _).upd w _
end

-- part W12
theorem mulokR {a b : Int} (h : b.natAbs < 2 ^ 40) : IntMulOk a b := by
  refine .of_right ?_
  unfold Builtin.Int.intBits
  have := log_small (by decide) h
  split <;> (first | lia | omega)
theorem pow31 : ∀ n : Nat, n < 32 → (0 : Int) < 2 ^ n ∧ (2 : Int) ^ n ≤ 2147483648 := by decide
noncomputable def outPV : Except (Int × Int) Int → PV
  | .ok v => .tup [.int v, .none]
  | .error (a, b) => .tup [.none, .tup [.int a, .int b]]
noncomputable def lawOne : Ins → Int → Except (Int × Int) Int
  | .neg sp, x => if x ≠ -2147483648 then .ok (-x) else .error (8, sp)
  | .byte sp, x => if 0 ≤ x ∧ x < 256 then .ok x else .error (12, sp)
  | .single sp, x => if 0 ≤ x ∧ x < 32 then .ok (2 ^ x.toNat) else .error (12, sp)
  | .not, x => .ok (1 - x)
  | _, x => .ok (4294967296 - 1 - x)
theorem ex_cut {G : Gd} {A : Around} {L : Addr} {env : Env} {fpost : PFlow → Loc → Hp → Prop} {m : Loc} {H : Hp} {st : Stmt} {rest : List Stmt} (J : Loc → Hp → Prop) (h : Ex1 G A L env st m H fun f m1 H1 => f = .next ∧ J m1 H1)
    (k : ∀ m1 H1, J m1 H1 → Ex G A L env rest m1 H1 fpost) : Ex G A L env (st :: rest) m H fpost :=
  ex_cons (h.mono fun f m1 H1 e => by obtain ⟨e, j⟩ := e; subst e; exact k m1 H1 j)
section
variable {G : Gd} (P : Prog G)
theorem c_one {A : Around} (hA : Room 1 A) {H : Hp} {i : Ins} {x : Int} {post : PV → Hp → Prop} (hi : isOne i = true) (h : post (outPV (lawOne i x)) H) : FnW G A (P.fa 45) [i.enc, .int x] H post := by
  refine fn_go P (k := 45) rfl rfl hA [Str.ofString "step", Str.ofString "x"] rfl (by walk_at "fn") (by decide) (by decide) fun A' L cd hA' hL => ?_
  have b2 : ∀ n : Int, n ≤ 1000 → (Builtin.Int.intBits 2 : Int) * n ≤ 2 ^ 27 := fun n hn => by
    have e1 : (Builtin.Int.intBits 2 : Int) = 2 := by decide
    have e2 : (2 : Int) ^ 27 = 134217728 := by decide
    rw [e1, e2]; (first | lia | omega)
  cases i <;> first | cases hi | skip
  case neg sp =>
    repeat walk_at "go1"
    refine ⟨_, bin_pow (by decide) (b2 _ (by decide)), ?_⟩
    repeat walk_at "go1"
    have e : (-(2 : Int) ^ (Int.toNat 31)) = -2147483648 := by decide
    refine ite_i (fun h1 => ?_) (fun h1 => ?_)
    all_goals
      rw [e] at h1
      repeat walk_at "go1"
      refine pe (post := post) h ?_ rfl
      simp at h1
      simp [lawOne, h1, outPV]
  case byte sp =>
    repeat walk_at "go1"
    refine ite_i (fun h1 => ?_) (fun h1 => ?_)
    · repeat walk_at "go1"
      refine ite_i (fun h2 => ?_) (fun h2 => ?_)
      · repeat walk_at "go1"
        refine pe (post := post) h ?_ rfl
        simp at h1 h2
        simp [lawOne, h1, h2, outPV]
      · repeat walk_at "go1"
        refine pe (post := post) h ?_ rfl
        simp at h1 h2
        have : ¬ (0 ≤ x ∧ x < 256) := by (first | lia | omega)
        simp [lawOne, this, outPV]
    · repeat walk_at "go1"
      refine pe (post := post) h ?_ rfl
      simp at h1
      have : ¬ (0 ≤ x ∧ x < 256) := by (first | lia | omega)
      simp [lawOne, this, outPV]
  case single sp =>
    repeat walk_at "go1"
    refine ite_i (fun h1 => ?_) (fun h1 => ?_)
    · repeat walk_at "go1"
      refine ite_i (fun h2 => ?_) (fun h2 => ?_)
      · simp at h1 h2
        repeat walk_at "go1"
        refine ⟨_, bin_pow h1 (b2 _ (by (first | lia | omega))), ?_⟩
        repeat walk_at "go1"
        refine pe (post := post) h ?_ rfl
        simp [lawOne, h1, h2, outPV]
      · repeat walk_at "go1"
        refine pe (post := post) h ?_ rfl
        simp at h1 h2
        have : ¬ (0 ≤ x ∧ x < 32) := by (first | lia | omega)
        simp [lawOne, this, outPV]
    · repeat walk_at "go1"
      refine pe (post := post) h ?_ rfl
      simp at h1
      have : ¬ (0 ≤ x ∧ x < 32) := by (first | lia | omega)
      simp [lawOne, this, outPV]
  case not =>
    repeat walk_at "go1"
    exact h
  case compl =>
    repeat walk_at "go1"
    refine ⟨_, bin_pow (by decide) (b2 _ (by decide)), ?_⟩
    repeat walk_at "go1"
    refine pe (post := post) h ?_ rfl
    simp only [lawOne, outPV]
    have e : ((2 : Int) ^ (Int.toNat 32)) = 4294967296 := by decide
    rw [e]
noncomputable def lawTwo : Ins → Int → Int → Except (Int × Int) Int
  | .arith op sp, x, y => match op with
    | .div => if y ≤ 0 then .error (6, sp) else .ok ((x - x.fmod y).fdiv y)
    | .mod => if y ≤ 0 then .error (6, sp) else .ok (x - x.fdiv y * y)
    | .add => if -2147483648 ≤ x + y ∧ x + y < 2147483648 then .ok (x + y) else .error (8, sp)
    | .sub => if -2147483648 ≤ x - y ∧ x - y < 2147483648 then .ok (x - y) else .error (8, sp)
    | .mul => if -2147483648 ≤ x * y ∧ x * y < 2147483648 then .ok (x * y) else .error (8, sp)
  | .rel op, x, y => .ok (b2i (op.ev x y))
  | .setop op, x, y => match op with
    | .union => .ok (Builtin.bitOr x y)
    | .diff => .ok (x - Builtin.bitAnd x y)
    | .inter => .ok (Builtin.bitAnd x y)
    | .sym => .ok (Builtin.bitXor x y)
  | .setrel ge, x, y => .ok (if Builtin.bitAnd (if ge = true then y else x) (if ge = true then x else y) = (if ge = true then y else x) then 1 else 0)
  | .inn sp, x, y => if x < 0 ∨ 31 < x then .error (12, sp) else .ok ((y.fdiv (2 ^ x.toNat)).fmod 2)
  | .range sp, x, y => if (x < 0 ∨ 31 < x) ∨ (y < 0 ∨ 31 < y) then .error (12, sp) else .ok (((List.range (y + 1 - x).toNat).map fun i : Nat => (2 : Int) ^ (x + (i : Int)).toNat).sum)
  | _, x, y => .ok (x + y)
noncomputable def lin (op : AOp) (x y : Int) : Int := match op with
  | .add => x + y
  | .sub => x - y
  | _ => x * y
set_option maxHeartbeats 2000000 in
theorem c_two {A : Around} (hA : Room 1 A) {H : Hp} {i : Ins} {x y : Int} {post : PV → Hp → Prop} (hi : isTwo i = true) (hx : Small x) (hy : Small y) (h : post (outPV (lawTwo i x y)) H) : FnW G A (P.fa 44) [i.enc, .int x, .int y] H post := by
  refine FnW.drop (fn_go P (k := 44) rfl rfl hA [Str.ofString "step", Str.ofString "x", Str.ofString "y"] rfl (by walk_at "fn") (by decide) (by decide) fun A' L cd hA' hL => ?_)
  have b2 : ∀ n : Int, n ≤ 1000 → (Builtin.Int.intBits 2 : Int) * n ≤ 2 ^ 27 := fun n hn => by
    have e1 : (Builtin.Int.intBits 2 : Int) = 2 := by decide
    have e2 : (2 : Int) ^ 27 = 134217728 := by decide
    rw [e1, e2]; (first | lia | omega)
  have e31 : (2 : Int) ^ (Int.toNat 31) = 2147483648 := by decide
  cases i <;> first | cases hi | skip
  case arith op sp =>
    by_cases hd : op = .div
    · subst hd
      repeat walk_at "go1"
      refine ite_i (fun h1 => ?_) (fun h1 => ?_) <;> simp only [decide_eq_true_eq] at h1
      · repeat walk_at "go1"
        refine ⟨H, Sub.refl _, pe (post := post) h ?_ rfl⟩; simp [lawTwo, h1, outPV]
      · repeat walk_at "go1"
        refine ⟨_, bin_mod (by (first | lia | omega)), ?_⟩
        repeat walk_at "go1"
        refine ⟨_, bin_fdiv (by (first | lia | omega)) (pylong_ok hy.nat), ?_⟩
        repeat walk_at "go1"
        refine ⟨H, Sub.refl _, pe (post := post) h ?_ rfl⟩; simp [lawTwo, h1, outPV]
    by_cases hm : op = .mod
    · subst hm
      repeat walk_at "go1"
      refine ite_i (fun h1 => ?_) (fun h1 => ?_) <;> simp only [decide_eq_true_eq] at h1
      · repeat walk_at "go1"
        refine ⟨H, Sub.refl _, pe (post := post) h ?_ rfl⟩; simp [lawTwo, h1, outPV]
      · repeat walk_at "go1"
        refine ⟨_, bin_fdiv (by (first | lia | omega)) (pylong_ok hy.nat), ?_⟩
        repeat walk_at "go1"
        refine ⟨_, bin_mul (mulokR hy.nat), ?_⟩
        repeat walk_at "go1"
        refine ⟨H, Sub.refl _, pe (post := post) h ?_ rfl⟩; simp [lawTwo, h1, outPV]
    have hlaw : lawTwo (.arith op sp) x y = if -2147483648 ≤ lin op x y ∧ lin op x y < 2147483648 then .ok (lin op x y) else .error (8, sp) := by
      cases op <;> first | exact absurd rfl hd | exact absurd rfl hm | rfl
    repeat walk_at "go1"
    refine kif_f (by cases op <;> first | exact absurd rfl hd | exact absurd rfl hm | rfl) (ex_nil ?_)
    refine ex_cut (fun m' H' => Has m' [(Str.ofString "step", Ins.enc (.arith op sp)), (Str.ofString "found", .int (lin op x y))] ∧ H' = H) ?_ ?_
    · cases op <;> first | exact absurd rfl hd | exact absurd rfl hm | skip
      · repeat walk_at "go1"
        exact ⟨rfl, by walk_at "has", rfl⟩
      · repeat walk_at "go1"
        exact ⟨rfl, by walk_at "has", rfl⟩
      · repeat walk_at "go1"
        refine ⟨_, bin_mul (mulok hx.nat), ?_⟩
        repeat walk_at "go1"
        exact ⟨rfl, by walk_at "has", rfl⟩
    rintro m1 H1 ⟨hm1, rfl⟩
    refine w_has hm1 ?_
    rw [hlaw] at h
    repeat walk_at "go1"
    refine ⟨_, bin_pow (by decide) (b2 _ (by decide)), ?_⟩
    repeat walk_at "go1"
    refine ite_i (fun h1 => ?_) (fun h1 => ?_)
    · repeat walk_at "go1"
      refine ⟨_, bin_pow (by decide) (b2 _ (by decide)), ?_⟩
      repeat walk_at "go1"
      refine ite_i (fun h2 => ?_) (fun h2 => ?_)
      all_goals
        repeat walk_at "go1"
        refine ⟨H1, Sub.refl _, pe (post := post) h ?_ rfl⟩
        rw [e31] at h1 h2
        simp only [decide_eq_true_eq] at h1 h2
        simp [h1, h2, outPV]
    · repeat walk_at "go1"
      refine ⟨H1, Sub.refl _, pe (post := post) h ?_ rfl⟩
      rw [e31] at h1
      simp only [decide_eq_true_eq] at h1
      simp [h1, outPV]
  case rel op =>
    repeat walk_at "go1"
    with_reducible refine ev_dictS (hall := ?a1) (hl := ?a2) (h0 := ?a3) (hlen := ?a4) ?_
    case a1 => rfl
    case a2 => rfl
    case a3 => simp
    case a4 => decide
    iterate 6 (with_reducible refine prs_cons ?_); repeat walk_at "go1"
    refine prs_nil ⟨[(Str.ofString "=", .bool (x == y)), (Str.ofString "#", .bool (x != y)), (Str.ofString "<", .bool (decide (x < y))), (Str.ofString "<=", .bool (decide (x ≤ y))), (Str.ofString ">", .bool (decide (y < x))), (Str.ofString ">=", .bool (decide (y ≤ x)))], rfl, fun d hd => ?_⟩
    repeat walk_at "go1"
    refine ⟨_, get_sdict (k := op.s) (x := .bool (op.ev x y)) (upd_self ..) (by cases op <;> simp [istore, ilook, ofString_inj, ROp.s, ROp.ev]), ?_⟩
    refine ⟨_, true_bool, ?_⟩
    refine ite_i (fun h1 => ?_) (fun h1 => ?_)
    all_goals
      repeat walk_at "go1"
      refine ⟨H, (Sub.refl _).new hd _, pe (post := post) h ?_ rfl⟩
      simp [lawTwo, outPV, b2i, h1]
  case setop op =>
    repeat walk_at "go1"
    with_reducible refine ev_dictS (hall := ?a1) (hl := ?a2) (h0 := ?a3) (hlen := ?a4) ?_
    case a1 => rfl
    case a2 => rfl
    case a3 => simp
    case a4 => decide
    iterate 4 (with_reducible refine prs_cons ?_); repeat walk_at "go1"
    refine prs_nil ⟨[(Str.ofString "s+", .int (Builtin.bitOr x y)), (Str.ofString "s-", .int (x - Builtin.bitAnd x y)), (Str.ofString "s*", .int (Builtin.bitAnd x y)), (Str.ofString "s/", .int (Builtin.bitXor x y))], rfl, fun d hd => ?_⟩
    repeat walk_at "go1"
    refine ⟨_, get_sdict (k := op.s) (upd_self ..) (x := .int (match op with | .union => Builtin.bitOr x y | .diff => x - Builtin.bitAnd x y | .inter => Builtin.bitAnd x y | .sym => Builtin.bitXor x y)) (by cases op <;> simp [istore, ilook, ofString_inj, SOp.s]), ?_⟩
    repeat walk_at "go1"
    refine ⟨H, (Sub.refl _).new hd _, pe (post := post) h ?_ rfl⟩
    cases op <;> simp [lawTwo, outPV]
  case setrel ge =>
    cases ge
    all_goals
      repeat walk_at "go1"
      refine ex_pair hA'.1 ?_
      repeat walk_at "go1"
      refine ⟨_, _, rfl, ?_⟩
      repeat walk_at "go1"
      refine ite_i (fun h1 => ?_) (fun h1 => ?_)
      all_goals
        repeat walk_at "go1"
        refine ⟨H, Sub.refl _, pe (post := post) h ?_ rfl⟩
        simp at h1
        simp [lawTwo, outPV, h1]
  case inn sp =>
    repeat walk_at "go1"
    refine ex_for_listJ hA'.1 ?_
    repeat walk_at "go1"
    intro a ha
    refine ⟨a, ([x] : List Int).map PV.int, fun j m' H' => Has m' [(Str.ofString "step", Ins.enc (.inn sp)), (Str.ofString "x", .int x), (Str.ofString "y", .int y), (Str.ofString "name", .str (Str.ofString "in"))] ∧ H' = upd H a (.list (([x] : List Int).map PV.int)) ∧ ∀ v ∈ ([x] : List Int).take j, 0 ≤ v ∧ v ≤ 31, rfl, upd_self .., ⟨by walk_at "has", rfl, by simp⟩, ?_, ?_⟩
    · rintro j w m2 H2 hw ⟨hm, rfl, hj⟩
      refine ⟨upd_self .., w_hasS hm ?_⟩
      rw [List.getElem?_map, Option.map_eq_some_iff] at hw
      obtain ⟨v, hv, rfl⟩ := hw
      have hvm : v ∈ ([x] : List Int) := List.mem_of_getElem? hv
      repeat walk_at "go1"
      refine ite_i (fun h1 => ?_) (fun h1 => ?_)
      · repeat walk_at "go1"
        refine ⟨H, (Sub.refl _).new ha _, pe (post := post) h ?_ rfl⟩
        simp at h1 hvm
        have hc : x < 0 ∨ 31 < x := (by (first | lia | omega))
        simp [lawTwo, outPV, hc]
      · repeat walk_at "go1"
        refine ite_i (fun h2 => ?_) (fun h2 => ?_)
        · repeat walk_at "go1"
          refine ⟨H, (Sub.refl _).new ha _, pe (post := post) h ?_ rfl⟩
          simp at h1 h2 hvm
          have hc : x < 0 ∨ 31 < x := (by (first | lia | omega))
          simp [lawTwo, outPV, hc]
        · repeat walk_at "go1"
          refine ⟨by walk_at "has", rfl, ?_⟩
          rw [take_snoc hv]
          intro u hu
          rw [List.mem_append, List.mem_singleton] at hu
          simp only [decide_eq_true_eq] at h1 h2
          rcases hu with hu | rfl
          · exact hj u hu
          · (first | lia | omega)
    · rintro m2 H2 ⟨hm, rfl, hj⟩
      refine ⟨upd_self .., w_has hm ?_⟩
      refine W.less (H' := H) (fun _ _ e => e) ((Sub.refl _).new ha _) ?_
      simp at hj
      repeat walk_at "go1"
      refine ⟨_, bin_pow hj.1 (b2 _ (by (first | lia | omega))), ?_⟩
      obtain ⟨hp, hp2⟩ := pow31 x.toNat (by (first | lia | omega))
      refine ⟨_, bin_fdiv (by omega) (pylong_ok (Small.nat ⟨by omega, by have : (2:Int) ^ 33 = 8589934592 := by decide
                                                                         (first | lia | omega)⟩)), ?_⟩
      repeat walk_at "go1"
      refine ⟨_, bin_mod (by decide), ?_⟩
      repeat walk_at "go1"
      refine ⟨H, Sub.refl _, pe (post := post) h ?_ rfl⟩
      have : ¬ (x < 0 ∨ 31 < x) := by (first | lia | omega)
      simp [lawTwo, outPV, this]
  case range sp =>
    repeat walk_at "go1"
    refine ex_for_listJ hA'.1 ?_
    repeat walk_at "go1"
    intro a ha
    refine ⟨a, ([x, y] : List Int).map PV.int, fun j m' H' => Has m' [(Str.ofString "step", Ins.enc (.range sp)), (Str.ofString "x", .int x), (Str.ofString "y", .int y), (Str.ofString "name", .str (Str.ofString "range"))] ∧ H' = upd H a (.list (([x, y] : List Int).map PV.int)) ∧ ∀ v ∈ ([x, y] : List Int).take j, 0 ≤ v ∧ v ≤ 31, rfl, upd_self .., ⟨by walk_at "has", rfl, by simp⟩, ?_, ?_⟩
    · rintro j w m2 H2 hw ⟨hm, rfl, hj⟩
      refine ⟨upd_self .., w_hasS hm ?_⟩
      rw [List.getElem?_map, Option.map_eq_some_iff] at hw
      obtain ⟨v, hv, rfl⟩ := hw
      have hvm : v ∈ ([x, y] : List Int) := List.mem_of_getElem? hv
      repeat walk_at "go1"
      refine ite_i (fun h1 => ?_) (fun h1 => ?_)
      · repeat walk_at "go1"
        refine ⟨H, (Sub.refl _).new ha _, pe (post := post) h ?_ rfl⟩
        simp at h1 hvm
        have hc : (x < 0 ∨ 31 < x) ∨ (y < 0 ∨ 31 < y) := (by (first | lia | omega))
        simp [lawTwo, outPV, hc]
      · repeat walk_at "go1"
        refine ite_i (fun h2 => ?_) (fun h2 => ?_)
        · repeat walk_at "go1"
          refine ⟨H, (Sub.refl _).new ha _, pe (post := post) h ?_ rfl⟩
          simp at h1 h2 hvm
          have hc : (x < 0 ∨ 31 < x) ∨ (y < 0 ∨ 31 < y) := (by (first | lia | omega))
          simp [lawTwo, outPV, hc]
        · repeat walk_at "go1"
          refine ⟨by walk_at "has", rfl, ?_⟩
          rw [take_snoc hv]
          intro u hu
          rw [List.mem_append, List.mem_singleton] at hu
          simp only [decide_eq_true_eq] at h1 h2
          rcases hu with hu | rfl
          · exact hj u hu
          · (first | lia | omega)
    · rintro m2 H2 ⟨hm, rfl, hj⟩
      refine ⟨upd_self .., w_has hm ?_⟩
      refine W.less (H' := H) (fun _ _ e => e) ((Sub.refl _).new ha _) ?_
      simp at hj
      repeat walk_at "go1"
      refine ev_sum hA'.1 (P.free "sum" (by simp)) ?_
      have hrange := P.free "range" (by simp)
      have hhd := hA'.1
      with_reducible refine' ev_listcomp_range (cl := []) (f := fun i => .int ((2 : Int) ^ (x + (i : Int)).toNat)) (hmiss := hrange) (hh := hhd) (hs := ?b1) (hk := ?b2) (hgl := ?b3) (hbl := ?b4) (hlr := ?b5) (hse := ?b6) (hclos := ?b7) (hcell := ?b8) (hkind := ?b9) (hnames := ?b10) (hx := ?b11) ?_
      case b1 => intro _; rfl
      case b2 => rfl
      case b3 => rfl
      case b4 => rfl
      case b5 => rfl
      case b6 => rfl
      case b7 => rfl
      case b8 => decide
      case b9 => rfl
      case b10 => decide
      case b11 => rfl
      repeat walk_at "go1"
      have e60 : (2 : Int) ^ 60 = 1152921504606846976 := by decide
      refine ⟨x, y + 1, _, rfl, rfl, rfl, by (first | lia | omega), by (first | lia | omega), by (first | lia | omega), by (first | lia | omega), sz20 (by (first | lia | omega)), fun i C hi hC => ?_, fun b hb => ?_⟩
      · repeat walk_at "go1"
        refine ⟨_, bin_pow (by (first | lia | omega)) (b2 _ (by (first | lia | omega))), ?_⟩
        exact ⟨rfl, Sub.refl _⟩
      · refine ⟨b, (List.range (y + 1 - x).toNat).map fun i : Nat => (2 : Int) ^ (x + (i : Int)).toNat, rfl, by rw [upd_self]; simp [Function.comp_def], ?_⟩
        repeat walk_at "go1"
        refine ⟨H, (Sub.refl _).new hb _, pe (post := post) h ?_ rfl⟩
        have : ¬ ((x < 0 ∨ 31 < x) ∨ (y < 0 ∨ 31 < y)) := by (first | lia | omega)
        simp [lawTwo, outPV, this]
end

-- part W13
inductive Out where
  | value (l : List Int) | trap (a b : Int) | endless
@[reducible] noncomputable def smallB (x y : Int) : Decidable (Small x ∧ Small y) := inferInstanceAs (Decidable ((_ ∧ _) ∧ (_ ∧ _)))
noncomputable def resOf (spot : Nat) (held : List Int) : Except (Int × Int) Int → Sum Out (Nat × List Int)
  | .ok v => .inr (spot + 1, v :: held)
  | .error (a, b) => .inl (.trap a b)
noncomputable def stepI (ins : Ins) (spot : Nat) (held : List Int) : Option (Sum Out (Nat × List Int)) := match ins with
  | .const n => some (.inr (spot + 1, n :: held))
  | .dup => match held with | v :: h => some (.inr (spot + 1, v :: v :: h)) | [] => none
  | .drop => match held with | _ :: h => some (.inr (spot + 1, h)) | [] => none
  | .ret => some (.inl (.value held))
  | .trap a b => some (.inl (.trap a b))
  | .jump t => some (.inr (t, held))
  | .unl t => match held with | v :: h => some (.inr (if v = 0 then t else spot + 1, h)) | [] => none
  | .whn t => match held with | v :: h => some (.inr (if v = 0 then spot + 1 else t, h)) | [] => none
  | ins => if isOne ins = true then (match held with | x :: h => some (resOf spot h (lawOne ins x)) | [] => none)
    else match held with | y :: x :: h => @ite _ (Small x ∧ Small y) (smallB x y) (some (resOf spot h (lawTwo ins x y))) none | _ => none
noncomputable def runF (c : List Ins) : Nat → Nat → List Int → Option Out
  | 0, _, _ => some .endless
  | k + 1, spot, held => match c[spot]? with
    | none => none
    | some ins => match stepI ins spot held with
      | none => none
      | some (.inl o) => some o
      | some (.inr (s, h)) => runF c k s h
theorem stepI_one {ins : Ins} (h : isOne ins = true) (spot : Nat) (x : Int) (r : List Int) : stepI ins spot (x :: r) = some (resOf spot r (lawOne ins x)) := by
  cases ins <;> first | rfl | cases h
theorem stepI_one_nil {ins : Ins} (h : isOne ins = true) {spot : Nat} : stepI ins spot [] = none := by
  cases ins <;> first | rfl | cases h
theorem stepI_two {ins : Ins} (h : isTwo ins = true) (spot : Nat) (x y : Int) (r : List Int) (hs : Small x ∧ Small y) : stepI ins spot (y :: x :: r) = some (resOf spot r (lawTwo ins x y)) := by
  have e : stepI ins spot (y :: x :: r) = @ite _ (Small x ∧ Small y) (smallB x y) (some (resOf spot r (lawTwo ins x y))) none := by cases ins <;> first | rfl | cases h
  rw [e, if_pos hs]
theorem stepI_two_no {ins : Ins} (h : isTwo ins = true) (spot : Nat) (x y : Int) (r : List Int) (hs : ¬(Small x ∧ Small y)) : stepI ins spot (y :: x :: r) = none := by
  have e : stepI ins spot (y :: x :: r) = @ite _ (Small x ∧ Small y) (smallB x y) (some (resOf spot r (lawTwo ins x y))) none := by cases ins <;> first | rfl | cases h
  rw [e, if_neg hs]
theorem stepI_two_nil {ins : Ins} (h : isTwo ins = true) {spot : Nat} : stepI ins spot [] = none ∧ ∀ z, stepI ins spot [z] = none := by
  cases ins <;> first | exact ⟨rfl, fun _ => rfl⟩ | cases h
theorem one_names {ins : Ins} (h : isOne ins = true) : (ins.name == Str.ofString "const") = false ∧ (ins.name == Str.ofString "dup") = false ∧ (ins.name == Str.ofString "drop") = false ∧ (ins.name == Str.ofString "return") = false ∧ (ins.name == Str.ofString "trap") = false ∧
    ([Str.ofString "jump", Str.ofString "unless", Str.ofString "when"].any (· == ins.name)) = false ∧ ([Str.ofString "neg", Str.ofString "byte", Str.ofString "single", Str.ofString "not", Str.ofString "compl"].any (· == ins.name)) = true := by
  cases ins <;> first | (cases h; done) | exact ⟨rfl, rfl, rfl, rfl, rfl, rfl, rfl⟩
theorem two_names {ins : Ins} (h : isTwo ins = true) : (ins.name == Str.ofString "const") = false ∧ (ins.name == Str.ofString "dup") = false ∧ (ins.name == Str.ofString "drop") = false ∧ (ins.name == Str.ofString "return") = false ∧ (ins.name == Str.ofString "trap") = false ∧
    ([Str.ofString "jump", Str.ofString "unless", Str.ofString "when"].any (· == ins.name)) = false ∧ ([Str.ofString "neg", Str.ofString "byte", Str.ofString "single", Str.ofString "not", Str.ofString "compl"].any (· == ins.name)) = false := by
  cases ins <;> first | (cases h; done) | exact ⟨rfl, rfl, rfl, rfl, rfl, rfl, rfl⟩
section
variable {G : Gd} (P : Prog G)
theorem rowO_cons (n : Int) (held : List Int) : PObj.list (held.reverse.map PV.int ++ [PV.int n]) = rowO (n :: held) := by simp [rowO]
noncomputable def OutPost (H : Hp) (post : PV → Hp → Prop) : Out → Prop
  | .value l => ∀ b, H b = none → post (.tup [.str (Str.ofString "value"), .ref b]) (upd H b (rowO l))
  | .trap a b => post (.tup [.str (Str.ofString "trap"), .tup [.int a, .int b]]) H
  | .endless => post (.tup [.str (Str.ofString "endless")]) H
set_option maxHeartbeats 4000000 in
theorem c_ended {A : Around} (hA : Room 2 A) {H : Hp} {r : Addr} {c : List Ins} {out : Out} {post : PV → Hp → Prop} (hr : H r = some (code c)) (hc : c.length < 2 ^ 19) (hrun : runF c (c.length + 1) 0 [] = some out)
    (h0 : OutPost H post out) : FnW G A (P.fa 46) [.ref r] H post := by
  refine FnW.drop (fn_go P (k := 46) rfl rfl hA [Str.ofString "rows"] rfl (by walk_at "fn") (by decide) (by decide) fun A' L cd hA' hL => ?_)
  repeat walk_at "go1"
  intro b hb
  have hrb : r ≠ b := by first | exact ne_hp hr hb | exact ne_hp hb hr | exact (fun e => by rw [e, hb] at hr; cases hr)
  have hrr : ∀ x, upd H b x r = some (code c) := fun x => (upd_ne hrb).trans hr
  have e0 : upd H b (.list []) = upd H b (rowO []) := rfl
  refine W.hp e0 ?_
  clear e0
  repeat walk_at "go1"
  refine ex_for_range hA'.1 (P.free "range" (by simp)) (fun j m' H' => ∃ (spot : Nat) (held : List Int), Has m' [(Str.ofString "rows", .ref r), (Str.ofString "held", .ref b), (Str.ofString "spot", .int spot)] ∧ H' = upd H b (rowO held) ∧
      held.length ≤ j ∧ runF c (c.length + 1 - j) spot held = some out) ?_
  repeat walk_at "go1"
  refine ev_len (P.free "len" (by simp)) ?_
  repeat walk_at "go1"
  refine ⟨r, _, rfl, hrr _, by simp; (first | lia | omega), ?_⟩
  repeat walk_at "go1"
  refine ⟨c.length + 1, by simp, by (first | lia | omega), ⟨0, [], by walk_at "has", rfl, by simp, by simpa using hrun⟩, ?_, ?_⟩
  · rintro j m2 H2 hj ⟨spot, held, hm, rfl, hlen, hrn⟩
    refine w_hasS hm ?_
    obtain ⟨k, hk⟩ : ∃ k, c.length + 1 - j = k + 1 := ⟨c.length - j, by (first | lia | omega)⟩
    have hk2 : c.length + 1 - (j + 1) = k := by (first | lia | omega)
    rw [hk2]
    rw [hk, runF] at hrn
    cases hi : c[spot]? with
    | none => rw [hi] at hrn; cases hrn
    | some ins =>
      rw [hi] at hrn
      dsimp only at hrn
      have hil : spot < c.length := (List.getElem?_eq_some_iff.mp hi).1
      repeat walk_at "go1"
      refine ⟨_, get_row (hrr _) (code_get hi) (by (first | lia | omega)), ?_⟩
      repeat walk_at "go1"
      refine ⟨_, rfl, ?_⟩
      repeat walk_at "go1"
      have hj20 : held.length ≤ 2 ^ 19 := by (first | lia | omega)
      by_cases ho : isOne ins = true
      · obtain ⟨q1, q2, q3, q4, q5, q6, q7⟩ := one_names ho
        cases held with
        | nil => rw [stepI_one_nil ho] at hrn; cases hrn
        | cons v h =>
          simp only [List.length_cons] at hlen hj20
          rw [stepI_one ho] at hrn
          repeat walk_at "go1"
          refine get_mk (get_name ins) ?_
          repeat walk_at "go1"
          refine kif_f q1 ?_
          repeat walk_at "go1"
          refine kif_f q2 ?_
          repeat walk_at "go1"
          refine kif_f q3 ?_
          repeat walk_at "go1"
          refine kif_f q4 ?_
          repeat walk_at "go1"
          refine kif_f q5 ?_
          repeat walk_at "go1"
          refine kif_f q6 ?_
          repeat walk_at "go1"
          refine kif_t q7 ?_
          repeat walk_at "go1"
          refine ex_pair hA'.1 ?_
          repeat walk_at "go1"
          refine ev_call (P.glob (k := 45) rfl rfl) (P.fn (k := 45) rfl rfl).ex ?_
          repeat walk_at "go1"
          refine ev_pop ?_
          repeat walk_at "go1"
          refine ⟨b, h.reverse.map .int, .int v, rfl, by rw [upd_self]; simp [rowO], slt20 (by simp; (first | lia | omega)), ?_⟩
          rw [upd_upd]
          refine W.hp (H' := upd H b (rowO h)) rfl ?_
          repeat walk_at "go1"
          refine c_one P (hA'.le (by decide)) ho ?_
          cases hl : lawOne ins v with
          | error ab =>
            obtain ⟨a1, a2⟩ := ab
            rw [hl] at hrn
            have hrn' : (some (Out.trap a1 a2) : Option Out) = some out := hrn
            cases hrn'
            simp only [outPV]
            refine ⟨_, _, rfl, ?_⟩
            repeat walk_at "go1"
            exact ⟨H, (Sub.refl _).new hb _, h0⟩
          | ok z =>
            rw [hl] at hrn
            have hrn' : runF c k (spot + 1) (z :: h) = some out := hrn
            simp only [outPV]
            refine ⟨_, _, rfl, ?_⟩
            repeat walk_at "go1"
            refine ev_append ?_
            repeat walk_at "go1"
            refine ⟨b, rfl, ⟨_, upd_self ..⟩, ?_⟩
            repeat walk_at "go1"
            refine ⟨_, upd_self .., sz20 (by simp; (first | lia | omega)), ?_⟩
            rw [upd_upd, rowO_cons]
            repeat walk_at "go1"
            exact ⟨spot + 1, z :: h, by walk_at "has", rfl, by simp; (first | lia | omega), hrn'⟩
      by_cases ht : isTwo ins = true
      · obtain ⟨q1, q2, q3, q4, q5, q6, q7⟩ := two_names ht
        match held, hlen, hj20, hrn with
        | [], _, _, hrn => rw [(stepI_two_nil ht).1] at hrn; cases hrn
        | [z], _, _, hrn => rw [(stepI_two_nil ht).2 z] at hrn; cases hrn
        | y :: x :: h, hlen, hj20, hrn =>
          simp only [List.length_cons] at hlen hj20
          by_cases hsm : Small x ∧ Small y
          rotate_left
          · rw [stepI_two_no ht _ _ _ _ hsm] at hrn; cases hrn
          rw [stepI_two ht _ _ _ _ hsm] at hrn
          repeat walk_at "go1"
          refine get_mk (get_name ins) ?_
          repeat walk_at "go1"
          refine kif_f q1 ?_
          repeat walk_at "go1"
          refine kif_f q2 ?_
          repeat walk_at "go1"
          refine kif_f q3 ?_
          repeat walk_at "go1"
          refine kif_f q4 ?_
          repeat walk_at "go1"
          refine kif_f q5 ?_
          repeat walk_at "go1"
          refine kif_f q6 ?_
          repeat walk_at "go1"
          refine kif_f q7 ?_
          repeat walk_at "go1"
          refine ev_pop ?_
          repeat walk_at "go1"
          refine ⟨b, (x :: h).reverse.map .int, .int y, rfl, by rw [upd_self]; simp [rowO], slt20 (by simp; (first | lia | omega)), ?_⟩
          rw [upd_upd]
          refine W.hp (H' := upd H b (rowO ((x :: h)))) rfl ?_
          repeat walk_at "go1"
          refine ex_pair hA'.1 ?_
          repeat walk_at "go1"
          refine ev_call (P.glob (k := 44) rfl rfl) (P.fn (k := 44) rfl rfl).ex ?_
          repeat walk_at "go1"
          refine ev_pop ?_
          repeat walk_at "go1"
          refine ⟨b, h.reverse.map .int, .int x, rfl, by rw [upd_self]; simp [rowO], slt20 (by simp; (first | lia | omega)), ?_⟩
          rw [upd_upd]
          refine W.hp (H' := upd H b (rowO (h))) rfl ?_
          repeat walk_at "go1"
          refine c_two P (hA'.le (by decide)) ht hsm.1 hsm.2 ?_
          cases hl : lawTwo ins x y with
          | error ab =>
            obtain ⟨a1, a2⟩ := ab
            rw [hl] at hrn
            have hrn' : (some (Out.trap a1 a2) : Option Out) = some out := hrn
            cases hrn'
            simp only [outPV]
            refine ⟨_, _, rfl, ?_⟩
            repeat walk_at "go1"
            exact ⟨H, (Sub.refl _).new hb _, h0⟩
          | ok z =>
            rw [hl] at hrn
            have hrn' : runF c k (spot + 1) (z :: h) = some out := hrn
            simp only [outPV]
            refine ⟨_, _, rfl, ?_⟩
            repeat walk_at "go1"
            refine ev_append ?_
            repeat walk_at "go1"
            refine ⟨b, rfl, ⟨_, upd_self ..⟩, ?_⟩
            repeat walk_at "go1"
            refine ⟨_, upd_self .., sz20 (by simp; (first | lia | omega)), ?_⟩
            rw [upd_upd, rowO_cons]
            repeat walk_at "go1"
            exact ⟨spot + 1, z :: h, by walk_at "has", rfl, by simp; (first | lia | omega), hrn'⟩
      cases ins
      case const n =>
        repeat walk_at "go1"
        refine ev_append ?_
        repeat walk_at "go1"
        refine ⟨b, rfl, ⟨_, upd_self ..⟩, ?_⟩
        repeat walk_at "go1"
        refine ⟨_, upd_self .., sz20 (by simp; (first | lia | omega)), ?_⟩
        rw [upd_upd, rowO_cons]
        repeat walk_at "go1"
        exact ⟨spot + 1, n :: held, by walk_at "has", rfl, by simp; (first | lia | omega), hrn⟩
      case dup =>
        cases held with
        | nil => cases hrn
        | cons v h =>
        simp only [List.length_cons] at hlen hj20
        repeat walk_at "go1"
        refine ev_append ?_
        repeat walk_at "go1"
        refine ⟨b, rfl, ⟨_, upd_self ..⟩, ?_⟩
        repeat walk_at "go1"
        refine ⟨_, get_last (xs := h.reverse.map .int) (x := .int v) (by rw [upd_self]; simp [rowO]), ?_⟩
        refine ⟨_, upd_self .., sz20 (by simp; (first | lia | omega)), ?_⟩
        rw [upd_upd, rowO_cons]
        repeat walk_at "go1"
        exact ⟨spot + 1, v :: v :: h, by walk_at "has", rfl, by simp; (first | lia | omega), hrn⟩
      case drop =>
        cases held with
        | nil => cases hrn
        | cons v h =>
        simp only [List.length_cons] at hlen hj20
        repeat walk_at "go1"
        refine ev_pop ?_
        repeat walk_at "go1"
        refine ⟨b, h.reverse.map .int, .int v, rfl, by rw [upd_self]; simp [rowO], slt20 (by simp; (first | lia | omega)), ?_⟩
        rw [upd_upd]
        refine W.hp (H' := upd H b (rowO h)) rfl ?_
        repeat walk_at "go1"
        exact ⟨spot + 1, h, by walk_at "has", rfl, by (first | lia | omega), hrn⟩
      case ret =>
        cases hrn
        repeat walk_at "go1"
        exact ⟨_, Sub.refl _, h0 b hb⟩
      case trap a b' =>
        cases hrn
        repeat walk_at "go1"
        exact ⟨H, (Sub.refl _).new hb _, h0⟩
      case jump t =>
        repeat walk_at "go1"
        exact ⟨t, held, by walk_at "has", rfl, by (first | lia | omega), hrn⟩
      case unl t =>
        cases held with
        | nil => cases hrn
        | cons v h =>
        simp only [List.length_cons] at hlen hj20
        repeat walk_at "go1"
        refine ev_pop ?_
        repeat walk_at "go1"
        refine ⟨b, h.reverse.map .int, .int v, rfl, by rw [upd_self]; simp [rowO], slt20 (by simp; (first | lia | omega)), ?_⟩
        rw [upd_upd]
        refine W.hp (H' := upd H b (rowO h)) rfl ?_
        repeat walk_at "go1"
        have hrn' : runF c k (if v = 0 then t else spot + 1) h = some out := hrn
        refine ite_i (fun h1 => ?_) (fun h1 => ?_)
        · repeat walk_at "go1"
          simp [ofString_inj] at h1
          rw [if_pos h1] at hrn'
          exact ⟨t, h, by walk_at "has", rfl, by (first | lia | omega), hrn'⟩
        · repeat walk_at "go1"
          simp [ofString_inj] at h1
          rw [if_neg h1] at hrn'
          exact ⟨spot + 1, h, by walk_at "has", rfl, by (first | lia | omega), hrn'⟩
      case whn t =>
        cases held with
        | nil => cases hrn
        | cons v h =>
        simp only [List.length_cons] at hlen hj20
        repeat walk_at "go1"
        refine ev_pop ?_
        repeat walk_at "go1"
        refine ⟨b, h.reverse.map .int, .int v, rfl, by rw [upd_self]; simp [rowO], slt20 (by simp; (first | lia | omega)), ?_⟩
        rw [upd_upd]
        refine W.hp (H' := upd H b (rowO h)) rfl ?_
        repeat walk_at "go1"
        have hwu : (Str.ofString "when" == Str.ofString "unless") = false := by simp [ofString_inj]
        have hrn' : runF c k (if v = 0 then spot + 1 else t) h = some out := hrn
        refine ite_i (fun h1 => ?_) (fun h1 => ?_)
        · repeat walk_at "go1"
          rw [hwu] at h1
          simp at h1
          rw [if_neg h1] at hrn'
          exact ⟨t, h, by walk_at "has", rfl, by (first | lia | omega), hrn'⟩
        · repeat walk_at "go1"
          rw [hwu] at h1
          simp at h1
          rw [if_pos h1] at hrn'
          exact ⟨spot + 1, h, by walk_at "has", rfl, by (first | lia | omega), hrn'⟩
      all_goals first | exact absurd rfl ho | exact absurd rfl ht
  · rintro m2 H2 ⟨spot, held, hm, rfl, hlen, hrn⟩
    refine w_has hm ?_
    repeat walk_at "go1"
    simp [runF] at hrn
    subst hrn
    exact ⟨H, (Sub.refl _).new hb _, h0⟩
end

-- part W14
set_option genInjectivity false in
structure IsCode {G : Gd} (S : SCls G) (H : Hp) (x dx r : Addr) (al : List (Str × PV)) : Prop where
  inst : H x = some (.inst S.C dx)
  dict : H dx = some (.attrs al)
  rows : lk al (Str.ofString "rows") = some (.ref r)
  put : lk al (Str.ofString "put") = none
  patch : lk al (Str.ofString "patch") = none
section
variable {G : Gd} {S : SCls G} (P : Prog G) (M : SMeth S)
include P
theorem c_put {A : Around} (hA : Room 1 A) {H : Hp} {x dx r : Addr} {al : List (Str × PV)} {row : PV} {xs : List PV} {post : PV → Hp → Prop} (hx : IsCode S H x dx r al) (hr : H r = some (.list xs)) (hl : xs.length < 2 ^ 19)
    (h : post (.int xs.length) (upd H r (.list (xs ++ [row])))) : FnW G A (M.mf 1) [.ref x, row] H post := by
  refine fn_intro (M.fn (j := 1) (by simp) rfl) hA [Str.ofString "self", Str.ofString "row"] rfl (fun s nm doc pm an cdv ct vs R hv => ?_) (by decide) (by decide) fun A' L cd hA' hL => ?_
  · revert hv; revert vs; refine all2 fun a b => ?_
    exact BindsTo.of_eq rfl
  have hfree := (S.free "rows" (by simp)).1
  have rx : r ≠ x := by first | exact ne_hp hr hx.inst | exact ne_hp hx.inst hr | exact (fun e => by rw [e, hx.inst] at hr; cases hr)
  have rd : r ≠ dx := by first | exact ne_hp hr hx.dict | exact ne_hp hx.dict hr | exact (fun e => by rw [e, hx.dict] at hr; cases hr)
  repeat walk_at "go1"
  refine ev_append ?_
  refine ev_attr S ?_
  repeat walk_at "go1"
  refine ⟨x, dx, al, _, rfl, hx.inst, hx.dict, hx.rows, hfree, ?_⟩
  refine ⟨r, rfl, ⟨_, hr⟩, ?_⟩
  repeat walk_at "go1"
  refine ⟨_, hr, sz20 (by (first | lia | omega)), ?_⟩
  repeat walk_at "go1"
  refine ev_len (P.free "len" (by simp)) ?_
  refine ev_attr S ?_
  repeat walk_at "go1"
  refine ⟨x, dx, al, _, rfl, (upd_ne rx.symm).trans hx.inst, (upd_ne rd.symm).trans hx.dict, hx.rows, hfree, ?_⟩
  refine ⟨r, _, rfl, upd_self .., by simp; (first | lia | omega), ?_⟩
  repeat walk_at "go1"
  refine pe (post := post) h ?_ rfl
  simp
theorem c_patch {A : Around} (hA : Room 1 A) {H : Hp} {x dx r : Addr} {al : List (Str × PV)} {i : Nat} {nm : PV} {rest xs : List PV} {post : PV → Hp → Prop} (hx : IsCode S H x dx r al) (hr : H r = some (.list xs)) (hl : xs.length < 2 ^ 19)
    (hi : xs[i]? = some (.tup (nm :: rest))) (hrest : rest.length < 100) (h : post .none (upd H r (.list (xs.set i (.tup [nm, .int xs.length]))))) : FnW G A (M.mf 3) [.ref x, .int i] H post := by
  refine fn_intro (M.fn (j := 3) (by simp) rfl) hA [Str.ofString "self", Str.ofString "index"] rfl (fun s nm doc pm an cdv ct vs R hv => ?_) (by decide) (by decide) fun A' L cd hA' hL => ?_
  · revert hv; revert vs; refine all2 fun a b => ?_
    exact BindsTo.of_eq rfl
  have hfree := (S.free "rows" (by simp)).1
  have hil : i < xs.length := (List.getElem?_eq_some_iff.mp hi).1
  have pt : (⟨x, dx, al, .ref r⟩ : Addr × Addr × List (Str × PV) × PV) = ⟨x, dx, al, .ref r⟩ := rfl
  repeat walk_at "go1"
  refine ex_setat ?_
  repeat walk_at "go1"
  refine ev_attr S ?_
  repeat walk_at "go1"
  refine ⟨x, dx, al, _, rfl, hx.inst, hx.dict, hx.rows, hfree, ?_⟩
  repeat walk_at "go1"
  refine ⟨_, get_row hr hi (by (first | lia | omega)), ?_⟩
  repeat walk_at "go1"
  refine ⟨_, get_tup (j := 0) (by decide) (by decide) (by simp [seqIndex?]) rfl, ?_⟩
  repeat walk_at "go1"
  refine ev_len (P.free "len" (by simp)) ?_
  refine ev_attr S ?_
  repeat walk_at "go1"
  refine ⟨x, dx, al, _, rfl, hx.inst, hx.dict, hx.rows, hfree, ?_⟩
  refine ⟨r, _, rfl, hr, by (first | lia | omega), ?_⟩
  repeat walk_at "go1"
  refine ev_attr S ?_
  repeat walk_at "go1"
  refine ⟨x, dx, al, _, rfl, hx.inst, hx.dict, hx.rows, hfree, ?_⟩
  repeat walk_at "go1"
  refine ⟨r, _, _, i, rfl, rfl, rfl, hr, hil, by (first | lia | omega), ?_⟩
  repeat walk_at "go1"
  exact h
noncomputable def attrs5 (p1 p2 p3 p4 : PV) (r : Addr) : List (Str × PV) := [(Str.ofString "module", p1), (Str.ofString "label", p2), (Str.ofString "level", p3), (Str.ofString "slots", p4), (Str.ofString "rows", .ref r)]
omit P in
theorem c_init {A : Around} (hA : Room 1 A) {H : Hp} {x dx : Addr} {p1 p2 p3 p4 : PV} {post : PV → Hp → Prop} (hx : H x = some (.inst S.C dx)) (hd : H dx = some (.attrs []))
    (h : ∀ r, H r = none → post .none (upd (upd H r (.list [])) dx (.attrs (attrs5 p1 p2 p3 p4 r)))) : FnC G A (M.mf 0) [.ref x, p1, p2, p3, p4] H post := by
  refine fnc_intro (M.fn (j := 0) (by simp) rfl) hA [Str.ofString "self", Str.ofString "module", Str.ofString "label", Str.ofString "level", Str.ofString "slots"] rfl (fun s nm doc pm an cdv ct vs R hv => ?_) (by decide) (by decide) fun A' L cd hA' hL => ?_
  · revert hv; revert vs; refine all5 fun a b c d e => ?_
    exact BindsTo.of_eq rfl
  have xd : x ≠ dx := by first | exact ne_hp hx hd | exact ne_hp hd hx | exact (fun e => by rw [e, hd] at hx; cases hx)
  have hx' : ∀ o, upd H dx o x = some (.inst S.C dx) := fun o => (upd_ne xd).trans hx
  have fr := fun (n : String) (hn : n ∈ ["module", "label", "level", "slots", "rows"]) => (S.free n hn).2
  repeat walk_at "go1"
  refine ex_setattr S ?_
  repeat walk_at "go1"
  refine ⟨x, dx, _, rfl, hx, hd, fr _ (by simp), by simp, ?_⟩
  repeat walk_at "go1"
  refine ex_setattr S ?_
  repeat walk_at "go1"
  refine ⟨x, dx, _, rfl, hx' _, upd_self .., fr _ (by simp), by simp [setl, ofString_inj], ?_⟩
  rw [upd_upd]
  repeat walk_at "go1"
  refine ex_setattr S ?_
  repeat walk_at "go1"
  refine ⟨x, dx, _, rfl, hx' _, upd_self .., fr _ (by simp), by simp [setl, ofString_inj], ?_⟩
  rw [upd_upd]
  repeat walk_at "go1"
  refine ex_setattr S ?_
  repeat walk_at "go1"
  refine ⟨x, dx, _, rfl, hx' _, upd_self .., fr _ (by simp), by simp [setl, ofString_inj], ?_⟩
  rw [upd_upd]
  repeat walk_at "go1"
  refine ex_setattr S ?_
  repeat walk_at "go1"
  intro r hr
  have rd : r ≠ dx := by first | exact (upd_none hr).1 | exact (upd_none hr).1.symm | exact (upd_none (upd_none hr).2).1 | exact (upd_none (upd_none hr).2).1.symm | exact (fun e => by rw [e, upd_self] at hr; cases hr)
  have hr0 : H r = none := by first | exact (upd_none hr).2 | exact (upd_none (upd_none hr).2).2 | exact (hs3_none hr).2.2.2 | (rw [upd_ne rd] at hr; exact hr)
  have xr : x ≠ r := by first | exact ne_hp hr0 hx | exact ne_hp hx hr0 | exact (fun e => by rw [← e, hx] at hr0; cases hr0)
  repeat walk_at "go1"
  refine ⟨x, dx, _, rfl, (upd_ne xr).trans (hx' _), (upd_ne rd.symm).trans (upd_self ..), fr _ (by simp), by simp [setl, ofString_inj], ?_⟩
  rw [upd_comm _ rd.symm, upd_upd]
  repeat walk_at "go1"
  have := h r hr0
  simpa [attrs5, setl, ofString_inj] using this
omit P in
theorem attrs5_rows (p1 p2 p3 p4 : PV) (r : Addr) : lk (attrs5 p1 p2 p3 p4 r) (Str.ofString "rows") = some (.ref r) ∧ lk (attrs5 p1 p2 p3 p4 r) (Str.ofString "put") = none ∧ lk (attrs5 p1 p2 p3 p4 r) (Str.ofString "patch") = none := by
  simp [attrs5, lk, ofString_inj]
end

-- part W15
inductive Ty where | num | truth | mask
noncomputable def jmpI (w : Bool) (t : Nat) : Ins := if w = true then .unl t else .whn t
noncomputable def Mid (a : Nat) (mid : List Ins) : Prop := mid = [] ∨ mid = [.jump (a + 1)] ∨ mid = [.jump (a + 3), .const 5, .ret]
inductive Gen : Ty → Nat → List Ins → Prop
  | const {b v} : -2147483648 ≤ v → v ≤ 2147483647 → Gen .num b [.const v]
  | arith {b p q op sp} : Gen .num b p → Gen .num (b + p.length) q → Gen .num b (p ++ q ++ [.arith op sp])
  | neg {b p sp} : Gen .num b p → Gen .num b (p ++ [.neg sp])
  | byte {b p sp} : Gen .num b p → Gen .num b (p ++ [.byte sp])
  | dupdrop {b p} : Gen .num b p → Gen .num b (p ++ [.dup, .drop])
  | dupadd {b p sp} : Gen .num b p → Gen .num b (p ++ [.dup, .arith .add sp])
  | second {b p q} : Gen .num b p → Gen .num (b + p.length) q → Gen .num b (p ++ q ++ [.drop])
  | choice {b t p tr mid q w e1 e2} : Gen .truth b t → Gen .num (b + t.length + 1) p → (tr = [] ∨ tr = [.trap 1 999]) → e1 = b + t.length + 1 + p.length + 1 + tr.length → Mid e1 mid → Gen .num (e1 + mid.length) q →
      e2 = e1 + mid.length + q.length → Gen .num b (t ++ jmpI w e1 :: (p ++ .jump e2 :: (tr ++ mid ++ q)))
  | tconst {b v} : v = 0 ∨ v = 1 → Gen .truth b [.const v]
  | not {b p} : Gen .truth b p → Gen .truth b (p ++ [.not])
  | rel {b p q op} : Gen .num b p → Gen .num (b + p.length) q → Gen .truth b (p ++ q ++ [.rel op])
  | inn {b p q sp} : Gen .num b p → Gen .mask (b + p.length) q → Gen .truth b (p ++ q ++ [.inn sp])
  | setrel {b p q ge} : Gen .mask b p → Gen .mask (b + p.length) q → Gen .truth b (p ++ q ++ [.setrel ge])
  | mconst {b v} : 0 ≤ v → v < 4294967296 → Gen .mask b [.const v]
  | compl {b p} : Gen .mask b p → Gen .mask b (p ++ [.compl])
  | single {b p sp} : Gen .num b p → Gen .mask b (p ++ [.single sp])
  | range {b p q sp} : Gen .num b p → Gen .num (b + p.length) q → Gen .mask b (p ++ q ++ [.range sp])
  | setop {b p q op} : Gen .mask b p → Gen .mask (b + p.length) q → Gen .mask b (p ++ q ++ [.setop op])

set_option genInjectivity false in
structure Cx {G : Gd} (S : SCls G) (H : Hp) (ρ β x dx r : Addr) (al : List (Str × PV)) : Prop where
  inst : H x = some (.inst S.C dx)
  dict : H dx = some (.attrs al)
  rows : lk al (Str.ofString "rows") = some (.ref r)
  put : lk al (Str.ofString "put") = none
  patch : lk al (Str.ofString "patch") = none
  n1 : ρ ≠ β
  n2 : ρ ≠ r
  n3 : β ≠ r
  x1 : x ≠ ρ
  x2 : x ≠ β
  x3 : x ≠ r
  d1 : dx ≠ ρ
  d2 : dx ≠ β
  d3 : dx ≠ r
noncomputable abbrev hg (H : Hp) (ρ β r : Addr) (l : List Int) (n : Int) (xs : List PV) : Hp := hs3 H ρ β r (rowO l) (boxO n) (.list xs)
theorem hs3_ub {H : Hp} {a b c : Addr} {x y z w : PObj} (h1 : b ≠ c) : upd (hs3 H a b c x y z) b w = hs3 H a b c x w z := by
  unfold hs3; rw [upd_comm _ h1.symm, upd_upd]
theorem hs3_push {H : Hp} {a b c d : Addr} {x y z o : PObj} (h1 : d ≠ a) (h2 : d ≠ b) (h3 : d ≠ c) : upd (hs3 H a b c x y z) d o = hs3 (upd H d o) a b c x y z := by
  unfold hs3; rw [upd_comm _ h3.symm, upd_comm _ h2.symm, upd_comm _ h1.symm]
section
variable {G : Gd} {S : SCls G} (P : Prog G) (M : SMeth S)
variable {H : Hp} {ρ β x dx r : Addr} {al : List (Str × PV)}
theorem Cx.isCode (c : Cx S H ρ β x dx r al) (l : List Int) (n : Int) (xs : List PV) : IsCode S (hg H ρ β r l n xs) x dx r al :=
  ⟨(hs3_o c.x1 c.x2 c.x3).trans c.inst, (hs3_o c.d1 c.d2 c.d3).trans c.dict, c.rows, c.put, c.patch⟩
theorem Cx.fresh (c : Cx S H ρ β x dx r al) {l : List Int} {n : Int} {xs : List PV} {b : Addr} (hb : hg H ρ β r l n xs b = none) : b ≠ ρ ∧ b ≠ β ∧ b ≠ r ∧ H b = none := by
  have h1 : b ≠ ρ := by first | exact (hs3_none hb).1 | exact (hs3_none hb).2.1 | exact (hs3_none hb).2.2.1 | exact (fun e => by rw [e, hg, hs3_a c.n1 c.n2] at hb; cases hb)
  have h2 : b ≠ β := by first | exact (hs3_none hb).1 | exact (hs3_none hb).2.1 | exact (hs3_none hb).2.2.1 | exact (fun e => by rw [e, hg, hs3_b c.n3] at hb; cases hb)
  have h3 : b ≠ r := by first | exact (hs3_none hb).1 | exact (hs3_none hb).2.1 | exact (hs3_none hb).2.2.1 | exact (fun e => by rw [e, hg, hs3_c] at hb; cases hb)
  exact ⟨h1, h2, h3, by rw [hg, hs3_o h1 h2 h3] at hb; exact hb⟩
theorem Cx.push (c : Cx S H ρ β x dx r al) {b : Addr} (hb : H b = none) (o : PObj) : Cx S (upd H b o) ρ β x dx r al := by
  have bx : x ≠ b := by first | exact ne_hp hb c.inst | exact ne_hp c.inst hb | exact (fun e => by rw [← e, c.inst] at hb; cases hb)
  have bd : dx ≠ b := by first | exact ne_hp hb c.dict | exact ne_hp c.dict hb | exact (fun e => by rw [← e, c.dict] at hb; cases hb)
  exact ⟨(upd_ne bx).trans c.inst, (upd_ne bd).trans c.dict, c.rows, c.put, c.patch, c.n1, c.n2, c.n3, c.x1, c.x2, c.x3, c.d1, c.d2, c.d3⟩
theorem hg_sub {b : Addr} (hb : H b = none) (o : PObj) (l : List Int) (n : Int) (xs : List PV) : Sub (hg H ρ β r l n xs) (hg (upd H b o) ρ β r l n xs) := by
  unfold hg hs3
  exact ((((Sub.refl H).new hb o).upd _ _).upd _ _).upd _ _
theorem Cells.tail {l : List Int} (h : Cells l) : Cells l.tail := fun y hy => h y (List.mem_of_mem_tail hy)
theorem Cells.head {l : List Int} (h : Cells l) : 0 ≤ l.headD 0 := by
  cases l with
  | nil => simp
  | cons a l => exact (h a (by simp)).1
theorem c_nextH {A : Around} (hA : Room 1 A) (c : Cx S H ρ β x dx r al) {l : List Int} {n : Int} {xs : List PV} {post : PV → Hp → Prop} (hl : Cells l) (hn : l.length ≤ 60)
    (h : ∀ v l', Cells l' → l'.length ≤ 60 → 0 ≤ v → post (.int v) (hg H ρ β r l' n xs)) : FnW G A (P.fa 38) [.ref ρ] (hg H ρ β r l n xs) post := by
  refine c_next P hA (hs3_a c.n1 c.n2) (by (first | lia | omega)) ?_
  rw [hs3_ua c.n1 c.n2]
  exact h _ _ hl.tail (by simp; (first | lia | omega)) hl.head
theorem c_spotH {A : Around} (hA : Room 1 A) (c : Cx S H ρ β x dx r al) {l : List Int} {n : Int} {xs : List PV} {post : PV → Hp → Prop} 
    (h : ∀ n', post (.int n') (hg H ρ β r l n' xs)) : FnW G A (P.fa 39) [.ref β] (hg H ρ β r l n xs) post := by
  refine c_spot P hA (hs3_b c.n3) ?_
  rw [hs3_ub c.n3]
  exact h _
include P in
theorem c_putH {A : Around} (hA : Room 1 A) (c : Cx S H ρ β x dx r al) {l : List Int} {n : Int} {xs : List PV} {row : PV} {post : PV → Hp → Prop} (hx : xs.length < 2 ^ 19)
    (h : post (.int xs.length) (hg H ρ β r l n (xs ++ [row]))) : FnW G A (M.mf 1) [.ref x, row] (hg H ρ β r l n xs) post := by
  refine c_put P M hA (c.isCode l n xs) hs3_c hx ?_
  rw [hs3_uc]
  exact h
include P in
theorem c_patchH {A : Around} (hA : Room 1 A) (c : Cx S H ρ β x dx r al) {l : List Int} {n : Int} {i : Nat} {nm : PV} {rest P1 P2 : List PV} {post : PV → Hp → Prop} (hx : P1.length + P2.length < 2 ^ 18) (hrest : rest.length < 100) (hi : P1.length = i)
    (h : post .none (hg H ρ β r l n (P1 ++ .tup [nm, .int (P1.length + 1 + P2.length : Nat)] :: P2))) : FnW G A (M.mf 3) [.ref x, .int i] (hg H ρ β r l n (P1 ++ .tup (nm :: rest) :: P2)) post := by
  refine c_patch P M hA (c.isCode l n _) hs3_c (by simp; (first | lia | omega)) (at0 hi) hrest ?_
  rw [set0 hi, hs3_uc]
  have e : (P1 ++ PV.tup (nm :: rest) :: P2).length = P1.length + 1 + P2.length := by simp; (first | lia | omega)
  rw [e]
  exact h
end

-- part W16
/-- an item of a written row at a place in bounds -/
theorem pick {α : Type} {Q : α → Prop} {f : α → PV} {l : List α} {j : Nat} (h : ∀ a ∈ l, Q a) (hj : j < l.length) : ∃ a, Q a ∧ (l.map f)[j]? = some (f a) :=
  ⟨l[j], h _ (List.getElem_mem hj), by rw [List.getElem?_map, List.getElem?_eq_getElem hj]; rfl⟩
theorem pick1 {α : Type} {f : α → PV} {l : List α} {j : Nat} (hj : j < l.length) : ∃ a, (l.map f)[j]? = some (f a) :=
  ⟨l[j], by rw [List.getElem?_map, List.getElem?_eq_getElem hj]; rfl⟩
theorem both {α : Type} {Q : α → Prop} {a b : α} (h1 : Q a) (h2 : Q b) : ∀ c ∈ [a, b], Q c := fun c hc => by
  cases hc with
  | head => exact h1
  | tail _ hc => cases hc with
    | head => exact h2
    | tail _ hc => cases hc

theorem fmod_at {v k : Int} {n : Nat} (hk : k = n) (hn : 0 < n) : ∃ j : Nat, j < n ∧ v.fmod k = (j : Int) := by
  subst hk
  refine ⟨(v.fmod n).toNat, ?_, ?_⟩
  · have h1 := Int.fmod_lt_of_pos v (show (0 : Int) < n by (first | lia | omega))
    have h2 := Int.fmod_nonneg_of_pos v (show (0 : Int) < n by (first | lia | omega))
    (first | lia | omega)
  · have h2 := Int.fmod_nonneg_of_pos v (show (0 : Int) < n by (first | lia | omega))
    (first | lia | omega)
theorem fmod2 (v : Int) : v.fmod 2 = 0 ∨ v.fmod 2 = 1 := by
  have h1 := Int.fmod_lt_of_pos v (show (0 : Int) < 2 by decide)
  have h2 := Int.fmod_nonneg_of_pos v (show (0 : Int) < 2 by decide)
  (first | lia | omega)
theorem rec1 {xs : List PV} {p : List Ins} {b : Nat} (h : xs.length + (b + b) < 2 ^ 17) (hp : p.length ≤ b) : (xs ++ p.map Ins.enc).length + b < 2 ^ 17 := by simp only [List.length_append, List.length_map]; (first | lia | omega)
theorem put0 {xs : List PV} {b : Nat} (h : xs.length + b < 2 ^ 17) : xs.length < 2 ^ 19 := by (first | lia | omega)
theorem put1 {xs : List PV} {p : List Ins} {b : Nat} (h : xs.length + (b + b) < 2 ^ 17) (hp : p.length ≤ b) : (xs ++ p.map Ins.enc).length < 2 ^ 19 := by simp only [List.length_append, List.length_map]; (first | lia | omega)
theorem put2 {xs : List PV} {p q : List Ins} {b : Nat} (h : xs.length + (b + b) < 2 ^ 17) (hp : p.length ≤ b) (hq : q.length ≤ b) : (xs ++ p.map Ins.enc ++ q.map Ins.enc).length < 2 ^ 19 := by simp only [List.length_append, List.length_map]; (first | lia | omega)
theorem put1s {xs : List PV} {p : List Ins} {e : PV} {b : Nat} (h : xs.length + (b + b) < 2 ^ 17) (hp : p.length ≤ b) : (xs ++ p.map Ins.enc ++ [e]).length < 2 ^ 19 := by simp only [List.length_append, List.length_map, List.length_cons, List.length_nil]; (first | lia | omega)
theorem sg0 {i : Ins} {b B : Nat} (hB : 2 * b + 1 ≤ B) : [i].length ≤ B := by simp only [List.length_cons, List.length_nil]; (first | lia | omega)
theorem sg1 {i : Ins} {p : List Ins} {b B : Nat} (hB : 2 * b + 1 ≤ B) (hp : p.length ≤ b) : (p ++ [i]).length ≤ B := by simp only [List.length_append, List.length_cons, List.length_nil]; (first | lia | omega)
theorem sg2 {i : Ins} {p q : List Ins} {b B : Nat} (hB : 2 * b + 1 ≤ B) (hp : p.length ≤ b) (hq : q.length ≤ b) : (p ++ q ++ [i]).length ≤ B := by simp only [List.length_append, List.length_cons, List.length_nil]; (first | lia | omega)
theorem sg1d {i j : Ins} {p : List Ins} {b : Nat} (hB : 2 * b + 1 ≤ 3 * b + 6) (hp : p.length ≤ b) : (p ++ [i, j]).length ≤ 3 * b + 6 := by simp only [List.length_append, List.length_cons, List.length_nil]; (first | lia | omega)
theorem fe0 {xs : List PV} {i : Ins} : xs ++ [i.enc] = xs ++ [i].map Ins.enc := rfl
theorem fe1 {xs : List PV} {p : List Ins} {i : Ins} : xs ++ p.map Ins.enc ++ [i.enc] = xs ++ (p ++ [i]).map Ins.enc := by simp
theorem fe2 {xs : List PV} {p q : List Ins} {i : Ins} : xs ++ p.map Ins.enc ++ q.map Ins.enc ++ [i.enc] = xs ++ (p ++ q ++ [i]).map Ins.enc := by simp
theorem fe1d {xs : List PV} {p : List Ins} {j i : Ins} : xs ++ p.map Ins.enc ++ [j.enc] ++ [i.enc] = xs ++ (p ++ [j, i]).map Ins.enc := by simp
section
variable {G : Gd} {S : SCls G} (P : Prog G) (M : SMeth S)
variable {H : Hp} {ρ β x dx r : Addr} {al : List (Str × PV)}
theorem gfin {H : Hp} {ρ β r : Addr} {l : List Int} {n : Int} {ys ys' : List PV} {post : PV → Hp → Prop} (h : post .none (hg H ρ β r l n ys)) (e : ys' = ys) : ∃ H'', Sub H'' (hg H ρ β r l n ys') ∧ post .none H'' := ⟨_, Sub.refl _, e ▸ h⟩
noncomputable def GOk (S : SCls G) (P : Prog G) (f : Addr) (ty : Ty) (bound room : Nat) (d : Int) : Prop :=
  ∀ (A : Around) (H : Hp) (ρ β x dx r : Addr) (al : List (Str × PV)) (l : List Int) (n : Int) (xs : List PV) (post : PV → Hp → Prop), Room room A → Cx S H ρ β x dx r al → Cells l → l.length ≤ 60 → xs.length + bound < 2 ^ 17 →
    (∀ seg l' n', Gen ty xs.length seg → seg.length ≤ bound → Cells l' → l'.length ≤ 60 → post .none (hg H ρ β r l' n' (xs ++ seg.map Ins.enc))) →
    FnW G A f [.ref ρ, .ref β, .ref x, .int d] (hg H ρ β r l n xs) post
include P M
theorem g_mask (d : Nat) (b : Nat) (room : Nat) (hN : ∀ k, d = k + 1 → GOk S P (P.fa 40) .num b room k) (hM : ∀ k, d = k + 1 → GOk S P (P.fa 43) .mask b room k) : GOk S P (P.fa 43) .mask (2 * b + 1) (room + 3) d := by
  intro A H ρ β x dx r al l0 n xs post hA c hl0 hln0 hxs h
  have g38 := P.glob (k := 38) rfl rfl
  have f38 := (P.fn (k := 38) rfl rfl).ex
  have g39 := P.glob (k := 39) rfl rfl
  have f39 := (P.fn (k := 39) rfl rfl).ex
  have g40 := P.glob (k := 40) rfl rfl
  have f40 := (P.fn (k := 40) rfl rfl).ex
  have g43 := P.glob (k := 43) rfl rfl
  have f43 := (P.fn (k := 43) rfl rfl).ex
  have m1 := M.find (j := 1) (by simp) rfl
  have i1 := M.isfn (j := 1) (by simp) rfl
  have e1 := (M.fn (j := 1) (by simp) rfl).ex
  have hx0 : xs.length + b < 2 ^ 17 := by (first | lia | omega)
  have hx1 : xs.length + (b + b) < 2 ^ 17 := by (first | lia | omega)
  have hB : 2 * b + 1 ≤ 2 * b + 1 := by (first | lia | omega)
  refine FnW.drop (fn_go P (k := 43) rfl rfl hA [Str.ofString "row", Str.ofString "box", Str.ofString "code", Str.ofString "deep"] rfl (by walk_at "fn") (by decide) (by decide) fun A' L cd hA' hL => ?_)
  have r1 : Room 1 A' := hA'.le (by (first | lia | omega))
  have rb : Room room A' := hA'.le (by (first | lia | omega))
  repeat walk_at "go1"

  refine ev_call g38 f38 ?_
  repeat walk_at "go1"
  refine c_nextH P r1 c hl0 hln0 fun v1 l1 hl1 hln1 hv1 => ?_
  repeat walk_at "go1"
  refine ⟨_, bin_mod (by decide), ?_⟩
  repeat walk_at "go1"
  cases d with
  | zero =>
    repeat walk_at "go1"
    refine ev_method S m1 i1 e1 ?_
    repeat walk_at "go1"
    refine ⟨x, dx, al, rfl, (c.isCode _ _ _).inst, (c.isCode _ _ _).dict, c.put, ?_⟩
    repeat walk_at "go1"
    refine ev_call g38 f38 ?_
    repeat walk_at "go1"
    refine c_nextH P r1 c hl1 hln1 fun v2 l2 hl2 hln2 hv2 => ?_
    repeat walk_at "go1"
    refine ⟨_, bin_mul (mulokR (by decide)), ?_⟩
    repeat walk_at "go1"
    refine ⟨_, bin_mod (by decide), ?_⟩
    repeat walk_at "go1"
    refine c_putH P M r1 c (put0 hx0) ?_
    repeat walk_at "go1"
    repeat walk_at "go1"
    exact gfin (h ([.const ((v2 * 4333333).fmod 4294967296)]) _ _ (Gen.mconst (Int.fmod_nonneg_of_pos _ (by decide)) (Int.fmod_lt_of_pos _ (by decide))) (sg0 hB) hl2 hln2) (fe0 (i := .const ((v2 * 4333333).fmod 4294967296)))
  | succ k =>
    try (refine ite_f (by simp <;> (first | lia | omega)) ?_)
    repeat walk_at "go1"
    refine ite_i (fun h1 => ?_) (fun h1 => ?_)
    ·
      repeat walk_at "go1"
      refine ev_method S m1 i1 e1 ?_
      repeat walk_at "go1"
      refine ⟨x, dx, al, rfl, (c.isCode _ _ _).inst, (c.isCode _ _ _).dict, c.put, ?_⟩
      repeat walk_at "go1"
      refine ev_call g38 f38 ?_
      repeat walk_at "go1"
      refine c_nextH P r1 c hl1 hln1 fun v2 l2 hl2 hln2 hv2 => ?_
      repeat walk_at "go1"
      refine ⟨_, bin_mul (mulokR (by decide)), ?_⟩
      repeat walk_at "go1"
      refine ⟨_, bin_mod (by decide), ?_⟩
      repeat walk_at "go1"
      refine c_putH P M r1 c (put0 hx0) ?_
      repeat walk_at "go1"
      repeat walk_at "go1"
      exact gfin (h ([.const ((v2 * 4333333).fmod 4294967296)]) _ _ (Gen.mconst (Int.fmod_nonneg_of_pos _ (by decide)) (Int.fmod_lt_of_pos _ (by decide))) (sg0 hB) hl2 hln2) (fe0 (i := .const ((v2 * 4333333).fmod 4294967296)))
    ·
      repeat walk_at "go1"
      refine ite_i (fun h1 => ?_) (fun h1 => ?_)
      ·
        repeat walk_at "go1"
        refine ev_call g43 f43 ?_
        repeat walk_at "go1"
        rw [show ((k + 1 : Nat) : Int) - 1 = (k : Int) by (first | lia | omega)]
        refine hM k rfl _ H ρ β x dx r al _ _ _ _ (by assumption) c hl1 hln1 hx0 fun p0 l2 n2 hp0 hb0 hl2 hln2 => ?_
        repeat walk_at "go1"
        refine ev_method S m1 i1 e1 ?_
        repeat walk_at "go1"
        refine ⟨x, dx, al, rfl, (c.isCode _ _ _).inst, (c.isCode _ _ _).dict, c.put, ?_⟩
        repeat walk_at "go1"
        refine c_putH P M r1 c (put1 hx1 hb0) ?_
        repeat walk_at "go1"
        repeat walk_at "go1"
        exact gfin (h (p0 ++ [.compl]) _ _ (Gen.compl hp0) (sg1 hB hb0) hl2 hln2) (fe1 (i := .compl))
      ·
        repeat walk_at "go1"
        refine ite_i (fun h1 => ?_) (fun h1 => ?_)
        ·
          repeat walk_at "go1"
          refine ev_call g40 f40 ?_
          repeat walk_at "go1"
          rw [show ((k + 1 : Nat) : Int) - 1 = (k : Int) by (first | lia | omega)]
          refine hN k rfl _ H ρ β x dx r al _ _ _ _ (by assumption) c hl1 hln1 hx0 fun p0 l2 n2 hp0 hb0 hl2 hln2 => ?_
          repeat walk_at "go1"
          refine ev_method S m1 i1 e1 ?_
          repeat walk_at "go1"
          refine ⟨x, dx, al, rfl, (c.isCode _ _ _).inst, (c.isCode _ _ _).dict, c.put, ?_⟩
          repeat walk_at "go1"
          refine ev_call g39 f39 ?_
          repeat walk_at "go1"
          refine c_spotH P r1 c fun n' => ?_
          repeat walk_at "go1"
          refine c_putH P M r1 c (put1 hx1 hb0) ?_
          repeat walk_at "go1"
          repeat walk_at "go1"
          exact gfin (h (p0 ++ [.single n']) _ _ (Gen.single hp0) (sg1 hB hb0) hl2 hln2) (fe1 (i := .single n'))
        ·
          repeat walk_at "go1"
          refine ite_i (fun h1 => ?_) (fun h1 => ?_)
          ·
            repeat walk_at "go1"
            refine ev_call g40 f40 ?_
            repeat walk_at "go1"
            rw [show ((k + 1 : Nat) : Int) - 1 = (k : Int) by (first | lia | omega)]
            refine hN k rfl _ H ρ β x dx r al _ _ _ _ (by assumption) c hl1 hln1 hx0 fun p0 l2 n2 hp0 hb0 hl2 hln2 => ?_
            repeat walk_at "go1"
            refine ev_call g40 f40 ?_
            repeat walk_at "go1"
            rw [show ((k + 1 : Nat) : Int) - 1 = (k : Int) by (first | lia | omega)]
            refine hN k rfl _ H ρ β x dx r al _ _ _ _ (by assumption) c hl2 hln2 (rec1 hx1 hb0) fun p1 l3 n3 hp1 hb1 hl3 hln3 => ?_
            rw [List.length_append, List.length_map] at hp1
            repeat walk_at "go1"
            refine ev_method S m1 i1 e1 ?_
            repeat walk_at "go1"
            refine ⟨x, dx, al, rfl, (c.isCode _ _ _).inst, (c.isCode _ _ _).dict, c.put, ?_⟩
            repeat walk_at "go1"
            refine ev_call g39 f39 ?_
            repeat walk_at "go1"
            refine c_spotH P r1 c fun n' => ?_
            repeat walk_at "go1"
            refine c_putH P M r1 c (put2 hx1 hb0 hb1) ?_
            repeat walk_at "go1"
            repeat walk_at "go1"
            exact gfin (h (p0 ++ p1 ++ [.range n']) _ _ (Gen.range hp0 hp1) (sg2 hB hb0 hb1) hl3 hln3) (fe2 (i := .range n'))
          ·
            repeat walk_at "go1"
            repeat walk_at "go1"
            refine ev_call g43 f43 ?_
            repeat walk_at "go1"
            rw [show ((k + 1 : Nat) : Int) - 1 = (k : Int) by (first | lia | omega)]
            refine hM k rfl _ H ρ β x dx r al _ _ _ _ (by assumption) c hl1 hln1 hx0 fun p0 l2 n2 hp0 hb0 hl2 hln2 => ?_
            repeat walk_at "go1"
            refine ev_call g43 f43 ?_
            repeat walk_at "go1"
            rw [show ((k + 1 : Nat) : Int) - 1 = (k : Int) by (first | lia | omega)]
            refine hM k rfl _ H ρ β x dx r al _ _ _ _ (by assumption) c hl2 hln2 (rec1 hx1 hb0) fun p1 l3 n3 hp1 hb1 hl3 hln3 => ?_
            rw [List.length_append, List.length_map] at hp1
            repeat walk_at "go1"
            refine ev_method S m1 i1 e1 ?_
            repeat walk_at "go1"
            refine ⟨x, dx, al, rfl, (c.isCode _ _ _).inst, (c.isCode _ _ _).dict, c.put, ?_⟩
            repeat walk_at "go1"
            intro b hb
            obtain ⟨b1, b2, b3, b0⟩ := c.fresh hb
            refine W.hp (hs3_push b1 b2 b3) ?_
            repeat walk_at "go1"
            refine ev_call g38 f38 ?_
            repeat walk_at "go1"
            refine c_nextH P r1 (c.push b0 _) hl3 hln3 fun v4 l4 hl4 hln4 hv4 => ?_
            repeat walk_at "go1"
            refine ⟨_, bin_mod (by decide), ?_⟩
            repeat walk_at "go1"
            obtain ⟨j, hj, ej⟩ := fmod_at (v := v4) (k := 4) (n := 4) rfl (by decide)
            rw [ej]
            obtain ⟨op, hop⟩ : ∃ op : SOp, ([.str (Str.ofString "s+"), .str (Str.ofString "s-"), .str (Str.ofString "s*"), .str (Str.ofString "s/")] : List PV)[j]? = some (.str op.s) := pick1 (α := SOp) (l := [.union, .diff, .inter, .sym]) (f := fun op => .str op.s) hj
            refine ⟨_, get_row ((hs3_o b1 b2 b3).trans (upd_self ..)) hop (Nat.lt_trans hj (by decide)), ?_⟩
            refine W.less (H' := hg H ρ β r _ _ _) (fun _ _ e => e) (hg_sub b0 _ _ _ _) ?_
            repeat walk_at "go1"
            refine c_putH P M r1 c (put2 hx1 hb0 hb1) ?_
            repeat walk_at "go1"
            repeat walk_at "go1"
            exact gfin (h (p0 ++ p1 ++ [.setop op]) _ _ (Gen.setop hp0 hp1) (sg2 hB hb0 hb1) hl4 hln4) (fe2 (i := .setop op))

theorem g_truth (d : Nat) (b : Nat) (room : Nat) (hN : ∀ k, d = k + 1 → GOk S P (P.fa 40) .num b room k) (hT : ∀ k, d = k + 1 → GOk S P (P.fa 42) .truth b room k) (hM : ∀ k, d = k + 1 → GOk S P (P.fa 43) .mask b room k) : GOk S P (P.fa 42) .truth (2 * b + 1) (room + 3) d := by
  intro A H ρ β x dx r al l0 n xs post hA c hl0 hln0 hxs h
  have g38 := P.glob (k := 38) rfl rfl
  have f38 := (P.fn (k := 38) rfl rfl).ex
  have g39 := P.glob (k := 39) rfl rfl
  have f39 := (P.fn (k := 39) rfl rfl).ex
  have g40 := P.glob (k := 40) rfl rfl
  have f40 := (P.fn (k := 40) rfl rfl).ex
  have g42 := P.glob (k := 42) rfl rfl
  have f42 := (P.fn (k := 42) rfl rfl).ex
  have g43 := P.glob (k := 43) rfl rfl
  have f43 := (P.fn (k := 43) rfl rfl).ex
  have m1 := M.find (j := 1) (by simp) rfl
  have i1 := M.isfn (j := 1) (by simp) rfl
  have e1 := (M.fn (j := 1) (by simp) rfl).ex
  have hx0 : xs.length + b < 2 ^ 17 := by (first | lia | omega)
  have hx1 : xs.length + (b + b) < 2 ^ 17 := by (first | lia | omega)
  have hB : 2 * b + 1 ≤ 2 * b + 1 := by (first | lia | omega)
  refine FnW.drop (fn_go P (k := 42) rfl rfl hA [Str.ofString "row", Str.ofString "box", Str.ofString "code", Str.ofString "deep"] rfl (by walk_at "fn") (by decide) (by decide) fun A' L cd hA' hL => ?_)
  have r1 : Room 1 A' := hA'.le (by (first | lia | omega))
  have rb : Room room A' := hA'.le (by (first | lia | omega))
  repeat walk_at "go1"

  refine ev_call g38 f38 ?_
  repeat walk_at "go1"
  refine c_nextH P r1 c hl0 hln0 fun v1 l1 hl1 hln1 hv1 => ?_
  repeat walk_at "go1"
  refine ⟨_, bin_mod (by decide), ?_⟩
  repeat walk_at "go1"
  cases d with
  | zero =>
    repeat walk_at "go1"
    refine ev_method S m1 i1 e1 ?_
    repeat walk_at "go1"
    refine ⟨x, dx, al, rfl, (c.isCode _ _ _).inst, (c.isCode _ _ _).dict, c.put, ?_⟩
    repeat walk_at "go1"
    refine ev_call g38 f38 ?_
    repeat walk_at "go1"
    refine c_nextH P r1 c hl1 hln1 fun v2 l2 hl2 hln2 hv2 => ?_
    repeat walk_at "go1"
    refine ⟨_, bin_mod (by decide), ?_⟩
    repeat walk_at "go1"
    refine c_putH P M r1 c (put0 hx0) ?_
    repeat walk_at "go1"
    repeat walk_at "go1"
    exact gfin (h ([.const ((v2).fmod 2)]) _ _ (Gen.tconst (fmod2 v2)) (sg0 hB) hl2 hln2) (fe0 (i := .const ((v2).fmod 2)))
  | succ k =>
    try (refine ite_f (by simp <;> (first | lia | omega)) ?_)
    repeat walk_at "go1"
    refine ite_i (fun h1 => ?_) (fun h1 => ?_)
    ·
      repeat walk_at "go1"
      refine ev_method S m1 i1 e1 ?_
      repeat walk_at "go1"
      refine ⟨x, dx, al, rfl, (c.isCode _ _ _).inst, (c.isCode _ _ _).dict, c.put, ?_⟩
      repeat walk_at "go1"
      refine ev_call g38 f38 ?_
      repeat walk_at "go1"
      refine c_nextH P r1 c hl1 hln1 fun v2 l2 hl2 hln2 hv2 => ?_
      repeat walk_at "go1"
      refine ⟨_, bin_mod (by decide), ?_⟩
      repeat walk_at "go1"
      refine c_putH P M r1 c (put0 hx0) ?_
      repeat walk_at "go1"
      repeat walk_at "go1"
      exact gfin (h ([.const ((v2).fmod 2)]) _ _ (Gen.tconst (fmod2 v2)) (sg0 hB) hl2 hln2) (fe0 (i := .const ((v2).fmod 2)))
    ·
      repeat walk_at "go1"
      refine ite_i (fun h1 => ?_) (fun h1 => ?_)
      ·
        repeat walk_at "go1"
        refine ev_call g42 f42 ?_
        repeat walk_at "go1"
        rw [show ((k + 1 : Nat) : Int) - 1 = (k : Int) by (first | lia | omega)]
        refine hT k rfl _ H ρ β x dx r al _ _ _ _ (by assumption) c hl1 hln1 hx0 fun p0 l2 n2 hp0 hb0 hl2 hln2 => ?_
        repeat walk_at "go1"
        refine ev_method S m1 i1 e1 ?_
        repeat walk_at "go1"
        refine ⟨x, dx, al, rfl, (c.isCode _ _ _).inst, (c.isCode _ _ _).dict, c.put, ?_⟩
        repeat walk_at "go1"
        refine c_putH P M r1 c (put1 hx1 hb0) ?_
        repeat walk_at "go1"
        repeat walk_at "go1"
        exact gfin (h (p0 ++ [.not]) _ _ (Gen.not hp0) (sg1 hB hb0) hl2 hln2) (fe1 (i := .not))
      ·
        repeat walk_at "go1"
        refine ite_i (fun h1 => ?_) (fun h1 => ?_)
        ·
          repeat walk_at "go1"
          refine ev_call g40 f40 ?_
          repeat walk_at "go1"
          rw [show ((k + 1 : Nat) : Int) - 1 = (k : Int) by (first | lia | omega)]
          refine hN k rfl _ H ρ β x dx r al _ _ _ _ (by assumption) c hl1 hln1 hx0 fun p0 l2 n2 hp0 hb0 hl2 hln2 => ?_
          repeat walk_at "go1"
          refine ev_call g40 f40 ?_
          repeat walk_at "go1"
          rw [show ((k + 1 : Nat) : Int) - 1 = (k : Int) by (first | lia | omega)]
          refine hN k rfl _ H ρ β x dx r al _ _ _ _ (by assumption) c hl2 hln2 (rec1 hx1 hb0) fun p1 l3 n3 hp1 hb1 hl3 hln3 => ?_
          rw [List.length_append, List.length_map] at hp1
          repeat walk_at "go1"
          refine ev_method S m1 i1 e1 ?_
          repeat walk_at "go1"
          refine ⟨x, dx, al, rfl, (c.isCode _ _ _).inst, (c.isCode _ _ _).dict, c.put, ?_⟩
          repeat walk_at "go1"
          intro b hb
          obtain ⟨b1, b2, b3, b0⟩ := c.fresh hb
          refine W.hp (hs3_push b1 b2 b3) ?_
          repeat walk_at "go1"
          refine ev_call g38 f38 ?_
          repeat walk_at "go1"
          refine c_nextH P r1 (c.push b0 _) hl3 hln3 fun v4 l4 hl4 hln4 hv4 => ?_
          repeat walk_at "go1"
          refine ⟨_, bin_mod (by decide), ?_⟩
          repeat walk_at "go1"
          obtain ⟨j, hj, ej⟩ := fmod_at (v := v4) (k := 6) (n := 6) rfl (by decide)
          rw [ej]
          obtain ⟨op, hop⟩ : ∃ op : ROp, ([.str (Str.ofString "="), .str (Str.ofString "#"), .str (Str.ofString "<"), .str (Str.ofString "<="), .str (Str.ofString ">"), .str (Str.ofString ">=")] : List PV)[j]? = some (.str op.s) := pick1 (α := ROp) (l := [.eq, .ne, .lt, .le, .gt, .ge]) (f := fun op => .str op.s) hj
          refine ⟨_, get_row ((hs3_o b1 b2 b3).trans (upd_self ..)) hop (Nat.lt_trans hj (by decide)), ?_⟩
          refine W.less (H' := hg H ρ β r _ _ _) (fun _ _ e => e) (hg_sub b0 _ _ _ _) ?_
          repeat walk_at "go1"
          refine c_putH P M r1 c (put2 hx1 hb0 hb1) ?_
          repeat walk_at "go1"
          repeat walk_at "go1"
          exact gfin (h (p0 ++ p1 ++ [.rel op]) _ _ (Gen.rel hp0 hp1) (sg2 hB hb0 hb1) hl4 hln4) (fe2 (i := .rel op))
        ·
          repeat walk_at "go1"
          refine ite_i (fun h1 => ?_) (fun h1 => ?_)
          ·
            repeat walk_at "go1"
            refine ev_call g40 f40 ?_
            repeat walk_at "go1"
            rw [show ((k + 1 : Nat) : Int) - 1 = (k : Int) by (first | lia | omega)]
            refine hN k rfl _ H ρ β x dx r al _ _ _ _ (by assumption) c hl1 hln1 hx0 fun p0 l2 n2 hp0 hb0 hl2 hln2 => ?_
            repeat walk_at "go1"
            refine ev_call g43 f43 ?_
            repeat walk_at "go1"
            rw [show ((k + 1 : Nat) : Int) - 1 = (k : Int) by (first | lia | omega)]
            refine hM k rfl _ H ρ β x dx r al _ _ _ _ (by assumption) c hl2 hln2 (rec1 hx1 hb0) fun p1 l3 n3 hp1 hb1 hl3 hln3 => ?_
            rw [List.length_append, List.length_map] at hp1
            repeat walk_at "go1"
            refine ev_method S m1 i1 e1 ?_
            repeat walk_at "go1"
            refine ⟨x, dx, al, rfl, (c.isCode _ _ _).inst, (c.isCode _ _ _).dict, c.put, ?_⟩
            repeat walk_at "go1"
            refine ev_call g39 f39 ?_
            repeat walk_at "go1"
            refine c_spotH P r1 c fun n' => ?_
            repeat walk_at "go1"
            refine c_putH P M r1 c (put2 hx1 hb0 hb1) ?_
            repeat walk_at "go1"
            repeat walk_at "go1"
            exact gfin (h (p0 ++ p1 ++ [.inn n']) _ _ (Gen.inn hp0 hp1) (sg2 hB hb0 hb1) hl3 hln3) (fe2 (i := .inn n'))
          ·
            repeat walk_at "go1"
            repeat walk_at "go1"
            refine ev_call g43 f43 ?_
            repeat walk_at "go1"
            rw [show ((k + 1 : Nat) : Int) - 1 = (k : Int) by (first | lia | omega)]
            refine hM k rfl _ H ρ β x dx r al _ _ _ _ (by assumption) c hl1 hln1 hx0 fun p0 l2 n2 hp0 hb0 hl2 hln2 => ?_
            repeat walk_at "go1"
            refine ev_call g43 f43 ?_
            repeat walk_at "go1"
            rw [show ((k + 1 : Nat) : Int) - 1 = (k : Int) by (first | lia | omega)]
            refine hM k rfl _ H ρ β x dx r al _ _ _ _ (by assumption) c hl2 hln2 (rec1 hx1 hb0) fun p1 l3 n3 hp1 hb1 hl3 hln3 => ?_
            rw [List.length_append, List.length_map] at hp1
            repeat walk_at "go1"
            refine ev_method S m1 i1 e1 ?_
            repeat walk_at "go1"
            refine ⟨x, dx, al, rfl, (c.isCode _ _ _).inst, (c.isCode _ _ _).dict, c.put, ?_⟩
            repeat walk_at "go1"
            intro b hb
            obtain ⟨b1, b2, b3, b0⟩ := c.fresh hb
            refine W.hp (hs3_push b1 b2 b3) ?_
            repeat walk_at "go1"
            refine ev_call g38 f38 ?_
            repeat walk_at "go1"
            refine c_nextH P r1 (c.push b0 _) hl3 hln3 fun v4 l4 hl4 hln4 hv4 => ?_
            repeat walk_at "go1"
            refine ⟨_, bin_mod (by decide), ?_⟩
            repeat walk_at "go1"
            obtain ⟨j, hj, ej⟩ := fmod_at (v := v4) (k := 2) (n := 2) rfl (by decide)
            rw [ej]
            obtain ⟨op, hop⟩ : ∃ op : Bool, ([.str (Str.ofString "s<="), .str (Str.ofString "s>=")] : List PV)[j]? = some (.str (geS op)) := pick1 (α := Bool) (l := [false, true]) (f := fun op => .str (geS op)) hj
            refine ⟨_, get_row ((hs3_o b1 b2 b3).trans (upd_self ..)) hop (Nat.lt_trans hj (by decide)), ?_⟩
            refine W.less (H' := hg H ρ β r _ _ _) (fun _ _ e => e) (hg_sub b0 _ _ _ _) ?_
            repeat walk_at "go1"
            refine c_putH P M r1 c (put2 hx1 hb0 hb1) ?_
            repeat walk_at "go1"
            repeat walk_at "go1"
            exact gfin (h (p0 ++ p1 ++ [.setrel op]) _ _ (Gen.setrel hp0 hp1) (sg2 hB hb0 hb1) hl4 hln4) (fe2 (i := .setrel op))

set_option maxHeartbeats 1000000 in
theorem g_number (d : Nat) (b : Nat) (room : Nat) (hN : ∀ k, d = k + 1 → GOk S P (P.fa 40) .num b room k) (hC : ∀ k, d = k + 1 → GOk S P (P.fa 41) .num (3 * b + 6) (room + 3) k) : GOk S P (P.fa 40) .num (3 * b + 6) (room + 6) d := by
  intro A H ρ β x dx r al l0 n xs post hA c hl0 hln0 hxs h
  have g38 := P.glob (k := 38) rfl rfl
  have f38 := (P.fn (k := 38) rfl rfl).ex
  have g39 := P.glob (k := 39) rfl rfl
  have f39 := (P.fn (k := 39) rfl rfl).ex
  have g40 := P.glob (k := 40) rfl rfl
  have f40 := (P.fn (k := 40) rfl rfl).ex
  have g41 := P.glob (k := 41) rfl rfl
  have f41 := (P.fn (k := 41) rfl rfl).ex
  have m1 := M.find (j := 1) (by simp) rfl
  have i1 := M.isfn (j := 1) (by simp) rfl
  have e1 := (M.fn (j := 1) (by simp) rfl).ex
  have hx0 : xs.length + b < 2 ^ 17 := by (first | lia | omega)
  have hx1 : xs.length + (b + b) < 2 ^ 17 := by (first | lia | omega)
  have hB : 2 * b + 1 ≤ 3 * b + 6 := by (first | lia | omega)
  refine FnW.drop (fn_go P (k := 40) rfl rfl hA [Str.ofString "row", Str.ofString "box", Str.ofString "code", Str.ofString "deep"] rfl (by walk_at "fn") (by decide) (by decide) fun A' L cd hA' hL => ?_)
  have r1 : Room 1 A' := hA'.le (by (first | lia | omega))
  have rb : Room room A' := hA'.le (by (first | lia | omega))
  have rc : Room (room + 3) A' := hA'.le (by (first | lia | omega))
  repeat walk_at "go1"

  refine ev_call g38 f38 ?_
  repeat walk_at "go1"
  refine c_nextH P r1 c hl0 hln0 fun v1 l1 hl1 hln1 hv1 => ?_
  repeat walk_at "go1"
  refine ⟨_, bin_mod (by decide), ?_⟩
  repeat walk_at "go1"
  cases d with
  | zero =>
    repeat walk_at "go1"
    refine ev_method S m1 i1 e1 ?_
    repeat walk_at "go1"
    refine ⟨x, dx, al, rfl, (c.isCode _ _ _).inst, (c.isCode _ _ _).dict, c.put, ?_⟩
    repeat walk_at "go1"
    intro b hb
    obtain ⟨b1, b2, b3, b0⟩ := c.fresh hb
    refine W.hp (hs3_push b1 b2 b3) ?_
    repeat walk_at "go1"
    refine ev_call g38 f38 ?_
    repeat walk_at "go1"
    refine c_nextH P r1 (c.push b0 _) hl1 hln1 fun v2 l2 hl2 hln2 hv2 => ?_
    repeat walk_at "go1"
    refine ⟨_, bin_mod (by decide), ?_⟩
    repeat walk_at "go1"
    obtain ⟨j, hj, ej⟩ := fmod_at (v := v2) (k := 10) (n := 10) rfl (by decide)
    rw [ej]
    obtain ⟨i, hgen, hi⟩ : ∃ i : Int, (-2147483648 ≤ i ∧ i ≤ 2147483647) ∧ ([.int (0), .int (1), .int (2), .int (7), .int (-1), .int (31), .int (2147483647), .int (-2147483648), .int (300), .int (-40)] : List PV)[j]? = some (.int i) := pick (α := Int) (l := [0, 1, 2, 7, -1, 31, 2147483647, -2147483648, 300, -40]) (f := .int) (by decide) hj
    refine ⟨_, get_row ((hs3_o b1 b2 b3).trans (upd_self ..)) hi (Nat.lt_trans hj (by decide)), ?_⟩
    refine W.less (H' := hg H ρ β r _ _ _) (fun _ _ e => e) (hg_sub b0 _ _ _ _) ?_
    repeat walk_at "go1"
    refine c_putH P M r1 c (put0 hx0) ?_
    repeat walk_at "go1"
    repeat walk_at "go1"
    exact gfin (h ([.const i]) _ _ (Gen.const hgen.1 hgen.2) (sg0 hB) hl2 hln2) (fe0 (i := .const i))
  | succ k =>
    try (refine ite_f (by simp <;> (first | lia | omega)) ?_)
    repeat walk_at "go1"
    refine ite_i (fun h1 => ?_) (fun h1 => ?_)
    ·
      repeat walk_at "go1"
      refine ev_method S m1 i1 e1 ?_
      repeat walk_at "go1"
      refine ⟨x, dx, al, rfl, (c.isCode _ _ _).inst, (c.isCode _ _ _).dict, c.put, ?_⟩
      repeat walk_at "go1"
      intro b hb
      obtain ⟨b1, b2, b3, b0⟩ := c.fresh hb
      refine W.hp (hs3_push b1 b2 b3) ?_
      repeat walk_at "go1"
      refine ev_call g38 f38 ?_
      repeat walk_at "go1"
      refine c_nextH P r1 (c.push b0 _) hl1 hln1 fun v2 l2 hl2 hln2 hv2 => ?_
      repeat walk_at "go1"
      refine ⟨_, bin_mod (by decide), ?_⟩
      repeat walk_at "go1"
      obtain ⟨j, hj, ej⟩ := fmod_at (v := v2) (k := 10) (n := 10) rfl (by decide)
      rw [ej]
      obtain ⟨i, hgen, hi⟩ : ∃ i : Int, (-2147483648 ≤ i ∧ i ≤ 2147483647) ∧ ([.int (0), .int (1), .int (2), .int (7), .int (-1), .int (31), .int (2147483647), .int (-2147483648), .int (300), .int (-40)] : List PV)[j]? = some (.int i) := pick (α := Int) (l := [0, 1, 2, 7, -1, 31, 2147483647, -2147483648, 300, -40]) (f := .int) (by decide) hj
      refine ⟨_, get_row ((hs3_o b1 b2 b3).trans (upd_self ..)) hi (Nat.lt_trans hj (by decide)), ?_⟩
      refine W.less (H' := hg H ρ β r _ _ _) (fun _ _ e => e) (hg_sub b0 _ _ _ _) ?_
      repeat walk_at "go1"
      refine c_putH P M r1 c (put0 hx0) ?_
      repeat walk_at "go1"
      repeat walk_at "go1"
      exact gfin (h ([.const i]) _ _ (Gen.const hgen.1 hgen.2) (sg0 hB) hl2 hln2) (fe0 (i := .const i))
    ·
      repeat walk_at "go1"
      refine ite_i (fun h1 => ?_) (fun h1 => ?_)
      ·
        repeat walk_at "go1"
        refine ev_call g40 f40 ?_
        repeat walk_at "go1"
        rw [show ((k + 1 : Nat) : Int) - 1 = (k : Int) by (first | lia | omega)]
        refine hN k rfl _ H ρ β x dx r al _ _ _ _ (by assumption) c hl1 hln1 hx0 fun p0 l2 n2 hp0 hb0 hl2 hln2 => ?_
        repeat walk_at "go1"
        refine ev_call g40 f40 ?_
        repeat walk_at "go1"
        rw [show ((k + 1 : Nat) : Int) - 1 = (k : Int) by (first | lia | omega)]
        refine hN k rfl _ H ρ β x dx r al _ _ _ _ (by assumption) c hl2 hln2 (rec1 hx1 hb0) fun p1 l3 n3 hp1 hb1 hl3 hln3 => ?_
        rw [List.length_append, List.length_map] at hp1
        repeat walk_at "go1"
        refine ev_method S m1 i1 e1 ?_
        repeat walk_at "go1"
        refine ⟨x, dx, al, rfl, (c.isCode _ _ _).inst, (c.isCode _ _ _).dict, c.put, ?_⟩
        repeat walk_at "go1"
        intro b hb
        obtain ⟨b1, b2, b3, b0⟩ := c.fresh hb
        refine W.hp (hs3_push b1 b2 b3) ?_
        repeat walk_at "go1"
        refine ev_call g38 f38 ?_
        repeat walk_at "go1"
        refine c_nextH P r1 (c.push b0 _) hl3 hln3 fun v4 l4 hl4 hln4 hv4 => ?_
        repeat walk_at "go1"
        refine ⟨_, bin_mod (by decide), ?_⟩
        repeat walk_at "go1"
        obtain ⟨j, hj, ej⟩ := fmod_at (v := v4) (k := 5) (n := 5) rfl (by decide)
        rw [ej]
        obtain ⟨op, hop⟩ : ∃ op : AOp, ([.str (Str.ofString "+"), .str (Str.ofString "-"), .str (Str.ofString "*"), .str (Str.ofString "DIV"), .str (Str.ofString "MOD")] : List PV)[j]? = some (.str op.s) := pick1 (α := AOp) (l := [.add, .sub, .mul, .div, .mod]) (f := fun op => .str op.s) hj
        refine ⟨_, get_row ((hs3_o b1 b2 b3).trans (upd_self ..)) hop (Nat.lt_trans hj (by decide)), ?_⟩
        refine W.less (H' := hg H ρ β r _ _ _) (fun _ _ e => e) (hg_sub b0 _ _ _ _) ?_
        repeat walk_at "go1"
        refine ev_call g39 f39 ?_
        repeat walk_at "go1"
        refine c_spotH P r1 c fun n' => ?_
        repeat walk_at "go1"
        refine c_putH P M r1 c (put2 hx1 hb0 hb1) ?_
        repeat walk_at "go1"
        repeat walk_at "go1"
        exact gfin (h (p0 ++ p1 ++ [.arith op n']) _ _ (Gen.arith hp0 hp1) (sg2 hB hb0 hb1) hl4 hln4) (fe2 (i := .arith op n'))
      ·
        repeat walk_at "go1"
        refine ite_i (fun h1 => ?_) (fun h1 => ?_)
        ·
          repeat walk_at "go1"
          refine ev_call g40 f40 ?_
          repeat walk_at "go1"
          rw [show ((k + 1 : Nat) : Int) - 1 = (k : Int) by (first | lia | omega)]
          refine hN k rfl _ H ρ β x dx r al _ _ _ _ (by assumption) c hl1 hln1 hx0 fun p0 l2 n2 hp0 hb0 hl2 hln2 => ?_
          repeat walk_at "go1"
          refine ev_method S m1 i1 e1 ?_
          repeat walk_at "go1"
          refine ⟨x, dx, al, rfl, (c.isCode _ _ _).inst, (c.isCode _ _ _).dict, c.put, ?_⟩
          repeat walk_at "go1"
          refine ev_call g39 f39 ?_
          repeat walk_at "go1"
          refine c_spotH P r1 c fun m1 => ?_
          repeat walk_at "go1"
          refine ev_call g39 f39 ?_
          repeat walk_at "go1"
          refine c_spotH P r1 c fun m2 => ?_
          repeat walk_at "go1"
          intro b hb
          obtain ⟨b1, b2, b3, b0⟩ := c.fresh hb
          refine W.hp (hs3_push b1 b2 b3) ?_
          repeat walk_at "go1"
          refine ev_call g38 f38 ?_
          repeat walk_at "go1"
          refine c_nextH P r1 (c.push b0 _) hl2 hln2 fun v3 l3 hl3 hln3 hv3 => ?_
          repeat walk_at "go1"
          refine ⟨_, bin_mod (by decide), ?_⟩
          repeat walk_at "go1"
          obtain ⟨j, hj, ej⟩ := fmod_at (v := v3) (k := 2) (n := 2) rfl (by decide)
          rw [ej]
          obtain ⟨i, hgen, hi⟩ : ∃ i : Ins, (Gen .num xs.length (p0 ++ [i])) ∧ ([.tup [.str (Str.ofString "neg"), .int m1], .tup [.str (Str.ofString "byte"), .int m2]] : List PV)[j]? = some (i.enc) := pick (α := Ins) (l := [.neg m1, .byte m2]) (f := Ins.enc) (Q := fun i => Gen .num xs.length (p0 ++ [i])) (both (.neg hp0) (.byte hp0)) hj
          refine ⟨_, get_row ((hs3_o b1 b2 b3).trans (upd_self ..)) hi (Nat.lt_trans hj (by decide)), ?_⟩
          refine W.less (H' := hg H ρ β r _ _ _) (fun _ _ e => e) (hg_sub b0 _ _ _ _) ?_
          repeat walk_at "go1"
          refine c_putH P M r1 c (put1 hx1 hb0) ?_
          repeat walk_at "go1"
          repeat walk_at "go1"
          exact gfin (h (p0 ++ [i]) _ _ hgen (sg1 hB hb0) hl3 hln3) (fe1 (i := i))
        ·
          repeat walk_at "go1"
          refine ite_i (fun h1 => ?_) (fun h1 => ?_)
          ·
            repeat walk_at "go1"
            refine ev_call g40 f40 ?_
            repeat walk_at "go1"
            rw [show ((k + 1 : Nat) : Int) - 1 = (k : Int) by (first | lia | omega)]
            refine hN k rfl _ H ρ β x dx r al _ _ _ _ (by assumption) c hl1 hln1 hx0 fun p0 l2 n2 hp0 hb0 hl2 hln2 => ?_
            repeat walk_at "go1"
            refine ev_method S m1 i1 e1 ?_
            repeat walk_at "go1"
            refine ⟨x, dx, al, rfl, (c.isCode _ _ _).inst, (c.isCode _ _ _).dict, c.put, ?_⟩
            repeat walk_at "go1"
            refine c_putH P M r1 c (put1 hx1 hb0) ?_
            repeat walk_at "go1"
            repeat walk_at "go1"
            refine ev_method S m1 i1 e1 ?_
            repeat walk_at "go1"
            refine ⟨x, dx, al, rfl, (c.isCode _ _ _).inst, (c.isCode _ _ _).dict, c.put, ?_⟩
            repeat walk_at "go1"
            refine ev_call g39 f39 ?_
            repeat walk_at "go1"
            refine c_spotH P r1 c fun m2 => ?_
            repeat walk_at "go1"
            intro b hb
            obtain ⟨b1, b2, b3, b0⟩ := c.fresh hb
            refine W.hp (hs3_push b1 b2 b3) ?_
            repeat walk_at "go1"
            refine ev_call g38 f38 ?_
            repeat walk_at "go1"
            refine c_nextH P r1 (c.push b0 _) hl2 hln2 fun v3 l3 hl3 hln3 hv3 => ?_
            repeat walk_at "go1"
            refine ⟨_, bin_mod (by decide), ?_⟩
            repeat walk_at "go1"
            obtain ⟨j, hj, ej⟩ := fmod_at (v := v3) (k := 2) (n := 2) rfl (by decide)
            rw [ej]
            obtain ⟨i, hgen, hi⟩ : ∃ i : Ins, (Gen .num xs.length (p0 ++ [.dup, i])) ∧ ([.tup [.str (Str.ofString "drop")], .tup [.str (Str.ofString "arith"), .str (Str.ofString "+"), .int m2]] : List PV)[j]? = some (i.enc) := pick (α := Ins) (l := [.drop, .arith .add m2]) (f := Ins.enc) (Q := fun i => Gen .num xs.length (p0 ++ [.dup, i])) (both (.dupdrop hp0) (.dupadd hp0)) hj
            refine ⟨_, get_row ((hs3_o b1 b2 b3).trans (upd_self ..)) hi (Nat.lt_trans hj (by decide)), ?_⟩
            refine W.less (H' := hg H ρ β r _ _ _) (fun _ _ e => e) (hg_sub b0 _ _ _ _) ?_
            repeat walk_at "go1"
            refine c_putH P M r1 c (put1s hx1 hb0) ?_
            repeat walk_at "go1"
            repeat walk_at "go1"
            exact gfin (h (p0 ++ [.dup, i]) _ _ hgen (sg1d hB hb0) hl3 hln3) (fe1d (j := .dup) (i := i))
          ·
            repeat walk_at "go1"
            refine ite_i (fun h1 => ?_) (fun h1 => ?_)
            ·
              repeat walk_at "go1"
              refine ev_call g40 f40 ?_
              repeat walk_at "go1"
              rw [show ((k + 1 : Nat) : Int) - 1 = (k : Int) by (first | lia | omega)]
              refine hN k rfl _ H ρ β x dx r al _ _ _ _ (by assumption) c hl1 hln1 hx0 fun p0 l2 n2 hp0 hb0 hl2 hln2 => ?_
              repeat walk_at "go1"
              refine ev_call g40 f40 ?_
              repeat walk_at "go1"
              rw [show ((k + 1 : Nat) : Int) - 1 = (k : Int) by (first | lia | omega)]
              refine hN k rfl _ H ρ β x dx r al _ _ _ _ (by assumption) c hl2 hln2 (rec1 hx1 hb0) fun p1 l3 n3 hp1 hb1 hl3 hln3 => ?_
              rw [List.length_append, List.length_map] at hp1
              repeat walk_at "go1"
              refine ev_method S m1 i1 e1 ?_
              repeat walk_at "go1"
              refine ⟨x, dx, al, rfl, (c.isCode _ _ _).inst, (c.isCode _ _ _).dict, c.put, ?_⟩
              repeat walk_at "go1"
              refine c_putH P M r1 c (put2 hx1 hb0 hb1) ?_
              repeat walk_at "go1"
              repeat walk_at "go1"
              exact gfin (h (p0 ++ p1 ++ [.drop]) _ _ (Gen.second hp0 hp1) (sg2 hB hb0 hb1) hl3 hln3) (fe2 (i := .drop))
            ·
              repeat walk_at "go1"
              repeat walk_at "go1"
              refine ev_call g41 f41 ?_
              repeat walk_at "go1"
              rw [show ((k + 1 : Nat) : Int) - 1 = (k : Int) by (first | lia | omega)]
              refine hC k rfl _ H ρ β x dx r al _ _ _ _ (by assumption) c hl1 hln1 hxs fun p0 l2 n2 hp0 hb0 hl2 hln2 => ?_
              repeat walk_at "go1"
              exact ⟨_, Sub.refl _, h p0 _ _ hp0 (by (first | lia | omega)) hl2 hln2⟩
end

-- part W17
theorem Gen.cast {ty : Ty} {a b : Nat} {l : List Ins} (h : Gen ty a l) (e : a = b) : Gen ty b l := e ▸ h
noncomputable def wS (w : Bool) : Str := if w = true then Str.ofString "unless" else Str.ofString "when"
theorem jmpI_enc (w : Bool) (t : Nat) : (jmpI w t).enc = .tup [.str (wS w), .int t] := by cases w <;> rfl
section
variable {G : Gd} {S : SCls G} (P : Prog G) (M : SMeth S)
variable {H : Hp} {ρ β x dx r : Addr} {al : List (Str × PV)}
include P M
set_option maxHeartbeats 4000000 in
theorem g_choice (d : Nat) (b : Nat) (room : Nat) (hT : GOk S P (P.fa 42) .truth b room d) (hN : GOk S P (P.fa 40) .num b room d) : GOk S P (P.fa 41) .num (3 * b + 6) (room + 3) d := by
  intro A H ρ β x dx r al l0 n xs post hA c hl0 hln0 hxs h
  have g38 := P.glob (k := 38) rfl rfl
  have f38 := (P.fn (k := 38) rfl rfl).ex
  have g40 := P.glob (k := 40) rfl rfl
  have f40 := (P.fn (k := 40) rfl rfl).ex
  have g42 := P.glob (k := 42) rfl rfl
  have f42 := (P.fn (k := 42) rfl rfl).ex
  have m1 := M.find (j := 1) (by simp) rfl
  have i1 := M.isfn (j := 1) (by simp) rfl
  have e1 := (M.fn (j := 1) (by simp) rfl).ex
  have m3 := M.find (j := 3) (by simp) rfl
  have i3 := M.isfn (j := 3) (by simp) rfl
  have e3 := (M.fn (j := 3) (by simp) rfl).ex
  have hx0 : xs.length + b < 2 ^ 17 := by (first | lia | omega)
  have hx1 : xs.length + (b + b) < 2 ^ 17 := by (first | lia | omega)
  refine FnW.drop (fn_go P (k := 41) rfl rfl hA [Str.ofString "row", Str.ofString "box", Str.ofString "code", Str.ofString "deep"] rfl (by walk_at "fn") (by decide) (by decide) fun A' L cd hA' hL => ?_)
  have r1 : Room 1 A' := hA'.le (by (first | lia | omega))
  have rb : Room room A' := hA'.le (by (first | lia | omega))
  repeat walk_at "go1"

  refine ev_call g42 f42 ?_
  repeat walk_at "go1"
  refine hT _ H ρ β x dx r al _ _ _ _ (by assumption) c hl0 hln0 (by simp <;> (first | lia | omega)) fun t l1 n1 hp_t hb_t hl1 hln1 => ?_
  repeat walk_at "go1"
  refine ev_method S m1 i1 e1 ?_
  repeat walk_at "go1"
  refine ⟨x, dx, al, rfl, (c.isCode _ _ _).inst, (c.isCode _ _ _).dict, c.put, ?_⟩
  repeat walk_at "go1"
  intro bb hbb
  obtain ⟨b1, b2, b3, b0⟩ := c.fresh hbb
  refine W.hp (hs3_push b1 b2 b3) ?_
  repeat walk_at "go1"
  refine ev_call g38 f38 ?_
  repeat walk_at "go1"
  refine c_nextH P r1 (c.push b0 _) hl1 hln1 fun v2 l2 hl2 hln2 hv2 => ?_
  repeat walk_at "go1"
  refine ⟨_, bin_mod (by decide), ?_⟩
  repeat walk_at "go1"
  obtain ⟨j, hj, ej⟩ := fmod_at (v := v2) (k := 2) (n := 2) rfl (by decide)
  rw [ej]
  obtain ⟨w, hw⟩ : ∃ w : Bool, ([.str (Str.ofString "unless"), .str (Str.ofString "when")] : List PV)[j]? = some (.str (wS w)) := pick1 (α := Bool) (l := [true, false]) (f := fun w => .str (wS w)) hj
  refine ⟨_, get_row ((hs3_o b1 b2 b3).trans (upd_self ..)) hw (Nat.lt_trans hj (by decide)), ?_⟩
  refine W.less (H' := hg H ρ β r _ _ _) (fun _ _ e => e) (hg_sub b0 _ _ _ _) ?_
  repeat walk_at "go1"
  refine c_putH P M r1 c (by simp <;> (first | lia | omega)) ?_
  repeat walk_at "go1"
  refine ev_call g40 f40 ?_
  repeat walk_at "go1"
  refine hN _ H ρ β x dx r al _ _ _ _ (by assumption) c hl2 hln2 (by simp <;> (first | lia | omega)) fun p l3 n3 hp_p hb_p hl3 hln3 => ?_
  repeat walk_at "go1"
  refine ev_method S m1 i1 e1 ?_
  repeat walk_at "go1"
  refine ⟨x, dx, al, rfl, (c.isCode _ _ _).inst, (c.isCode _ _ _).dict, c.put, ?_⟩
  repeat walk_at "go1"
  refine c_putH P M r1 c (by simp <;> (first | lia | omega)) ?_
  generalize hys : xs ++ t.map Ins.enc = ys at *
  have hyl : ys.length = xs.length + t.length := by rw [← hys]; simp
  refine ex_cut (fun m' H' => ∃ (tr : List Ins) (l : List Int) (n : Int), (tr = [] ∨ tr = [.trap 1 999]) ∧ Cells l ∧ l.length ≤ 60 ∧
    Has m' [(Str.ofString "row", .ref ρ), (Str.ofString "box", .ref β), (Str.ofString "code", .ref x), (Str.ofString "deep", .int d), (Str.ofString "first", .int ys.length), (Str.ofString "last", .int ((ys ++ [PV.tup [.str (wS w), .int (-1)]] ++ p.map Ins.enc).length : Nat))] ∧
    H' = hg H ρ β r l n (ys ++ PV.tup [.str (wS w), .int (-1)] :: (p.map Ins.enc ++ PV.tup [.str (Str.ofString "jump"), .int (-1)] :: tr.map Ins.enc))) ?_ ?_
  · repeat walk_at "go1"
    refine ev_call g38 f38 ?_
    repeat walk_at "go1"
    refine c_nextH P r1 c hl3 hln3 fun v4 l4 hl4 hln4 hv4 => ?_
    repeat walk_at "go1"
    refine ⟨_, bin_mod (by decide), ?_⟩
    repeat walk_at "go1"
    refine ite_i (fun h1 => ?_) (fun h1 => ?_)
    · repeat walk_at "go1"
      refine ev_method S m1 i1 e1 ?_
      repeat walk_at "go1"
      refine ⟨x, dx, al, rfl, (c.isCode _ _ _).inst, (c.isCode _ _ _).dict, c.put, ?_⟩
      repeat walk_at "go1"
      refine c_putH P M r1 c (by simp <;> (first | lia | omega)) ?_
      repeat walk_at "go1"
      exact ⟨rfl, [.trap 1 999], _, _, .inr rfl, hl4, hln4, by walk_at "has", congrArg (hg H ρ β r _ _) (by simp [Ins.enc, Ins.parts])⟩
    · repeat walk_at "go1"
      exact ⟨rfl, [], _, _, .inl rfl, hl4, hln4, by walk_at "has", congrArg (hg H ρ β r _ _) (by simp)⟩
  rintro m5 H5 ⟨tr, l5, n5, htr, hl5, hln5, hm5, rfl⟩
  refine w_has hm5 ?_
  have htl : tr.length ≤ 1 := by rcases htr with rfl | rfl <;> simp
  repeat walk_at "go1"
  refine ev_method S m3 i3 e3 ?_
  repeat walk_at "go1"
  refine ⟨x, dx, al, rfl, (c.isCode _ _ _).inst, (c.isCode _ _ _).dict, c.patch, ?_⟩
  repeat walk_at "go1"
  refine c_patchH P M r1 c (by simp <;> (first | lia | omega)) (by simp) rfl ?_
  obtain ⟨a1, ha1⟩ : ∃ a1, a1 = ys.length + 1 + (p.map Ins.enc ++ PV.tup [.str (Str.ofString "jump"), .int (-1)] :: tr.map Ins.enc).length := ⟨_, rfl⟩
  rw [← ha1]
  simp only [List.length_append, List.length_cons, List.length_map] at ha1
  refine ex_cut (fun m' H' => ∃ (mid : List Ins) (l : List Int) (n : Int), Mid a1 mid ∧ Cells l ∧ l.length ≤ 60 ∧
    Has m' [(Str.ofString "row", .ref ρ), (Str.ofString "box", .ref β), (Str.ofString "code", .ref x), (Str.ofString "deep", .int d), (Str.ofString "last", .int ((ys ++ [PV.tup [.str (wS w), .int (-1)]] ++ p.map Ins.enc).length : Nat))] ∧
    H' = hg H ρ β r l n (ys ++ PV.tup [.str (wS w), .int a1] :: (p.map Ins.enc ++ PV.tup [.str (Str.ofString "jump"), .int (-1)] :: (tr.map Ins.enc ++ mid.map Ins.enc)))) ?_ ?_
  · repeat walk_at "go1"
    refine ev_call g38 f38 ?_
    repeat walk_at "go1"
    refine c_nextH P r1 c hl5 hln5 fun v6 l6 hl6 hln6 hv6 => ?_
    repeat walk_at "go1"
    refine ⟨_, bin_mod (by decide), ?_⟩
    repeat walk_at "go1"
    refine ite_i (fun h2 => ?_) (fun h2 => ?_)
    · repeat walk_at "go1"
      refine ev_method S m1 i1 e1 ?_
      repeat walk_at "go1"
      refine ⟨x, dx, al, rfl, (c.isCode _ _ _).inst, (c.isCode _ _ _).dict, c.put, ?_⟩
      repeat walk_at "go1"
      refine c_putH P M r1 c (by simp <;> (first | lia | omega)) ?_
      generalize hzs : ys ++ PV.tup [.str (wS w), .int a1] :: (p.map Ins.enc ++ PV.tup [.str (Str.ofString "jump"), .int (-1)] :: tr.map Ins.enc) = zs at *
      have hzl : zs.length = a1 := by rw [← hzs]; simp; (first | lia | omega)
      refine ex_cut (fun m' H' => ∃ (e : List Ins) (l : List Int) (n : Int), (e = [] ∨ e = [.const 5, .ret]) ∧ Cells l ∧ l.length ≤ 60 ∧
        Has m' [(Str.ofString "row", .ref ρ), (Str.ofString "box", .ref β), (Str.ofString "code", .ref x), (Str.ofString "deep", .int d), (Str.ofString "last", .int ((ys ++ [PV.tup [.str (wS w), .int (-1)]] ++ p.map Ins.enc).length : Nat)), (Str.ofString "away", .int zs.length)] ∧
        H' = hg H ρ β r l n (zs ++ PV.tup [.str (Str.ofString "jump"), .int (-1)] :: e.map Ins.enc)) ?_ ?_
      · repeat walk_at "go1"
        refine ev_call g38 f38 ?_
        repeat walk_at "go1"
        refine c_nextH P r1 c hl6 hln6 fun v7 l7 hl7 hln7 hv7 => ?_
        repeat walk_at "go1"
        refine ⟨_, bin_mod (by decide), ?_⟩
        repeat walk_at "go1"
        refine ite_i (fun h3 => ?_) (fun h3 => ?_)
        · repeat walk_at "go1"
          refine ev_method S m1 i1 e1 ?_
          repeat walk_at "go1"
          refine ⟨x, dx, al, rfl, (c.isCode _ _ _).inst, (c.isCode _ _ _).dict, c.put, ?_⟩
          repeat walk_at "go1"
          refine c_putH P M r1 c (by simp <;> (first | lia | omega)) ?_
          repeat walk_at "go1"
          refine ev_method S m1 i1 e1 ?_
          repeat walk_at "go1"
          refine ⟨x, dx, al, rfl, (c.isCode _ _ _).inst, (c.isCode _ _ _).dict, c.put, ?_⟩
          repeat walk_at "go1"
          refine c_putH P M r1 c (by simp <;> (first | lia | omega)) ?_
          repeat walk_at "go1"
          exact ⟨rfl, [.const 5, .ret], _, _, .inr rfl, hl7, hln7, by walk_at "has", congrArg (hg H ρ β r _ _) (by simp [Ins.enc, Ins.parts])⟩
        · repeat walk_at "go1"
          exact ⟨rfl, [], _, _, .inl rfl, hl7, hln7, by walk_at "has", congrArg (hg H ρ β r _ _) (by simp)⟩
      rintro m8 H8 ⟨e, l8, n8, he, hl8, hln8, hm8, rfl⟩
      refine w_has hm8 ?_
      repeat walk_at "go1"
      refine ev_method S m3 i3 e3 ?_
      repeat walk_at "go1"
      refine ⟨x, dx, al, rfl, (c.isCode _ _ _).inst, (c.isCode _ _ _).dict, c.patch, ?_⟩
      repeat walk_at "go1"
      refine c_patchH P M r1 c (by rcases he with rfl | rfl <;> simp <;> (first | lia | omega)) (by simp) rfl ?_
      repeat walk_at "go1"
      refine ⟨rfl, .jump (a1 + 1 + e.length) :: e, l8, n8, ?_, hl8, hln8, by walk_at "has", ?_⟩
      · rcases he with rfl | rfl
        · exact .inr (.inl rfl)
        · exact .inr (.inr rfl)
      · rw [hzl, ← hzs]; simp [Ins.enc, Ins.parts]
    · repeat walk_at "go1"
      exact ⟨rfl, [], _, _, .inl rfl, hl6, hln6, by walk_at "has", congrArg (hg H ρ β r _ _) (by simp)⟩
  rintro m6 H6 ⟨mid, l6, n6, hmid, hl6, hln6, hm6, rfl⟩
  refine w_has hm6 ?_
  have hml : mid.length ≤ 3 := by rcases hmid with rfl | rfl | rfl <;> simp
  repeat walk_at "go1"
  refine ev_call g40 f40 ?_
  repeat walk_at "go1"
  refine hN _ H ρ β x dx r al _ _ _ _ rb c hl6 hln6 (by simp <;> (first | lia | omega)) fun q l7 n7 hp_q hb_q hl7 hln7 => ?_
  repeat walk_at "go1"
  refine ev_method S m3 i3 e3 ?_
  repeat walk_at "go1"
  refine ⟨x, dx, al, rfl, (c.isCode _ _ _).inst, (c.isCode _ _ _).dict, c.patch, ?_⟩
  repeat walk_at "go1"
  rw [show ys ++ PV.tup [.str (wS w), .int a1] :: (p.map Ins.enc ++ PV.tup [.str (Str.ofString "jump"), .int (-1)] :: (tr.map Ins.enc ++ mid.map Ins.enc)) ++ q.map Ins.enc = (ys ++ PV.tup [.str (wS w), .int a1] :: p.map Ins.enc) ++ PV.tup [.str (Str.ofString "jump"), .int (-1)] :: (tr.map Ins.enc ++ mid.map Ins.enc ++ q.map Ins.enc) by simp]
  refine c_patchH P M r1 c (by simp <;> (first | lia | omega)) (by simp) (by simp) ?_
  repeat walk_at "go1"
  refine gfin (h (t ++ jmpI w a1 :: (p ++ .jump ((ys ++ PV.tup [.str (wS w), .int a1] :: p.map Ins.enc).length + 1 + (tr.map Ins.enc ++ mid.map Ins.enc ++ q.map Ins.enc).length) :: (tr ++ mid ++ q))) _ _
    (Gen.choice hp_t (hp_p.cast (by simp [hyl])) htr (by (first | lia | omega)) hmid (hp_q.cast (by simp; (first | lia | omega))) (by simp; (first | lia | omega))) (by simp; (first | lia | omega)) hl7 hln7) ?_
  rw [← hys]
  simp only [List.map_append, List.map_cons, jmpI_enc]
  simp [Ins.enc, Ins.parts]
end

-- part W18
section
variable {G : Gd} {S : SCls G} (P : Prog G) (M : SMeth S)
noncomputable def Bd : Nat → Nat
  | 0 => 6
  | k + 1 => 3 * Bd k + 6
noncomputable def Rm : Nat → Nat
  | 0 => 6
  | k + 1 => Rm k + 6
omit M in
theorem GOk.mono {f : Addr} {ty : Ty} {b b' r r' : Nat} {d : Int} (h : GOk S P f ty b r d) (hb : b ≤ b') (hr : r ≤ r') : GOk S P f ty b' r' d := by
  intro A H ρ β x dx r al l n xs post hA c hl hln hxs k
  exact h A H ρ β x dx r al l n xs post (hA.le hr) c hl hln (by (first | lia | omega)) fun seg l' n' g hs => k seg l' n' g (by (first | lia | omega))
include M in
theorem g_all : ∀ d : Nat, GOk S P (P.fa 40) .num (Bd d) (Rm d) d ∧ GOk S P (P.fa 42) .truth (Bd d) (Rm d) d ∧ GOk S P (P.fa 43) .mask (Bd d) (Rm d) d
  | 0 => by
    refine ⟨(g_number P M 0 0 0 (fun k h => absurd h (by (first | lia | omega))) (fun k h => absurd h (by (first | lia | omega)))).mono P (by simp [Bd]) (by simp [Rm]),
      (g_truth P M 0 0 0 (fun k h => absurd h (by (first | lia | omega))) (fun k h => absurd h (by (first | lia | omega))) (fun k h => absurd h (by (first | lia | omega)))).mono P (by simp [Bd]) (by simp [Rm]),
      (g_mask P M 0 0 0 (fun k h => absurd h (by (first | lia | omega))) (fun k h => absurd h (by (first | lia | omega)))).mono P (by simp [Bd]) (by simp [Rm])⟩
  | d + 1 => by
    obtain ⟨hN, hT, hM⟩ := g_all d
    have hC := g_choice P M d (Bd d) (Rm d) hT hN
    have e : ∀ k, d + 1 = k + 1 → k = d := fun k h => by (first | lia | omega)
    refine ⟨(g_number P M (d + 1) (Bd d) (Rm d) (fun k h => by rw [e k h]; exact hN) (fun k h => by rw [e k h]; exact hC)).mono P (by simp [Bd]) (by simp [Rm]),
      (g_truth P M (d + 1) (Bd d) (Rm d) (fun k h => by rw [e k h]; exact hN) (fun k h => by rw [e k h]; exact hT) (fun k h => by rw [e k h]; exact hM)).mono P (by simp [Bd]; (first | lia | omega)) (by simp [Rm]),
      (g_mask P M (d + 1) (Bd d) (Rm d) (fun k h => by rw [e k h]; exact hN) (fun k h => by rw [e k h]; exact hM)).mono P (by simp [Bd]; (first | lia | omega)) (by simp [Rm])⟩
include M in
theorem g_four : GOk S P (P.fa 40) .num 4000 40 (4 : Nat) ∧ GOk S P (P.fa 42) .truth 4000 40 (4 : Nat) ∧ GOk S P (P.fa 43) .mask 4000 40 (4 : Nat) ∧ GOk S P (P.fa 41) .num 4000 40 (4 : Nat) := by
  obtain ⟨hN, hT, hM⟩ := g_all P M 4
  have hC := g_choice P M 4 (Bd 4) (Rm 4) hT hN
  exact ⟨hN.mono P (by decide) (by decide), hT.mono P (by decide) (by decide), hM.mono P (by decide) (by decide), hC.mono P (by decide) (by decide)⟩
omit M in
theorem c_check {A : Around} (hA : Room 4 A) {H : Hp} {x dx r : Addr} {al : List (Str × PV)} {c : List Ins} {T : Nat → Option Int} {post : PV → Hp → Prop} (hx : IsCode S H x dx r al) (hr : H r = some (code c)) (hc : c.length < 2 ^ 20) (hT : Hts c T)
    (h : ∀ b, H b = none → post (.ref b) (upd H b (.list []))) : FnW G A (P.fa 21) [.ref x] H post := by
  refine FnW.drop (fn_go P (k := 21) rfl rfl hA [Str.ofString "code"] rfl (by walk_at "fn") (by decide) (by decide) fun A' L cd hA' hL => ?_)
  repeat walk_at "go1"
  refine ev_call (P.glob (k := 20) rfl rfl) (P.fn (k := 20) rfl rfl).ex ?_
  repeat walk_at "go1"
  refine ev_attr S ?_
  repeat walk_at "go1"
  refine ⟨x, dx, al, _, rfl, hx.inst, hx.dict, hx.rows, (S.free "rows" (by simp)).1, ?_⟩
  repeat walk_at "go1"
  refine c_heights P (hA'.le (by decide)) hr hc hT fun a b l ha hb hab _ => ?_
  repeat walk_at "go1"
  exact ⟨_, ((Sub.refl H).new ha _).upd b _, h b hb⟩
end

-- part W19
theorem DRel.mono {H H' : Hp} (k : Sub H H') {p : PV} {d : PyData} (x : DRel H p d) : DRel H' p d :=
  @DRel.rec H (fun p d _ => DRel H' p d) (fun p d _ => DRels H' p d) .none .bool .int .str (fun _ ih => .tup ih) (fun h _ ih => .list (k _ _ h) ih) .nil (fun _ _ a r => .cons a r) p d x
noncomputable def outD : Out → PyData
  | .value l => .tuple [.str (Str.ofString "value"), .list (l.reverse.map PyData.int)]
  | .trap a b => .tuple [.str (Str.ofString "trap"), .tuple [.int a, .int b]]
  | .endless => .tuple [.str (Str.ofString "endless")]
theorem outD_shaped (o : Out) : PySem.SeqAt.shaped (outD o) = true := by
  have ok := strOk_ofString
  cases o with
  | value l =>
    have h := ints_lay l.reverse
    rw [List.map_reverse] at h
    simp [outD, SeqAt.shaped, PyData.canLay0, PyData.canLayAll0, PyData.depth, PyData.depthAll, h.1, h.2, ok "value" (by decide)]
  | trap a b => kernel_rfl
  | endless => kernel_rfl
theorem outpost_of {H : Hp} {post : PV → Hp → Prop} {o : Out} (h : ∀ p H', Sub H H' → DRel H' p (outD o) → (∀ a, H' a = none → H a = none) → post p H') : OutPost H post o := by
  cases o with
  | value l =>
    intro b hb
    refine h _ _ ((Sub.refl H).new hb _) (.tup (.cons (.str _) (.cons (.list (upd_self ..) (ints_drel _)) .nil))) fun a ha => ?_
    unfold upd at ha
    split at ha
    · cases ha
    · exact ha
  | trap a b => exact h _ _ (Sub.refl H) (.tup (.cons (.str _) (.cons (.tup (.cons (.int _) (.cons (.int _) .nil))) .nil))) fun a ha => ha
  | endless => exact h _ _ (Sub.refl H) (.tup (.cons (.str _) .nil)) fun a ha => ha
theorem IsCode.mono {G : Gd} {S : SCls G} {H H' : Hp} {x dx r : Addr} {al : List (Str × PV)} (h : IsCode S H x dx r al) (k : Sub H H') : IsCode S H' x dx r al := ⟨k _ _ h.inst, k _ _ h.dict, h.rows, h.put, h.patch⟩

theorem sub_mk {H : Hp} {ρ β s dx x r : Addr} {l b os a0 ix rr ad : PObj} (hs : H s = none) (h1 : ρ ≠ β) (h2 : ρ ≠ r) (h3 : β ≠ r) (x1 : x ≠ ρ) (x2 : x ≠ β) (x3 : x ≠ r) (d1 : dx ≠ ρ) (d2 : dx ≠ β) (d3 : dx ≠ r) (xd : x ≠ dx) (s1 : s ≠ ρ) (s2 : s ≠ β) :
    Sub (hs3 (upd (upd H x ix) dx ad) ρ β r l b rr) (upd (upd (upd (upd (upd (upd (upd H ρ l) β b) s os) dx a0) x ix) r rr) dx ad) := by
  intro q p e
  by_cases q1 : q = r
  · subst q1
    rw [hs3_c] at e
    rw [upd_ne d3.symm, upd_self]; exact e
  by_cases q2 : q = β
  · subst q2
    rw [hs3_b h3] at e
    rw [upd_ne d2.symm, upd_ne h3, upd_ne x2.symm, upd_ne d2.symm, upd_ne s2.symm, upd_self]; exact e
  by_cases q3 : q = ρ
  · subst q3
    rw [hs3_a h1 h2] at e
    rw [upd_ne d1.symm, upd_ne h2, upd_ne x1.symm, upd_ne d1.symm, upd_ne s1.symm, upd_ne h1, upd_self]; exact e
  rw [hs3_o q3 q2 q1] at e
  by_cases q4 : q = dx
  · subst q4; rw [upd_self] at e ⊢; exact e
  rw [upd_ne q4] at e ⊢
  rw [upd_ne q1]
  by_cases q5 : q = x
  · subst q5; rw [upd_self] at e ⊢; exact e
  rw [upd_ne q5] at e ⊢
  have q6 : q ≠ s := fun z => by rw [z, hs] at e; cases e
  rw [upd_ne q4, upd_ne q6, upd_ne q2, upd_ne q3]; exact e
theorem sub_mk2 {H : Hp} {s dx x r : Addr} {os a0 ix rr ad : PObj} (hs : H s = none) (hr : H r = none) (hd : H dx = none) (hx : H x = none) (xr : x ≠ r) : Sub (upd (upd H x ix) dx ad) (upd (upd (upd (upd (upd H s os) dx a0) x ix) r rr) dx ad) := by
  intro q p e
  by_cases q4 : q = dx
  · subst q4; rw [upd_self] at e ⊢; exact e
  rw [upd_ne q4] at e ⊢
  by_cases q5 : q = x
  · subst q5; rw [upd_self] at e; rw [upd_ne xr, upd_self]; exact e
  rw [upd_ne q5] at e
  have q6 : q ≠ s := fun z => by rw [z, hs] at e; cases e
  have q7 : q ≠ r := fun z => by rw [z, hr] at e; cases e
  rw [upd_ne q7, upd_ne q5, upd_ne q4, upd_ne q6]; exact e
theorem Sub.none {H H' : Hp} (h : Sub H H') {a : Addr} (ha : H' a = none) : H a = none := by
  cases q : H a with
  | none => rfl
  | some p => have := h a p q; rw [ha] at this; cases this

/-- what plain Lean has to give -/
noncomputable def PlainLaw : Prop := ∀ ty seg, Gen ty 0 seg → seg.length ≤ 4000 → ∃ (out : Out) (Good : List Ins → Prop), PassOk Good ∧ Good (seg ++ [.ret]) ∧
  ∀ c', Good c' → c'.length ≤ seg.length + 1 ∧ runF c' (c'.length + 1) 0 [] = some out ∧ ∃ T, Hts c' T
section
variable {G : Gd} {S : SCls G} (P : Prog G) (M : SMeth S) (O : ProgO G)
include P M O
set_option maxHeartbeats 4000000 in
theorem c_law {A : Around} (hA : Room 60 A) (PL : PlainLaw) {H : Hp} {a : Addr} {ns : List Int} {post : PV → Hp → Prop} (hs : LAt G H a (ns.map .int)) (hn : ns.length ≤ sizeLine)
    (h : post (.bool true) H) : FnW G A (P.fa 47) [.ref a] H post := by
  refine FnW.drop (fn_go P (k := 47) rfl rfl hA [Str.ofString "script"] rfl (by walk_at "fn") (by decide) (by decide) fun A' L cd hA' hL => ?_)
  have lless : ∀ b o, H b = none → LAt G (upd H b o) a (ns.map .int) := fun b o hb h' R => hs h' ⟨R.base, fun q p e => R.objs q p (((Sub.refl H).new hb o) q p e), fun q p e => R.new q p (((Sub.refl H).new hb o) q p e)⟩
  repeat walk_at "go1"
  refine ev_call (P.glob (k := 37) rfl rfl) (P.fn (k := 37) rfl rfl).ex ?_
  repeat walk_at "go1"
  refine c_row P (hA'.le (by decide)) hs hn lless fun ρ l hρ hl hln => ?_
  repeat walk_at "go1"
  with_reducible refine ev_dictS (hall := ?a1) (hl := ?a2) (h0 := ?a3) (hlen := ?a4) ?_
  case a1 => rfl
  case a2 => rfl
  case a3 => simp
  case a4 => decide
  with_reducible refine prs_cons ?_
  repeat walk_at "go1"
  refine prs_nil ⟨[(Str.ofString "spot", .int 0)], rfl, fun β hβ => ?_⟩
  refine W.hp (H' := upd (upd H ρ (rowO l)) β (boxO 0)) rfl ?_
  have n1 : ρ ≠ β := (upd_none hβ).1.symm
  have hβ0 : H β = none := (upd_none hβ).2
  repeat walk_at "go1"
  refine ev_new S (hA'.le (e := 3) (by decide)) (M.find (j := 0) (by simp) rfl) (M.isfn (j := 0) (by simp) rfl) ?_
  repeat walk_at "go1"
  intro s hsn
  repeat walk_at "go1"
  intro x dx A1 hA1 hx hdx hxd
  refine c_init M (hA1.le (by decide)) (upd_self ..) (by rw [upd_ne hxd.symm, upd_self]) fun r hr => ?_
  refine ⟨rfl, ?_⟩
  -- the addresses are apart
  have u1 := upd_none hsn
  have u2 := upd_none u1.2
  have sβ : s ≠ β := u1.1
  have sρ : s ≠ ρ := u2.1
  have hs0 : H s = none := u2.2
  have v1 := upd_none hx
  have v2 := upd_none v1.2
  have v3 := upd_none v2.2
  have xs' : x ≠ s := v1.1
  have xβ : x ≠ β := v2.1
  have xρ : x ≠ ρ := v3.1
  have hx0 : H x = none := v3.2
  have y1 := upd_none hdx
  have y2 := upd_none y1.2
  have y3 := upd_none y2.2
  have ds' : dx ≠ s := y1.1
  have dβ : dx ≠ β := y2.1
  have dρ : dx ≠ ρ := y3.1
  have hd0 : H dx = none := y3.2
  have w1 := upd_none hr
  have w2 := upd_none w1.2
  have w3 := upd_none w2.2
  have w4 := upd_none w3.2
  have w5 := upd_none w4.2
  have rx : r ≠ x := w1.1
  have rd : r ≠ dx := w2.1
  have rs : r ≠ s := w3.1
  have rβ : r ≠ β := w4.1
  have rρ : r ≠ ρ := w5.1
  have hr0 : H r = none := w5.2
  clear u1 u2 v1 v2 v3 y1 y2 y3 w1 w2 w3 w4 w5
  generalize hal : attrs5 (.str (Str.ofString "M")) (.str (Str.ofString "P")) (.int 1) (.ref s) r = al
  have hal3 : lk al (Str.ofString "rows") = some (.ref r) ∧ lk al (Str.ofString "put") = none ∧ lk al (Str.ofString "patch") = none := by rw [← hal]; exact attrs5_rows ..
  refine W.less (H' := hg (upd (upd H x (.inst S.C dx)) dx (.attrs al)) ρ β r l 0 []) (fun _ _ e => e) (sub_mk hs0 n1 rρ.symm rβ.symm xρ xβ rx.symm dρ dβ rd.symm hxd sρ sβ) ?_
  have hsub0 : Sub H (upd (upd H x (.inst S.C dx)) dx (.attrs al)) := ((Sub.refl H).new hx0 _).new hd0 _
  have cx : Cx S (upd (upd H x (.inst S.C dx)) dx (.attrs al)) ρ β x dx r al := ⟨(upd_ne hxd).trans (upd_self ..), upd_self .., hal3.1, hal3.2.1, hal3.2.2, n1, rρ.symm, rβ.symm, xρ, xβ, rx.symm, dρ, dβ, rd.symm⟩
  have hρ' : upd (upd H x (.inst S.C dx)) dx (.attrs al) ρ = none := by rw [upd_ne dρ.symm, upd_ne xρ.symm]; exact hρ
  have hβ' : upd (upd H x (.inst S.C dx)) dx (.attrs al) β = none := by rw [upd_ne dβ.symm, upd_ne xβ.symm]; exact hβ0
  have hr' : upd (upd H x (.inst S.C dx)) dx (.attrs al) r = none := by rw [upd_ne rd, upd_ne rx]; exact hr0
  have hsub1 : ∀ l n xs, Sub H (hg (upd (upd H x (.inst S.C dx)) dx (.attrs al)) ρ β r l n xs) := fun l n xs => by
    unfold hg hs3
    exact ((hsub0.new hρ _).new hβ0 _).new hr0 _
  generalize upd (upd H x (.inst S.C dx)) dx (.attrs al) = H0 at cx hsub0 hsub1 hρ' hβ' hr' ⊢
  repeat walk_at "go1"
  refine ev_callE ?_
  repeat walk_at "go1"
  refine ev_global (P.glob (k := 40) rfl rfl) ?_
  repeat walk_at "go1"
  refine ev_global (P.glob (k := 42) rfl rfl) ?_
  repeat walk_at "go1"
  refine ev_global (P.glob (k := 43) rfl rfl) ?_
  repeat walk_at "go1"
  refine ev_global (P.glob (k := 41) rfl rfl) ?_
  repeat walk_at "go1"
  intro b hb
  obtain ⟨b1, b2, b3, b0⟩ := cx.fresh hb
  refine W.hp (hs3_push b1 b2 b3) ?_
  repeat walk_at "go1"
  refine ev_call (P.glob (k := 38) rfl rfl) (P.fn (k := 38) rfl rfl).ex ?_
  repeat walk_at "go1"
  refine c_nextH P (hA'.le (by decide)) (cx.push b0 _) hl hln fun v l1 hl1 hln1 hv => ?_
  repeat walk_at "go1"
  refine ⟨_, bin_mod (by decide), ?_⟩
  repeat walk_at "go1"
  obtain ⟨j, hj, ej⟩ := fmod_at (v := v) (k := 4) (n := 4) rfl (by decide)
  rw [ej]
  obtain ⟨g1, g2, g3, g4⟩ := g_four P M
  obtain ⟨f, ty, gf, fex, hf⟩ : ∃ f ty, GOk S P f ty 4000 40 (4 : Nat) ∧ (∃ fd o, G.h₀.get? f = some o ∧ o.data = .func fd) ∧ ([.ref (P.fa 40), .ref (P.fa 42), .ref (P.fa 43), .ref (P.fa 41)] : List PV)[j]? = some (.ref f) := by
    match j, hj with
    | 0, _ => exact ⟨_, _, g1, (P.fn (k := 40) rfl rfl).ex, rfl⟩
    | 1, _ => exact ⟨_, _, g2, (P.fn (k := 42) rfl rfl).ex, rfl⟩
    | 2, _ => exact ⟨_, _, g3, (P.fn (k := 43) rfl rfl).ex, rfl⟩
    | 3, _ => exact ⟨_, _, g4, (P.fn (k := 41) rfl rfl).ex, rfl⟩
  refine ⟨_, get_row ((hs3_o b1 b2 b3).trans (upd_self ..)) hf (by (first | lia | omega)), ?_⟩
  refine ⟨f, rfl, fex, ?_⟩
  refine W.less (H' := hg H0 ρ β r l1 0 []) (fun _ _ e => e) (hg_sub b0 _ _ _ _) ?_
  repeat walk_at "go1"
  refine gf _ H0 ρ β x dx r al l1 0 [] _ (hA'.le (by decide)) cx hl1 hln1 (by simp) fun seg l2 n2 hseg hsl hl2 hln2 => ?_
  repeat walk_at "go1"
  refine ev_method S (M.find (j := 1) (by simp) rfl) (M.isfn (j := 1) (by simp) rfl) (M.fn (j := 1) (by simp) rfl).ex ?_
  repeat walk_at "go1"
  refine ⟨x, dx, al, rfl, (cx.isCode _ _ _).inst, (cx.isCode _ _ _).dict, cx.put, ?_⟩
  repeat walk_at "go1"
  refine c_putH P M (hA'.le (by decide)) cx (by simp; (first | lia | omega)) ?_
  obtain ⟨out, Good, pok, hgood, hprop⟩ := PL ty seg (by simpa using hseg) hsl
  obtain ⟨hc1, hrun, T, hT⟩ := hprop _ hgood
  generalize hcd : seg ++ [Ins.ret] = c at *
  have hcl : c.length ≤ 4001 := by rw [← hcd]; simp; (first | lia | omega)
  have ecode : hg H0 ρ β r l2 n2 ([] ++ seg.map Ins.enc ++ [PV.tup [.str (Str.ofString "return")]]) = hs3 H0 ρ β r (rowO l2) (boxO n2) (code c) := by
    rw [← hcd]; simp [code, Ins.enc, Ins.parts]
  have hxC := cx.isCode l2 n2 ([] ++ seg.map Ins.enc ++ [PV.tup [.str (Str.ofString "return")]])
  have hsubC := hsub1 l2 n2 ([] ++ seg.map Ins.enc ++ [PV.tup [.str (Str.ofString "return")]])
  have hrC : hg H0 ρ β r l2 n2 ([] ++ seg.map Ins.enc ++ [PV.tup [.str (Str.ofString "return")]]) r = some (code c) := by rw [ecode]; exact hs3_c
  generalize hg H0 ρ β r l2 n2 ([] ++ seg.map Ins.enc ++ [PV.tup [.str (Str.ofString "return")]]) = H1 at hxC hsubC hrC ⊢
  have hrows := (S.free "rows" (by simp)).1
  repeat walk_at "go1"
  refine ev_call (P.glob (k := 21) rfl rfl) (P.fn (k := 21) rfl rfl).ex ?_
  repeat walk_at "go1"
  refine c_check P (hA'.le (by decide)) hxC hrC (by (first | lia | omega)) hT fun k1 hk1 => ?_
  repeat walk_at "go1"
  intro k2 hk2
  have k12 : k1 ≠ k2 := by first | exact (upd_none hk2).1 | exact (upd_none hk2).1.symm | exact (upd_none (upd_none hk2).2).1 | exact (upd_none (upd_none hk2).2).1.symm | exact (fun e => by rw [← e, upd_self] at hk2; cases hk2)
  refine ⟨_, cmp_ne_data (.list ((upd_ne k12).trans (upd_self ..)) .nil) (.list (upd_self ..) .nil) (by rfl) (by rfl) hA'.units, ?_⟩
  refine ite_f (by rfl) ?_
  refine W.less (H' := H1) (fun _ _ e => e) (((Sub.refl H1).new hk1 _).new (by rw [upd_ne k12.symm] at hk2; exact hk2) _) ?_
  repeat walk_at "go1"
  -- due
  refine ev_call (P.glob (k := 46) rfl rfl) (P.fn (k := 46) rfl rfl).ex ?_
  repeat walk_at "go1"
  refine ev_attr S ?_
  repeat walk_at "go1"
  refine ⟨x, dx, al, _, rfl, hxC.inst, hxC.dict, hxC.rows, hrows, ?_⟩
  repeat walk_at "go1"
  refine c_ended P (hA'.le (by decide)) hrC (by (first | lia | omega)) hrun (outpost_of fun due H2 hs2 hdue hf2 => ?_)
  repeat walk_at "go1"
  -- kept
  refine ev_listcopy (P.free "list" (by simp)) ?_
  refine ev_attr S ?_
  repeat walk_at "go1"
  have hx2 := hxC.mono hs2
  have hr2 := hs2 _ _ hrC
  refine ⟨x, dx, al, _, rfl, hx2.inst, hx2.dict, hx2.rows, hrows, ?_⟩
  refine ⟨r, _, rfl, hr2, sz20 (by simp; (first | lia | omega)), fun kp hkp => ?_⟩
  have hs3' : Sub H2 (upd H2 kp (.list (c.map Ins.enc))) := (Sub.refl H2).new hkp _
  have hkpC : upd H2 kp (.list (c.map Ins.enc)) kp = some (code c) := upd_self ..
  have hkp1 : H1 kp = none := hs2.none hkp
  generalize upd H2 kp (.list (c.map Ins.enc)) = H3 at hs3' hkpC ⊢
  have hs13 := hs2.trans hs3'
  have hx3 := hxC.mono hs13
  have hr3 := hs13 _ _ hrC
  repeat walk_at "go1"
  -- better
  refine ev_call (O.glob rfl) (O.fn rfl).ex ?_
  repeat walk_at "go1"
  refine ev_attr S ?_
  repeat walk_at "go1"
  refine ⟨x, dx, al, _, rfl, hx3.inst, hx3.dict, hx3.rows, hrows, ?_⟩
  repeat walk_at "go1"
  refine c_optimise P O (k := 1) (hA'.le (by decide)) pok hr3 hgood (by decide) fun c2 bt hg2 hbt => ?_
  obtain ⟨hc2, hrun2, T2, hT2⟩ := hprop _ hg2
  have hs4' : Sub H3 (upd H3 bt (code c2)) := (Sub.refl H3).new hbt _
  have hbtC : upd H3 bt (code c2) bt = some (code c2) := upd_self ..
  generalize upd H3 bt (code c2) = H4 at hs4' hbtC ⊢
  have hs14 := hs13.trans hs4'
  have hx4 := hxC.mono hs14
  have hr4 := hs14 _ _ hrC
  have hkp4 := hs4' _ _ hkpC
  repeat walk_at "go1"
  refine ev_attr S ?_
  repeat walk_at "go1"
  refine ⟨x, dx, al, _, rfl, hx4.inst, hx4.dict, hx4.rows, hrows, ?_⟩
  repeat walk_at "go1"
  have same : ∀ {d : PyData}, PySem.SeqAt.shaped d = true → (!PyData.eqv d d) = false := fun h => by rw [eqv_same h]; rfl
  refine ⟨_, cmp_ne_data (.list hr4 (encs_drel _)) (.list hkp4 (encs_drel _)) (codeD_shaped _) (codeD_shaped _) hA'.units, ?_⟩
  refine ite_f (same (codeD_shaped c)) ?_
  repeat walk_at "go1"
  refine ev_len (P.free "len" (by simp)) ?_
  repeat walk_at "go1"
  refine ⟨bt, _, rfl, hbtC, by simp; (first | lia | omega), ?_⟩
  repeat walk_at "go1"
  refine ev_len (P.free "len" (by simp)) ?_
  repeat walk_at "go1"
  refine ⟨kp, _, rfl, hkp4, by simp; (first | lia | omega), ?_⟩
  repeat walk_at "go1"
  have hcseg : c.length = seg.length + 1 := by rw [← hcd]; simp
  refine ite_f (by simp; (first | lia | omega)) ?_
  repeat walk_at "go1"
  refine ev_call (P.glob (k := 46) rfl rfl) (P.fn (k := 46) rfl rfl).ex ?_
  repeat walk_at "go1"
  refine c_ended P (hA'.le (by decide)) hbtC (by (first | lia | omega)) hrun2 (outpost_of fun due2 H5 hs5' hdue2 hf5 => ?_)
  have hs15 := hs14.trans hs5'
  have hdue5 := (hdue.mono (hs3'.trans hs4')).mono hs5'
  repeat walk_at "go1"
  refine ⟨_, cmp_ne_data hdue2 hdue5 (outD_shaped _) (outD_shaped _) hA'.units, ?_⟩
  refine ite_f (same (outD_shaped out)) ?_
  have hbt5 := hs5' _ _ hbtC
  repeat walk_at "go1"
  -- again
  refine ev_new S (hA'.le (e := 3) (by decide)) (M.find (j := 0) (by simp) rfl) (M.isfn (j := 0) (by simp) rfl) ?_
  repeat walk_at "go1"
  intro s' hsn'
  repeat walk_at "go1"
  intro y dy A2 hA2 hy hdy hyd
  refine c_init M (hA2.le (by decide)) (upd_self ..) (by rw [upd_ne hyd.symm, upd_self]) fun r2 hr2' => ?_
  refine ⟨rfl, ?_⟩
  have sy := ((Sub.refl H5).new hsn' (.list [])).none hy
  have sd := ((Sub.refl H5).new hsn' (.list [])).none hdy
  have ry : r2 ≠ y := by first | exact (upd_none hr2').1 | exact (upd_none hr2').1.symm | exact (upd_none (upd_none hr2').2).1 | exact (upd_none (upd_none hr2').2).1.symm | exact (fun e => by rw [e, upd_self] at hr2'; cases hr2')
  have sr := Sub.none ((((Sub.refl H5).new hsn' _).new sd _).new sy _) hr2'
  generalize hal2 : attrs5 (.str (Str.ofString "M")) (.str (Str.ofString "P")) (.int 1) (.ref s') r2 = al2
  refine W.less (H' := upd (upd H5 y (.inst S.C dy)) dy (.attrs al2)) (fun _ _ e => e) (sub_mk2 hsn' sr sd sy ry.symm) ?_
  repeat walk_at "go1"
  refine ex_setattr S ?_
  repeat walk_at "go1"
  refine ⟨y, dy, _, rfl, (upd_ne hyd).trans (upd_self ..), upd_self .., (S.free "rows" (by simp)).2, by rw [← hal2]; simp [attrs5], ?_⟩
  rw [upd_upd]
  have hs6 : Sub H5 (upd (upd H5 y (.inst S.C dy)) dy (.attrs (setl (Str.ofString "rows") (.ref bt) al2))) := ((Sub.refl H5).new sy _).new sd _
  have hxY : IsCode S (upd (upd H5 y (.inst S.C dy)) dy (.attrs (setl (Str.ofString "rows") (.ref bt) al2))) y dy bt (setl (Str.ofString "rows") (.ref bt) al2) := by
    refine ⟨(upd_ne hyd).trans (upd_self ..), upd_self .., ?_, ?_, ?_⟩
    · rw [lk_setl, if_pos rfl]
    · rw [← hal2]; simp [attrs5, setl, lk, ofString_inj]
    · rw [← hal2]; simp [attrs5, setl, lk, ofString_inj]
  have hbt6 := hs6 _ _ hbt5
  have hdue6 := hdue5.mono hs6
  have hs16 := hs15.trans hs6
  generalize upd (upd H5 y (.inst S.C dy)) dy (.attrs (setl (Str.ofString "rows") (.ref bt) al2)) = H6 at hs6 hxY hbt6 hdue6 hs16 ⊢
  repeat walk_at "go1"
  refine ev_and (bo_cons ?_)
  repeat walk_at "go1"
  refine ev_call (P.glob (k := 21) rfl rfl) (P.fn (k := 21) rfl rfl).ex ?_
  repeat walk_at "go1"
  refine c_check P (hA'.le (by decide)) hxY hbt6 (by (first | lia | omega)) hT2 fun k1 hk1 => ?_
  repeat walk_at "go1"
  intro k2 hk2
  have k12 : k1 ≠ k2 := by first | exact (upd_none hk2).1 | exact (upd_none hk2).1.symm | exact (upd_none (upd_none hk2).2).1 | exact (upd_none (upd_none hk2).2).1.symm | exact (fun e => by rw [← e, upd_self] at hk2; cases hk2)
  refine ⟨_, cmp_eq_data (.list ((upd_ne k12).trans (upd_self ..)) .nil) (.list (upd_self ..) .nil) (by rfl) (by rfl) hA'.units, ?_⟩
  refine ⟨_, true_bool, ?_⟩
  refine ite_t (by rfl) ?_
  refine W.less (H' := H6) (fun _ _ e => e) (((Sub.refl H6).new hk1 _).new (by rw [upd_ne k12.symm] at hk2; exact hk2) _) ?_
  refine bo_one ?_
  repeat walk_at "go1"
  refine ev_call (P.glob (k := 46) rfl rfl) (P.fn (k := 46) rfl rfl).ex ?_
  repeat walk_at "go1"
  refine ev_call (O.glob rfl) (O.fn rfl).ex ?_
  repeat walk_at "go1"
  refine c_optimise P O (k := 0) (hA'.le (by decide)) pok hbt6 hg2 (by decide) fun c3 b3' hg3 hb3' => ?_
  obtain ⟨hc3, hrun3, T3, hT3⟩ := hprop _ hg3
  repeat walk_at "go1"
  refine c_ended P (hA'.le (by decide)) (upd_self ..) (by (first | lia | omega)) hrun3 (outpost_of fun due3 H7 hs7 hdue3 hf7 => ?_)
  have hs7' := ((Sub.refl H6).new hb3' _).trans hs7
  repeat walk_at "go1"
  refine ⟨_, cmp_eq_data hdue3 (hdue6.mono hs7') (outD_shaped _) (outD_shaped _) hA'.units, ?_⟩
  repeat walk_at "go1"
  refine ⟨H, hsubC.trans (hs16.trans hs7'), ?_⟩
  rw [eqv_same (outD_shaped out)]
  exact h
end
end Mine

-- part PL1
namespace Mine
open PySem

/-- values of a type -/
noncomputable def Ty.has : Ty → Int → Prop
  | .num, v => -2147483648 ≤ v ∧ v ≤ 2147483647
  | .truth, v => v = 0 ∨ v = 1
  | .mask, v => 0 ≤ v ∧ v ≤ 4294967295
noncomputable def HasT : List Int → List Ty → Prop
  | [], [] => True
  | v :: h, t :: τ => t.has v ∧ HasT h τ
  | _, _ => False
theorem Ty.has.small {t : Ty} {v : Int} (h : t.has v) : Small v := by
  have e : (2 : Int) ^ 33 = 8589934592 := by decide
  unfold Small; rw [e]
  cases t <;> simp only [Ty.has] at h <;> (first | lia | omega)
noncomputable abbrev Gm := Nat → Option (List Ty)
noncomputable def TyIns (Γ : Gm) (i : Nat) (τ : List Ty) : Ins → Prop
  | .const v => ∃ t : Ty, t.has v ∧ Γ (i + 1) = some (t :: τ)
  | .arith _ _ => ∃ σ, τ = .num :: .num :: σ ∧ Γ (i + 1) = some (.num :: σ)
  | .rel _ => ∃ σ, τ = .num :: .num :: σ ∧ Γ (i + 1) = some (.truth :: σ)
  | .neg _ => ∃ σ, τ = .num :: σ ∧ Γ (i + 1) = some (.num :: σ)
  | .byte _ => ∃ σ, τ = .num :: σ ∧ Γ (i + 1) = some (.num :: σ)
  | .dup => ∃ t σ, τ = t :: σ ∧ Γ (i + 1) = some (t :: t :: σ)
  | .drop => ∃ t σ, τ = t :: σ ∧ Γ (i + 1) = some σ
  | .jump t => Γ t = some τ
  | .unl t => ∃ σ, τ = .truth :: σ ∧ Γ (i + 1) = some σ ∧ Γ t = some σ
  | .whn t => ∃ σ, τ = .truth :: σ ∧ Γ (i + 1) = some σ ∧ Γ t = some σ
  | .trap _ _ => True
  | .ret => ∃ t, τ = [t]
  | .not => ∃ σ, τ = .truth :: σ ∧ Γ (i + 1) = some (.truth :: σ)
  | .inn _ => ∃ σ, τ = .mask :: .num :: σ ∧ Γ (i + 1) = some (.truth :: σ)
  | .setrel _ => ∃ σ, τ = .mask :: .mask :: σ ∧ Γ (i + 1) = some (.truth :: σ)
  | .compl => ∃ σ, τ = .mask :: σ ∧ Γ (i + 1) = some (.mask :: σ)
  | .single _ => ∃ σ, τ = .num :: σ ∧ Γ (i + 1) = some (.mask :: σ)
  | .range _ => ∃ σ, τ = .num :: .num :: σ ∧ Γ (i + 1) = some (.mask :: σ)
  | .setop _ => ∃ σ, τ = .mask :: .mask :: σ ∧ Γ (i + 1) = some (.mask :: σ)
noncomputable def OkRow (Γ : Gm) (i : Nat) (τ : List Ty) : Option Ins → Prop
  | none => Γ (i + 1) = some τ
  | some ins => TyIns Γ i τ ins
set_option genInjectivity false in
structure TypedO (l : List (Option Ins)) (Γ : Gm) : Prop where
  zero : Γ 0 = some []
  row : ∀ i τ, Γ i = some τ → ∃ o, l[i]? = some o ∧ OkRow Γ i τ o
noncomputable def FwdO (l : List (Option Ins)) : Prop := ∀ (i : Nat) (ins : Ins), l[i]? = some (some ins) → ins.isJump = true → i < ins.tgt ∧ ins.tgt < l.length
inductive EvO (l : List (Option Ins)) : Nat → List Int → Out → Prop
  | skip {i h o} : l[i]? = some none → EvO l (i + 1) h o → EvO l i h o
  | stop {i h o ins} : l[i]? = some (some ins) → stepI ins i h = some (.inl o) → EvO l i h o
  | go {i h o ins j h'} : l[i]? = some (some ins) → stepI ins i h = some (.inr (j, h')) → EvO l j h' o → EvO l i h o

end Mine

-- part PL2
namespace Mine
open PySem PyProof.Rows

theorem hasT_cons {h : List Int} {t : Ty} {τ : List Ty} (x : HasT h (t :: τ)) : ∃ v r, h = v :: r ∧ t.has v ∧ HasT r τ := by
  cases h with
  | nil => exact x.elim
  | cons v r => exact ⟨v, r, rfl, x.1, x.2⟩
/-- bits of masks -/
theorem nat_and_compl {a b F : Nat} (ha : ∀ i, a.testBit i = true → F.testBit i = true) : (a &&& (F ^^^ b)) + (a &&& b) = a := by
  have h1 : (a &&& (F ^^^ b)) ||| (a &&& b) = a := by
    apply Nat.eq_of_testBit_eq
    intro i
    simp only [Nat.testBit_or, Nat.testBit_and, Nat.testBit_xor]
    have := ha i
    cases h : a.testBit i <;> cases hb : b.testBit i <;> simp_all
  have h2 : (a &&& (F ^^^ b)) &&& (a &&& b) = 0 := by
    apply Nat.eq_of_testBit_eq
    intro i
    simp only [Nat.testBit_and, Nat.testBit_xor, Nat.zero_testBit]
    have := ha i
    cases h : a.testBit i <;> cases hb : b.testBit i <;> simp_all
  have h3 := nat_or_add_and (a &&& (F ^^^ b)) (a &&& b)
  rw [h1, h2] at h3
  (first | lia | omega)
theorem full_bits {a : Nat} (h : a ≤ 4294967295) : ∀ i, a.testBit i = true → (4294967295 : Nat).testBit i = true := by
  intro i hi
  have e : (4294967295 : Nat) = 2 ^ 32 - 1 := by decide
  rw [e, Nat.testBit_two_pow_sub_one]
  have := Nat.testBit_lt_two_pow (x := a) (i := i)
  rcases Nat.lt_or_ge i 32 with hlt | hge
  · simpa using hlt
  · exfalso
    have h2 : a < 2 ^ i := Nat.lt_of_le_of_lt h (Nat.lt_of_lt_of_le (by decide : 4294967295 < 2 ^ 32) (Nat.pow_le_pow_right (by decide) hge))
    rw [Nat.testBit_lt_two_pow h2] at hi
    cases hi
theorem full_and {b : Nat} (h : b ≤ 4294967295) : (4294967295 : Nat) &&& b = b := by
  apply Nat.eq_of_testBit_eq
  intro i
  rw [Nat.testBit_and]
  have := full_bits h i
  cases hb : b.testBit i <;> simp_all
noncomputable def M (v : Int) : Prop := 0 ≤ v ∧ v ≤ 4294967295
theorem M.nat {v : Int} (h : M v) : ∃ n : Nat, v = n ∧ n ≤ 4294967295 := ⟨v.toNat, by have := h.1; (first | lia | omega), by have := h.2; (first | lia | omega)⟩
theorem and_nat (a b : Nat) : Builtin.bitAnd (a : Int) (b : Int) = ((a &&& b : Nat) : Int) := by
  rw [bitAnd_pp (Int.natCast_nonneg _) (Int.natCast_nonneg _)]; simp
theorem xor_full {b : Int} (h : M b) : Builtin.bitXor full b = 4294967295 - b := by
  obtain ⟨n, rfl, hn⟩ := h.nat
  unfold Builtin.bitXor
  rw [bitOr_and]
  have : Builtin.bitAnd full (n : Int) = n := by
    have e : full = ((4294967295 : Nat) : Int) := rfl
    rw [e, and_nat, full_and hn]
  rw [this]; unfold full; (first | lia | omega)
theorem and_le {a b : Int} (ha : M a) (hb : M b) : 0 ≤ Builtin.bitAnd a b ∧ Builtin.bitAnd a b ≤ a ∧ Builtin.bitAnd a b ≤ b := by
  obtain ⟨m, rfl, hm⟩ := ha.nat
  obtain ⟨n, rfl, hn⟩ := hb.nat
  rw [and_nat]
  have := Nat.and_le_left (n := m) (m := n)
  have := Nat.and_le_right (n := m) (m := n)
  (first | lia | omega)
theorem or_le {a b : Int} (ha : M a) (hb : M b) : M (Builtin.bitOr a b) := by
  obtain ⟨m, rfl, hm⟩ := ha.nat
  obtain ⟨n, rfl, hn⟩ := hb.nat
  have h3 := nat_or_add_and m n
  have h4 : m ||| n < 2 ^ 32 := Nat.or_lt_two_pow (by (first | lia | omega)) (by (first | lia | omega))
  have e : (2 : Nat) ^ 32 = 4294967296 := by decide
  rw [bitOr_and, and_nat]
  constructor <;> (first | lia | omega)
theorem xor_le {a b : Int} (ha : M a) (hb : M b) : M (Builtin.bitXor a b) := by
  have h1 := or_le ha hb
  have h2 := and_le ha hb
  unfold Builtin.bitXor
  have h3 : Builtin.bitAnd a b ≤ Builtin.bitOr a b := by rw [bitOr_and]; (first | lia | omega)
  constructor
  · (first | lia | omega)
  · have := h1.2; (first | lia | omega)
theorem and_compl {a b : Int} (ha : M a) (hb : M b) : Builtin.bitAnd a (Builtin.bitXor full b) = a - Builtin.bitAnd a b := by
  rw [xor_full hb]
  obtain ⟨m, rfl, hm⟩ := ha.nat
  obtain ⟨n, rfl, hn⟩ := hb.nat
  have e : (4294967295 : Int) - n = ((4294967295 - n : Nat) : Int) := by (first | lia | omega)
  have e2 : (4294967295 - n : Nat) = 4294967295 ^^^ n := by
    have h := nat_and_compl (a := 4294967295) (b := n) (F := 4294967295) (fun _ h => h)
    have h5 : (4294967295 : Nat) &&& (4294967295 ^^^ n) = 4294967295 ^^^ n := by
      apply Nat.eq_of_testBit_eq
      intro i
      rw [Nat.testBit_and, Nat.testBit_xor]
      have := full_bits hn i
      cases hb : n.testBit i <;> cases hf : (4294967295 : Nat).testBit i <;> simp_all
    rw [h5, full_and hn] at h
    (first | lia | omega)
  rw [e, e2, and_nat, and_nat]
  have h := nat_and_compl (a := m) (b := n) (F := 4294967295) (full_bits hm)
  (first | lia | omega)
theorem and_one {a : Int} (ha : 0 ≤ a) : Builtin.bitAnd a 1 = a.fmod 2 := by
  obtain ⟨m, rfl⟩ : ∃ m : Nat, a = m := ⟨a.toNat, by (first | lia | omega)⟩
  have : (1 : Int) = ((1 : Nat) : Int) := rfl
  rw [this, and_nat, Nat.and_one_is_mod]
  rw [Int.fmod_eq_emod_of_nonneg _ (by decide)]
  simp
theorem sum_pows (a : Nat) : ∀ n : Nat, ((List.range n).map fun i : Nat => (2 : Int) ^ (a + i)).sum = 2 ^ (a + n) - 2 ^ a
  | 0 => by simp
  | n + 1 => by
    rw [List.range_succ, List.map_append, List.sum_append, sum_pows a n]
    simp only [List.map_cons, List.map_nil, List.sum_cons, List.sum_nil]
    have : (2 : Int) ^ (a + (n + 1)) = 2 ^ (a + n) * 2 := by rw [← Nat.add_assoc, Int.pow_succ]
    (first | lia | omega)
theorem range_law {x y : Int} (hx : 0 ≤ x ∧ x ≤ 31) (hy : 0 ≤ y ∧ y ≤ 31) : rangeMask x y = ((List.range (y + 1 - x).toNat).map fun i : Nat => (2 : Int) ^ (x + (i : Int)).toNat).sum := by
  obtain ⟨m, rfl⟩ : ∃ m : Nat, x = m := ⟨x.toNat, by (first | lia | omega)⟩
  obtain ⟨n, rfl⟩ : ∃ n : Nat, y = n := ⟨y.toNat, by (first | lia | omega)⟩
  have e : (fun i : Nat => (2 : Int) ^ ((m : Int) + (i : Int)).toNat) = fun i : Nat => (2 : Int) ^ (m + i) := by
    funext i; congr 1
  rw [e, sum_pows]
  unfold rangeMask
  split
  · rename_i h
    have : ((n : Int) + 1 - m).toNat = 0 := by (first | lia | omega)
    rw [this]; simp
  · rename_i h
    have e1 : m + ((n : Int) + 1 - m).toNat = ((n : Int) + 1).toNat := by (first | lia | omega)
    rw [e1]; simp
end Mine

-- part PL3
namespace Mine
open PySem PyProof.Rows

/-- types in and out -/
noncomputable def oneT : Ins → Option (Ty × Ty)
  | .neg _ => some (.num, .num)
  | .byte _ => some (.num, .num)
  | .not => some (.truth, .truth)
  | .compl => some (.mask, .mask)
  | .single _ => some (.num, .mask)
  | _ => none
/-- type of the lower, of the top, of what comes -/
noncomputable def twoT : Ins → Option (Ty × Ty × Ty)
  | .arith _ _ => some (.num, .num, .num)
  | .rel _ => some (.num, .num, .truth)
  | .inn _ => some (.num, .mask, .truth)
  | .setrel _ => some (.mask, .mask, .truth)
  | .range _ => some (.num, .num, .mask)
  | .setop _ => some (.mask, .mask, .mask)
  | _ => none
theorem mask_M {v : Int} (h : Ty.mask.has v) : M v := h
theorem b2i_truth (b : Bool) : Ty.truth.has (b2i b) := by cases b <;> simp [b2i, Ty.has]
theorem lawOne_typed {ins : Ins} {t u : Ty} {x : Int} (h : oneT ins = some (t, u)) (hx : t.has x) : (∃ a b, lawOne ins x = .error (a, b)) ∨ ∃ v, lawOne ins x = .ok v ∧ u.has v := by
  cases ins <;> simp only [oneT, Option.some.injEq, Prod.mk.injEq, reduceCtorEq] at h <;> obtain ⟨rfl, rfl⟩ := h
  case neg sp =>
    simp only [Ty.has] at hx
    simp only [lawOne]
    by_cases h1 : x ≠ -2147483648
    · rw [if_pos h1]; exact .inr ⟨_, rfl, by simp only [Ty.has]; (first | lia | omega)⟩
    · rw [if_neg h1]; exact .inl ⟨_, _, rfl⟩
  case byte sp =>
    simp only [Ty.has] at hx
    simp only [lawOne]
    by_cases h1 : 0 ≤ x ∧ x < 256
    · rw [if_pos h1]; exact .inr ⟨_, rfl, by simp only [Ty.has]; (first | lia | omega)⟩
    · rw [if_neg h1]; exact .inl ⟨_, _, rfl⟩
  case not =>
    simp only [Ty.has] at hx
    exact .inr ⟨_, rfl, by simp only [Ty.has]; (first | lia | omega)⟩
  case compl =>
    simp only [Ty.has] at hx
    exact .inr ⟨_, rfl, by simp only [Ty.has]; (first | lia | omega)⟩
  case single sp =>
    simp only [lawOne]
    by_cases h1 : 0 ≤ x ∧ x < 32
    · rw [if_pos h1]
      have := pow31 x.toNat (by (first | lia | omega))
      exact .inr ⟨_, rfl, by simp only [Ty.has]; (first | lia | omega)⟩
    · rw [if_neg h1]; exact .inl ⟨_, _, rfl⟩
theorem foldSingle_eq {ins : Ins} {t u : Ty} {x v : Int} (h : oneT ins = some (t, u)) (hx : t.has x) (hf : foldSingle ins x = some v) : lawOne ins x = .ok v := by
  cases ins <;> simp only [oneT, Option.some.injEq, Prod.mk.injEq, reduceCtorEq] at h <;> obtain ⟨rfl, rfl⟩ := h
  case neg sp =>
    simp only [foldSingle] at hf
    split at hf
    · rename_i h1
      cases hf
      simp only [fitsI, decide_eq_true_eq] at h1
      simp only [lawOne]
      rw [if_pos (by (first | lia | omega))]
    · cases hf
  case byte sp =>
    simp only [foldSingle] at hf
    split at hf
    · cases hf; simp only [lawOne]; rw [if_pos (by (first | lia | omega))]
    · cases hf
  case not =>
    simp only [foldSingle, Option.some.injEq] at hf
    simp only [Ty.has] at hx
    simp only [lawOne]
    rw [← hf]
    split
    · rename_i h0; rw [h0]; rfl
    · rw [show x = 1 by (first | lia | omega)]; rfl
  case compl =>
    simp only [foldSingle, Option.some.injEq] at hf
    rw [← hf, xor_full (mask_M hx)]; rfl
  case single sp =>
    simp only [foldSingle] at hf
    split at hf
    · cases hf; simp only [lawOne]; rw [if_pos (by (first | lia | omega))]; congr 1; (first | lia | omega)
    · cases hf
theorem oneT_of_fold {ins : Ins} {x v : Int} (hf : foldSingle ins x = some v) : ∃ t u, oneT ins = some (t, u) := by
  cases ins <;> first | exact ⟨_, _, rfl⟩ | cases hf
theorem twoT_of_fold {ins : Ins} {x y v : Int} (hf : foldPair ins x y = some v) : ∃ t s u, twoT ins = some (t, s, u) := by
  cases ins <;> first | exact ⟨_, _, _, rfl⟩ | cases hf
theorem fdiv_bounds {x y : Int} (hx : Ty.num.has x) (hy : 0 < y) : Ty.num.has (x.fdiv y) := by
  simp only [Ty.has] at hx ⊢
  have h1 := Int.mul_fdiv_add_fmod x y
  have h2 := Int.fmod_nonneg_of_pos x hy
  have h3 := Int.fmod_lt_of_pos x hy
  constructor
  · by_cases hn : x.fdiv y < -2147483648
    · have : y * x.fdiv y ≤ y * (-2147483649) := Int.mul_le_mul_of_nonneg_left (by (first | lia | omega)) (by (first | lia | omega))
      (first | lia | omega)
    · (first | lia | omega)
  · by_cases hn : 2147483647 < x.fdiv y
    · have : y * 2147483648 ≤ y * x.fdiv y := Int.mul_le_mul_of_nonneg_left (by (first | lia | omega)) (by (first | lia | omega))
      (first | lia | omega)
    · (first | lia | omega)
theorem lawTwo_typed {ins : Ins} {t s u : Ty} {x y : Int} (h : twoT ins = some (t, s, u)) (hx : t.has x) (hy : s.has y) : (∃ a b, lawTwo ins x y = .error (a, b)) ∨ ∃ v, lawTwo ins x y = .ok v ∧ u.has v := by
  cases ins <;> simp only [twoT, Option.some.injEq, Prod.mk.injEq, reduceCtorEq] at h <;> obtain ⟨rfl, rfl, rfl⟩ := h
  case arith op sp =>
    cases op <;> simp only [lawTwo]
    case div =>
      by_cases h1 : y ≤ 0
      · rw [if_pos h1]; exact .inl ⟨_, _, rfl⟩
      · rw [if_neg h1]
        refine .inr ⟨_, rfl, ?_⟩
        have h2 := Int.mul_fdiv_add_fmod x y
        have e : (x - x.fmod y).fdiv y = x.fdiv y := by
          rw [show x - x.fmod y = y * x.fdiv y by (first | lia | omega), Int.mul_fdiv_cancel_left _ (by (first | lia | omega))]
        rw [e]; exact fdiv_bounds hx (by (first | lia | omega))
    case mod =>
      by_cases h1 : y ≤ 0
      · rw [if_pos h1]; exact .inl ⟨_, _, rfl⟩
      · rw [if_neg h1]
        refine .inr ⟨_, rfl, ?_⟩
        have h2 := Int.mul_fdiv_add_fmod x y
        have h3 := Int.fmod_nonneg_of_pos x (show 0 < y by (first | lia | omega))
        have h4 := Int.fmod_lt_of_pos x (show 0 < y by (first | lia | omega))
        rw [Int.mul_comm] at h2
        simp only [Ty.has] at hy ⊢
        (first | lia | omega)
    all_goals
      split
      · exact .inr ⟨_, rfl, by simp only [Ty.has]; (first | lia | omega)⟩
      · exact .inl ⟨_, _, rfl⟩
  case rel op => exact .inr ⟨_, rfl, b2i_truth _⟩
  case inn sp =>
    simp only [lawTwo]
    split
    · exact .inl ⟨_, _, rfl⟩
    · refine .inr ⟨_, rfl, ?_⟩
      have h3 := Int.fmod_nonneg_of_pos (y.fdiv (2 ^ x.toNat)) (show (0 : Int) < 2 by decide)
      have h4 := Int.fmod_lt_of_pos (y.fdiv (2 ^ x.toNat)) (show (0 : Int) < 2 by decide)
      simp only [Ty.has]; (first | lia | omega)
  case setrel ge =>
    have : ∀ (p : Prop) [Decidable p], Ty.truth.has (if p then 1 else 0) := fun p _ => by split <;> simp [Ty.has]
    exact .inr ⟨_, rfl, this _⟩
  case range sp =>
    simp only [lawTwo]
    split
    · exact .inl ⟨_, _, rfl⟩
    · rename_i hn
      refine .inr ⟨_, rfl, ?_⟩
      rw [← range_law (by (first | lia | omega)) (by (first | lia | omega))]
      unfold rangeMask
      split
      · simp [Ty.has]
      · have h1 := pow31 x.toNat (by (first | lia | omega))
        have e : (2 : Int) ^ (y + 1).toNat = 2 ^ y.toNat * 2 := by
          rw [show (y + 1).toNat = y.toNat + 1 by (first | lia | omega), Int.pow_succ]
        have h2 := pow31 y.toNat (by (first | lia | omega))
        have h3 : (2 : Int) ^ x.toNat ≤ 2 ^ y.toNat := by
          obtain ⟨d, hd⟩ : ∃ d, y.toNat = x.toNat + d := ⟨y.toNat - x.toNat, by (first | lia | omega)⟩
          rw [hd, Int.pow_add]
          have h4 : (0 : Int) < 2 ^ d := Int.pow_pos (by decide)
          have := Int.mul_le_mul_of_nonneg_left (show (1 : Int) ≤ 2 ^ d by (first | lia | omega)) (Int.le_of_lt h1.1)
          (first | lia | omega)
        simp only [Ty.has]; (first | lia | omega)
  case setop op =>
    have h1 := and_le (mask_M hx) (mask_M hy)
    have h2 := or_le (mask_M hx) (mask_M hy)
    have h3 := xor_le (mask_M hx) (mask_M hy)
    simp only [Ty.has] at hx hy
    cases op <;> simp only [lawTwo]
    · exact .inr ⟨_, rfl, h2⟩
    · exact .inr ⟨_, rfl, by simp only [Ty.has]; (first | lia | omega)⟩
    · exact .inr ⟨_, rfl, by simp only [Ty.has]; (first | lia | omega)⟩
    · exact .inr ⟨_, rfl, h3⟩
theorem foldPair_eq {ins : Ins} {t s u : Ty} {x y v : Int} (h : twoT ins = some (t, s, u)) (hx : t.has x) (hy : s.has y) (hf : foldPair ins x y = some v) : lawTwo ins x y = .ok v := by
  cases ins <;> simp only [twoT, Option.some.injEq, Prod.mk.injEq, reduceCtorEq] at h <;> obtain ⟨rfl, rfl, rfl⟩ := h
  case arith op sp =>
    cases op <;> simp only [foldPair, foldArith, lawTwo] at hf ⊢
    case div =>
      split at hf
      · cases hf
      · rename_i h1
        cases hf
        rw [if_neg h1]
        have h2 := Int.mul_fdiv_add_fmod x y
        rw [show x - x.fmod y = y * x.fdiv y by (first | lia | omega), Int.mul_fdiv_cancel_left _ (by (first | lia | omega))]
    case mod =>
      split at hf
      · cases hf
      · rename_i h1
        cases hf
        rw [if_neg h1]
        have h2 := Int.mul_fdiv_add_fmod x y
        rw [Int.mul_comm] at h2
        congr 1; (first | lia | omega)
    all_goals
      split at hf
      · rename_i h1
        cases hf
        simp only [fitsI, decide_eq_true_eq] at h1
        rw [if_pos (by (first | lia | omega))]
      · cases hf
  case rel op => simp only [foldPair, Option.some.injEq] at hf; rw [← hf]; rfl
  case inn sp =>
    simp only [foldPair] at hf
    split at hf
    · rename_i h1
      cases hf
      simp only [lawTwo]
      rw [if_neg (by (first | lia | omega)), and_one]
      simp only [Ty.has] at hy
      exact Int.fdiv_nonneg hy.1 (Int.le_of_lt (Int.pow_pos (by decide)))
    · cases hf
  case setrel ge =>
    simp only [foldPair, Option.some.injEq] at hf
    rw [← hf]
    cases ge
    · simp only [setRel, lawTwo, Bool.false_eq_true, if_false]
      rw [and_compl (mask_M hx) (mask_M hy)]
      congr 1
      unfold b2i
      by_cases hq : Builtin.bitAnd x y = x
      · rw [if_pos hq, hq]; simp
      · rw [if_neg hq, if_neg (by simp; (first | lia | omega))]
    · simp only [setRel, lawTwo, if_true]
      rw [and_compl (mask_M hy) (mask_M hx)]
      congr 1
      unfold b2i
      by_cases hq : Builtin.bitAnd y x = y
      · rw [if_pos hq, hq]; simp
      · rw [if_neg hq, if_neg (by simp; (first | lia | omega))]
  case range sp =>
    simp only [foldPair] at hf
    split at hf
    · rename_i h1
      cases hf
      simp only [lawTwo]
      rw [if_neg (by (first | lia | omega)), range_law h1.1 h1.2]
    · cases hf
  case setop op =>
    simp only [foldPair, Option.some.injEq] at hf
    rw [← hf]
    cases op
    · rfl
    · simp only [SOp.fold, lawTwo]; rw [and_compl (mask_M hx) (mask_M hy)]
    · rfl
    · rfl
end Mine

-- part PL4
namespace Mine
open PySem PyProof.Rows

/-- a typed state goes on, typed, or stops -/
theorem step_typed {Γ : Gm} {i : Nat} {τ : List Ty} {ins : Ins} {h : List Int} (ht : TyIns Γ i τ ins) (hh : HasT h τ) :
    (∃ o, stepI ins i h = some (.inl o)) ∨ ∃ j h' σ, stepI ins i h = some (.inr (j, h')) ∧ Γ j = some σ ∧ HasT h' σ ∧ (j = i + 1 ∨ (ins.isJump = true ∧ j = ins.tgt)) := by
  have one : ∀ {t u : Ty} {σ : List Ty}, oneT ins = some (t, u) → isOne ins = true → τ = t :: σ → Γ (i + 1) = some (u :: σ) →
      (∃ o, stepI ins i h = some (.inl o)) ∨ ∃ j h' σ, stepI ins i h = some (.inr (j, h')) ∧ Γ j = some σ ∧ HasT h' σ ∧ (j = i + 1 ∨ (ins.isJump = true ∧ j = ins.tgt)) := by
    intro t u σ h1 h2 h3 h4
    subst h3
    obtain ⟨v, r, rfl, hv, hr⟩ := hasT_cons hh
    rw [stepI_one h2]
    rcases lawOne_typed h1 hv with ⟨a, b, e⟩ | ⟨w, e, hw⟩
    · rw [e]; exact .inl ⟨_, rfl⟩
    · rw [e]; exact .inr ⟨_, _, _, rfl, h4, ⟨hw, hr⟩, .inl rfl⟩
  have two : ∀ {t s u : Ty} {σ : List Ty}, twoT ins = some (t, s, u) → isTwo ins = true → τ = s :: t :: σ → Γ (i + 1) = some (u :: σ) →
      (∃ o, stepI ins i h = some (.inl o)) ∨ ∃ j h' σ, stepI ins i h = some (.inr (j, h')) ∧ Γ j = some σ ∧ HasT h' σ ∧ (j = i + 1 ∨ (ins.isJump = true ∧ j = ins.tgt)) := by
    intro t s u σ h1 h2 h3 h4
    subst h3
    obtain ⟨y, r, rfl, hy, hr⟩ := hasT_cons hh
    obtain ⟨x, r, rfl, hx, hr⟩ := hasT_cons hr
    rw [stepI_two h2 _ _ _ _ ⟨hx.small, hy.small⟩]
    rcases lawTwo_typed h1 hx hy with ⟨a, b, e⟩ | ⟨w, e, hw⟩
    · rw [e]; exact .inl ⟨_, rfl⟩
    · rw [e]; exact .inr ⟨_, _, _, rfl, h4, ⟨hw, hr⟩, .inl rfl⟩
  cases ins
  case const v => obtain ⟨t, hv, hg⟩ := ht; exact .inr ⟨_, _, _, rfl, hg, ⟨hv, hh⟩, .inl rfl⟩
  case arith op sp => obtain ⟨σ, e, hg⟩ := ht; exact two rfl rfl e hg
  case rel op => obtain ⟨σ, e, hg⟩ := ht; exact two rfl rfl e hg
  case neg sp => obtain ⟨σ, e, hg⟩ := ht; exact one rfl rfl e hg
  case byte sp => obtain ⟨σ, e, hg⟩ := ht; exact one rfl rfl e hg
  case dup =>
    obtain ⟨t, σ, rfl, hg⟩ := ht
    obtain ⟨v, r, rfl, hv, hr⟩ := hasT_cons hh
    exact .inr ⟨_, _, _, rfl, hg, ⟨hv, hv, hr⟩, .inl rfl⟩
  case drop =>
    obtain ⟨t, σ, rfl, hg⟩ := ht
    obtain ⟨v, r, rfl, hv, hr⟩ := hasT_cons hh
    exact .inr ⟨_, _, _, rfl, hg, hr, .inl rfl⟩
  case jump t => exact .inr ⟨_, _, _, rfl, ht, hh, .inr ⟨rfl, rfl⟩⟩
  case unl t =>
    obtain ⟨σ, rfl, hg1, hg2⟩ := ht
    obtain ⟨v, r, rfl, hv, hr⟩ := hasT_cons hh
    by_cases hz : v = 0
    · refine .inr ⟨t, r, _, by simp [stepI, hz], hg2, hr, .inr ⟨rfl, rfl⟩⟩
    · refine .inr ⟨i + 1, r, _, by simp [stepI, hz], hg1, hr, .inl rfl⟩
  case whn t =>
    obtain ⟨σ, rfl, hg1, hg2⟩ := ht
    obtain ⟨v, r, rfl, hv, hr⟩ := hasT_cons hh
    by_cases hz : v = 0
    · refine .inr ⟨i + 1, r, _, by simp [stepI, hz], hg1, hr, .inl rfl⟩
    · refine .inr ⟨t, r, _, by simp [stepI, hz], hg2, hr, .inr ⟨rfl, rfl⟩⟩
  case trap a b => exact .inl ⟨_, rfl⟩
  case ret => exact .inl ⟨_, rfl⟩
  case not => obtain ⟨σ, e, hg⟩ := ht; exact one rfl rfl e hg
  case inn sp => obtain ⟨σ, e, hg⟩ := ht; exact two rfl rfl e hg
  case setrel ge => obtain ⟨σ, e, hg⟩ := ht; exact two rfl rfl e hg
  case compl => obtain ⟨σ, e, hg⟩ := ht; exact one rfl rfl e hg
  case single sp => obtain ⟨σ, e, hg⟩ := ht; exact one rfl rfl e hg
  case range sp => obtain ⟨σ, e, hg⟩ := ht; exact two rfl rfl e hg
  case setop op => obtain ⟨σ, e, hg⟩ := ht; exact two rfl rfl e hg
theorem isSome_lt {α : Type} {l : List α} {i : Nat} {o : α} (h : l[i]? = some o) : i < l.length := (List.getElem?_eq_some_iff.mp h).1
/-- a step goes on -/
theorem step_fwd {l : List (Option Ins)} (hf : FwdO l) {i : Nat} {ins : Ins} (hi : l[i]? = some (some ins)) {j : Nat} (hj : j = i + 1 ∨ (ins.isJump = true ∧ j = ins.tgt)) : i < j := by
  rcases hj with rfl | ⟨h1, rfl⟩
  · exact Nat.lt_succ_self _
  · exact (hf i ins hi h1).1
/-- typed code runs to an end -/
theorem runs {l : List (Option Ins)} {Γ : Gm} (ht : TypedO l Γ) (hf : FwdO l) : ∀ (k i : Nat) (τ : List Ty) (h : List Int), l.length - i ≤ k → Γ i = some τ → HasT h τ → ∃ o, EvO l i h o := by
  intro k
  induction k with
  | zero =>
    intro i τ h hk hg hh
    obtain ⟨o, ho, _⟩ := ht.row i τ hg
    have := isSome_lt ho
    (first | lia | omega)
  | succ k ih =>
    intro i τ h hk hg hh
    obtain ⟨o, ho, hok⟩ := ht.row i τ hg
    have hlt := isSome_lt ho
    cases o with
    | none =>
      obtain ⟨o', h'⟩ := ih (i + 1) τ h (by (first | lia | omega)) hok hh
      exact ⟨o', .skip ho h'⟩
    | some ins =>
      rcases step_typed hok hh with ⟨o', e⟩ | ⟨j, h', σ, e, hg', hh', hj⟩
      · exact ⟨o', .stop ho e⟩
      · have := step_fwd hf ho hj
        obtain ⟨o', h''⟩ := ih j σ h' (by (first | lia | omega)) hg' hh'
        exact ⟨o', .go ho e h''⟩
end Mine

-- part PL5
namespace Mine
open PySem PyProof.Rows

theorem TyIns.congr {Γ Γ' : Gm} {i : Nat} {τ : List Ty} {ins : Ins} (h : TyIns Γ i τ ins) (h1 : Γ' (i + 1) = Γ (i + 1)) (h2 : ins.isJump = true → Γ' ins.tgt = Γ ins.tgt) : TyIns Γ' i τ ins := by
  cases ins <;> simp only [TyIns, h1] at h ⊢ <;> first | exact h | (have h3 := h2 rfl; simp only [Ins.tgt] at h3; rw [h3]; exact h)
theorem skips {l : List (Option Ins)} {h : List Int} {o : Out} : ∀ (d n : Nat), (∀ i, n ≤ i → i < n + d → l[i]? = some none) → EvO l (n + d) h o → EvO l n h o
  | 0, _, _, e => e
  | d + 1, n, hn, e => .skip (hn n (Nat.le_refl _) (by (first | lia | omega))) (skips d (n + 1) (fun i h1 h2 => hn i (by (first | lia | omega)) (by (first | lia | omega))) (by rw [show n + 1 + d = n + (d + 1) by (first | lia | omega)]; exact e))
noncomputable def innG (Γ : Gm) (n k : Nat) : Gm := fun i => if n < i ∧ i < n + k then Γ n else Γ i
theorem rw_ok {l l' : List (Option Ins)} {Γ : Gm} {n k : Nat} {X : Option Ins} (ht : TypedO l Γ) (hf : FwdO l) (hlen : l'.length = l.length) (hk : 1 ≤ k) (hnk : n + k ≤ l.length)
    (hout : ∀ i, (i < n ∨ n + k ≤ i) → l'[i]? = l[i]?) (hin : ∀ i, n ≤ i → i + 1 < n + k → l'[i]? = some none) (hX : l'[n + k - 1]? = some X)
    (hjump : ∀ (i : Nat) ins, l[i]? = some (some ins) → ins.isJump = true → ¬ (n < ins.tgt ∧ ins.tgt < n + k))
    (hXj : ∀ ins, X = some ins → ins.isJump = true → n + k ≤ ins.tgt ∧ ins.tgt < l.length)
    (hXt : ∀ τ, Γ n = some τ → OkRow Γ (n + k - 1) τ X)
    (hXe : ∀ τ h o, Γ n = some τ → HasT h τ → EvO l n h o → match X with
      | none => EvO l (n + k) h o
      | some ins => (stepI ins (n + k - 1) h = some (.inl o)) ∨ ∃ j h', stepI ins (n + k - 1) h = some (.inr (j, h')) ∧ EvO l j h' o) :
    TypedO l' (innG Γ n k) ∧ FwdO l' ∧ ∀ d i τ h o, l.length - i ≤ d → ¬(n < i ∧ i < n + k) → Γ i = some τ → HasT h τ → EvO l i h o → EvO l' i h o := by
  have e1 : n + k - 1 + 1 = n + k := by (first | lia | omega)
  have out : ∀ i, ¬(n < i ∧ i < n + k) → innG Γ n k i = Γ i := fun i hi => if_neg hi
  have inn : ∀ i, n < i → i < n + k → innG Γ n k i = Γ n := fun i h1 h2 => if_pos ⟨h1, h2⟩
  have hXt' : ∀ τ, Γ n = some τ → OkRow (innG Γ n k) (n + k - 1) τ X := by
    intro τ hτ
    have := hXt τ hτ
    cases X with
    | none =>
      show innG Γ n k (n + k - 1 + 1) = some τ
      rw [out _ (by (first | lia | omega))]; exact this
    | some ins => exact TyIns.congr this (out _ (by omega)) fun hj => out _ (by have := (hXj ins rfl hj).1; omega)
  refine ⟨⟨?_, fun i τ hi => ?_⟩, fun i ins hi hj => ?_, ?_⟩
  · rw [out 0 (by (first | lia | omega))]; exact ht.zero
  · -- typing of rows
    by_cases hi1 : i < n ∨ n + k ≤ i
    · rw [out i (by (first | lia | omega))] at hi
      obtain ⟨o, ho, hok⟩ := ht.row i τ hi
      refine ⟨o, (hout i hi1).trans ho, ?_⟩
      cases o with
      | none =>
        show innG Γ n k (i + 1) = some τ
        rw [out _ (by (first | lia | omega))]; exact hok
      | some ins => exact TyIns.congr hok (out _ (by (first | lia | omega))) fun hj => out _ (hjump i ins ho hj)
    · have hτ : Γ n = some τ := by
        by_cases hin' : i = n
        · subst hin'; rw [out i (by (first | lia | omega))] at hi; exact hi
        · rw [inn i (by (first | lia | omega)) (by (first | lia | omega))] at hi; exact hi
      by_cases hl : i + 1 < n + k
      · refine ⟨none, hin i (by (first | lia | omega)) hl, ?_⟩
        show innG Γ n k (i + 1) = some τ
        rw [inn _ (by (first | lia | omega)) hl]; exact hτ
      · have : i = n + k - 1 := by (first | lia | omega)
        subst this
        exact ⟨X, hX, hXt' τ hτ⟩
  · -- forward
    rw [hlen]
    by_cases hi1 : i < n ∨ n + k ≤ i
    · rw [hout i hi1] at hi; exact hf i ins hi hj
    · by_cases hl : i + 1 < n + k
      · rw [hin i (by (first | lia | omega)) hl] at hi; cases hi
      · have : i = n + k - 1 := by (first | lia | omega)
        subst this
        rw [hX] at hi; cases hi
        have := hXj ins rfl hj
        (first | lia | omega)
  · intro d
    induction d with
    | zero =>
      intro i τ h o hd hi hg hh he
      obtain ⟨o', ho, _⟩ := ht.row i τ hg
      have := isSome_lt ho
      (first | lia | omega)
    | succ d ih =>
      intro i τ h o hd hi hg hh he
      obtain ⟨ro, hro, hok⟩ := ht.row i τ hg
      have hlt := isSome_lt hro
      by_cases hn : i = n
      · subst hn
        have hx := hXe τ h o hg hh he
        have htx := hXt τ hg
        have fin : EvO l' (i + k - 1) h o := by
          cases X with
          | none =>
            refine .skip hX ?_
            rw [e1]
            have hg2 : Γ (i + k) = some τ := by have : Γ (i + k - 1 + 1) = some τ := htx; rw [e1] at this; exact this
            exact ih (i + k) τ h o (by (first | lia | omega)) (by (first | lia | omega)) hg2 hh hx
          | some ins =>
            rcases hx with hx | ⟨j, h', hx, he'⟩
            · exact .stop hX hx
            · rcases step_typed htx hh with ⟨o', e⟩ | ⟨j2, h2, σ, e, hg', hh', hj⟩
              · rw [e] at hx; cases hx
              · rw [e] at hx
                simp only [Option.some.injEq, Sum.inr.injEq, Prod.mk.injEq] at hx
                obtain ⟨rfl, rfl⟩ := hx
                have hj2 : i + k ≤ j2 := by
                  rcases hj with rfl | ⟨a, rfl⟩
                  · (first | lia | omega)
                  · exact (hXj ins rfl a).1
                exact .go hX e (ih j2 σ h2 o (by (first | lia | omega)) (by (first | lia | omega)) hg' hh' he')
        refine skips (k - 1) i (fun q h1 h2 => hin q h1 (by (first | lia | omega))) ?_
        rw [show i + (k - 1) = i + k - 1 by (first | lia | omega)]; exact fin
      · have hi1 : i < n ∨ n + k ≤ i := by (first | lia | omega)
        have hrl : l'[i]? = l[i]? := hout i hi1
        cases he with
        | skip a b =>
          rw [a] at hro; cases hro
          exact .skip (hrl.trans a) (ih (i + 1) τ h o (by (first | lia | omega)) (by (first | lia | omega)) hok hh b)
        | stop a b => exact .stop (hrl.trans a) b
        | go a b c =>
          rw [a] at hro; cases hro
          rcases step_typed hok hh with ⟨o', e⟩ | ⟨j2, h2, σ, e, hg', hh', hj⟩
          · rw [e] at b; cases b
          · rw [e] at b
            simp only [Option.some.injEq, Sum.inr.injEq, Prod.mk.injEq] at b
            obtain ⟨rfl, rfl⟩ := b
            have hlt2 := step_fwd hf a hj
            refine .go (hrl.trans a) e (ih j2 σ h2 o (by (first | lia | omega)) ?_ hg' hh' c)
            rcases hj with rfl | ⟨x, rfl⟩
            · (first | lia | omega)
            · exact hjump i _ a x
end Mine

-- part PL6
namespace Mine
open PySem PyProof.Rows

theorem place_none {l : List (Option Ins)} {i : Nat} (h : l[i]? = some none) : place l (i + 1) = place l i := by
  unfold place; rw [take_snoc h, cnt_snoc_none]
theorem place_some {l : List (Option Ins)} {i : Nat} {ins : Ins} (h : l[i]? = some (some ins)) : place l (i + 1) = place l i + 1 := by
  unfold place; rw [take_snoc h, cnt_snoc_some]
theorem place_succ (l : List (Option Ins)) (i : Nat) : place l i ≤ place l (i + 1) := by
  cases h : l[i]? with
  | none =>
    have : l.length ≤ i := List.getElem?_eq_none_iff.mp h
    unfold place
    rw [List.take_of_length_le this, List.take_of_length_le (by (first | lia | omega))]
    exact Nat.le_refl _
  | some o =>
    cases o with
    | none => rw [place_none h]; exact Nat.le_refl _
    | some ins => rw [place_some h]; (first | lia | omega)
theorem place_mono (l : List (Option Ins)) {i j : Nat} (h : i ≤ j) : place l i ≤ place l j := by
  obtain ⟨d, rfl⟩ : ∃ d, j = i + d := ⟨j - i, by (first | lia | omega)⟩
  induction d with
  | zero => exact Nat.le_refl _
  | succ d ih => exact Nat.le_trans (ih (by (first | lia | omega))) (place_succ l (i + d))
theorem place_inj {l : List (Option Ins)} {i j : Nat} {a b : Ins} (hi : l[i]? = some (some a)) (hj : l[j]? = some (some b)) (h : place l i = place l j) : i = j := by
  rcases Nat.lt_trichotomy i j with hlt | rfl | hlt
  · have h1 := place_mono l (show i + 1 ≤ j from hlt)
    rw [place_some hi] at h1; (first | lia | omega)
  · rfl
  · have h1 := place_mono l (show j + 1 ≤ i from hlt)
    rw [place_some hj] at h1; (first | lia | omega)
theorem fm_get (f : Ins → Ins) : ∀ (l : List (Option Ins)) (i : Nat) (ins : Ins), l[i]? = some (some ins) → (l.filterMap fun o => o.map f)[cnt (l.take i)]? = some (f ins)
  | [], i, ins, h => by simp at h
  | o :: l, 0, ins, h => by simp at h; subst h; simp [cnt]
  | none :: l, i + 1, ins, h => by
    have ih := fm_get f l i ins (by simpa using h)
    simpa [cnt] using ih
  | some a :: l, i + 1, ins, h => by
    have ih := fm_get f l i ins (by simpa using h)
    simpa [cnt] using ih
theorem compact_get {l : List (Option Ins)} {i : Nat} {ins : Ins} (h : l[i]? = some (some ins)) : (compactF l)[place l i]? = some (ins.retarget (place l)) := fm_get _ l i ins h
theorem fm_of (f : Ins → Ins) : ∀ (l : List (Option Ins)) (j : Nat) (x : Ins), (l.filterMap fun o => o.map f)[j]? = some x → ∃ i ins, l[i]? = some (some ins) ∧ cnt (l.take i) = j ∧ x = f ins
  | [], j, x, h => by simp at h
  | none :: l, j, x, h => by
    obtain ⟨i, ins, h1, h2, h3⟩ := fm_of f l j x (by simpa using h)
    exact ⟨i + 1, ins, by simpa using h1, by simpa [cnt] using h2, h3⟩
  | some a :: l, 0, x, h => by simp at h; exact ⟨0, a, by simp, by simp [cnt], h.symm⟩
  | some a :: l, j + 1, x, h => by
    obtain ⟨i, ins, h1, h2, h3⟩ := fm_of f l j x (by simpa using h)
    exact ⟨i + 1, ins, by simpa using h1, by simp [cnt] at h2 ⊢; exact h2, h3⟩
theorem compact_of {l : List (Option Ins)} {j : Nat} {x : Ins} (h : (compactF l)[j]? = some x) : ∃ i ins, l[i]? = some (some ins) ∧ place l i = j ∧ x = ins.retarget (place l) := fm_of _ l j x h
theorem skip_to {l : List (Option Ins)} {Γ : Gm} (ht : TypedO l Γ) : ∀ (d i : Nat) (τ : List Ty), l.length - i ≤ d → Γ i = some τ → ∃ i' ins, i ≤ i' ∧ l[i']? = some (some ins) ∧ Γ i' = some τ ∧ place l i' = place l i := by
  intro d
  induction d with
  | zero =>
    intro i τ hd hg
    obtain ⟨o, ho, _⟩ := ht.row i τ hg
    have := isSome_lt ho
    (first | lia | omega)
  | succ d ih =>
    intro i τ hd hg
    obtain ⟨o, ho, hok⟩ := ht.row i τ hg
    have := isSome_lt ho
    cases o with
    | some ins => exact ⟨i, ins, Nat.le_refl _, ho, hg, rfl⟩
    | none =>
      obtain ⟨i', ins, h1, h2, h3, h4⟩ := ih (i + 1) τ (by (first | lia | omega)) hok
      exact ⟨i', ins, by (first | lia | omega), h2, h3, h4.trans (place_none ho)⟩
open Classical in
noncomputable def comG (l : List (Option Ins)) (Γ : Gm) : Gm := fun j => if h : ∃ i ins, l[i]? = some (some ins) ∧ place l i = j then Γ h.choose else none
theorem comG_at {l : List (Option Ins)} {Γ : Gm} {i : Nat} {ins : Ins} (h : l[i]? = some (some ins)) : comG l Γ (place l i) = Γ i := by
  have hx : ∃ k a, l[k]? = some (some a) ∧ place l k = place l i := ⟨i, ins, h, rfl⟩
  unfold comG
  rw [dif_pos hx]
  obtain ⟨a, h1, h2⟩ := hx.choose_spec
  rw [place_inj h1 h h2]
theorem comG_of {l : List (Option Ins)} {Γ : Gm} {j : Nat} {τ : List Ty} (h : comG l Γ j = some τ) : ∃ i ins, l[i]? = some (some ins) ∧ place l i = j ∧ Γ i = some τ := by
  unfold comG at h
  split at h
  · rename_i hx
    obtain ⟨a, h1, h2⟩ := hx.choose_spec
    exact ⟨_, a, h1, h2, h⟩
  · cases h
theorem comG_to {l : List (Option Ins)} {Γ : Gm} (ht : TypedO l Γ) {i : Nat} {τ : List Ty} (hg : Γ i = some τ) : comG l Γ (place l i) = some τ := by
  obtain ⟨i', ins, _, h2, h3, h4⟩ := skip_to ht _ i τ (Nat.le_refl _) hg
  rw [← h4, comG_at h2, h3]
end Mine

-- part PL7
namespace Mine
open PySem PyProof.Rows

theorem step_ret {ins : Ins} {f : Nat → Nat} {i s : Nat} {h : List Int} (hs : f (i + 1) = s + 1) :
    (∀ o, stepI ins i h = some (.inl o) → stepI (ins.retarget f) s h = some (.inl o)) ∧ ∀ j h', stepI ins i h = some (.inr (j, h')) → stepI (ins.retarget f) s h = some (.inr (f j, h')) := by
  have res : ∀ (r : List Int) (e : Except (Int × Int) Int), (∀ o, some (resOf i r e) = some (.inl o) → some (resOf s r e) = some (.inl o)) ∧ ∀ j h', some (resOf i r e) = some (.inr (j, h')) → some (resOf s r e) = some (.inr (f j, h')) := by
    intro r e
    cases e with
    | error ab => exact ⟨fun o x => x, fun j h' x => by simp [resOf] at x⟩
    | ok v =>
      refine ⟨fun o x => by simp [resOf] at x, fun j h' x => ?_⟩
      simp only [resOf, Option.some.injEq, Sum.inr.injEq, Prod.mk.injEq] at x ⊢
      exact ⟨by rw [← x.1, hs], x.2⟩
  cases ins
  case const v => exact ⟨fun o x => (by cases x), fun j h' x => by simp only [stepI, Option.some.injEq, Sum.inr.injEq, Prod.mk.injEq, Ins.retarget] at x ⊢; exact ⟨by rw [← x.1, hs], x.2⟩⟩
  case dup =>
    cases h with
    | nil => exact ⟨fun o x => (by cases x), fun j h' x => by cases x⟩
    | cons v r => exact ⟨fun o x => (by cases x), fun j h' x => by simp only [stepI, Option.some.injEq, Sum.inr.injEq, Prod.mk.injEq, Ins.retarget] at x ⊢; exact ⟨by rw [← x.1, hs], x.2⟩⟩
  case drop =>
    cases h with
    | nil => exact ⟨fun o x => (by cases x), fun j h' x => by cases x⟩
    | cons v r => exact ⟨fun o x => (by cases x), fun j h' x => by simp only [stepI, Option.some.injEq, Sum.inr.injEq, Prod.mk.injEq, Ins.retarget] at x ⊢; exact ⟨by rw [← x.1, hs], x.2⟩⟩
  case ret => exact ⟨fun o x => x, fun j h' x => by cases x⟩
  case trap a b => exact ⟨fun o x => x, fun j h' x => by cases x⟩
  case jump t => exact ⟨fun o x => (by cases x), fun j h' x => by simp only [stepI, Option.some.injEq, Sum.inr.injEq, Prod.mk.injEq, Ins.retarget] at x ⊢; exact ⟨by rw [← x.1], x.2⟩⟩
  case unl t =>
    cases h with
    | nil => exact ⟨fun o x => (by cases x), fun j h' x => by cases x⟩
    | cons v r =>
      refine ⟨fun o x => (by cases x), fun j h' x => ?_⟩
      simp only [stepI, Option.some.injEq, Sum.inr.injEq, Prod.mk.injEq, Ins.retarget] at x ⊢
      refine ⟨?_, x.2⟩
      rw [← x.1]; split <;> simp [hs]
  case whn t =>
    cases h with
    | nil => exact ⟨fun o x => (by cases x), fun j h' x => by cases x⟩
    | cons v r =>
      refine ⟨fun o x => (by cases x), fun j h' x => ?_⟩
      simp only [stepI, Option.some.injEq, Sum.inr.injEq, Prod.mk.injEq, Ins.retarget] at x ⊢
      refine ⟨?_, x.2⟩
      rw [← x.1]; split <;> simp [hs]
  case neg sp => cases h with | nil => exact ⟨fun o x => (by cases x), fun j h' x => by cases x⟩ | cons v r => exact res r (lawOne (.neg sp) v)
  case byte sp => cases h with | nil => exact ⟨fun o x => (by cases x), fun j h' x => by cases x⟩ | cons v r => exact res r (lawOne (.byte sp) v)
  case not => cases h with | nil => exact ⟨fun o x => (by cases x), fun j h' x => by cases x⟩ | cons v r => exact res r (lawOne .not v)
  case compl => cases h with | nil => exact ⟨fun o x => (by cases x), fun j h' x => by cases x⟩ | cons v r => exact res r (lawOne .compl v)
  case single sp => cases h with | nil => exact ⟨fun o x => (by cases x), fun j h' x => by cases x⟩ | cons v r => exact res r (lawOne (.single sp) v)
  all_goals
    match h with
    | [] => exact ⟨fun o x => (by cases x), fun j h' x => by cases x⟩
    | [_] => exact ⟨fun o x => (by cases x), fun j h' x => by cases x⟩
    | y :: x :: r =>
      by_cases hsm : Small x ∧ Small y
      · rw [retarget_of_not _ rfl, stepI_two rfl _ _ _ _ hsm, stepI_two rfl _ _ _ _ hsm]
        exact res r _
      · rw [retarget_of_not _ rfl]; simp [stepI, isOne, hsm]

/-- compaction keeps what code does -/
theorem compact_ev {l : List (Option Ins)} {i : Nat} {h : List Int} {o : Out} (e : EvO l i h o) : EvO ((compactF l).map some) (place l i) h o := by
  induction e with
  | skip a _ ih => rw [← place_none a]; exact ih
  | @stop i h o ins a b => exact .stop (by rw [List.getElem?_map, compact_get a]; rfl) ((step_ret (place_some a)).1 o b)
  | @go i h o ins j h' a b _ ih => exact .go (by rw [List.getElem?_map, compact_get a]; rfl) ((step_ret (place_some a)).2 j h' b) ih
theorem compact_len (l : List (Option Ins)) : (compactF l).length = place l l.length := by
  unfold compactF compactW place cnt
  rw [List.take_length]
  generalize (fun t => ((l.take t).filter Option.isSome).length) = f
  induction l with
  | nil => rfl
  | cons o l ih => cases o <;> simpa using ih
theorem retarget_jump (f : Nat → Nat) (ins : Ins) : (ins.retarget f).isJump = ins.isJump := by cases ins <;> rfl
theorem retarget_tgt (f : Nat → Nat) {ins : Ins} (h : ins.isJump = true) : (ins.retarget f).tgt = f ins.tgt := by cases ins <;> first | rfl | cases h
theorem compact_fwd {l : List (Option Ins)} (hf : FwdO l) (hs : ∀ (i : Nat) ins, l[i]? = some (some ins) → ins.isJump = true → ∃ k a, ins.tgt ≤ k ∧ l[k]? = some (some a)) : FwdO ((compactF l).map some) := by
  intro j x hx hj
  rw [List.getElem?_map, Option.map_eq_some_iff] at hx
  obtain ⟨x', hx, hxe⟩ := hx
  cases hxe
  obtain ⟨i, ins, hi, rfl, rfl⟩ := compact_of hx
  rw [retarget_jump] at hj
  rw [retarget_tgt _ hj, List.length_map, compact_len]
  obtain ⟨k, a, hk, hka⟩ := hs i ins hi hj
  have h1 := (hf i ins hi hj).1
  have h2 := place_mono l (show i + 1 ≤ ins.tgt from h1)
  rw [place_some hi] at h2
  have h3 := place_mono l hk
  have h4 := place_mono l (show k + 1 ≤ l.length from isSome_lt hka)
  rw [place_some hka] at h4
  (first | lia | omega)
end Mine

-- part PL8
namespace Mine
open PySem PyProof.Rows

theorem tyIns_ret {Γ Γ' : Gm} {f : Nat → Nat} {i s : Nat} {τ : List Ty} {ins : Ins} (h : TyIns Γ i τ ins) (h1 : ∀ σ, Γ (i + 1) = some σ → Γ' (s + 1) = some σ) (h2 : ∀ σ, Γ ins.tgt = some σ → Γ' (f ins.tgt) = some σ) : TyIns Γ' s τ (ins.retarget f) := by
  cases ins <;> simp only [TyIns, Ins.retarget, Ins.tgt] at h h2 ⊢
  case const => obtain ⟨t, a, b⟩ := h; exact ⟨t, a, h1 _ b⟩
  case dup => obtain ⟨t, σ, a, b⟩ := h; exact ⟨t, σ, a, h1 _ b⟩
  case drop => obtain ⟨t, σ, a, b⟩ := h; exact ⟨t, σ, a, h1 _ b⟩
  case jump => exact h2 _ h
  case unl => obtain ⟨σ, a, b, c⟩ := h; exact ⟨σ, a, h1 _ b, h2 _ c⟩
  case whn => obtain ⟨σ, a, b, c⟩ := h; exact ⟨σ, a, h1 _ b, h2 _ c⟩
  case ret => exact h
  all_goals (obtain ⟨σ, a, b⟩ := h; exact ⟨σ, a, h1 _ b⟩)
theorem compact_typed {l : List (Option Ins)} {Γ : Gm} (ht : TypedO l Γ) : TypedO ((compactF l).map some) (comG l Γ) := by
  refine ⟨?_, fun j τ hj => ?_⟩
  · have := comG_to ht ht.zero
    simpa [place, cnt] using this
  · obtain ⟨i, ins, hi, rfl, hg⟩ := comG_of hj
    refine ⟨some (ins.retarget (place l)), by rw [List.getElem?_map, compact_get hi]; rfl, ?_⟩
    obtain ⟨o, ho, hok⟩ := ht.row i τ hg
    rw [hi] at ho; cases ho
    refine tyIns_ret hok (fun σ hσ => ?_) fun σ hσ => comG_to ht hσ
    rw [← place_some hi]; exact comG_to ht hσ
end Mine

-- part PL9
namespace Mine
open PySem PyProof.Rows

theorem tyIns_one {Γ : Gm} {i : Nat} {τ : List Ty} {ins : Ins} {t u : Ty} (h : TyIns Γ i τ ins) (h1 : oneT ins = some (t, u)) : ∃ σ, τ = t :: σ ∧ Γ (i + 1) = some (u :: σ) := by
  cases ins <;> simp only [oneT, Option.some.injEq, Prod.mk.injEq, reduceCtorEq] at h1 <;> obtain ⟨rfl, rfl⟩ := h1 <;> exact h
theorem tyIns_two {Γ : Gm} {i : Nat} {τ : List Ty} {ins : Ins} {t s u : Ty} (h : TyIns Γ i τ ins) (h1 : twoT ins = some (t, s, u)) : ∃ σ, τ = s :: t :: σ ∧ Γ (i + 1) = some (u :: σ) := by
  cases ins <;> simp only [twoT, Option.some.injEq, Prod.mk.injEq, reduceCtorEq] at h1 <;> obtain ⟨rfl, rfl, rfl⟩ := h1 <;> exact h
theorem isOne_of {ins : Ins} {t u : Ty} (h : oneT ins = some (t, u)) : isOne ins = true := by cases ins <;> first | rfl | cases h
theorem isTwo_of {ins : Ins} {t s u : Ty} (h : twoT ins = some (t, s, u)) : isTwo ins = true := by cases ins <;> first | rfl | cases h
theorem ev_inv {l : List (Option Ins)} {i : Nat} {h : List Int} {o : Out} {ins : Ins} (hi : l[i]? = some (some ins)) (e : EvO l i h o) : stepI ins i h = some (.inl o) ∨ ∃ j h', stepI ins i h = some (.inr (j, h')) ∧ EvO l j h' o := by
  cases e with
  | skip a _ => rw [a] at hi; cases hi
  | stop a b => rw [a] at hi; cases hi; exact .inl b
  | go a b c => rw [a] at hi; cases hi; exact .inr ⟨_, _, b, c⟩
noncomputable def FInv (c : List Ins) (l : List (Option Ins)) : Prop := ∃ Γ, TypedO l Γ ∧ FwdO l ∧ l.length = c.length ∧ (∀ (i : Nat) ins, l[i]? = some (some ins) → ins.isJump = true → ledTo c ins.tgt = true) ∧ ∀ o, EvO (c.map some) 0 [] o → EvO l 0 [] o
end Mine

-- part PL10
namespace Mine
open PySem PyProof.Rows

theorem idx_out {α : Type} {P A B T : List α} (hAB : A.length = B.length) {i : Nat} (h : i < P.length ∨ P.length + A.length ≤ i) : (P ++ (B ++ T))[i]? = (P ++ (A ++ T))[i]? := by
  rcases h with h | h
  · rw [List.getElem?_append_left h, List.getElem?_append_left h]
  · rw [List.getElem?_append_right (by (first | lia | omega)), List.getElem?_append_right (by (first | lia | omega)), List.getElem?_append_right (by (first | lia | omega)), List.getElem?_append_right (by (first | lia | omega)), hAB]
noncomputable def Fold2 (x : Int) (b : Ins) (X : Option Ins) : Prop := (b = .drop ∧ X = none) ∨ (∃ t, (b = .unl t ∨ b = .whn t) ∧ X = (testMade b x).map Ins.jump) ∨ ∃ v, foldSingle b x = some v ∧ X = some (.const v)
theorem fold2 {c : List Ins} {P T : List (Option Ins)} {x : Int} {b : Ins} {X : Option Ins} (hI : FInv c (P ++ ([some (.const x), some b] ++ T))) (hled : ledTo c (P.length + 1) = false) (hX : Fold2 x b X) :
    FInv c (P ++ ([none, X] ++ T)) := by
  obtain ⟨Γ, ht, hf, hlen, hj, he⟩ := hI
  have g0 : (P ++ ([some (.const x), some b] ++ T))[P.length]? = some (some (.const x)) := by simp
  have g1 : (P ++ ([some (.const x), some b] ++ T))[P.length + 1]? = some (some b) := by simp
  have hjump : ∀ (i : Nat) ins, (P ++ ([some (.const x), some b] ++ T))[i]? = some (some ins) → ins.isJump = true → ¬ (P.length < ins.tgt ∧ ins.tgt < P.length + 2) := fun i ins hi hij hh => by
    have := hj i ins hi hij
    rw [show ins.tgt = P.length + 1 by (first | lia | omega), hled] at this; cases this
  -- the typed row behind
  have row : ∀ τ, Γ P.length = some τ → ∃ t : Ty, t.has x ∧ TyIns Γ (P.length + 1) (t :: τ) b := by
    intro τ hτ
    obtain ⟨o, ho, hok⟩ := ht.row _ _ hτ
    rw [g0] at ho; cases ho
    obtain ⟨t, hx, hg⟩ := hok
    obtain ⟨o, ho, hok⟩ := ht.row _ _ hg
    rw [g1] at ho; cases ho
    exact ⟨t, hx, hok⟩
  have run : ∀ h o, EvO (P ++ ([some (.const x), some b] ++ T)) P.length h o → stepI b (P.length + 1) (x :: h) = some (.inl o) ∨ ∃ j h', stepI b (P.length + 1) (x :: h) = some (.inr (j, h')) ∧ EvO (P ++ ([some (.const x), some b] ++ T)) j h' o := by
    intro h o e
    rcases ev_inv g0 e with e | ⟨j, h', e, e2⟩
    · cases e
    · simp only [stepI, Option.some.injEq, Sum.inr.injEq, Prod.mk.injEq] at e
      obtain ⟨rfl, rfl⟩ := e
      exact ev_inv g1 e2
  have hXj : ∀ ins, X = some ins → ins.isJump = true → (b = .unl ins.tgt ∨ b = .whn ins.tgt) := by
    intro ins hins hij
    rcases hX with ⟨_, rfl⟩ | ⟨t, hb, rfl⟩ | ⟨v, _, rfl⟩
    · cases hins
    · rcases hb with rfl | rfl
      · simp only [testMade] at hins
        split at hins
        · cases hins; exact .inl rfl
        · cases hins
      · simp only [testMade] at hins
        split at hins
        · cases hins
        · cases hins; exact .inr rfl
    · cases hins; cases hij
  have hbj : ∀ ins, X = some ins → ins.isJump = true → b.isJump = true ∧ b.tgt = ins.tgt := fun ins h1 h2 => by
    rcases hXj ins h1 h2 with h | h <;> rw [h] <;> exact ⟨rfl, rfl⟩
  have main := rw_ok (l := P ++ ([some (.const x), some b] ++ T)) (l' := P ++ ([none, X] ++ T)) (Γ := Γ) (n := P.length) (k := 2) (X := X) ht hf (by simp) (by decide) (by simp)
    (fun i hi => idx_out (A := [some (.const x), some b]) (B := [none, X]) (T := T) rfl hi) (fun i h1 h2 => by rw [show i = P.length by (first | lia | omega)]; simp) (by simp) hjump
    (fun ins h1 h2 => by
      obtain ⟨hb1, hb2⟩ := hbj ins h1 h2
      have := hf _ b g1 hb1
      have := hjump _ b g1 hb1
      (first | lia | omega)) ?_ ?_
  · obtain ⟨m1, m2, m3⟩ := main
    refine ⟨_, m1, m2, by simpa using hlen, fun i ins hi hij => ?_, fun o ho => m3 _ 0 [] [] o (Nat.le_refl _) (by (first | lia | omega)) ht.zero trivial (he o ho)⟩
    by_cases hi1 : i < P.length ∨ P.length + 2 ≤ i
    · rw [idx_out (P := P) (A := [some (.const x), some b]) (B := [none, X]) (T := T) rfl hi1] at hi
      exact hj i ins hi hij
    · by_cases h0 : i = P.length
      · subst h0; simp at hi
      · have : i = P.length + 1 := by (first | lia | omega)
        subst this
        simp at hi
        obtain ⟨hb1, hb2⟩ := hbj ins hi hij
        rw [← hb2]; exact hj _ b g1 hb1
  · intro τ hτ
    obtain ⟨t, hx, hok⟩ := row τ hτ
    rcases hX with ⟨rfl, rfl⟩ | ⟨t2, hb, rfl⟩ | ⟨v, hv, rfl⟩
    · obtain ⟨t', σ, e, hg⟩ := hok
      cases e; exact hg
    · rcases hb with rfl | rfl <;> obtain ⟨σ, e, hg1, hg2⟩ := hok <;> cases e <;> simp only [testMade] <;> split <;> first | exact hg1 | exact hg2
    · obtain ⟨t1, u, h1⟩ := oneT_of_fold hv
      obtain ⟨σ, e, hg⟩ := tyIns_one hok h1
      cases e
      have hl := foldSingle_eq h1 hx hv
      rcases lawOne_typed h1 hx with ⟨a, b', e⟩ | ⟨w, e, hw⟩
      · rw [hl] at e; cases e
      · rw [hl] at e; cases e
        exact ⟨u, hw, hg⟩
  · intro τ h o hτ hh e
    obtain ⟨t, hx, hok⟩ := row τ hτ
    have hr := run h o e
    rcases hX with ⟨rfl, rfl⟩ | ⟨t2, hb, rfl⟩ | ⟨v, hv, rfl⟩
    · rcases hr with hr | ⟨j, h', hr, e2⟩
      · cases hr
      · simp only [stepI, Option.some.injEq, Sum.inr.injEq, Prod.mk.injEq] at hr
        obtain ⟨rfl, rfl⟩ := hr
        exact e2
    · rcases hb with rfl | rfl
      · rcases hr with hr | ⟨j, h', hr, e2⟩
        · cases hr
        · simp only [stepI, Option.some.injEq, Sum.inr.injEq, Prod.mk.injEq] at hr
          obtain ⟨rfl, rfl⟩ := hr
          by_cases hz : x = 0
          · rw [if_pos hz] at e2
            simp only [testMade, if_pos hz]
            exact .inr ⟨_, _, rfl, e2⟩
          · rw [if_neg hz] at e2
            simp only [testMade, if_neg hz]
            exact e2
      · rcases hr with hr | ⟨j, h', hr, e2⟩
        · cases hr
        · simp only [stepI, Option.some.injEq, Sum.inr.injEq, Prod.mk.injEq] at hr
          obtain ⟨rfl, rfl⟩ := hr
          by_cases hz : x = 0
          · rw [if_pos hz] at e2
            simp only [testMade, if_pos hz]
            exact e2
          · rw [if_neg hz] at e2
            simp only [testMade, if_neg hz]
            exact .inr ⟨_, _, rfl, e2⟩
    · obtain ⟨t1, u, h1⟩ := oneT_of_fold hv
      obtain ⟨σ, e', hg⟩ := tyIns_one hok h1
      cases e'
      have hl := foldSingle_eq h1 hx hv
      rw [stepI_one (isOne_of h1), hl] at hr
      rcases hr with hr | ⟨j, h', hr, e2⟩
      · cases hr
      · simp only [resOf, Option.some.injEq, Sum.inr.injEq, Prod.mk.injEq] at hr
        obtain ⟨rfl, rfl⟩ := hr
        exact .inr ⟨_, _, rfl, e2⟩
end Mine

-- part PL11
namespace Mine
open PySem PyProof.Rows

theorem fold3 {c : List Ins} {P T : List (Option Ins)} {x y v : Int} {b : Ins} (hI : FInv c (P ++ ([some (.const x), some (.const y), some b] ++ T))) (hled1 : ledTo c (P.length + 1) = false) (hled2 : ledTo c (P.length + 2) = false) (hv : foldPair b x y = some v) :
    FInv c (P ++ ([none, none, some (.const v)] ++ T)) := by
  obtain ⟨Γ, ht, hf, hlen, hj, he⟩ := hI
  have g0 : (P ++ ([some (.const x), some (.const y), some b] ++ T))[P.length]? = some (some (.const x)) := by simp
  have g1 : (P ++ ([some (.const x), some (.const y), some b] ++ T))[P.length + 1]? = some (some (.const y)) := by simp
  have g2 : (P ++ ([some (.const x), some (.const y), some b] ++ T))[P.length + 2]? = some (some b) := by simp
  have hjump : ∀ (i : Nat) ins, (P ++ ([some (.const x), some (.const y), some b] ++ T))[i]? = some (some ins) → ins.isJump = true → ¬ (P.length < ins.tgt ∧ ins.tgt < P.length + 3) := fun i ins hi hij hh => by
    have h1 := hj i ins hi hij
    by_cases h : ins.tgt = P.length + 1
    · rw [h, hled1] at h1; cases h1
    · rw [show ins.tgt = P.length + 2 by (first | lia | omega), hled2] at h1; cases h1
  have row : ∀ τ, Γ P.length = some τ → ∃ t s : Ty, t.has x ∧ s.has y ∧ TyIns Γ (P.length + 2) (s :: t :: τ) b := by
    intro τ hτ
    obtain ⟨o, ho, hok⟩ := ht.row _ _ hτ
    rw [g0] at ho; cases ho
    obtain ⟨t, hx, hg⟩ := hok
    obtain ⟨o, ho, hok⟩ := ht.row _ _ hg
    rw [g1] at ho; cases ho
    obtain ⟨s, hy, hg⟩ := hok
    obtain ⟨o, ho, hok⟩ := ht.row _ _ hg
    rw [show P.length + 1 + 1 = P.length + 2 from rfl, g2] at ho; cases ho
    exact ⟨t, s, hx, hy, hok⟩
  have run : ∀ h o, EvO (P ++ ([some (.const x), some (.const y), some b] ++ T)) P.length h o → stepI b (P.length + 2) (y :: x :: h) = some (.inl o) ∨ ∃ j h', stepI b (P.length + 2) (y :: x :: h) = some (.inr (j, h')) ∧ EvO (P ++ ([some (.const x), some (.const y), some b] ++ T)) j h' o := by
    intro h o e
    rcases ev_inv g0 e with e | ⟨j, h', e, e2⟩
    · cases e
    · simp only [stepI, Option.some.injEq, Sum.inr.injEq, Prod.mk.injEq] at e
      obtain ⟨rfl, rfl⟩ := e
      rcases ev_inv g1 e2 with e | ⟨j, h', e, e2⟩
      · cases e
      · simp only [stepI, Option.some.injEq, Sum.inr.injEq, Prod.mk.injEq] at e
        obtain ⟨rfl, rfl⟩ := e
        exact ev_inv g2 e2
  obtain ⟨t1, s1, u, h1⟩ := twoT_of_fold hv
  have main := rw_ok (l := P ++ ([some (.const x), some (.const y), some b] ++ T)) (l' := P ++ ([none, none, some (.const v)] ++ T)) (Γ := Γ) (n := P.length) (k := 3) (X := some (.const v)) ht hf (by simp) (by decide) (by simp)
    (fun i hi => idx_out (A := [some (.const x), some (.const y), some b]) (B := [none, none, some (.const v)]) (T := T) rfl hi)
    (fun i h1 h2 => by
      by_cases h0 : i = P.length
      · rw [h0]; simp
      · rw [show i = P.length + 1 by (first | lia | omega)]; simp) (by simp) hjump
    (fun ins h1 h2 => by cases h1; cases h2) ?_ ?_
  · obtain ⟨m1, m2, m3⟩ := main
    refine ⟨_, m1, m2, by simpa using hlen, fun i ins hi hij => ?_, fun o ho => m3 _ 0 [] [] o (Nat.le_refl _) (by (first | lia | omega)) ht.zero trivial (he o ho)⟩
    by_cases hi1 : i < P.length ∨ P.length + 3 ≤ i
    · rw [idx_out (P := P) (A := [some (.const x), some (.const y), some b]) (B := [none, none, some (.const v)]) (T := T) rfl hi1] at hi
      exact hj i ins hi hij
    · by_cases h0 : i = P.length
      · subst h0; simp at hi
      · by_cases h2 : i = P.length + 1
        · subst h2; simp at hi
        · have : i = P.length + 2 := by (first | lia | omega)
          subst this
          simp at hi
          subst hi; cases hij
  · intro τ hτ
    obtain ⟨t, s, hx, hy, hok⟩ := row τ hτ
    obtain ⟨σ, e, hg⟩ := tyIns_two hok h1
    cases e
    have hl := foldPair_eq h1 hx hy hv
    rcases lawTwo_typed h1 hx hy with ⟨a, b', e⟩ | ⟨w, e, hw⟩
    · rw [hl] at e; cases e
    · rw [hl] at e; cases e
      exact ⟨u, hw, hg⟩
  · intro τ h o hτ hh e
    obtain ⟨t, s, hx, hy, hok⟩ := row τ hτ
    have hr := run h o e
    obtain ⟨σ, e', hg⟩ := tyIns_two hok h1
    cases e'
    have hl := foldPair_eq h1 hx hy hv
    rw [stepI_two (isTwo_of h1) _ _ _ _ ⟨hx.small, hy.small⟩, hl] at hr
    rcases hr with hr | ⟨j, h', hr, e2⟩
    · cases hr
    · simp only [resOf, Option.some.injEq, Sum.inr.injEq, Prod.mk.injEq] at hr
      obtain ⟨rfl, rfl⟩ := hr
      exact .inr ⟨_, _, rfl, e2⟩
end Mine

-- part PL12
namespace Mine
open PySem PyProof.Rows

/-- what the folds of the program do, one head at a time -/
theorem foldHead_cases {e1 e2 : Bool} {suf : List Ins} {l : List (Option Ins)} (h : foldHead e1 e2 suf = some l) :
    (∃ x b rest X, suf = .const x :: b :: rest ∧ e1 = false ∧ Fold2 x b X ∧ l = none :: X :: rest.map some) ∨
    ∃ x y b rest v, suf = .const x :: .const y :: b :: rest ∧ e1 = false ∧ e2 = false ∧ foldPair b x y = some v ∧ l = none :: none :: some (.const v) :: rest.map some := by
  unfold foldHead at h
  split at h
  · rename_i x b rest
    split at h
    · cases h
    · rename_i he1
      have he1 : e1 = false := by simpa using he1
      split at h
      · cases h; exact .inl ⟨x, .drop, rest, none, rfl, he1, .inl ⟨rfl, rfl⟩, rfl⟩
      · rename_i t; cases h; exact .inl ⟨x, .unl t, rest, _, rfl, he1, .inr (.inl ⟨t, .inl rfl, rfl⟩), rfl⟩
      · rename_i t; cases h; exact .inl ⟨x, .whn t, rest, _, rfl, he1, .inr (.inl ⟨t, .inr rfl, rfl⟩), rfl⟩
      · unfold foldElse at h
        split at h
        · rename_i v hv; cases h; exact .inl ⟨x, b, rest, _, rfl, he1, .inr (.inr ⟨v, hv, rfl⟩), rfl⟩
        · unfold foldPairs at h
          split at h
          · split at h
            · cases h
            · rename_i he2
              split at h
              · rename_i v hv; cases h; exact .inr ⟨x, _, _, _, v, rfl, he1, by simpa using he2, hv, rfl⟩
              · cases h
          · cases h
  · cases h
theorem fold_run {c : List Ins} : ∀ (d : Nat) (P : List (Option Ins)) (suf : List Ins), suf.length ≤ d → FInv c (P ++ suf.map some) → FInv c (P ++ foldRun (ledTo c) P.length suf) := by
  intro d
  induction d with
  | zero =>
    intro P suf hd h
    have : suf = [] := List.length_eq_zero_iff.mp (by (first | lia | omega))
    subst this
    rw [foldRun_nil]; exact h
  | succ d ih =>
    intro P suf hd h
    cases suf with
    | nil => rw [foldRun_nil]; exact h
    | cons i rest =>
      rw [foldRun_cons]
      cases hf : foldHead (ledTo c (P.length + 1)) (ledTo c (P.length + 2)) (i :: rest) with
      | none =>
        dsimp only
        have := ih (P ++ [some i]) rest (by simp at hd; (first | lia | omega)) (by simpa using h)
        simpa using this
      | some l =>
        dsimp only
        obtain ⟨h2, hl, hsplit⟩ := foldHead_spec hf
        have hk := stepK_pos l
        have hkl : stepK l ≤ l.length := by
          unfold stepK; split
          · simp
          · exact h2
        have step : FInv c (P ++ l) := by
          rcases foldHead_cases hf with ⟨x, b, r, X, hs, e1, hX, rfl⟩ | ⟨x, y, b, r, v, hs, e1, e2, hv, rfl⟩
          · rw [hs] at h
            exact fold2 (T := r.map some) (by simpa using h) e1 hX
          · rw [hs] at h
            exact fold3 (T := r.map some) (by simpa using h) e1 e2 hv
        have htl : (l.take (stepK l)).length = stepK l := by rw [List.length_take]; (first | lia | omega)
        have := ih (P ++ l.take (stepK l)) ((i :: rest).drop (stepK l)) (by simp at hd ⊢; (first | lia | omega)) (by rw [List.append_assoc, ← hsplit]; exact step)
        rw [List.length_append, htl, List.append_assoc] at this
        exact this
end Mine

-- part PL13
namespace Mine
open PySem PyProof.Rows

noncomputable def Ender (i : Ins) : Prop := i = .ret ∨ ∃ a b, i = .trap a b
theorem foldRun_last (led : Nat → Bool) {e : Ins} (he : Ender e) : ∀ (d n : Nat) (suf : List Ins), suf.length ≤ d → suf.getLast? = some e → (foldRun led n suf).getLast? = some (some e) ∧ (foldRun led n suf).length = suf.length := by
  intro d
  induction d with
  | zero =>
    intro n suf hd h
    have : suf = [] := List.length_eq_zero_iff.mp (by (first | lia | omega))
    subst this; cases h
  | succ d ih =>
    intro n suf hd h
    cases suf with
    | nil => cases h
    | cons i rest =>
      rw [foldRun_cons]
      cases hf : foldHead (led (n + 1)) (led (n + 2)) (i :: rest) with
      | none =>
        dsimp only
        cases rest with
        | nil =>
          simp at h; subst h
          rw [foldRun_nil]; simp
        | cons j r =>
          have hh := ih (n + 1) (j :: r) (by simp at hd ⊢; (first | lia | omega)) (by simpa using h)
          refine ⟨?_, by simp [hh.2]⟩
          rw [List.getLast?_cons, hh.1]; rfl
      | some l =>
        dsimp only
        obtain ⟨h2, hl, hsplit⟩ := foldHead_spec hf
        have hk := stepK_pos l
        have hkl : stepK l ≤ l.length := by
          unfold stepK; split
          · simp
          · exact h2
        have htl : (l.take (stepK l)).length = stepK l := by rw [List.length_take]; (first | lia | omega)
        have hlast : l.getLast? = some (some e) := by
          rcases foldHead_cases hf with ⟨x, b, r, X, hs, _, hX, rfl⟩ | ⟨x, y, b, r, v, hs, _, _, hv, rfl⟩
          · rw [hs] at h
            cases r with
            | nil =>
              exfalso
              simp at h; subst h
              rcases hX with ⟨hb, _⟩ | ⟨t, hb, _⟩ | ⟨v, hv, _⟩
              · subst hb; rcases he with h | ⟨_, _, h⟩ <;> cases h
              · rcases hb with hb | hb <;> subst hb <;> rcases he with h | ⟨_, _, h⟩ <;> cases h
              · rcases he with h | ⟨_, _, h⟩ <;> subst h <;> cases hv
            | cons a r =>
              have : (a :: r).getLast? = some e := by simpa using h
              rw [List.getLast?_cons, List.getLast?_cons, List.getLast?_map, this]; rfl
          · rw [hs] at h
            cases r with
            | nil =>
              exfalso
              simp at h; subst h
              rcases he with h | ⟨_, _, h⟩ <;> subst h <;> cases hv
            | cons a r =>
              have : (a :: r).getLast? = some e := by simpa using h
              rw [List.getLast?_cons, List.getLast?_cons, List.getLast?_cons, List.getLast?_map, this]; rfl
        cases hdr : (i :: rest).drop (stepK l) with
        | nil =>
          rw [hdr] at hsplit
          rw [foldRun_nil, List.append_nil]
          have e2 : l.take (stepK l) = l := by simpa using hsplit.symm
          rw [e2]; exact ⟨hlast, hl⟩
        | cons j r =>
          have hlen : ((i :: rest).drop (stepK l)).length = r.length + 1 := by rw [hdr]; rfl
          rw [List.length_drop] at hlen
          have hh := ih (n + stepK l) (j :: r) (by simp at hd hlen ⊢; (first | lia | omega)) (by
            rw [← hdr, List.getLast?_drop, if_neg (by (first | lia | omega))]
            exact h)
          refine ⟨?_, ?_⟩
          · rw [List.getLast?_append, hh.1]; rfl
          · rw [List.length_append, htl, hh.2, ← hdr, List.length_drop]; (first | lia | omega)
end Mine

-- part PL14
namespace Mine
open PySem PyProof.Rows

noncomputable def CInv (c : List Ins) (o : Out) : Prop := ∃ Γ, TypedO (c.map some) Γ ∧ FwdO (c.map some) ∧ EvO (c.map some) 0 [] o
theorem fwd_iff {c : List Ins} : FwdO (c.map some) ↔ Fwd c := by
  constructor
  · intro h i ins hi hj
    have := h i ins (by rw [List.getElem?_map, hi]; rfl) hj
    simpa using this
  · intro h i ins hi hj
    rw [List.getElem?_map, Option.map_eq_some_iff] at hi
    obtain ⟨a, ha, e⟩ := hi
    cases e
    simpa using h i ins ha hj
theorem ledTo_of {c : List Ins} {i : Nat} {ins : Ins} (h : c[i]? = some ins) (hj : ins.isJump = true) : ledTo c ins.tgt = true := by
  unfold ledTo
  rw [List.any_eq_true]
  exact ⟨ins, List.mem_of_getElem? h, by simp [hj]⟩
theorem finv_start {c : List Ins} {o : Out} (h : CInv c o) : FInv c (c.map some) := by
  obtain ⟨Γ, ht, hf, _⟩ := h
  refine ⟨Γ, ht, hf, by simp, fun i ins hi hj => ?_, fun _ e => e⟩
  rw [List.getElem?_map, Option.map_eq_some_iff] at hi
  obtain ⟨a, ha, e⟩ := hi
  cases e
  exact ledTo_of ha hj
theorem fold_inv {c : List Ins} {o : Out} {e : Ins} (h : CInv c o) (he : Ender e) (hl : c.getLast? = some e) : FInv c (foldRun (ledTo c) 0 c) := by
  have := fold_run c.length [] c (Nat.le_refl _) (by simpa using finv_start h)
  simpa using this
theorem fold_pass {c : List Ins} {o : Out} {e : Ins} (h : CInv c o) (he : Ender e) (hl : c.getLast? = some e) : CInv (foldF c) o ∧ (foldF c).length ≤ c.length ∧ (foldRun (ledTo c) 0 c).length = c.length ∧
    ∀ (i : Nat) (ins : Ins), (foldRun (ledTo c) 0 c)[i]? = some (some ins) → ins.isJump = true → ins.tgt < c.length := by
  obtain ⟨Γ, ht, hf, hlen, hj, hev⟩ := fold_inv h he hl
  obtain ⟨hlast, _⟩ := foldRun_last (ledTo c) he c.length 0 c (Nat.le_refl _) hl
  obtain ⟨Γ0, _, _, h0⟩ := h
  refine ⟨⟨comG _ Γ, compact_typed ht, compact_fwd hf fun i ins hi hij => ?_, ?_⟩, ?_, hlen, fun i ins hi hij => ?_⟩
  · refine ⟨(foldRun (ledTo c) 0 c).length - 1, e, ?_, ?_⟩
    · have := (hf i ins hi hij).2; (first | lia | omega)
    · rw [List.getLast?_eq_getElem?] at hlast; exact hlast
  · have h2 := compact_ev (hev o h0)
    have hp : place (foldRun (ledTo c) 0 c) 0 = 0 := by simp [place, cnt]
    rw [hp] at h2
    exact h2
  · have := compactF_len (foldRun (ledTo c) 0 c); rw [hlen] at this; exact this
  · have := (hf i ins hi hij).2; rw [hlen] at this; exact this
end Mine

-- part PL15
namespace Mine
open PySem PyProof.Rows

/-- the last target: forward, in the code, typed alike, reached alike -/
theorem lastT_facts {c : List Ins} (hf : Fwd c) : ∀ (d t : Nat), c.length - t ≤ d → t < c.length → t ≤ lastT c t ∧ lastT c t < c.length ∧
    (∀ (Γ : Gm) τ, TypedO (c.map some) Γ → Γ t = some τ → Γ (lastT c t) = some τ) ∧ ∀ h o, EvO (c.map some) t h o → EvO (c.map some) (lastT c t) h o := by
  intro d
  induction d with
  | zero => intro t hd ht; (first | lia | omega)
  | succ d ih =>
    intro t hd ht
    obtain ⟨b, hb⟩ : ∃ b, c[t]? = some b := ⟨c[t], List.getElem?_eq_getElem ht⟩
    have hbm : (c.map some)[t]? = some (some b) := by rw [List.getElem?_map, hb]; rfl
    by_cases hj : ∃ u, b = .jump u
    · obtain ⟨u, rfl⟩ := hj
      have hu := hf t _ hb rfl
      simp only [Ins.tgt] at hu
      obtain ⟨h1, h2, h3, h4⟩ := ih u (by (first | lia | omega)) hu.2
      rw [lastT_jump hb hf]
      refine ⟨by (first | lia | omega), h2, fun Γ τ hT hg => h3 Γ τ hT ?_, fun h o e => h4 h o ?_⟩
      · obtain ⟨o, ho, hok⟩ := hT.row _ _ hg
        rw [hbm] at ho; cases ho
        exact hok
      · rcases ev_inv hbm e with e | ⟨j, h', e, e2⟩
        · cases e
        · simp only [stepI, Option.some.injEq, Sum.inr.injEq, Prod.mk.injEq] at e
          obtain ⟨rfl, rfl⟩ := e
          exact e2
    · rw [lastT_stop hb (fun u e => hj ⟨u, e⟩)]
      exact ⟨Nat.le_refl _, ht, fun _ _ _ h => h, fun _ _ h => h⟩
theorem thr_get {c : List Ins} {i : Nat} {x : Ins} (h : (threadF c)[i]? = some x) : ∃ ins, c[i]? = some ins ∧ x = thrI c ins := by
  rw [threadF_eq, List.getElem?_map, Option.map_eq_some_iff] at h
  obtain ⟨a, h1, h2⟩ := h
  exact ⟨a, h1, h2.symm⟩
theorem thr_at {c : List Ins} {i : Nat} {ins : Ins} (h : c[i]? = some ins) : ((threadF c).map some)[i]? = some (some (thrI c ins)) := by
  rw [List.getElem?_map, threadF_eq, List.getElem?_map, h]; rfl
theorem thrI_jump (c : List Ins) (ins : Ins) : (thrI c ins).isJump = ins.isJump := by
  unfold thrI; split
  · exact retarget_jump _ _
  · rfl
theorem thrI_tgt {c : List Ins} {ins : Ins} (h : ins.isJump = true) : (thrI c ins).tgt = lastT c ins.tgt := by
  unfold thrI; rw [if_pos h, retarget_tgt _ h]
theorem thrI_no {c : List Ins} {ins : Ins} (h : ins.isJump = false) : thrI c ins = ins := by
  unfold thrI; rw [h]; rfl
theorem thread_inv {c : List Ins} {o : Out} (h : CInv c o) : CInv (threadF c) o := by
  obtain ⟨Γ, ht, hf, he⟩ := h
  have hF : Fwd c := fwd_iff.mp hf
  have facts : ∀ {i : Nat} {ins : Ins}, c[i]? = some ins → ins.isJump = true → _ := fun {i ins} hi hj => lastT_facts hF _ ins.tgt (Nat.le_refl _) (hF i ins hi hj).2
  have rowOf : ∀ {i τ}, Γ i = some τ → ∃ ins, c[i]? = some ins ∧ TyIns Γ i τ ins := by
    intro i τ hg
    obtain ⟨o, ho, hok⟩ := ht.row i τ hg
    rw [List.getElem?_map, Option.map_eq_some_iff] at ho
    obtain ⟨ins, hi, e⟩ := ho
    cases e
    exact ⟨ins, hi, hok⟩
  refine ⟨Γ, ⟨ht.zero, fun i τ hg => ?_⟩, ?_, ?_⟩
  · obtain ⟨ins, hi, hok⟩ := rowOf hg
    refine ⟨_, thr_at hi, ?_⟩
    show TyIns Γ i τ (thrI c ins)
    cases hj : ins.isJump with
    | false => rw [thrI_no hj]; exact hok
    | true =>
      unfold thrI; rw [if_pos hj]
      exact tyIns_ret (f := fun _ => lastT c ins.tgt) hok (fun σ h => h) (fun σ h => (facts hi hj).2.2.1 Γ σ ht h)
  · rw [fwd_iff]
    intro i x hx hj
    obtain ⟨ins, hi, rfl⟩ := thr_get hx
    rw [thrI_jump] at hj
    rw [thrI_tgt hj, threadF_eq, List.length_map]
    have h1 := facts hi hj
    have h2 := hF i ins hi hj
    exact ⟨by (first | lia | omega), h1.2.1⟩
  · have main : ∀ (d i : Nat) h o τ, c.length - i ≤ d → Γ i = some τ → HasT h τ → EvO (c.map some) i h o → EvO ((threadF c).map some) i h o := by
      intro d
      induction d with
      | zero =>
        intro i h o τ hd hg hh e
        obtain ⟨ins, hi, _⟩ := rowOf hg
        have := (List.getElem?_eq_some_iff.mp hi).1
        (first | lia | omega)
      | succ d ih =>
        intro i h o τ hd hg hh e
        obtain ⟨ins, hi, hok⟩ := rowOf hg
        have hlt := (List.getElem?_eq_some_iff.mp hi).1
        have him : (c.map some)[i]? = some (some ins) := by rw [List.getElem?_map, hi]; rfl
        cases hj : ins.isJump with
        | false =>
          have hr := thr_at hi
          rw [thrI_no hj] at hr
          rcases ev_inv him e with e | ⟨j, h', e, e2⟩
          · exact .stop hr e
          · rcases step_typed hok hh with ⟨o', e'⟩ | ⟨j2, h2, σ, e', hg', hh', hj2⟩
            · rw [e'] at e; cases e
            · rw [e'] at e
              simp only [Option.some.injEq, Sum.inr.injEq, Prod.mk.injEq] at e
              obtain ⟨rfl, rfl⟩ := e
              have := step_fwd hf him hj2
              exact .go hr e' (ih j2 h2 o σ (by (first | lia | omega)) hg' hh' e2)
        | true =>
          obtain ⟨f1, f2, f3, f4⟩ := facts hi hj
          have f0 := hF i ins hi hj
          -- to the last target
          have go : ∀ h', EvO (c.map some) ins.tgt h' o → (∃ σ, Γ ins.tgt = some σ ∧ HasT h' σ) → EvO ((threadF c).map some) (lastT c ins.tgt) h' o := by
            rintro h' e' ⟨σ, hg', hh'⟩
            exact ih _ h' o σ (by (first | lia | omega)) (f3 Γ σ ht hg') hh' (f4 h' o e')
          have nx : ∀ h', EvO (c.map some) (i + 1) h' o → (∃ σ, Γ (i + 1) = some σ ∧ HasT h' σ) → EvO ((threadF c).map some) (i + 1) h' o := by
            rintro h' e' ⟨σ, hg', hh'⟩
            exact ih _ h' o σ (by (first | lia | omega)) hg' hh' e'
          have hr := thr_at hi
          cases ins <;> first | (cases hj; done) | skip
          case jump t =>
            rcases ev_inv him e with e | ⟨j, h', e, e2⟩
            · cases e
            · simp only [stepI, Option.some.injEq, Sum.inr.injEq, Prod.mk.injEq] at e
              obtain ⟨rfl, rfl⟩ := e
              exact .go hr rfl (go _ e2 ⟨τ, hok, hh⟩)
          case unl t =>
            obtain ⟨σ, rfl, hg1, hg2⟩ := hok
            obtain ⟨v, r, rfl, hv, hrr⟩ := hasT_cons hh
            rcases ev_inv him e with e | ⟨j, h', e, e2⟩
            · cases e
            · simp only [stepI, Option.some.injEq, Sum.inr.injEq, Prod.mk.injEq] at e
              obtain ⟨rfl, rfl⟩ := e
              by_cases hz : v = 0
              · rw [if_pos hz] at e2
                exact .go hr (by simp [thrI, Ins.isJump, Ins.retarget, stepI, hz]) (go _ e2 ⟨σ, hg2, hrr⟩)
              · rw [if_neg hz] at e2
                exact .go hr (by simp [thrI, Ins.isJump, Ins.retarget, stepI, hz]) (nx _ e2 ⟨σ, hg1, hrr⟩)
          case whn t =>
            obtain ⟨σ, rfl, hg1, hg2⟩ := hok
            obtain ⟨v, r, rfl, hv, hrr⟩ := hasT_cons hh
            rcases ev_inv him e with e | ⟨j, h', e, e2⟩
            · cases e
            · simp only [stepI, Option.some.injEq, Sum.inr.injEq, Prod.mk.injEq] at e
              obtain ⟨rfl, rfl⟩ := e
              by_cases hz : v = 0
              · rw [if_pos hz] at e2
                exact .go hr (by simp [thrI, Ins.isJump, Ins.retarget, stepI, hz]) (nx _ e2 ⟨σ, hg1, hrr⟩)
              · rw [if_neg hz] at e2
                exact .go hr (by simp [thrI, Ins.isJump, Ins.retarget, stepI, hz]) (go _ e2 ⟨σ, hg2, hrr⟩)
    exact main _ 0 [] o [] (Nat.le_refl _) ht.zero trivial he
end Mine

-- part PL16
namespace Mine
open PySem PyProof.Rows

noncomputable def DInv (c : List Ins) (S : Nat → Bool) (l : List (Option Ins)) : Prop := ∃ Γ, TypedO l Γ ∧ FwdO l ∧ l.length = c.length ∧ (∀ (i : Nat) ins, l[i]? = some (some ins) → ins.isJump = true → ledTo c ins.tgt = true) ∧
  (∀ i, S i = false → Γ i = none) ∧ ∀ o, EvO (c.map some) 0 [] o → EvO l 0 [] o
theorem rep_get {k : Nat} {P T : List (Option Ins)} {i : Nat} (h1 : P.length ≤ i) (h2 : i < P.length + k) : (P ++ (List.replicate k none ++ T))[i]? = some none := by
  rw [List.getElem?_append_right h1, List.getElem?_append_left (by simp; (first | lia | omega)), List.getElem?_replicate, if_pos (by (first | lia | omega))]
theorem drop_blk {c : List Ins} {S : Nat → Bool} {P M T : List (Option Ins)} (hk : 1 ≤ M.length) (hI : DInv c S (P ++ (M ++ T)))
    (hled : ∀ q, P.length < q → q < P.length + M.length → ledTo c q = false) (hS : ∀ q, P.length < q → q < P.length + M.length → S P.length = true → S q = true)
    (hX : ∀ Γ, TypedO (P ++ (M ++ T)) Γ → (∀ i, S i = false → Γ i = none) → ∀ τ, Γ P.length = some τ → Γ (P.length + M.length) = some τ ∧
      ∀ h o, EvO (P ++ (M ++ T)) P.length h o → EvO (P ++ (M ++ T)) (P.length + M.length) h o) : DInv c S (P ++ (List.replicate M.length none ++ T)) := by
  obtain ⟨Γ, ht, hf, hlen, hj, hs, he⟩ := hI
  have main := rw_ok (l := P ++ (M ++ T)) (l' := P ++ (List.replicate M.length none ++ T)) (Γ := Γ) (n := P.length) (k := M.length) (X := none) ht hf (by simp) hk (by simp)
    (fun i hi => idx_out (A := M) (B := List.replicate M.length none) (T := T) (by simp) hi) (fun i h1 h2 => rep_get h1 (by (first | lia | omega))) (rep_get (by (first | lia | omega)) (by (first | lia | omega)))
    (fun i ins hi hij hh => by
      have := hj i ins hi hij
      rw [hled _ hh.1 hh.2] at this; cases this)
    (fun ins h1 h2 => by cases h1)
    (fun τ hτ => by
      have := (hX Γ ht hs τ hτ).1
      show Γ (P.length + M.length - 1 + 1) = some τ
      rw [show P.length + M.length - 1 + 1 = P.length + M.length by (first | lia | omega)]; exact this)
    (fun τ h o hτ hh e => (hX Γ ht hs τ hτ).2 h o e)
  obtain ⟨m1, m2, m3⟩ := main
  refine ⟨_, m1, m2, by simpa using hlen, fun i ins hi hij => ?_, fun i hi => ?_, fun o ho => m3 _ 0 [] [] o (Nat.le_refl _) (by (first | lia | omega)) ht.zero trivial (he o ho)⟩
  · by_cases hi1 : i < P.length ∨ P.length + M.length ≤ i
    · rw [idx_out (P := P) (A := M) (B := List.replicate M.length none) (T := T) (by simp) hi1] at hi
      exact hj i ins hi hij
    · rw [rep_get (by (first | lia | omega)) (by (first | lia | omega))] at hi; cases hi
  · unfold innG
    split
    · rename_i hq
      cases hsn : S P.length with
      | false => exact hs _ hsn
      | true => rw [hS i hq.1 hq.2 hsn] at hi; cases hi
    · exact hs i hi
theorem blk_at {c : List Ins} {S : Nat → Bool} {P T : List (Option Ins)} {X : Ins} {Γ : Gm} (ht : TypedO (P ++ (some X :: T)) Γ) {τ : List Ty} (hg : Γ P.length = some τ) : TyIns Γ P.length τ X := by
  obtain ⟨o, ho, hok⟩ := ht.row _ _ hg
  have : (P ++ (some X :: T))[P.length]? = some (some X) := by simp
  rw [this] at ho; cases ho
  exact hok
theorem drop_run {c : List Ins} {S : Nat → Bool} (hcl : ∀ i ins, S i = true → c[i]? = some ins → ∀ t ∈ nextsN ins i, S t = true) :
    ∀ (d : Nat) (P : List (Option Ins)) (suf pre : List Ins), c = pre ++ suf → pre.length = P.length → suf.length ≤ d → DInv c S (P ++ suf.map some) → DInv c S (P ++ dropRun S (ledTo c) P.length false suf) := by
  intro d
  induction d with
  | zero =>
    intro P suf pre hc hp hd h
    have : suf = [] := List.length_eq_zero_iff.mp (by (first | lia | omega))
    subst this
    exact h
  | succ d ih =>
    intro P suf pre hc hp hd h
    cases suf with
    | nil => exact h
    | cons i rest =>
      simp only [List.length_cons] at hd
      have hci : c[P.length]? = some i := by rw [hc, ← hp]; simp
      have keep : DInv c S (P ++ some i :: dropRun S (ledTo c) (P.length + 1) false rest) := by
        have := ih (P ++ [some i]) rest (pre ++ [i]) (by simp [hc]) (by simp [hp]) (by (first | lia | omega)) (by simpa using h)
        simpa using this
      have gone1 : DInv c S (P ++ (none :: rest.map some)) → DInv c S (P ++ none :: dropRun S (ledTo c) (P.length + 1) false rest) := by
        intro h'
        have := ih (P ++ [none]) rest (pre ++ [i]) (by simp [hc]) (by simp [hp]) (by (first | lia | omega)) (by simpa using h')
        simpa using this
      rw [dropRun_cons]
      split
      · rename_i hs
        refine gone1 ?_
        refine drop_blk (M := [some i]) (T := rest.map some) (by simp) h (fun q h1 h2 => by simp at h2; (first | lia | omega)) (fun q h1 h2 => by simp at h2; (first | lia | omega)) fun Γ ht hsn τ hτ => ?_
        rw [hsn _ hs] at hτ; cases hτ
      · rename_i hs
        have hs1 : S P.length = true := by simpa using hs
        rw [if_neg (by simp)]
        split
        · rename_i t
          split
          · rename_i htn
            refine gone1 ?_
            refine drop_blk (M := [some (.jump t)]) (T := rest.map some) (by simp) h (fun q h1 h2 => by simp at h2; (first | lia | omega)) (fun q h1 h2 => by simp at h2; (first | lia | omega)) fun Γ ht hsn τ hτ => ?_
            have hok : TyIns Γ P.length τ (.jump t) := blk_at (c := c) (S := S) (T := rest.map some) ht hτ
            refine ⟨by rw [← show t = P.length + [some (Ins.jump t)].length from htn]; exact hok, fun hh o e => ?_⟩
            have g0 : (P ++ ([some (Ins.jump t)] ++ rest.map some))[P.length]? = some (some (.jump t)) := by simp
            rcases ev_inv g0 e with e | ⟨j, h', e, e2⟩
            · cases e
            · simp only [stepI, Option.some.injEq, Sum.inr.injEq, Prod.mk.injEq] at e
              obtain ⟨rfl, rfl⟩ := e
              rw [show P.length + [some (Ins.jump t)].length = t from htn.symm]; exact e2
          · exact keep
        · split
          · rename_i hdd
            obtain ⟨hh1, hled⟩ := hdd
            cases rest with
            | nil => cases hh1
            | cons b rest =>
              simp only [List.head?_cons, Option.some.injEq] at hh1
              subst hh1
              have hdr : dropRun S (ledTo c) (P.length + 1) true (.drop :: rest) = none :: dropRun S (ledTo c) (P.length + 2) false rest := by
                rw [dropRun_cons]; split <;> rfl
              rw [hdr]
              have blk : DInv c S (P ++ (none :: none :: rest.map some)) := by
                refine drop_blk (M := [some .dup, some .drop]) (T := rest.map some) (by simp) h (fun q h1 h2 => ?_) (fun q h1 h2 hq => ?_) fun Γ ht hsn τ hτ => ?_
                · simp at h2; rw [show q = P.length + 1 by (first | lia | omega)]; exact hled
                · simp at h2; rw [show q = P.length + 1 by (first | lia | omega)]
                  exact hcl _ _ hq hci _ (by simp [nextsN, Ins.endsWay])
                · have g0 : (P ++ ([some Ins.dup, some Ins.drop] ++ rest.map some))[P.length]? = some (some .dup) := by simp
                  have g1 : (P ++ ([some Ins.dup, some Ins.drop] ++ rest.map some))[P.length + 1]? = some (some .drop) := by simp
                  obtain ⟨o, ho, hok⟩ := ht.row _ _ hτ
                  rw [g0] at ho; cases ho
                  obtain ⟨t, σ, rfl, hg1⟩ := hok
                  obtain ⟨o, ho, hok⟩ := ht.row _ _ hg1
                  rw [g1] at ho; cases ho
                  obtain ⟨t', σ', e1, hg2⟩ := hok
                  cases e1
                  refine ⟨hg2, fun hh o e => ?_⟩
                  rcases ev_inv g0 e with e | ⟨j, h', e, e2⟩
                  · cases hh <;> cases e
                  · cases hh with
                    | nil => cases e
                    | cons v r =>
                      simp only [stepI, Option.some.injEq, Sum.inr.injEq, Prod.mk.injEq] at e
                      obtain ⟨rfl, rfl⟩ := e
                      rcases ev_inv g1 e2 with e | ⟨j, h', e, e3⟩
                      · cases e
                      · simp only [stepI, Option.some.injEq, Sum.inr.injEq, Prod.mk.injEq] at e
                        obtain ⟨rfl, rfl⟩ := e
                        exact e3
              have := ih (P ++ [none, none]) rest (pre ++ [.dup, .drop]) (by simp [hc]) (by simp [hp]) (by simp at hd; (first | lia | omega)) (by simpa using blk)
              simpa using this
          · exact keep
        · exact keep
end Mine

-- part PL17
namespace Mine
open PySem PyProof.Rows

noncomputable def lenT (Γ : Gm) : Nat → Option Int := fun i => (Γ i).map fun τ => (τ.length : Int)
theorem lenT_some {Γ : Gm} {i : Nat} {τ : List Ty} (h : Γ i = some τ) : lenT Γ i = some (τ.length : Int) := by unfold lenT; rw [h]; rfl
theorem hts_of {c : List Ins} {Γ : Gm} (ht : TypedO (c.map some) Γ) : Hts c (lenT Γ) := by
  refine ⟨lenT_some ht.zero, fun i h hi => ?_⟩
  unfold lenT at hi
  rw [Option.map_eq_some_iff] at hi
  obtain ⟨τ, hg, rfl⟩ := hi
  obtain ⟨o, ho, hok⟩ := ht.row i τ hg
  rw [List.getElem?_map, Option.map_eq_some_iff] at ho
  obtain ⟨ins, hi, e⟩ := ho
  cases e
  replace hok : TyIns Γ i τ ins := hok
  have one : ∀ {σ : List Ty} {x : Int}, (fun t => Γ t = some σ) (i + 1) → x = σ.length → ∀ t ∈ [i + 1] ++ [], lenT Γ t = some x := by
    intro σ x h1 hx t hm
    have : t = i + 1 := by simpa using hm
    subst this
    rw [lenT_some h1, hx]
  refine ⟨ins, hi, ?_⟩
  cases ins
  case const => obtain ⟨t, a, b⟩ := hok; exact ⟨by simp [Ins.eff], (fun h => by cases h), one b (by simp [Ins.eff])⟩
  case dup => obtain ⟨t, σ, rfl, b⟩ := hok; exact ⟨by simp [Ins.eff] <;> (first | lia | omega), (fun h => by cases h), one b (by simp [Ins.eff] <;> (first | lia | omega))⟩
  case drop => obtain ⟨t, σ, rfl, b⟩ := hok; exact ⟨by simp [Ins.eff] <;> (first | lia | omega), (fun h => by cases h), one b (by simp [Ins.eff] <;> (first | lia | omega))⟩
  case jump u =>
    refine ⟨by simp [Ins.eff], (fun h => by cases h), fun t hm => ?_⟩
    have : t = u := by simpa [nextsN, Ins.endsWay, Ins.isJump, Ins.tgt] using hm
    subst this
    rw [lenT_some hok]; simp [Ins.eff]
  case unl u =>
    obtain ⟨σ, rfl, b, b2⟩ := hok
    refine ⟨by simp [Ins.eff] <;> (first | lia | omega), (fun h => by cases h), fun t hm => ?_⟩
    have : t = i + 1 ∨ t = u := by simpa [nextsN, Ins.endsWay, Ins.isJump, Ins.tgt] using hm
    rcases this with rfl | rfl
    · rw [lenT_some b]; simp [Ins.eff] <;> (first | lia | omega)
    · rw [lenT_some b2]; simp [Ins.eff] <;> (first | lia | omega)
  case whn u =>
    obtain ⟨σ, rfl, b, b2⟩ := hok
    refine ⟨by simp [Ins.eff] <;> (first | lia | omega), (fun h => by cases h), fun t hm => ?_⟩
    have : t = i + 1 ∨ t = u := by simpa [nextsN, Ins.endsWay, Ins.isJump, Ins.tgt] using hm
    rcases this with rfl | rfl
    · rw [lenT_some b]; simp [Ins.eff] <;> (first | lia | omega)
    · rw [lenT_some b2]; simp [Ins.eff] <;> (first | lia | omega)
  case trap => exact ⟨by simp [Ins.eff], (fun h => by cases h), fun t hm => by simp [nextsN, Ins.endsWay, Ins.isJump] at hm⟩
  case ret => obtain ⟨t, rfl⟩ := hok; exact ⟨by simp [Ins.eff], (fun _ => by simp), fun t hm => by simp [nextsN, Ins.endsWay, Ins.isJump] at hm⟩
  all_goals (obtain ⟨σ, rfl, b⟩ := hok; exact ⟨by simp [Ins.eff] <;> (first | lia | omega), (fun h => by cases h), one b (by simp [Ins.eff] <;> (first | lia | omega))⟩)

theorem greatest {S : Nat → Bool} : ∀ n : Nat, (∀ j, n ≤ j → S j = false) → S 0 = true → ∃ m, S m = true ∧ ∀ j, m < j → S j = false
  | 0, h, h0 => by rw [h 0 (Nat.le_refl _)] at h0; cases h0
  | n + 1, h, h0 => by
    cases hn : S n with
    | true => exact ⟨n, hn, fun j hj => h j hj⟩
    | false => exact greatest n (fun j hj => if e : j = n then by rw [e]; exact hn else h j (by (first | lia | omega))) h0
theorem dropRun_none {S led : Nat → Bool} : ∀ (suf : List Ins) (n : Nat) (gone : Bool) (j : Nat), j < suf.length → S (n + j) = false → (dropRun S led n gone suf)[j]? = some none
  | [], _, _, j, h, _ => by simp at h
  | i :: rest, n, gone, j, h, hs => by
    have ih := fun g j => dropRun_none (S := S) (led := led) rest (n + 1) g j
    rw [dropRun_cons]
    cases j with
    | zero => rw [if_pos (show S n = false from hs)]; rfl
    | succ j =>
      have h1 : j < rest.length := by simpa using h
      have h2 : S (n + 1 + j) = false := by rw [show n + 1 + j = n + (j + 1) by (first | lia | omega)]; exact hs
      split
      · simpa using ih _ j h1 h2
      · split
        · simpa using ih _ j h1 h2
        · split
          · simpa using ih _ j h1 h2
          · split
            · simpa using ih _ j h1 h2
            · simpa using ih _ j h1 h2
          · simpa using ih _ j h1 h2
theorem dropRun_keep {S led : Nat → Bool} {e : Ins} (he : Ender e) : ∀ (suf : List Ins) (n : Nat) (gone : Bool) (j : Nat), (gone = true → suf.head? = some .drop) → suf[j]? = some e → S (n + j) = true → (dropRun S led n gone suf)[j]? = some (some e)
  | [], _, _, j, _, h, _ => by simp at h
  | i :: rest, n, gone, j, hg, h, hs => by
    have ih := fun g j => dropRun_keep he (S := S) (led := led) rest (n + 1) g j
    rw [dropRun_cons]
    cases j with
    | zero =>
      simp at h
      subst h
      rw [if_neg (by simpa using hs)]
      split
      · rename_i hgt
        have := hg hgt
        simp at this
        rcases he with h | ⟨_, _, h⟩ <;> rw [this] at h <;> cases h
      · rcases he with rfl | ⟨_, _, rfl⟩ <;> rfl
    | succ j =>
      have h1 : rest[j]? = some e := by simpa using h
      have h2 : S (n + 1 + j) = true := by rw [show n + 1 + j = n + (j + 1) by (first | lia | omega)]; exact hs
      split
      · simpa using ih _ j (by simp) h1 h2
      · split
        · simpa using ih _ j (by simp) h1 h2
        · split
          · simpa using ih _ j (by simp) h1 h2
          · split
            · rename_i hd
              simpa using ih _ j (fun _ => hd.1) h1 h2
            · simpa using ih _ j (by simp) h1 h2
          · simpa using ih _ j (by simp) h1 h2
theorem place_none_from {l : List (Option Ins)} {m : Nat} (h : ∀ j, m ≤ j → j < l.length → l[j]? = some none) : ∀ d, m + d ≤ l.length → place l (m + d) = place l m
  | 0, _ => rfl
  | d + 1, hd => by
    rw [show m + (d + 1) = m + d + 1 from rfl, place_none (h (m + d) (by (first | lia | omega)) (by (first | lia | omega)))]
    exact place_none_from h d (by (first | lia | omega))
theorem drop_pass {c : List Ins} {o : Out} {Γ : Gm} {S : Nat → Bool} (ht : TypedO (c.map some) Γ) (hf : FwdO (c.map some)) (he : EvO (c.map some) 0 [] o) (hS : Reached c (lenT Γ) S) :
    CInv (dropF S c) o ∧ SmallC (dropF S c) ∧ (dropF S c).length ≤ c.length ∧ ∃ e, Ender e ∧ (dropF S c).getLast? = some e := by
  have rowOf : ∀ {i}, S i = true → ∃ τ ins, Γ i = some τ ∧ c[i]? = some ins ∧ TyIns Γ i τ ins := by
    intro i hi
    have h1 := hS.in_ i hi
    unfold lenT at h1
    cases hg : Γ i with
    | none => rw [hg] at h1; cases h1
    | some τ =>
      obtain ⟨o, ho, hok⟩ := ht.row i τ hg
      rw [List.getElem?_map, Option.map_eq_some_iff] at ho
      obtain ⟨ins, hi, e⟩ := ho
      cases e
      exact ⟨τ, ins, rfl, hi, hok⟩
  have hrange : ∀ {i}, S i = true → i < c.length := fun hi => by
    obtain ⟨_, _, _, h, _⟩ := rowOf hi
    exact (List.getElem?_eq_some_iff.mp h).1
  -- the last row that is reached
  obtain ⟨m, hm, hmax⟩ := greatest c.length (fun j hj => by
    cases q : S j with
    | false => rfl
    | true => have := hrange q; (first | lia | omega)) hS.zero
  obtain ⟨τm, e, hgm, hcm, hokm⟩ := rowOf hm
  have hend : Ender e := by
    have hw : e.endsWay = true := by
      cases q : e.endsWay with
      | true => rfl
      | false =>
        have := hS.closed m e hm hcm (m + 1) (by simp [nextsN, q])
        rw [hmax _ (by (first | lia | omega))] at this; cases this
    have hnj : e.isJump = false := by
      cases q : e.isJump with
      | false => rfl
      | true =>
        have h1 := hS.closed m e hm hcm e.tgt (by simp [nextsN, q])
        have h2 := hf m e (by rw [List.getElem?_map, hcm]; rfl) q
        rw [hmax _ h2.1] at h1; cases h1
    cases e <;> first | (cases hw; done) | (cases hnj; done) | skip
    · exact .inr ⟨_, _, rfl⟩
    · exact .inl rfl
  -- the pass
  have start : DInv c S (c.map some) := by
    refine ⟨fun i => if S i = true then Γ i else none, ⟨?_, fun i τ hi => ?_⟩, hf, by simp, fun i ins hi hj => ?_, fun i hi => by simp [hi], fun _ h => h⟩
    · simp only [hS.zero, if_true]; exact ht.zero
    · split at hi
      · rename_i hsi
        obtain ⟨τ', ins, h1, h2, h3⟩ := rowOf hsi
        rw [h1] at hi; cases hi
        refine ⟨some ins, by rw [List.getElem?_map, h2]; rfl, ?_⟩
        have cl := hS.closed i ins hsi h2
        have key : ∀ t σ, t ∈ nextsN ins i → Γ t = some σ → (fun i => if S i = true then Γ i else none) t = some σ := fun t σ hm h => by
          show (if S t = true then Γ t else none) = some σ
          rw [if_pos (cl t hm)]; exact h
        show TyIns (fun i => if S i = true then Γ i else none) i τ ins
        have nx : ∀ σ, ins.endsWay = false → Γ (i + 1) = some σ → (fun i => if S i = true then Γ i else none) (i + 1) = some σ := fun σ hw h => key _ σ (by simp [nextsN, hw]) h
        have tg : ∀ σ, ins.isJump = true → Γ ins.tgt = some σ → (fun i => if S i = true then Γ i else none) ins.tgt = some σ := fun σ hw h => key _ σ (by simp [nextsN, hw]) h
        cases ins
        case const => obtain ⟨t, a, b⟩ := h3; exact ⟨t, a, nx _ rfl b⟩
        case dup => obtain ⟨t, σ, a, b⟩ := h3; exact ⟨t, σ, a, nx _ rfl b⟩
        case drop => obtain ⟨t, σ, a, b⟩ := h3; exact ⟨t, σ, a, nx _ rfl b⟩
        case jump => exact tg _ rfl h3
        case unl => obtain ⟨σ, a, b, d⟩ := h3; exact ⟨σ, a, nx _ rfl b, tg _ rfl d⟩
        case whn => obtain ⟨σ, a, b, d⟩ := h3; exact ⟨σ, a, nx _ rfl b, tg _ rfl d⟩
        case trap => trivial
        case ret => exact h3
        all_goals (obtain ⟨σ, a, b⟩ := h3; exact ⟨σ, a, nx _ rfl b⟩)
      · cases hi
    · rw [List.getElem?_map, Option.map_eq_some_iff] at hi
      obtain ⟨a, ha, e⟩ := hi
      cases e
      exact ledTo_of ha hj
  have hrun : DInv c S (dropRun S (ledTo c) 0 false c) := by
    have := drop_run hS.closed c.length [] c [] rfl rfl (Nat.le_refl _) (by simpa using start)
    simpa using this
  have hlen0 := dropRun_len S (ledTo c) c 0 false
  have hlm : (dropRun S (ledTo c) 0 false c)[m]? = some (some e) := dropRun_keep hend c 0 false m (by simp) hcm (by simpa using hm)
  have hln : ∀ j, m + 1 ≤ j → j < (dropRun S (ledTo c) 0 false c).length → (dropRun S (ledTo c) 0 false c)[j]? = some none := fun j h1 h2 => dropRun_none c 0 false j (by (first | lia | omega)) (by simpa using hmax j (by (first | lia | omega)))
  have hkeep : ∀ i ins, (dropRun S (ledTo c) 0 false c)[i]? = some (some ins) → S i = true ∧ c[i]? = some ins := fun i ins hi => by
    refine ⟨?_, dropRun_get S _ c 0 false i ins hi⟩
    cases q : S i with
    | true => rfl
    | false =>
      have h1 := isSome_lt hi
      rw [dropRun_none c 0 false i (by (first | lia | omega)) (by simpa using q)] at hi; cases hi
  unfold dropF
  generalize dropRun S (ledTo c) 0 false c = l at *
  obtain ⟨Γ', ht', hf', hlen', hj', hs', he'⟩ := hrun
  refine ⟨⟨comG l Γ', compact_typed ht', compact_fwd hf' fun i ins hi hij => ⟨m, e, ?_, hlm⟩, ?_⟩, fun n hn => ?_, ?_, e, hend, ?_⟩
  · obtain ⟨h1, h2⟩ := hkeep i ins hi
    have h3 := hS.closed i ins h1 h2 ins.tgt (by simp [nextsN, hij])
    by_cases hle : ins.tgt ≤ m
    · exact hle
    · rw [hmax _ (by (first | lia | omega))] at h3; cases h3
  · have h2 := compact_ev (he' o he)
    have hp : place l 0 = 0 := by simp [place, cnt]
    rw [hp] at h2
    exact h2
  · obtain ⟨j, hj⟩ := List.mem_iff_getElem?.mp hn
    obtain ⟨i, ins, hi, _, he2⟩ := compact_of hj
    have : ins = .const n := by cases ins <;> simp [Ins.retarget] at he2 <;> rw [he2]
    subst this
    obtain ⟨h1, h2⟩ := hkeep i _ hi
    obtain ⟨τ, ins, h3, h4, h5⟩ := rowOf h1
    rw [h2] at h4; cases h4
    obtain ⟨t, h6, _⟩ := h5
    exact h6.small
  · have := compactF_len l; (first | lia | omega)
  · have hm1 := isSome_lt hlm
    have hp := place_none_from hln (l.length - (m + 1)) (by (first | lia | omega))
    rw [show m + 1 + (l.length - (m + 1)) = l.length by (first | lia | omega), place_some hlm] at hp
    have hg := compact_get hlm
    have hr : e.retarget (place l) = e := by rcases hend with rfl | ⟨_, _, rfl⟩ <;> rfl
    rw [List.getLast?_eq_getElem?, compact_len, hp, Nat.add_sub_cancel, hg, hr]
end Mine

-- part PL18
namespace Mine
open PySem PyProof.Rows

/-- types of a stretch of code: from o to o' -/
noncomputable def At (Γ : Gm) (b : Nat) (tl : List (Option (List Ty))) : Prop := ∀ k o, tl[k]? = some o → Γ (b + k) = o
theorem At.app {Γ : Gm} {b : Nat} {t1 t2 : List (Option (List Ty))} (h : At Γ b (t1 ++ t2)) : At Γ b t1 ∧ At Γ (b + t1.length) t2 := by
  refine ⟨fun k o hk => h k o ?_, fun k o hk => ?_⟩
  · rw [List.getElem?_append_left (isSome_lt hk)]; exact hk
  · have := h (t1.length + k) o (by rw [List.getElem?_append_right (by (first | lia | omega)), Nat.add_sub_cancel_left]; exact hk)
    rw [← Nat.add_assoc] at this; exact this
set_option genInjectivity false in
structure SegOk (b : Nat) (seg : List Ins) (o o' : Option (List Ty)) (tl : List (Option (List Ty))) (J : Gm → Prop) : Prop where
  len : tl.length = seg.length
  start : ∀ Γ, At Γ b tl → Γ (b + seg.length) = o' → Γ b = o
  ok : ∀ Γ, At Γ b tl → Γ (b + seg.length) = o' → J Γ → ∀ k ins τ, seg[k]? = some ins → Γ (b + k) = some τ → TyIns Γ (b + k) τ ins
theorem SegOk.nil {b : Nat} {o : Option (List Ty)} : SegOk b [] o o [] (fun _ => True) := ⟨rfl, fun _ _ h => h, fun _ _ _ _ k ins τ h => by simp at h⟩
theorem SegOk.one {b : Nat} {ins : Ins} {o o' : Option (List Ty)} {J : Gm → Prop} (h : ∀ Γ τ, o = some τ → Γ (b + 1) = o' → J Γ → TyIns Γ b τ ins) : SegOk b [ins] o o' [o] J := by
  refine ⟨rfl, fun Γ ha _ => ha 0 o rfl, fun Γ ha he hj k x τ hk hg => ?_⟩
  cases k with
  | zero =>
    simp at hk; subst hk
    exact h Γ τ ((ha 0 o rfl).symm.trans hg) he hj
  | succ k => simp at hk
theorem SegOk.app {b : Nat} {p q : List Ins} {o1 o2 o3 : Option (List Ty)} {t1 t2 : List (Option (List Ty))} {J1 J2 : Gm → Prop} (h1 : SegOk b p o1 o2 t1 J1) (h2 : SegOk (b + p.length) q o2 o3 t2 J2) :
    SegOk b (p ++ q) o1 o3 (t1 ++ t2) (fun Γ => J1 Γ ∧ J2 Γ) := by
  have e : ∀ Γ : Gm, Γ (b + (p ++ q).length) = o3 → Γ (b + p.length + q.length) = o3 := fun Γ h => by rw [List.length_append, ← Nat.add_assoc] at h; exact h
  have a2 : ∀ Γ, At Γ b (t1 ++ t2) → At Γ (b + p.length) t2 := fun Γ h => by have := h.app.2; rw [h1.len] at this; exact this
  have mid : ∀ Γ, At Γ b (t1 ++ t2) → Γ (b + (p ++ q).length) = o3 → Γ (b + p.length) = o2 := fun Γ ha he => h2.start Γ (a2 Γ ha) (e Γ he)
  refine ⟨by simp [h1.len, h2.len], fun Γ ha he => h1.start Γ ha.app.1 (mid Γ ha he), fun Γ ha he hj k ins τ hk hg => ?_⟩
  by_cases hlt : k < p.length
  · rw [List.getElem?_append_left hlt] at hk
    exact h1.ok Γ ha.app.1 (mid Γ ha he) hj.1 k ins τ hk hg
  · rw [List.getElem?_append_right (by (first | lia | omega))] at hk
    have := h2.ok Γ (a2 Γ ha) (e Γ he) hj.2 (k - p.length) ins τ hk (by rw [show b + p.length + (k - p.length) = b + k by (first | lia | omega)]; exact hg)
    rw [show b + p.length + (k - p.length) = b + k by (first | lia | omega)] at this; exact this
theorem SegOk.weak {b : Nat} {p : List Ins} {o1 o2 : Option (List Ty)} {t : List (Option (List Ty))} {J J' : Gm → Prop} (h : SegOk b p o1 o2 t J) (hj : ∀ Γ, At Γ b t → Γ (b + p.length) = o2 → J' Γ → J Γ) : SegOk b p o1 o2 t J' :=
  ⟨h.len, h.start, fun Γ ha he h' => h.ok Γ ha he (hj Γ ha he h')⟩
noncomputable abbrev tt : Gm → Prop := fun _ => True
theorem SegOk.app0 {b : Nat} {p q : List Ins} {o1 o2 o3 : Option (List Ty)} {t1 t2 : List (Option (List Ty))} (h1 : SegOk b p o1 o2 t1 tt) (h2 : SegOk (b + p.length) q o2 o3 t2 tt) :
    SegOk b (p ++ q) o1 o3 (t1 ++ t2) tt := (h1.app h2).weak fun _ _ _ _ => ⟨trivial, trivial⟩
theorem SegOk.at {b b' : Nat} {p p' : List Ins} {o1 o2 : Option (List Ty)} {t : List (Option (List Ty))} {J : Gm → Prop} (h : SegOk b p o1 o2 t J) (e : b = b') (e2 : p = p') : SegOk b' p' o1 o2 t J := by
  subst e; subst e2; exact h
noncomputable def SegT (b : Nat) (p : List Ins) (σ σ' : List Ty) : Prop := ∃ tl, SegOk b p (some σ) (some σ') tl tt
theorem SegT.app {b : Nat} {p q : List Ins} {σ1 σ2 σ3 : List Ty} (h1 : SegT b p σ1 σ2) (h2 : SegT (b + p.length) q σ2 σ3) : SegT b (p ++ q) σ1 σ3 := by
  obtain ⟨t1, h1⟩ := h1
  obtain ⟨t2, h2⟩ := h2
  exact ⟨_, h1.app0 h2⟩
theorem SegT.one {b : Nat} {ins : Ins} {σ σ' : List Ty} (h : ∀ Γ : Gm, Γ (b + 1) = some σ' → TyIns Γ b σ ins) : SegT b [ins] σ σ' :=
  ⟨_, SegOk.one fun Γ τ e h1 _ => by cases e; exact h Γ h1⟩
theorem gen_typed {ty : Ty} {b : Nat} {seg : List Ins} (h : Gen ty b seg) : ∀ σ, SegT b seg σ (ty :: σ) := by
  induction h with
  | const h1 h2 => exact fun σ => .one fun Γ h => ⟨.num, ⟨h1, h2⟩, h⟩
  | arith _ _ i1 i2 => exact fun σ => ((i1 σ).app (i2 _)).app (.one fun Γ h => ⟨σ, rfl, h⟩)
  | neg _ i => exact fun σ => (i σ).app (.one fun Γ h => ⟨σ, rfl, h⟩)
  | byte _ i => exact fun σ => (i σ).app (.one fun Γ h => ⟨σ, rfl, h⟩)
  | dupdrop _ i => exact fun σ => (i σ).app (SegT.app (p := [.dup]) (q := [.drop]) (σ2 := .num :: .num :: σ) (.one fun Γ h => ⟨.num, σ, rfl, h⟩) (.one fun Γ h => ⟨.num, _, rfl, h⟩))
  | dupadd _ i => exact fun σ => (i σ).app (SegT.app (p := [.dup]) (q := [.arith _ _]) (σ2 := .num :: .num :: σ) (.one fun Γ h => ⟨.num, σ, rfl, h⟩) (.one fun Γ h => ⟨σ, rfl, h⟩))
  | second _ _ i1 i2 => exact fun σ => ((i1 σ).app (i2 _)).app (.one fun Γ h => ⟨.num, _, rfl, h⟩)
  | tconst h => exact fun σ => .one fun Γ h1 => ⟨.truth, h, h1⟩
  | not _ i => exact fun σ => (i σ).app (.one fun Γ h => ⟨σ, rfl, h⟩)
  | rel _ _ i1 i2 => exact fun σ => ((i1 σ).app (i2 _)).app (.one fun Γ h => ⟨σ, rfl, h⟩)
  | inn _ _ i1 i2 => exact fun σ => ((i1 σ).app (i2 _)).app (.one fun Γ h => ⟨σ, rfl, h⟩)
  | setrel _ _ i1 i2 => exact fun σ => ((i1 σ).app (i2 _)).app (.one fun Γ h => ⟨σ, rfl, h⟩)
  | mconst h1 h2 => exact fun σ => .one fun Γ h => ⟨.mask, ⟨h1, by (first | lia | omega)⟩, h⟩
  | compl _ i => exact fun σ => (i σ).app (.one fun Γ h => ⟨σ, rfl, h⟩)
  | single _ i => exact fun σ => (i σ).app (.one fun Γ h => ⟨σ, rfl, h⟩)
  | range _ _ i1 i2 => exact fun σ => ((i1 σ).app (i2 _)).app (.one fun Γ h => ⟨σ, rfl, h⟩)
  | setop _ _ i1 i2 => exact fun σ => ((i1 σ).app (i2 _)).app (.one fun Γ h => ⟨σ, rfl, h⟩)
  | @choice b t p tr mid q w e1 e2 _ _ htr he1 hmid _ he2 i1 i2 i3 =>
    intro σ
    obtain ⟨tt1, s1⟩ := i1 σ
    obtain ⟨tp, sp⟩ := i2 σ
    obtain ⟨tq, sq⟩ := i3 σ
    -- the middle
    obtain ⟨tm, sm⟩ : ∃ tm, SegOk e1 mid (some σ) (some σ) tm tt := by
      rcases hmid with rfl | rfl | rfl
      · exact ⟨_, .nil⟩
      · exact SegT.one fun Γ h => h
      · refine ⟨_, SegOk.weak (SegOk.app (p := [.jump (e1 + 3)]) (q := [.const 5, .ret]) (o2 := none) (J1 := fun Γ => Γ (e1 + 3) = some σ) (SegOk.one fun Γ τ e h1 h2 => ?_)
          (SegOk.app (p := [.const 5]) (q := [.ret]) (o2 := none) (J1 := tt) (J2 := tt) (SegOk.one fun Γ τ e => by cases e) (SegOk.one fun Γ τ e => by cases e))) ?_⟩
        · cases e; exact h2
        · intro Γ ha he _
          exact ⟨he, trivial, trivial⟩
    obtain ⟨o, tx, st⟩ : ∃ o tx, SegOk (e1 - tr.length) tr o (some σ) tx tt := by
      rcases htr with rfl | rfl
      · exact ⟨_, _, .nil⟩
      · exact ⟨none, _, SegOk.one fun Γ τ e => by cases e⟩
    have smq := sm.app0 sq
    have hj1 : SegOk (b + t.length) [jmpI w e1] (some (.truth :: σ)) (some σ) _ (fun Γ => Γ e1 = some σ) := SegOk.one fun Γ τ e h1 h2 => by
      cases e
      cases w
      · exact ⟨σ, rfl, h1, h2⟩
      · exact ⟨σ, rfl, h1, h2⟩
    have hj2 : SegOk (b + t.length + 1 + p.length) [.jump e2] (some (.num :: σ)) o _ (fun Γ => Γ e2 = some (.num :: σ)) := SegOk.one fun Γ τ e h1 h2 => by
      cases e; exact h2
    have s5 := st.app0 (smq.at (b' := e1 - tr.length + tr.length) (by (first | lia | omega)) rfl)
    have s4 := hj2.app (s5.at (b' := b + t.length + 1 + p.length + [Ins.jump e2].length) (by simp; (first | lia | omega)) rfl)
    have s3 := (sp.at (b' := b + t.length + [jmpI w e1].length) (by simp) rfl).app (s4.at (b' := b + t.length + [jmpI w e1].length + p.length) (by simp) rfl)
    have s2 := hj1.app s3
    have s1' := s1.app s2
    have hlen : e2 = b + (t ++ ([jmpI w e1] ++ (p ++ ([Ins.jump e2] ++ (tr ++ (mid ++ q)))))).length := by simp; (first | lia | omega)
    refine ⟨_, ((s1'.weak (J' := tt) fun Γ ha he _ => ?_).at rfl (by simp))⟩
    rw [← hlen] at he
    have hmq : Γ e1 = some σ := by
      refine smq.start Γ ?_ ?_
      · have a1 := ha.app.2.app.2.app.2.app.2.app.2
        rw [s1.len, sp.len, st.len] at a1
        simp only [List.length_cons, List.length_nil] at a1
        rw [show b + t.length + (0 + 1) + p.length + (0 + 1) + tr.length = e1 by (first | lia | omega)] at a1
        exact a1
      · rw [List.length_append, ← Nat.add_assoc, ← he2]; exact he
    exact ⟨trivial, hmq, trivial, he, trivial⟩
end Mine

-- part PL19
namespace Mine
open PySem PyProof.Rows

noncomputable def FwdS (b : Nat) (seg : List Ins) (e : Nat) : Prop := ∀ (k : Nat) (ins : Ins), seg[k]? = some ins → ins.isJump = true → b + k < ins.tgt ∧ ins.tgt ≤ e
theorem FwdS.app {b e : Nat} {p q : List Ins} (h1 : FwdS b p e) (h2 : FwdS (b + p.length) q e) : FwdS b (p ++ q) e := by
  intro k ins hk hj
  by_cases hlt : k < p.length
  · rw [List.getElem?_append_left hlt] at hk
    exact h1 k ins hk hj
  · rw [List.getElem?_append_right (by (first | lia | omega))] at hk
    have := h2 _ ins hk hj
    (first | lia | omega)
theorem FwdS.up {b e e' : Nat} {p : List Ins} (h : FwdS b p e) (he : e ≤ e') : FwdS b p e' := fun k ins hk hj => by have := h k ins hk hj; (first | lia | omega)
theorem FwdS.no {b e : Nat} {p : List Ins} (h : ∀ i ∈ p, i.isJump = false) : FwdS b p e := fun k ins hk hj => by
  rw [h ins (List.mem_of_getElem? hk)] at hj; cases hj
theorem FwdS.one {b e : Nat} {i : Ins} (h : i.isJump = true → b < i.tgt ∧ i.tgt ≤ e) : FwdS b [i] e := fun k ins hk hj => by
  cases k with
  | zero => simp at hk; subst hk; exact h hj
  | succ k => simp at hk
theorem FwdS.at {b b' e : Nat} {p : List Ins} (h : FwdS b p e) (hb : b = b') : FwdS b' p e := by subst hb; exact h
theorem gen_fwd {ty : Ty} {b : Nat} {seg : List Ins} (h : Gen ty b seg) : FwdS b seg (b + seg.length) := by
  have one : ∀ {b : Nat} {p l : List Ins}, FwdS b p (b + p.length) → (∀ i ∈ l, i.isJump = false) → FwdS b (p ++ l) (b + (p ++ l).length) := fun h1 h2 =>
    (h1.up (by simp)).app (.no h2)
  have two : ∀ {b : Nat} {p q l : List Ins}, FwdS b p (b + p.length) → FwdS (b + p.length) q (b + p.length + q.length) → (∀ i ∈ l, i.isJump = false) → FwdS b (p ++ q ++ l) (b + (p ++ q ++ l).length) := fun h1 h2 h3 =>
    ((h1.up (by simp only [List.length_append]; (first | lia | omega))).app (h2.up (by simp only [List.length_append]; (first | lia | omega)))).app (.no h3)
  induction h with
  | const => exact .no (by simp [Ins.isJump])
  | arith _ _ i1 i2 => exact two i1 i2 (by simp [Ins.isJump])
  | neg _ i => exact one i (by simp [Ins.isJump])
  | byte _ i => exact one i (by simp [Ins.isJump])
  | dupdrop _ i => exact one i (by simp [Ins.isJump])
  | dupadd _ i => exact one i (by simp [Ins.isJump])
  | second _ _ i1 i2 => exact two i1 i2 (by simp [Ins.isJump])
  | tconst => exact .no (by simp [Ins.isJump])
  | not _ i => exact one i (by simp [Ins.isJump])
  | rel _ _ i1 i2 => exact two i1 i2 (by simp [Ins.isJump])
  | inn _ _ i1 i2 => exact two i1 i2 (by simp [Ins.isJump])
  | setrel _ _ i1 i2 => exact two i1 i2 (by simp [Ins.isJump])
  | mconst => exact .no (by simp [Ins.isJump])
  | compl _ i => exact one i (by simp [Ins.isJump])
  | single _ i => exact one i (by simp [Ins.isJump])
  | range _ _ i1 i2 => exact two i1 i2 (by simp [Ins.isJump])
  | setop _ _ i1 i2 => exact two i1 i2 (by simp [Ins.isJump])
  | @choice b t p tr mid q w e1 e2 _ _ htr he1 hmid _ he2 i1 i2 i3 =>
    have hlen : e2 = b + (t ++ jmpI w e1 :: (p ++ Ins.jump e2 :: (tr ++ mid ++ q))).length := by simp; (first | lia | omega)
    rw [← hlen]
    have ftr : FwdS (b + t.length + 1 + p.length + 1) tr e2 := .no (by rcases htr with rfl | rfl <;> simp [Ins.isJump])
    have fmid : FwdS e1 mid e2 := by
      rcases hmid with rfl | rfl | rfl
      · exact .no (by simp)
      · exact .one fun _ => by simp only [Ins.tgt]; simp at he2; (first | lia | omega)
      · exact FwdS.app (p := [.jump (e1 + 3)]) (q := [.const 5, .ret]) (.one fun _ => by simp only [Ins.tgt]; simp at he2; (first | lia | omega)) (.no (by simp [Ins.isJump]))
    have f1 := (ftr.app (fmid.at he1)).app (q := q) ((i3.up (Nat.le_of_eq he2.symm)).at (by simp; (first | lia | omega)))
    have f2 := FwdS.app (p := [.jump e2]) (b := b + t.length + 1 + p.length) (e := e2) (.one fun _ => by simp only [Ins.tgt]; (first | lia | omega)) f1
    have f3 := FwdS.app (i2.up (by (first | lia | omega))) f2
    have f4 := FwdS.app (p := [jmpI w e1]) (b := b + t.length) (e := e2) (.one fun _ => by cases w <;> simp only [jmpI, Ins.tgt] <;> simp <;> (first | lia | omega)) f3
    exact FwdS.app (i1.up (by (first | lia | omega))) f4
theorem gen_small {ty : Ty} {b : Nat} {seg : List Ins} (h : Gen ty b seg) : SmallC seg := by
  have e33 : (2 : Int) ^ 33 = 8589934592 := by decide
  have app : ∀ {p q : List Ins}, SmallC p → SmallC q → SmallC (p ++ q) := fun h1 h2 n hn => (List.mem_append.mp hn).elim (h1 n) (h2 n)
  have one : ∀ {l : List Ins}, (∀ n, Ins.const n ∈ l → -8589934592 ≤ n ∧ n ≤ 8589934592) → SmallC l := fun h n hn => by unfold Small; rw [e33]; exact h n hn
  induction h with
  | const h1 h2 => exact one (by intro n hn; simp at hn; (first | lia | omega))
  | arith _ _ i1 i2 => exact app (app i1 i2) (one (by simp))
  | neg _ i => exact app i (one (by simp))
  | byte _ i => exact app i (one (by simp))
  | dupdrop _ i => exact app i (one (by simp))
  | dupadd _ i => exact app i (one (by simp))
  | second _ _ i1 i2 => exact app (app i1 i2) (one (by simp))
  | tconst h => exact one (by intro n hn; simp at hn; (first | lia | omega))
  | not _ i => exact app i (one (by simp))
  | rel _ _ i1 i2 => exact app (app i1 i2) (one (by simp))
  | inn _ _ i1 i2 => exact app (app i1 i2) (one (by simp))
  | setrel _ _ i1 i2 => exact app (app i1 i2) (one (by simp))
  | mconst h1 h2 => exact one (by intro n hn; simp at hn; (first | lia | omega))
  | compl _ i => exact app i (one (by simp))
  | single _ i => exact app i (one (by simp))
  | range _ _ i1 i2 => exact app (app i1 i2) (one (by simp))
  | setop _ _ i1 i2 => exact app (app i1 i2) (one (by simp))
  | @choice b t p tr mid q w e1 e2 _ _ htr he1 hmid _ he2 i1 i2 i3 =>
    have htr' : SmallC tr := by rcases htr with rfl | rfl <;> exact one (by simp)
    have hmid' : SmallC mid := by
      rcases hmid with rfl | rfl | rfl <;> refine one ?_ <;> intro n hn <;> simp at hn
      (first | lia | omega)
    have := app i1 (app (p := [jmpI w e1]) (one (by cases w <;> simp [jmpI])) (app i2 (app (p := [.jump e2]) (one (by simp)) (app (app htr' hmid') i3))))
    simpa using this
theorem run_of {c : List Ins} (hf : Fwd c) {i : Nat} {h : List Int} {o : Out} {Γ : Gm} (ht : TypedO (c.map some) Γ) : ∀ (k i : Nat) (τ : List Ty) (h : List Int), Γ i = some τ → HasT h τ → c.length - i < k + 1 → EvO (c.map some) i h o → runF c (k + 1) i h = some o := by
  intro k
  induction k with
  | zero =>
    intro i τ h hg hh hk e
    obtain ⟨r, hr, _⟩ := ht.row i τ hg
    have := isSome_lt hr
    simp at this
    (first | lia | omega)
  | succ k ih =>
    intro i τ h hg hh hk e
    obtain ⟨r, hr, hok⟩ := ht.row i τ hg
    have hlt := isSome_lt hr
    rw [List.length_map] at hlt
    have hr0 := hr
    rw [List.getElem?_map, Option.map_eq_some_iff] at hr0
    obtain ⟨ins, hi, e1⟩ := hr0
    subst e1
    rw [runF, hi]
    dsimp only
    rcases ev_inv hr e with e | ⟨j, h', e, e2⟩
    · rw [e]
    · rw [e]
      dsimp only
      rcases step_typed hok hh with ⟨o', e'⟩ | ⟨j2, h2, σ, e', hg', hh', hj2⟩
      · rw [e'] at e; cases e
      · rw [e'] at e
        simp only [Option.some.injEq, Sum.inr.injEq, Prod.mk.injEq] at e
        obtain ⟨rfl, rfl⟩ := e
        have := step_fwd (fwd_iff.mpr hf) hr hj2
        exact ih j2 σ h2 hg' hh' (by (first | lia | omega)) e2
theorem plainLaw : PlainLaw := by
  intro ty seg hgen hlen
  obtain ⟨tl, hseg⟩ := gen_typed hgen []
  have hfw := gen_fwd hgen
  have hsm := gen_small hgen
  generalize hc : seg ++ [Ins.ret] = c
  have hcl : c.length = seg.length + 1 := by rw [← hc]; simp
  -- the types of the code
  have hret := hseg.app (SegOk.one (b := 0 + seg.length) (ins := .ret) (o := some [ty]) (o' := none) (J := tt) fun Γ τ e _ _ => by cases e; exact ⟨ty, rfl⟩)
  generalize htl2 : tl ++ [some [ty]] = tl2 at hret
  have htyped : TypedO (c.map some) (fun i => (tl2[i]?).join) := by
    have hat : At (fun i => (tl2[i]?).join) 0 tl2 := fun k o hk => by
      show (tl2[0 + k]?).join = o
      rw [Nat.zero_add, hk]; rfl
    have hend : (fun i => (tl2[i]?).join) (0 + (seg ++ [Ins.ret]).length) = none := by
      show (tl2[0 + (seg ++ [Ins.ret]).length]?).join = none
      rw [List.getElem?_eq_none_iff.mpr (by rw [hret.len]; (first | lia | omega))]; rfl
    refine ⟨hret.start _ hat hend, fun i τ hg => ?_⟩
    have hlt : i < c.length := by
      cases q : tl2[i]? with
      | none => rw [q] at hg; cases hg
      | some o => have := isSome_lt q; rw [hret.len, hc] at this; exact this
    refine ⟨some c[i], by rw [List.getElem?_map, List.getElem?_eq_getElem hlt]; rfl, ?_⟩
    have := hret.ok _ hat hend ⟨trivial, trivial⟩ i c[i] τ (by rw [hc]; exact List.getElem?_eq_getElem hlt) (by rw [Nat.zero_add]; exact hg)
    rw [Nat.zero_add] at this
    exact this
  have hF : Fwd c := by
    intro i ins hi hj
    by_cases hlt : i < seg.length
    · rw [← hc, List.getElem?_append_left hlt] at hi
      have := hfw i ins hi hj
      (first | lia | omega)
    · rw [← hc, List.getElem?_append_right (by (first | lia | omega))] at hi
      cases q : i - seg.length with
      | zero => rw [q] at hi; simp at hi; subst hi; cases hj
      | succ n => rw [q] at hi; simp at hi
  obtain ⟨out, hout⟩ := runs htyped (fwd_iff.mpr hF) _ 0 [] [] (Nat.le_refl _) htyped.zero trivial
  refine ⟨out, fun c' => CInv c' out ∧ SmallC c' ∧ c'.length ≤ c.length ∧ ∃ e, Ender e ∧ c'.getLast? = some e, ?_, ?_, ?_⟩
  · have e20 : (2 : Nat) ^ 20 = 1048576 := by decide
    refine ⟨fun c' h => by have := h.2.2.1; (first | lia | omega), fun c' h => h.2.1, ?_, ?_, ?_, ?_⟩
    · rintro c' ⟨h1, h2, h3, e, h4, h5⟩
      exact (fold_pass h1 h4 h5).2.2.2
    · rintro c' ⟨h1, h2, h3, e, h4, h5⟩
      exact (fold_pass h1 h4 h5).2.2.1
    · rintro c' ⟨h1, h2, h3, e, h4, h5⟩
      obtain ⟨⟨Γ, _, p2, _⟩, p4, _⟩ := fold_pass h1 h4 h5
      exact ⟨fwd_iff.mp p2, by (first | lia | omega)⟩
    · rintro c' ⟨h1, h2, h3, e, h4, h5⟩
      obtain ⟨hi, hl, _⟩ := fold_pass h1 h4 h5
      obtain ⟨Γ, p1, p2, p3⟩ := thread_inv hi
      have hlen2 : (threadF (foldF c')).length = (foldF c').length := by rw [threadF_eq, List.length_map]
      refine ⟨fwd_iff.mp p2, by (first | lia | omega), lenT Γ, hts_of p1, fun S hS => ?_⟩
      obtain ⟨q1, q2, q3, q4⟩ := drop_pass p1 p2 p3 hS
      exact ⟨q1, q2, by (first | lia | omega), q4⟩
  · refine ⟨⟨_, htyped, fwd_iff.mpr hF, hout⟩, fun n hn => ?_, Nat.le_refl _, .ret, .inl rfl, by rw [← hc]; simp⟩
    rw [← hc] at hn
    rcases List.mem_append.mp hn with hn | hn
    · exact hsm n hn
    · simp at hn
  · rintro c' ⟨⟨Γ, p1, p2, p3⟩, h2, h3, e, h4, h5⟩
    exact ⟨by (first | lia | omega), run_of (fwd_iff.mp p2) (i := 0) (h := []) p1 c'.length 0 [] [] p1.zero trivial (by (first | lia | omega)) p3, _, hts_of p1⟩
end Mine

-- part J1
namespace Mine
open PySem PySem.W PySem.Calls PyProof.Rows

noncomputable section
section
variable {q : Program} {loose : List Str} {mean : ExcName → Option Value} {w : World} {h : Heap} {mg mb : Str → Option Value}
noncomputable def gdOf (T : Top q loose mean mg mb h) (w : World) : Gd := ⟨Challenge.rw_pb0347_01.row.prog, w, h, mg, mb, T.g, T.b, T.nolimit, T.builtins⟩
theorem freeK (T : Top q loose mean mg mb h) (X : (Kf w.params).In h) : ∀ x : String, x ∈ ["len", "range", "list", "isinstance", "sorted", "sum", "int"] → mg (Str.ofString x) = none := by
  intro x hx
  simp only [List.mem_cons, List.not_mem_nil, or_false] at hx
  rcases hx with rfl | rfl | rfl | rfl | rfl | rfl | rfl <;> exact mg_none_of X T.g (by kernel_rfl)
noncomputable def progOfTop (T : Top q loose mean mg mb h) (X : (Kf w.params).In h) (hq : recsOf q = dks.filterMap recAt?) : Prog (gdOf T w) where
  fa := fun k => match (recAt? k).bind fun d => mg d.name with | some (.ref a) => a | _ => 0
  at_ := by
    intro k name args body dec ret tp scope ts bind pos hk hdf
    have hr : recAt? k = some ⟨name, args, body, scope, pos⟩ := by unfold recAt?; rw [hk]; rfl
    have hd : isDef k = true := by unfold isDef; rw [hr]; simp [hdf]
    have hm : (⟨name, args, body, scope, pos⟩ : DefRec) ∈ recsOf q := by
      rw [hq]; exact List.mem_filterMap.mpr ⟨k, dks_mem hd, hr⟩
    obtain ⟨a, o, pm, cd, doc, h1, h2, h3, h4⟩ := T.fn _ hm
    have h1 : mg name = some (.ref a) := h1
    rw [hr]
    dsimp only [Option.bind_some]
    rw [h1]
    exact ⟨h1, ⟨name, doc, pm, none, cd, .none, o, h2, h3, h4⟩⟩
  free := freeK T X
noncomputable def progOOf (T : Top q loose mean mg mb h) (X : (Kf w.params).In h) : ProgO (gdOf T w) where
  opt := 286
  dT := 279
  dv := .int 6 548
  n := 0
  dAt := X 279 _ (by kernel_rfl)
  at_ := by
    intro name args body dec ret tp scope ts bind pos hk
    have e : name = Str.ofString "optimise" := by
      have h2 : nmOf Challenge.pw_pb0347_01.main.body[35]? = Str.ofString "optimise" := by kernel_rfl
      rw [hk] at h2; exact h2
    refine ⟨by rw [e]; exact mg_of X T.g (by kernel_rfl), ?_⟩
    have h3 : (Kf w.params).lookup 286 = some (fO (Challenge.pw_pb0347_01.main.body[35]?) (Str.ofString "optimise") (.ref 279) (.str (Str.ofString "moduleyard.sopt") 431) (.ref 285)) := by kernel_rfl
    rw [hk] at h3
    refine .mk ⟨name, .none, .str (Str.ofString "moduleyard.sopt") 431, none, .ref 285, .none, _, X _ _ h3, by rw [e]; rfl, codeRec_of X (by rw [e]; kernel_rfl)⟩
noncomputable def sclsOf (T : Top q loose mean mg mb h) (X : (Kf w.params).In h) : SCls (gdOf T w) where
  K := Kf w.params
  inK := X
  C := 150
  glob := mg_of X T.g (by kernel_rfl)
  keep := by kernel_rfl
  made := by kernel_rfl
  setattr := by kernel_rfl
  getattr := by kernel_rfl
  getattr2 := by kernel_rfl
  over := by kernel_rfl
  hasDict := by kernel_rfl
  free := by
    intro x hx
    simp only [List.mem_cons, List.not_mem_nil, or_false] at hx
    rcases hx with rfl | rfl | rfl | rfl | rfl <;> exact ⟨by kernel_rfl, by kernel_rfl⟩
noncomputable def smethOf (T : Top q loose mean mg mb h) (X : (Kf w.params).In h) : SMeth (sclsOf T X) where
  mf := fun j => match j with | 0 => 126 | 1 => 133 | _ => 147
  at_ := by
    intro j name args body dec ret tp scope ts bind pos hj hk
    have nm : ∀ n : Str, nmOf (meth j) = n → name = n := fun n h2 => by rw [hk] at h2; exact h2
    simp only [List.mem_cons, List.not_mem_nil, or_false] at hj
    rcases hj with rfl | rfl | rfl
    · have e := nm (Str.ofString "__init__") (by kernel_rfl)
      have h3 : (Kf w.params).lookup 126 = some (fO (meth 0) (Str.ofString "SCode.__init__") .none (.str (Str.ofString "moduleyard.scode") 316) (.ref 125)) := by kernel_rfl
      rw [hk] at h3
      exact ⟨by rw [e]; kernel_rfl, by kernel_rfl, .mk ⟨name, .none, .str (Str.ofString "moduleyard.scode") 316, none, .ref 125, .none, _, X _ _ h3, by rw [e]; kernel_rfl, codeRec_of X (by rw [e]; kernel_rfl)⟩⟩
    · have e := nm (Str.ofString "put") (by kernel_rfl)
      have h3 : (Kf w.params).lookup 133 = some (fO (meth 1) (Str.ofString "SCode.put") .none (.str (Str.ofString "moduleyard.scode") 316) (.ref 132)) := by kernel_rfl
      rw [hk] at h3
      exact ⟨by rw [e]; kernel_rfl, by kernel_rfl, .mk ⟨name, .none, .str (Str.ofString "moduleyard.scode") 316, none, .ref 132, .none, _, X _ _ h3, by rw [e]; kernel_rfl, codeRec_of X (by rw [e]; kernel_rfl)⟩⟩
    · have e := nm (Str.ofString "patch") (by kernel_rfl)
      have h3 : (Kf w.params).lookup 147 = some (fO (meth 3) (Str.ofString "SCode.patch") .none (.str (Str.ofString "moduleyard.scode") 316) (.ref 146)) := by kernel_rfl
      rw [hk] at h3
      exact ⟨by rw [e]; kernel_rfl, by kernel_rfl, .mk ⟨name, .none, .str (Str.ofString "moduleyard.scode") 316, none, .ref 146, .none, _, X _ _ h3, by rw [e]; kernel_rfl, codeRec_of X (by rw [e]; kernel_rfl)⟩⟩
end
theorem ints_vrels {h : Heap} {vs : List Value} {ns : List Int} (x : IntsAre vs ns) : VRels h (ns.map .int) vs := by
  induction x with
  | nil => exact .nil
  | cons n t _ ih => exact .cons (.int n t) ih
theorem finish (PL : PlainLaw) {q : Program} {loose : List Str} {mean : ExcName → Option Value} {mg mb : Str → Option Value} {w : World} {s₁ : Shared} (T : Top q loose mean mg mb s₁.heap) (X : (Kf w.params).In s₁.heap) (hq : recsOf q = dks.filterMap recAt?)
    {fa : Addr} (hmg : mg "law" = some (.ref fa)) {ns : List Int} {a : Addr} {vs : List Value} (hL : s₁.heap.IsList a vs.toArray) (hI : IntsAre vs ns) (hn : ns.length ≤ 63) {Q : Value → Shared → Prop} {E : Value → Shared → Prop}
    (k : ∀ h' tk', (∀ b o, s₁.heap.get? b = some o → h'.get? b = some o) → Q (.bool true) { s₁ with heap := h', toks := tk' }) : wpAny (model Challenge.rw_pb0347_01.row.prog w) callerA (call (.ref fa) [.ref a]) Q E s₁ := by
  have P := progOfTop (w := w) T X hq
  have O := progOOf (w := w) T X
  have hA : Room 60 callerA := ⟨rfl, by decide +kernel, by decide +kernel⟩
  have R0 : RelH (gdOf T w) (fun _ => none) s₁.heap := ⟨fun _ _ e => e, fun _ _ e => (nomatch e), fun _ _ e => (nomatch e)⟩
  have hs : LAt (gdOf T w) (fun _ => none) a (ns.map .int) := fun h R => by
    obtain ⟨o, ho, hc, n, hd⟩ := hL
    exact ⟨vs, ⟨o, R.base _ _ ho, hc, n, hd⟩, ints_vrels hI⟩
  have hf : fa = P.fa 47 := by
    have := P.glob (k := 47) rfl rfl
    rw [show (gdOf T w).mg = mg from rfl] at this
    have e : some (Value.ref fa) = some (.ref (P.fa 47)) := hmg.symm.trans this
    cases e; rfl
  subst hf
  exact c_law (post := fun p _ => p = .bool true) P (smethOf (w := w) T X) O hA PL hs (Nat.le_trans hn (by decide)) rfl s₁ [.ref a] R0 (.cons (.ref a) .nil) Q E fun p v H' h' tk' hp R' hv S' => by
    subst hp; cases hv; exact k h' tk' R'.base
theorem walkO (PL : PlainLaw) {q : Program} {loose : List Str} {XP : (Str → Option Value) → Heap → Prop} {d : DefRec} {kwd : List (Str × Expr)} (hq : recsOf q = dks.filterMap recAt?) (hdn : d.name = "law") :
    WalkO q loose XP (kHook Kf Kas Kf_as).says Challenge.rw_pb0347_01.row.toRowW d kwd (fun f vs => PySem.call f vs) := by
  intro w s₀ s₁ mg mb G Y fa o pm cd doc dV kV ho hd hcd hD hmg hg args vals as hpre hlay hrd hwl hlo
  have X := kIn_of Y
  have T := G.T
  wrow_args hpre hlay hrd hwl hlo
  rename_i ns _ _ _ _ _ _ _ a vs _ hL _ _ _ hI _ h63 _
  rw [hdn] at hmg
  refine finish PL T X hq hmg hL hI (by (first | lia | omega)) fun h' tk' hk => ?_
  refine ⟨.inl ⟨.bool true, .bool true, [], rfl, fun cls => rfl, ?_, ?_, fun _ => ⟨List.nodup_nil, fun _ h => nomatch h⟩⟩, .of_keep hk, rfl, .of_eq hg⟩
  · exact .bool _
  · wrow_post
end
end Mine

-- part J2
open PySem PySem.W PyProof.Rows
theorem PySem.Challenge.cw_pb0347_01_holds : PySem.Challenge.rw_pb0347_01.Holds := by
  exact Mine.head0 fun h1 h2 => Mine.walkO Mine.plainLaw h1 h2

